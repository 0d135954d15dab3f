import PyProof.Rows.All
import HandS.ForMost
import HandS.Exc
import HandS.WordsExc
import HandS.Defaults
import HandS.MakeKw
import HandS.MakeKwOnly
import HandS.Deep
import HandS.DictComp
import HandS.IsInst
import HandS.CallSlots
import HandS.TupAny
import HandS.Style
import HandS.More
import HandS.Conv
import HandS.TupLen
import HandS.Strs
import HandS.Property
import KE.GoesEnum
import HandS.Zip
import HandS.Small
import HandS.Nested
import HandS.HeadHook2
import HandS.HeadEnd
import HandS.Head2
import Wide.All
import OpenK.AllK
import Wide.FinOn
import HandS.Head0
import KE.KDictDisplayH
import HandS.Head1
import PySem.Challenge.RW_travelmarks_k50_whole_result_shown_exact
set_option Elab.async false
section Sec0
set_option linter.unusedVariables false
/-! PD0: a small deep language for the Python of the laws, and its meaning over a store. Plain Lean, no model in sight. -/
namespace PD

/-- values: tuples are trees, what can change stands in the store -/
inductive D where
  | non | bl (b : Bool) | int (i : Int) | str (k : Nat) | tup (xs : List D) | ref (l : Nat) | glo (g : Nat) | rol (xs : List D) | ctp (xs : List D) | kd (kvs : List (D × D))
  deriving Inhabited

mutual
def D.beq : D → D → Bool
  | .non, .non => true
  | .bl a, .bl b => a == b
  | .int a, .int b => decide (a = b)
  | .str a, .str b => Nat.beq a b
  | .tup a, .tup b => D.beqs a b
  | .tup a, .ctp b => D.beqs a b
  | .ctp a, .tup b => D.beqs a b
  | .ctp a, .ctp b => D.beqs a b
  | .ref a, .ref b => Nat.beq a b
  | .glo a, .glo b => Nat.beq a b
  | .rol a, .rol b => D.beqs a b
  | _, _ => false
def D.beqs : List D → List D → Bool
  | [], [] => true
  | a :: x, b :: y => D.beq a b && D.beqs x y
  | _, _ => false
end

inductive O where
  | lst (xs : List D)
  | dct (t : Bool) (kvs : List (D × D))
  | ins (c : Nat) (fs : List (Nat × D))
  deriving Inhabited

abbrev Sto := List O
abbrev Fr := List (Option D)

inductive R (α : Type) where
  | ok (a : α) (s : Sto)
  | ex (c : Nat) (fs : List (Nat × D)) (s : Sto)
  | no
  deriving Inhabited

@[inline] def R.bind {α β : Type} (x : R α) (f : α → Sto → R β) : R β := match x with
  | .ok a s => f a s
  | .ex c fs s => .ex c fs s
  | .no => .no

inductive BO where | add | sub | mul | mod | fdiv | pow
  deriving DecidableEq
inductive CO where | eq | ne | lt | le | gt | ge | in_ | nin | is_ | isn
  deriving DecidableEq
inductive BI where | len | int | abs | min | max | sum | list | tuple | range | enum | zip
  deriving DecidableEq

/-- a loop's target -/
inductive CT where
  | nm (i : Nat)
  | tp (cs : List CT)

inductive E where
  | no
  | var (i : Nat) | lit (d : D) | con (k : Nat)
  | tup (es : List E) | lst (es : List E) | dnew (t : Bool) | disp (kvs : List (D × D))
  | bin (o : BO) (a b : E) | neg (a : E)
  | cmp (o : CO) (a b : E) | chain (o o' : CO) (a b c : E)
  | and_ (a b : E) | or_ (a b : E) | not_ (a : E) | ite (c a b : E)
  | fld (a : E) (f : Nat) | ix (a i : E) | sl (a : E) (lo hi : List E)
  | bi (b : BI) (es : List E)
  | call (f : Nat) (es : List E) (ks : List Nat) (vs : List E)
  | new (c : Nat) (es : List E) (ks : List Nat) (vs : List E)
  | meth (a : E) (m : Nat) (es : List E)
  | scall (d : Nat) (f : Nat) (es : List E)
  | isi (a : E) (c : Nat)
  | lc (own : List Nat) (t : CT) (wb : Option BI) (its : List E) (c e : E)
  | dc (tk : Bool) (own : List Nat) (t : CT) (wb : Option BI) (its : List E) (k e : E)

inductive St where
  | pass
  | expr (e : E)
  | asg (t : CT) (e : E)
  | asgF (a : E) (f : Nat) (e : E)
  | asgS (a i : E) (e : E)
  | augN (i : Nat) (o : BO) (e : E)
  | augS (a i : E) (o : BO) (e : E)
  | ret (e : E)
  | retN
  | if_ (c : E) (a b : List St)
  | for_ (t : CT) (wb : Option BI) (its : List E) (b : List St)
  | while_ (c : E) (b : List St)
  | raise_ (c : Nat) (es : List E)
  | par (is : List Nat) (es : List E)
  | no

/-- a def: its names' number, its parameters with their defaults, the body -/
structure Df where
  nn : Nat
  prm : List (Nat × Option D)
  /-- how it may be called: so many by place, these by name -/
  pats : List (Nat × List Nat)
  body : List St
structure Cl where
  name : Nat
  /-- own class and all above -/
  up : List Nat
  init : Option Nat
  meths : List (Nat × Nat)
  props : List (Nat × Nat)
structure Pg where
  defs : List Df
  cls : List (Nat × Cl)
  cons : List D
  /-- names of methods: __getitem__, __setitem__, __iter__, __contains__, __eq__, __le__, append ... -/
  ids : List Nat

/-! ### small helpers -/
def lkN {α : Type} : List (Nat × α) → Nat → Option α
  | [], _ => none
  | (k, v) :: r, n => if Nat.beq k n then some v else lkN r n
def putN {α : Type} : List (Nat × α) → Nat → α → List (Nat × α)
  | [], n, x => [(n, x)]
  | (k, v) :: r, n, x => if Nat.beq k n then (k, x) :: r else (k, v) :: putN r n x
/-- keys: intsOf, texts; tuples of them -/
def keyD : D → Bool
  | .int _ => true
  | .str _ => true
  | _ => false
def lkD : List (D × D) → D → Option D
  | [], _ => none
  | (k, v) :: r, n => if D.beq k n then some v else lkD r n
def putD (kvs : List (D × D)) (k v : D) : List (D × D) :=
  if kvs.any (fun p => D.beq p.1 k) then kvs.map (fun p => if D.beq p.1 k then (p.1, v) else p) else kvs ++ [(k, v)]
def nth {α : Type} : List α → Nat → Option α
  | [], _ => none
  | x :: _, 0 => some x
  | _ :: r, n + 1 => nth r n
/-- Python's index -/
def ixI {α : Type} (xs : List α) (i : Int) : Option α := match i with
  | .ofNat n => nth xs n
  | .negSucc n => if Nat.ble (n + 1) xs.length then nth xs (xs.length - (n + 1)) else none
def ixNat (n : Nat) (i : Int) : Option Nat := match i with
  | .ofNat k => if Nat.blt k n then some k else none
  | .negSucc k => if Nat.ble (k + 1) n then some (n - (k + 1)) else none
def clipI (n d : Nat) : Option Int → Nat
  | none => d
  | some (.ofNat k) => Nat.min k n
  | some (.negSucc k) => n - (k + 1)
def cut {α : Type} (xs : List α) (lo hi : Option Int) : List α :=
  let a := clipI xs.length 0 lo
  let b := clipI xs.length xs.length hi
  (xs.drop a).take (b - a)
def lstO (s : Sto) (l : Nat) : Option (List D) := match nth s l with
  | some (.lst xs) => some xs
  | _ => none
def setO (s : Sto) (l : Nat) (o : O) : Sto := s.set l o
def new1 (s : Sto) (o : O) : R D := .ok (.ref s.length) (s ++ [o])
/-- the most of a list -/
def line : Nat := 16777216

/-! ### == of data, by value -/
def eqbs (f : D → D → Bool) : List D → List D → Bool
  | [], [] => true
  | x :: xs, y :: ys => f x y && eqbs f xs ys
  | _, _ => false
/-- data of the kinds that == knows here -/
def shpD : Nat → Sto → D → Bool
  | 0, _, _ => false
  | n + 1, s, d => match d with
    | .non => true
    | .bl _ => true
    | .int _ => true
    | .str _ => true
    | .tup xs => xs.all (shpD n s)
    | .ctp xs => xs.all (shpD n s)
    | .ref l => match lstO s l with
      | some xs => xs.all (shpD n s)
      | none => false
    | _ => false
def eqb : Nat → Sto → D → D → Bool
  | 0, _, _, _ => false
  | n + 1, s, a, b => match a, b with
    | .non, .non => true
    | .bl x, .bl y => x == y
    | .bl x, .int j => decide ((if x then 1 else 0) = j)
    | .int i, .bl y => decide (i = (if y then 1 else 0))
    | .int x, .int y => decide (x = y)
    | .str x, .str y => Nat.beq x y
    | .tup x, .tup y => eqbs (eqb n s) x y
    | .tup x, .ctp y => eqbs (eqb n s) x y
    | .ctp x, .tup y => eqbs (eqb n s) x y
    | .ctp x, .ctp y => eqbs (eqb n s) x y
    | .ref l, .ref k => match lstO s l, lstO s k with
      | some x, some y => eqbs (eqb n s) x y
      | _, _ => false
    | _, _ => false
def depthE : Nat := 60
def eqO (s : Sto) (a b : D) : Option Bool := if shpD depthE s a && shpD depthE s b then some (eqb depthE s a b) else none

/-! ### operators by values -/
def in64 (i : Int) : Bool := match i with
  | .ofNat n => Nat.blt n 18446744073709551616
  | .negSucc n => Nat.blt n 18446744073709551615
def natI (i : Int) : Nat := match i with
  | .ofNat n => n
  | .negSucc n => n + 1
def isPos (i : Int) : Bool := match i with
  | .ofNat 0 => false
  | .ofNat (_ + 1) => true
  | .negSucc _ => false
def isNN (i : Int) : Bool := match i with
  | .ofNat _ => true
  | .negSucc _ => false
def tupO : D → Option (List D)
  | .tup xs => some xs
  | .ctp xs => some xs
  | _ => none
def flatD : D → Bool
  | .non => true
  | .bl _ => true
  | .int _ => true
  | .str _ => true
  | _ => false
/-- a key of a dict of this kind -/
def keyOk (t : Bool) (x : D) : Bool := match t with
  | false => keyD x
  | true => match x with
    | .tup ks => ks.all keyD
    | _ => false
def catT (a b : D) (s : Sto) : R D := match tupO a, tupO b with
  | some x, some y => if Nat.ble (x.length + y.length) line then (match x, y with
      | [], _ => .ok b s
      | _ :: _, [] => .ok a s
      | x, y => .ok (.tup (x ++ y)) s) else .no
  | _, _ => .no
def binD (o : BO) (a b : D) (s : Sto) : R D := match o, a, b with
  | .add, .int x, .int y => .ok (.int (x + y)) s
  | .add, .ref l, .ref k => match lstO s l, lstO s k with
    | some x, some y => if Nat.ble (x.length + y.length) line then new1 s (.lst (x ++ y)) else .no
    | _, _ => .no
  | .add, a, b => catT a b s
  | .sub, .int x, .int y => .ok (.int (x - y)) s
  | .mul, .int x, .int y => if in64 x || in64 y then .ok (.int (x * y)) s else .no
  | .mod, .int x, .int y => if isPos y then .ok (.int (x % y)) s else .no
  | .fdiv, .int x, .int y => if isPos y && Nat.blt (natI y) 1073741824 then .ok (.int (x / y)) s else .no
  | .pow, .int x, .int y => if isNN y && Nat.ble (natI y) 1000 && Nat.blt (natI x) 18446744073709551616 then .ok (.int (x ^ natI y)) s else .no
  | _, _, _ => .no
/-- x in y, data -/
def inO (s : Sto) (x y : D) : Option Bool := match y with
  | .tup ys => if flatD x && ys.all flatD then some (ys.any fun z => eqb 1 s z x) else none
  | .ctp ys => if flatD x && ys.all flatD then some (ys.any fun z => eqb 1 s z x) else none
  | .ref l => match nth s l with
    | some (.lst ys) => if shpD depthE s x && ys.all (shpD depthE s) then some (ys.any fun z => eqb depthE s z x) else none
    | some (.dct t kvs) => if keyOk t x then some (lkD kvs x).isSome else none
    | _ => none
  | _ => none
def refI (s : Sto) (l : Nat) : Bool := match nth s l with
  | some (.lst _) => true
  | some (.ins _ _) => true
  | _ => false
def cmpD (o : CO) (a b : D) (s : Sto) : Option Bool := match o with
  | .eq => eqO s a b
  | .ne => (eqO s a b).map (!·)
  | .lt => match a, b with
    | .int x, .int y => some (decide (x < y))
    | _, _ => none
  | .le => match a, b with
    | .int x, .int y => some (decide (x ≤ y))
    | _, _ => none
  | .gt => match a, b with
    | .int x, .int y => some (decide (y < x))
    | _, _ => none
  | .ge => match a, b with
    | .int x, .int y => some (decide (y ≤ x))
    | _, _ => none
  | .in_ => inO s a b
  | .nin => (inO s a b).map (!·)
  | .is_ => match a, b with
    | x, .non => some (D.beq x .non)
    | .bl x, .bl y => some (x == y)
    | .ref x, .ref y => if refI s x && refI s y then some (Nat.beq x y) else none
    | _, _ => none
  | .isn => match a, b with
    | x, .non => some (!D.beq x .non)
    | .bl x, .bl y => some (!(x == y))
    | .ref x, .ref y => if refI s x && refI s y then some (!Nat.beq x y) else none
    | _, _ => none
def cmpR (o : CO) (a b : D) (s : Sto) : R D := match cmpD o a b s with
  | some x => .ok (.bl x) s
  | none => .no
/-- a list, a tuple, the script: its items -/
def seqO (s : Sto) : D → Option (List D)
  | .tup xs => some xs
  | .ctp xs => some xs
  | .rol xs => some xs
  | .ref l => lstO s l
  | _ => none
def intsOf : List D → Option (List Int)
  | [] => some []
  | .int i :: r => (intsOf r).map (i :: ·)
  | _ :: _ => none
def rngD (lo : Int) : Nat → List D
  | 0 => []
  | n + 1 => .int lo :: rngD (lo + 1) n
def in62 (i : Int) : Bool := match i with
  | .ofNat n => Nat.blt n 4611686018427387904
  | .negSucc n => Nat.blt n 4611686018427387904
def biD (b : BI) (vs : List D) (s : Sto) : R D := match b, vs with
  | .len, [.ref l] => match nth s l with
    | some (.lst xs) => .ok (.int xs.length) s
    | some (.dct _ kvs) => .ok (.int kvs.length) s
    | _ => .no
  | .len, [.tup xs] => .ok (.int xs.length) s
  | .len, [.ctp xs] => .ok (.int xs.length) s
  | .len, [.rol xs] => .ok (.int xs.length) s
  | .int, [.int i] => .ok (.int i) s
  | .int, [.bl b] => .ok (.int (if b then 1 else 0)) s
  | .abs, [.int i] => .ok (.int (if i < 0 then -i else i)) s
  | .min, [.int i, .int j] => .ok (.int (if j < i then j else i)) s
  | .max, [.int i, .int j] => .ok (.int (if j > i then j else i)) s
  | .sum, [.ref l] => match lstO s l with
    | some xs => match intsOf xs with
      | some ns => .ok (.int ns.sum) s
      | none => .no
    | none => .no
  | .list, [.tup xs] => new1 s (.lst xs)
  | .list, [.ctp xs] => new1 s (.lst xs)
  | .list, [.ref l] => match lstO s l with
    | some xs => new1 s (.lst xs)
    | none => .no
  | .tuple, [.ref l] => match lstO s l with
    | some xs => .ok (.tup xs) s
    | none => .no
  | .tuple, [.tup xs] => .ok (.tup xs) s
  | .tuple, [.ctp xs] => .ok (.ctp xs) s
  | _, _ => .no
/-- what a loop walks: items as they are; the list at l as it stands at each turn; .. -/
inductive Wk where
  | seq (xs : List D)
  | live (l : Nat)
  | rng (lo : Int) (n : Nat)
  | enum (a : Wk)
  | zip (a b : Wk)
  | no
/-- at turn i: some none: it stops -/
def srcAt : Wk → Nat → Sto → Option (Option D)
  | .seq xs, i, _ => some (nth xs i)
  | .live l, i, s => match lstO s l with
    | some xs => some (nth xs i)
    | none => none
  | .rng lo n, i, _ => some (if Nat.blt i n then some (.int (lo + Int.ofNat i)) else none)
  | .enum a, i, s => match srcAt a i s with
    | some (some d) => some (some (.tup [.int (Int.ofNat i), d]))
    | o => o
  | .zip a b, i, s => match srcAt a i s, srcAt b i s with
    | some (some x), some (some y) => some (some (.tup [x, y]))
    | some none, some _ => some none
    | some _, some none => some none
    | _, _ => none
  | .no, _, _ => none
def wkL (s : Sto) (d : D) : Option Wk := match d with
  | .rol xs => some (.seq xs)
  | .ref l => match lstO s l with
    | some _ => some (.live l)
    | none => none
  | _ => none
def wkT (d : D) : Option Wk := match d with
  | .tup xs => some (.seq xs)
  | .ctp xs => some (.seq xs)
  | _ => none
def wkA (s : Sto) (d : D) : Option Wk := match wkL s d with
  | some w => some w
  | none => wkT d
def walkG (wb : Option BI) (vs : List D) (s : Sto) : Wk := match wb, vs with
  | none, [v] => (wkA s v).getD .no
  | some .range, [.int j] => if in62 j then .rng 0 j.toNat else .no
  | some .range, [.int i, .int j] => if in62 i && in62 j then .rng i (j - i).toNat else .no
  | some .enum, [a] => match wkA s a with
    | some w => .enum w
    | none => .no
  | some .zip, [a, b] => match wkL s a, wkL s b with
    | some x, some y => .zip x y
    | _, _ => match wkT a, wkT b with
      | some x, some y => .zip x y
      | _, _ => .no
  | _, _ => .no
mutual
def letT (t : CT) (d : D) (fr : Fr) : Option Fr := match t with
  | .nm i => some (fr.set i (some d))
  | .tp cs => match d with
    | .tup ds => letTs cs ds fr
    | .ctp ds => letTs cs ds fr
    | _ => none
def letTs (cs : List CT) (ds : List D) (fr : Fr) : Option Fr := match cs, ds with
  | [], [] => some fr
  | c :: cs, d :: ds => match letT c d fr with
    | some fr' => letTs cs ds fr'
    | none => none
  | _, _ => none
end
def wipe (fr : Fr) : List Nat → Fr
  | [] => fr
  | v :: vs => (wipe fr vs).set v none
def nthFr (fr : Fr) (i : Nat) : Option D := match nth fr i with
  | some (some d) => some d
  | _ => none

/-! ### loops, with what a turn does as a function -/
/-- a turn's end -/
inductive SR where
  | nx (fr : Fr) (s : Sto)
  | rt (d : D) (s : Sto)
  | ex (c : Nat) (fs : List (Nat × D)) (fr : Fr) (s : Sto)
  | no
abbrev Src := Nat → Sto → Option (Option D)
def forG (src : Src) (turn : D → Fr → Sto → SR) : Nat → Nat → Fr → Sto → SR
  | 0, _, _, _ => .no
  | n + 1, i, fr, s => match src i s with
    | none => .no
    | some none => .nx fr s
    | some (some d) => match turn d fr s with
      | .nx fr' s' => forG src turn n (i + 1) fr' s'
      | x => x
def fuelL : Nat := 100000
def whileD (test : Fr → Sto → R D) (turn : Fr → Sto → SR) : Nat → Fr → Sto → SR
  | 0, _, _ => .no
  | n + 1, fr, s => match test fr s with
    | .ok (.bl true) s' => match turn fr s' with
      | .nx fr' s'' => whileD test turn n fr' s''
      | x => x
    | .ok (.bl false) s' => .nx fr s'
    | .ex c fs s' => .ex c fs fr s'
    | _ => .no
/-- a comprehension's turns; the list grows at the store's place at -/
def compG (src : Src) (turn : D → Sto → R (Option D)) (at_ : Nat) : Nat → Nat → Sto → R Unit
  | 0, _, _ => .no
  | n + 1, i, s => match src i s with
    | none => .no
    | some none => .ok () s
    | some (some d) => match turn d s with
      | .ok none s' => compG src turn at_ n (i + 1) s'
      | .ok (some v) s' => match lstO s' at_ with
        | some acc => if Nat.blt acc.length line then compG src turn at_ n (i + 1) (s'.set at_ (.lst (acc ++ [v]))) else .no
        | none => .no
      | .ex _ _ _ => .no
      | .no => .no
def sameB : Bool → Bool → Bool
  | true, true => true
  | false, false => true
  | _, _ => false
def dctG (tk : Bool) (src : Src) (turn : D → Sto → R (D × D)) (at_ : Nat) : Nat → Nat → Sto → R Unit
  | 0, _, _ => .no
  | n + 1, i, s => match src i s with
    | none => .no
    | some none => .ok () s
    | some (some d) => match turn d s with
      | .ok (k, v) s' => match nth s' at_ with
        | some (.dct t kvs) => if sameB tk t && (keyOk tk k && Nat.blt kvs.length line) then dctG tk src turn at_ n (i + 1) (s'.set at_ (.dct tk (putD kvs k v))) else .no
        | _ => .no
      | .ex _ _ _ => .no
      | .no => .no

/-! ### objects -/
def clsOf (G : Pg) (s : Sto) (l : Nat) : Option (Cl × Nat × List (Nat × D)) := match nth s l with
  | some (.ins c fs) => (lkN G.cls c).map fun k => (k, c, fs)
  | _ => none
def partL : List D → Option (Option Int)
  | [] => some none
  | [.int i] => some (some i)
  | _ => none
abbrev Call := Nat → List D → Sto → R D

/-- the parameters that are not given by place -/
def restA : List (Nat × Option D) → List (Nat × D) → Option (List D)
  | [], _ => some []
  | (p, d) :: r, kv => match lkN kv p, restA r kv with
    | some v, some t => some (v :: t)
    | none, some t => match d with
      | some v => some (v :: t)
      | none => none
    | _, none => none
def bindA (prm : List (Nat × Option D)) (vs : List D) (ks : List Nat) (ws : List D) : Option (List D) := (restA (prm.drop vs.length) (ks.zip ws)).map (vs ++ ·)
def natsB : List Nat → List Nat → Bool
  | [], [] => true
  | a :: x, b :: y => Nat.beq a b && natsB x y
  | _, _ => false
def patO (ps : List (Nat × List Nat)) (n : Nat) (ks : List Nat) : Bool := ps.any fun p => Nat.beq p.1 n && natsB p.2 ks
def callA (G : Pg) (call : Call) (f : Nat) (vs : List D) (ks : List Nat) (ws : List D) (s : Sto) : R D := match nth G.defs f with
  | some d => if patO d.pats vs.length ks then (match bindA d.prm vs ks ws with
    | some as => call f as s
    | none => .no) else .no
  | none => .no
/-- a[i] by values -/
def ixD (G : Pg) (call : Call) (a i : D) (s : Sto) : R D := match a with
  | .ctp xs => match i with
    | .int n => match ixI xs n with
      | some d => .ok d s
      | none => .no
    | _ => .no
  | .tup xs => match i with
    | .int n => match ixI xs n with
      | some d => .ok d s
      | none => .no
    | _ => .no
  | .kd kvs => match i with
    | .str k => match lkD kvs (.str k) with
      | some d => .ok d s
      | none => .no
    | _ => .no
  | .rol xs => match i with
    | .int n => match ixI xs n with
      | some d => .ok d s
      | none => .no
    | _ => .no
  | .ref l => match nth s l with
    | some (.lst xs) => match i with
      | .int n => match ixI xs n with
        | some d => .ok d s
        | none => .no
      | _ => .no
    | some (.dct t kvs) => if keyOk t i then (match lkD kvs i with
      | some d => .ok d s
      | none => .no) else .no
    | some (.ins c _) => match lkN G.cls c with
      | some k => match lkN k.meths (G.ids.getD 0 0) with
        | some f => callA G call f [a, i] [] [] s
        | none => .no
      | none => .no
    | _ => .no
  | _ => .no
def slD (a : D) (lo hi : Option Int) (s : Sto) : R D := match a with
  | .tup xs => .ok (.tup (cut xs lo hi)) s
  | .ctp xs => if Nat.beq (clipI xs.length 0 lo) 0 && Nat.beq (clipI xs.length xs.length hi) xs.length then .ok (.ctp xs) s else .ok (.tup (cut xs lo hi)) s
  | .ref l => match lstO s l with
    | some xs => new1 s (.lst (cut xs lo hi))
    | none => .no
  | .rol xs => new1 s (.lst (cut xs lo hi))
  | _ => .no
def partR (x : R (List D)) : R (Option Int) := x.bind fun l s => match partL l with
  | some o => .ok o s
  | none => .no
def noEx (x : R D) : R D := match x with
  | .ok d s => .ok d s
  | _ => .no
def fldD (G : Pg) (call : Call) (a : D) (f : Nat) (s : Sto) : R D := match a with
  | .ref l => match nth s l with
    | some (.ins c fs) => match lkN G.cls c with
      | some k => match lkN k.props f with
        | some g => noEx (callA G call g [a] [] [] s)
        | none => match lkN k.meths f with
          | none => match lkN fs f with
            | some d => .ok d s
            | none => .no
          | some _ => .no
      | none => .no
    | _ => .no
  | _ => .no
def setFD (G : Pg) (call : Call) (a : D) (f : Nat) (v : D) (s : Sto) : R D := match a with
  | .ref l => match nth s l with
    | some (.ins c fs) => match lkN G.cls c with
      | some k => match lkN k.props f, lkN k.meths f with
        | none, none => if Nat.blt fs.length 1000 then .ok .non (s.set l (.ins c (putN fs f v))) else .no
        | _, _ => .no
      | none => .no
    | _ => .no
  | _ => .no
/-- op= by values -/
def augD (o : BO) (a b : D) (s : Sto) : R D := match o, a, b with
  | .add, .int x, .int y => .ok (.int (x + y)) s
  | .sub, .int x, .int y => .ok (.int (x - y)) s
  | _, _, _ => .no
/-- a[i], a[i] = v for op=: lists and dicts -/
def ixB (a i : D) (s : Sto) : R D := match a with
  | .ref l => match nth s l with
    | some (.lst xs) => match i with
      | .int n => match ixI xs n with
        | some d => .ok d s
        | none => .no
      | _ => .no
    | some (.dct t kvs) => if keyOk t i then (match lkD kvs i with
      | some d => .ok d s
      | none => .no) else .no
    | _ => .no
  | _ => .no
def setSB (a i v : D) (s : Sto) : R D := match a with
  | .ref l => match nth s l with
    | some (.lst xs) => match i with
      | .int n => match ixNat xs.length n with
        | some j => .ok .non (s.set l (.lst (xs.set j v)))
        | none => .no
      | _ => .no
    | some (.dct t kvs) => if keyOk t i && Nat.blt kvs.length line then .ok .non (s.set l (.dct t (putD kvs i v))) else .no
    | _ => .no
  | _ => .no
def ins1 {α : Type} (xs : List α) (i : Nat) (x : α) : List α := xs.take i ++ x :: xs.drop i
/-- a method of a list or a dict: 0 append, 1 pop, 2 insert, 3 extend, 4 clear; 5 get -/
def bmD (a : D) (k : Nat) (vs : List D) (s : Sto) : R D := match a with
  | .ref l => match nth s l with
    | some (.lst xs) => (match k, vs with
      | 0, [v] => if Nat.blt xs.length line then .ok .non (s.set l (.lst (xs ++ [v]))) else .no
      | 1, [.int i] => match ixNat xs.length i with
        | some j => (match nth xs j with
          | some d => if in62 i then .ok d (s.set l (.lst (xs.eraseIdx j))) else .no
          | none => .no)
        | none => .no
      | 2, [.int i, v] => if Nat.blt xs.length line && (in62 i && isNN i) then .ok .non (s.set l (.lst (ins1 xs (natI i) v))) else .no
      | 3, [.ref k] => match lstO s k with
        | some ys => if Nat.ble (xs.length + ys.length) line then .ok .non (s.set l (.lst (xs ++ ys))) else .no
        | none => .no
      | 4, [] => .ok .non (s.set l (.lst []))
      | _, _ => .no)
    | some (.dct t kvs) => (match k, vs with
      | 5, [k, d] => if keyOk t k then .ok ((lkD kvs k).getD d) s else .no
      | _, _ => .no)
    | _ => .no
  | _ => .no
/-- what a method is, when it is asked for -/
inductive MT where
  | fn (f : Nat)
  | bm (k : Nat)
def bmL (ids : List Nat) (m : Nat) : Option Nat :=
  if Nat.beq m (ids.getD 8 0) then some 0 else if Nat.beq m (ids.getD 9 0) then some 1 else if Nat.beq m (ids.getD 10 0) then some 2
  else if Nat.beq m (ids.getD 11 0) then some 3 else if Nat.beq m (ids.getD 12 0) then some 4 else none
def bmG (ids : List Nat) (m : Nat) : Option Nat := if Nat.beq m (ids.getD 16 0) then some 5 else none
def initD (l : Nat) (x : R D) : R D := match x with
  | .ok .non s' => .ok (.ref l) s'
  | .ok _ _ => .no
  | .ex c fs s' => .ex c fs s'
  | .no => .no
def newD (G : Pg) (call : Call) (c : Nat) (vs : List D) (ks : List Nat) (ws : List D) (s : Sto) : R D := match lkN G.cls c with
  | some k => match k.init with
    | some f => initD s.length (callA G call f (.ref s.length :: vs) ks ws (s ++ [.ins c []]))
    | none => .no
  | none => .no
def methD (G : Pg) (a : D) (m : Nat) (s : Sto) : Option MT := match a with
  | .ref l => match nth s l with
    | some (.lst _) => (bmL G.ids m).map .bm
    | some (.dct _ _) => (bmG G.ids m).map .bm
    | some (.ins c fs) => match lkN G.cls c with
      | some k => match lkN fs m with
        | none => (lkN k.meths m).map .fn
        | some _ => none
      | none => none
    | none => none
  | _ => none
def mtcD (G : Pg) (call : Call) (t : MT) (a : D) (vs : List D) (s : Sto) : R D := match t with
  | .fn f => callA G call f (a :: vs) [] [] s
  | .bm k => bmD a k vs s
def methK (G : Pg) (call : Call) (x : D) (m : Nat) (s : Sto) (es : Sto → R (List D)) : R D := match methD G x m s with
  | some t => (es s).bind fun vs s2 => mtcD G call t x vs s2
  | none => .no
def isiD (G : Pg) (a : D) (c : Nat) (s : Sto) : R D := match a with
  | .ref l => match nth s l with
    | some (.ins c' _) => match lkN G.cls c' with
      | some k => .ok (.bl (k.up.any (Nat.beq c))) s
      | none => .no
    | _ => .no
  | _ => .no
def pairsD : List D → List D → List (D × D)
  | k :: ks, v :: vs => (k, v) :: pairsD ks vs
  | _, _ => []
def mergeD (acc : List (D × D)) : List (D × D) → List (D × D)
  | [] => acc
  | (k, v) :: r => mergeD (putD acc k v) r

/-- at l: an instance of the class d -/
def insOf (s : Sto) (l d : Nat) : Bool := match nth s l with
  | some (.ins c _) => Nat.beq c d
  | _ => false
/-- a comprehension's turn -/
def lcT (own : List Nat) (t : CT) (c e : Fr → Sto → R D) (fr : Fr) (d : D) (s : Sto) : R (Option D) := match letT t d (wipe fr own) with
  | none => .no
  | some fr' => (c fr' s).bind fun b s' => match b with
    | .bl true => (e fr' s').bind fun v s'' => .ok (some v) s''
    | .bl false => .ok none s'
    | _ => .no
def dcT (own : List Nat) (t : CT) (k e : Fr → Sto → R D) (fr : Fr) (d : D) (s : Sto) : R (D × D) := match letT t d (wipe fr own) with
  | none => .no
  | some fr' => (k fr' s).bind fun x s' => (e fr' s').bind fun v s'' => .ok (x, v) s''

/-! ### the meaning of expressions -/
mutual
def evE (G : Pg) (call : Call) : E → Fr → Sto → R D
  | .no, _, _ => .no
  | .var i, fr, s => match nthFr fr i with
    | some d => .ok d s
    | none => .no
  | .lit d, _, s => .ok d s
  | .con k, _, s => match nth G.cons k with
    | some d => .ok d s
    | none => .no
  | .tup es, fr, s => (evEs G call es fr s).bind fun vs s' => if Nat.ble vs.length line then .ok (.tup vs) s' else .no
  | .lst es, fr, s => (evEs G call es fr s).bind fun vs s' => if Nat.ble vs.length line then new1 s' (.lst vs) else .no
  | .dnew t, _, s => new1 s (.dct t [])
  | .disp kvs, fr, s => new1 s (.dct false (mergeD [] kvs))
  | .bin o a b, fr, s => (evE G call a fr s).bind fun x s1 => (evE G call b fr s1).bind fun y s2 => binD o x y s2
  | .neg a, fr, s => (evE G call a fr s).bind fun x s1 => match x with
    | .int i => .ok (.int (-i)) s1
    | _ => .no
  | .cmp o a b, fr, s => (evE G call a fr s).bind fun x s1 => (evE G call b fr s1).bind fun y s2 => cmpR o x y s2
  | .chain o o' a b c, fr, s => (evE G call a fr s).bind fun x s1 => (evE G call b fr s1).bind fun y s2 => (cmpR o x y s2).bind fun z s3 => match z with
    | .bl true => (evE G call c fr s3).bind fun w s4 => cmpR o' y w s4
    | .bl false => .ok (.bl false) s3
    | _ => .no
  | .and_ a b, fr, s => (evE G call a fr s).bind fun x s1 => match x with
    | .bl true => evE G call b fr s1
    | .bl false => .ok (.bl false) s1
    | _ => .no
  | .or_ a b, fr, s => (evE G call a fr s).bind fun x s1 => match x with
    | .bl true => .ok (.bl true) s1
    | .bl false => evE G call b fr s1
    | _ => .no
  | .not_ a, fr, s => (evE G call a fr s).bind fun x s1 => match x with
    | .bl b => .ok (.bl (!b)) s1
    | _ => .no
  | .ite c a b, fr, s => (evE G call c fr s).bind fun x s1 => match x with
    | .bl true => evE G call a fr s1
    | .bl false => evE G call b fr s1
    | _ => .no
  | .fld a f, fr, s => (evE G call a fr s).bind fun x s1 => fldD G call x f s1
  | .ix a i, fr, s => (evE G call a fr s).bind fun x s1 => (evE G call i fr s1).bind fun y s2 => ixD G call x y s2
  | .sl a lo hi, fr, s => (evE G call a fr s).bind fun x s1 => (partR (evEs G call lo fr s1)).bind fun l s2 => (partR (evEs G call hi fr s2)).bind fun h s3 => slD x l h s3
  | .bi b es, fr, s => (evEs G call es fr s).bind fun vs s1 => biD b vs s1
  | .call f es ks vs, fr, s => (evEs G call es fr s).bind fun xs s1 => (evEs G call vs fr s1).bind fun ys s2 => callA G call f xs ks ys s2
  | .new c es ks vs, fr, s => (evEs G call es fr s).bind fun xs s1 => (evEs G call vs fr s1).bind fun ys s2 => newD G call c xs ks ys s2
  | .meth a m es, fr, s => (evE G call a fr s).bind fun x s1 => methK G call x m s1 (evEs G call es fr)
  | .scall d f es, fr, s => match nthFr fr 0 with
    | some (.ref l) => if insOf s l d then (evEs G call es fr s).bind fun vs s1 => callA G call f (.ref l :: vs) [] [] s1 else .no
    | _ => .no
  | .isi a c, fr, s => (evE G call a fr s).bind fun x s1 => isiD G x c s1
  | .lc own t wb its c e, fr, s => (evEs G call its fr s).bind fun vs s1 =>
      (compG (srcAt (walkG wb vs s1)) (fun d s => lcT own t (evE G call c) (evE G call e) fr d s) s1.length fuelL 0 (s1 ++ [.lst []])).bind fun _ s2 => .ok (.ref s1.length) s2
  | .dc tk own t wb its k e, fr, s => (evEs G call its fr s).bind fun vs s1 =>
      (dctG tk (srcAt (walkG wb vs s1)) (fun d s => dcT own t (evE G call k) (evE G call e) fr d s) s1.length fuelL 0 (s1 ++ [.dct tk []])).bind fun _ s2 => .ok (.ref s1.length) s2
def evEs (G : Pg) (call : Call) : List E → Fr → Sto → R (List D)
  | [], _, s => .ok [] s
  | e :: es, fr, s => (evE G call e fr s).bind fun v s1 => (evEs G call es fr s1).bind fun vs s2 => .ok (v :: vs) s2
end
/-! ### the meaning of statements -/
def SR.of {α : Type} (x : R α) (fr : Fr) (f : α → Sto → SR) : SR := match x with
  | .ok a s => f a s
  | .ex c fs s => .ex c fs fr s
  | .no => .no
def forT (t : CT) (b : Fr → Sto → SR) (d : D) (fr : Fr) (s : Sto) : SR := match letT t d fr with
  | some fr' => b fr' s
  | none => .no
mutual
def evS (G : Pg) (call : Call) : St → Fr → Sto → SR
  | .pass, fr, s => .nx fr s
  | .expr e, fr, s => SR.of (evE G call e fr s) fr fun _ s1 => .nx fr s1
  | .asg t e, fr, s => SR.of (evE G call e fr s) fr fun v s1 => match letT t v fr with
    | some fr' => .nx fr' s1
    | none => .no
  | .par is es, fr, s => SR.of (evEs G call es fr s) fr fun vs s1 => match letTs (is.map .nm) vs fr with
    | some fr' => .nx fr' s1
    | none => .no
  | .asgF a f e, fr, s => SR.of (evE G call e fr s) fr fun v s1 => SR.of (evE G call a fr s1) fr fun x s2 => SR.of (setFD G call x f v s2) fr fun _ s3 => .nx fr s3
  | .asgS a i e, fr, s => SR.of (evE G call e fr s) fr fun v s1 => SR.of (evE G call a fr s1) fr fun x s2 => SR.of (evE G call i fr s2) fr fun y s3 => SR.of (setSB x y v s3) fr fun _ s4 => .nx fr s4
  | .augN i o e, fr, s => match nthFr fr i with
    | some x => SR.of (evE G call e fr s) fr fun y s1 => SR.of (augD o x y s1) fr fun z s2 => .nx (fr.set i (some z)) s2
    | none => .no
  | .augS a i o e, fr, s => SR.of (evE G call a fr s) fr fun x s1 => SR.of (evE G call i fr s1) fr fun y s2 => SR.of (ixB x y s2) fr fun z s3 => SR.of (evE G call e fr s3) fr fun w s4 => SR.of (augD o z w s4) fr fun v s5 =>
      SR.of (setSB x y v s5) fr fun _ s6 => .nx fr s6
  | .ret e, fr, s => SR.of (evE G call e fr s) fr fun v s1 => .rt v s1
  | .retN, fr, s => .rt .non s
  | .if_ c a b, fr, s => SR.of (evE G call c fr s) fr fun x s1 => match x with
    | .bl true => evSs G call a fr s1
    | .bl false => evSs G call b fr s1
    | _ => .no
  | .for_ t wb its b, fr, s => SR.of (evEs G call its fr s) fr fun vs s1 => forG (srcAt (walkG wb vs s1)) (fun d fr s => forT t (evSs G call b) d fr s) fuelL 0 fr s1
  | .while_ c b, fr, s => whileD (evE G call c) (evSs G call b) fuelL fr s
  | .raise_ c es, fr, s => .no
  | .no, _, _ => .no
def evSs (G : Pg) (call : Call) : List St → Fr → Sto → SR
  | [], fr, s => .nx fr s
  | t :: ts, fr, s => match evS G call t fr s with
    | .nx fr' s' => evSs G call ts fr' s'
    | x => x
end

def start (np nn : Nat) (vs : List D) : Fr := vs.map some ++ List.replicate (nn - np) none
def endD (x : SR) : R D := match x with
  | .nx _ s' => .ok .non s'
  | .rt v s' => .ok v s'
  | .ex c fs _ s' => .ex c fs s'
  | .no => .no
def callN (G : Pg) : Nat → Call
  | 0, _, _, _ => .no
  | n + 1, f, vs, s => match nth G.defs f with
    | none => .no
    | some d => if Nat.beq vs.length d.prm.length then endD (evSs G (callN G n) d.body (start d.prm.length d.nn vs) s) else .no
end PD
end Sec0
section Sec1
set_option Elab.async false
set_option linter.all false
set_option maxRecDepth 100000
set_option maxHeartbeats 4000000
/-! PD1: what stands in the abstract heap for the deep language's values and store. -/
namespace PD
open PySem PySem.Spec PyProof.Rows L2

theorem nth_eq {α : Type} : ∀ (xs : List α) (i : Nat), nth xs i = xs[i]?
  | [], _ => by simp [nth]
  | x :: _, 0 => by simp [nth]
  | _ :: r, n + 1 => by simp [nth, nth_eq r n]

theorem nodup_ixG {α : Type} {N : List α} (hN : N.Nodup) {i j : Nat} {x : α} (a : N[i]? = some x) (b : N[j]? = some x) : i = j := by
  obtain ⟨h1, e1⟩ := List.getElem?_eq_some_iff.mp a
  obtain ⟨h2, e2⟩ := List.getElem?_eq_some_iff.mp b
  exact (List.getElem_inj hN).mp (e1.trans e2.symm)

/-! ### the static part -/
structure Tab where
  K : PySem.W.Frag
  mg : Str → Option Value
  syms : List Str
  nd : syms.Nodup
  ok : ∀ x ∈ syms, PyData.strOk x = true
  /-- dicts of the module -/
  kd : Addr → List (D × D) → Prop
def Tab.sy (T : Tab) (k : Nat) : Str := T.syms.getD k Str.empty

/-- what a rule never changes -/
def Imm : HO → Prop
  | .tup _ => True
  | .frz _ _ => True
  | .xd _ => True
  | .met _ _ => True
  | _ => False
def Keep (H H' : Hp) : Prop := ∀ a o, H a = some o → Imm o → H' a = some o
theorem Keep.refl (H : Hp) : Keep H H := fun _ _ h _ => h
theorem Keep.trans {H H1 H2 : Hp} (a : Keep H H1) (b : Keep H1 H2) : Keep H H2 := fun c o h i => b c o (a c o h i) i
theorem Keep.fresh {H : Hp} {p : Addr} {o : HO} (h : H p = none) : Keep H (upd H p o) := fun a u e _ => by
  rw [upd_ne (ne_of_none e h)]; exact e
theorem Keep.mut {H : Hp} {p : Addr} {o u : HO} (h : H p = some u) (n : ¬ Imm u) : Keep H (upd H p o) := fun a v e i => by
  rw [upd_ne (fun q => by subst q; rw [h] at e; cases e; exact n i)]; exact e

/-- the read-only list: the script -/
def SqF (K : PySem.W.Frag) (H : Hp) (a : Addr) (xs : List V) : Prop :=
  (∃ o, H a = some (.frz o (.lst xs))) ∨
    ∃ (o : Obj) (its : Array Value) (n : Nat), K.lookup a = some o ∧ o.cls = .type "list" ∧ o.dict = none ∧ o.data = .seq its n ∧ its.size ≤ sizeLine ∧ Vals xs its.toList
theorem SqF.l {K : PySem.W.Frag} {H : Hp} {a : Addr} {xs : List V} (h : SqF K H a xs) : SqL K H a xs := by
  rcases h with h | h
  · exact .inl (.inr h)
  · exact .inr h
theorem SqF.keep {K : PySem.W.Frag} {H H' : Hp} {a : Addr} {xs : List V} (k : Keep H H') (h : SqF K H a xs) : SqF K H' a xs := by
  rcases h with ⟨o, h⟩ | h
  · exact .inl ⟨o, k _ _ h True.intro⟩
  · exact .inr h
/-- a tuple of the written part -/
def SqK (K : PySem.W.Frag) (a : Addr) (xs : List V) : Prop :=
  ∃ (o : Obj) (its : Array Value) (n : Nat), K.lookup a = some o ∧ o.cls = .type "tuple" ∧ o.data = .seq its n ∧ its.size ≤ sizeLine ∧ Vals xs its.toList
theorem SqK.t {K : PySem.W.Frag} {H : Hp} {a : Addr} {xs : List V} (h : SqK K a xs) : SqT K H a xs := .inr h
theorem SqT_keep {K : PySem.W.Frag} {H H' : Hp} {a : Addr} {xs : List V} (k : Keep H H') (h : SqT K H a xs) : SqT K H' a xs := by
  rcases h with (h | ⟨o, h⟩) | h
  · exact .inl (.inl (k _ _ h True.intro))
  · exact .inl (.inr ⟨o, k _ _ h True.intro⟩)
  · exact .inr h


mutual
inductive RD (T : Tab) (ρ : List Addr) (H : Hp) : D → V → Prop
  | non : RD T ρ H .non .non
  | bl (b : Bool) : RD T ρ H (.bl b) (.bl b)
  | int (i : Int) : RD T ρ H (.int i) (.int i)
  | str {k : Nat} {x : Str} : T.syms[k]? = some x → RD T ρ H (.str k) (.str x)
  | tup {ds : List D} {vs : List V} {a : Addr} : H a = some (.tup vs) → RDs T ρ H ds vs → RD T ρ H (.tup ds) (.ref a)
  | ctp {ds : List D} {vs : List V} {a : Addr} : SqK T.K a vs → RDs T ρ H ds vs → RD T ρ H (.ctp ds) (.ref a)
  | ref {l : Nat} {a : Addr} : ρ[l]? = some a → RD T ρ H (.ref l) (.ref a)
  | glo {g : Nat} {x : Str} {a : Addr} : T.syms[g]? = some x → T.mg x = some (.ref a) → RD T ρ H (.glo g) (.ref a)
  | rol {ds : List D} {vs : List V} {a : Addr} : SqF T.K H a vs → RDs T ρ H ds vs → RD T ρ H (.rol ds) (.ref a)
  | kd {kvs : List (D × D)} {a : Addr} : T.kd a kvs → RD T ρ H (.kd kvs) (.ref a)
inductive RDs (T : Tab) (ρ : List Addr) (H : Hp) : List D → List V → Prop
  | nil : RDs T ρ H [] []
  | cons {d : D} {ds : List D} {v : V} {vs : List V} : RD T ρ H d v → RDs T ρ H ds vs → RDs T ρ H (d :: ds) (v :: vs)
end

/-- more places, what stands for ever stands -/
structure Ext (ρ : List Addr) (H : Hp) (ρ' : List Addr) (H' : Hp) : Prop where
  pre : ∃ t, ρ' = ρ ++ t
  keep : Keep H H'
theorem Ext.refl {ρ : List Addr} {H : Hp} : Ext ρ H ρ H := ⟨⟨[], by simp⟩, Keep.refl H⟩
theorem Ext.trans {ρ ρ1 ρ2 : List Addr} {H H1 H2 : Hp} (a : Ext ρ H ρ1 H1) (b : Ext ρ1 H1 ρ2 H2) : Ext ρ H ρ2 H2 := by
  obtain ⟨⟨t, e⟩, k⟩ := a
  obtain ⟨⟨u, e'⟩, k'⟩ := b
  exact ⟨⟨t ++ u, by rw [e', e, List.append_assoc]⟩, k.trans k'⟩
theorem Ext.at {ρ ρ' : List Addr} {H H' : Hp} (e : Ext ρ H ρ' H') {l : Nat} {a : Addr} (h : ρ[l]? = some a) : ρ'[l]? = some a := by
  obtain ⟨⟨t, rfl⟩, _⟩ := e
  have hl : l < ρ.length := (List.getElem?_eq_some_iff.mp h).1
  rw [List.getElem?_append_left hl]; exact h

section
variable {T : Tab} {ρ ρ' : List Addr} {H H' : Hp}
mutual
theorem RD.mono (e : Ext ρ H ρ' H') : ∀ {d : D} {v : V}, RD T ρ H d v → RD T ρ' H' d v
  | _, _, .non => .non
  | _, _, .bl b => .bl b
  | _, _, .int i => .int i
  | _, _, .str h => .str h
  | _, _, .tup h r => .tup (e.keep _ _ h True.intro) (RDs.mono e r)
  | _, _, .ctp h r => .ctp h (RDs.mono e r)
  | _, _, .ref h => .ref (e.at h)
  | _, _, .glo h h' => .glo h h'
  | _, _, .rol h r => .rol (h.keep e.keep) (RDs.mono e r)
  | _, _, .kd h => .kd h
theorem RDs.mono (e : Ext ρ H ρ' H') : ∀ {d : List D} {v : List V}, RDs T ρ H d v → RDs T ρ' H' d v
  | _, _, .nil => .nil
  | _, _, .cons r rs => .cons (RD.mono e r) (RDs.mono e rs)
end
theorem RDs.length : ∀ {d : List D} {v : List V}, RDs T ρ H d v → d.length = v.length
  | _, _, .nil => rfl
  | _, _, .cons _ rs => by simp [RDs.length rs]
theorem RDs.get : ∀ {ds : List D} {vs : List V} {i : Nat} {d : D}, RDs T ρ H ds vs → ds[i]? = some d → ∃ v, vs[i]? = some v ∧ RD T ρ H d v
  | _, _, _, _, .nil, e => by simp at e
  | _, _, 0, _, .cons r _, e => by simp at e; subst e; exact ⟨_, rfl, r⟩
  | _, _, i + 1, d, .cons _ t, e => by
    obtain ⟨u, h1, h2⟩ := RDs.get (i := i) (d := d) t (by simpa using e)
    exact ⟨u, by simpa using h1, h2⟩
theorem RDs.getV : ∀ {ds : List D} {vs : List V} {i : Nat} {v : V}, RDs T ρ H ds vs → vs[i]? = some v → ∃ d, ds[i]? = some d ∧ RD T ρ H d v
  | _, _, _, _, .nil, e => by simp at e
  | _, _, 0, _, .cons r _, e => by simp at e; subst e; exact ⟨_, rfl, r⟩
  | _, _, i + 1, d, .cons _ t, e => by
    obtain ⟨u, h1, h2⟩ := RDs.getV (i := i) (v := d) t (by simpa using e)
    exact ⟨u, by simpa using h1, h2⟩
theorem RDs.append : ∀ {d e : List D} {v w : List V}, RDs T ρ H d v → RDs T ρ H e w → RDs T ρ H (d ++ e) (v ++ w)
  | _, _, _, _, .nil, s => s
  | _, _, _, _, .cons r t, s => .cons r (RDs.append t s)
theorem RDs.take : ∀ {d : List D} {v : List V} (n : Nat), RDs T ρ H d v → RDs T ρ H (d.take n) (v.take n)
  | _, _, 0, _ => .nil
  | _, _, _ + 1, .nil => .nil
  | _, _, n + 1, .cons r t => .cons r (RDs.take n t)
theorem RDs.drop : ∀ {d : List D} {v : List V} (n : Nat), RDs T ρ H d v → RDs T ρ H (d.drop n) (v.drop n)
  | _, _, 0, r => r
  | _, _, _ + 1, .nil => .nil
  | _, _, n + 1, .cons _ t => RDs.drop n t
theorem RDs.set {x : D} {y : V} (r : RD T ρ H x y) : ∀ {d : List D} {v : List V} (i : Nat), RDs T ρ H d v → RDs T ρ H (d.set i x) (v.set i y)
  | _, _, _, .nil => .nil
  | _, _, 0, .cons _ t => .cons r t
  | _, _, i + 1, .cons q t => .cons q (RDs.set r i t)
theorem RDs.eraseIdx : ∀ {d : List D} {v : List V} (i : Nat), RDs T ρ H d v → RDs T ρ H (d.eraseIdx i) (v.eraseIdx i)
  | _, _, _, .nil => .nil
  | _, _, 0, .cons _ t => t
  | _, _, i + 1, .cons q t => .cons q (RDs.eraseIdx i t)
end

/-! ### keys, fields -/
inductive KR (T : Tab) : D → Key → Prop
  | int (i : Int) : KR T (.int i) (.inl i)
  | str {k : Nat} {x : Str} : T.syms[k]? = some x → KR T (.str k) (.inr x)
inductive KRs (T : Tab) : List D → List Key → Prop
  | nil : KRs T [] []
  | cons {d : D} {ds : List D} {k : Key} {ks : List Key} : KR T d k → KRs T ds ks → KRs T (d :: ds) (k :: ks)
inductive KVs (T : Tab) (ρ : List Addr) (H : Hp) : List (D × D) → List (Key × V) → Prop
  | nil : KVs T ρ H [] []
  | cons {k d : D} {r : List (D × D)} {y : Key} {v : V} {t : List (Key × V)} : KR T k y → RD T ρ H d v → KVs T ρ H r t → KVs T ρ H ((k, d) :: r) ((y, v) :: t)
inductive KTs (T : Tab) (ρ : List Addr) (H : Hp) : List (D × D) → List (List Key × V) → Prop
  | nil : KTs T ρ H [] []
  | cons {ks : List D} {d : D} {r : List (D × D)} {y : List Key} {v : V} {t : List (List Key × V)} : KRs T ks y → RD T ρ H d v → KTs T ρ H r t → KTs T ρ H ((.tup ks, d) :: r) ((y, v) :: t)
inductive FRs (T : Tab) (ρ : List Addr) (H : Hp) : List (Nat × D) → List (Str × V) → Prop
  | nil : FRs T ρ H [] []
  | cons {k : Nat} {x : Str} {d : D} {r : List (Nat × D)} {v : V} {t : List (Str × V)} : T.syms[k]? = some x → RD T ρ H d v → FRs T ρ H r t → FRs T ρ H ((k, d) :: r) ((x, v) :: t)
section
variable {T : Tab} {ρ ρ' : List Addr} {H H' : Hp}
theorem KVs.mono (e : Ext ρ H ρ' H') : ∀ {a : List (D × D)} {b : List (Key × V)}, KVs T ρ H a b → KVs T ρ' H' a b
  | _, _, .nil => .nil
  | _, _, .cons k r t => .cons k (r.mono e) (KVs.mono e t)
theorem KTs.mono (e : Ext ρ H ρ' H') : ∀ {a : List (D × D)} {b : List (List Key × V)}, KTs T ρ H a b → KTs T ρ' H' a b
  | _, _, .nil => .nil
  | _, _, .cons k r t => .cons k (r.mono e) (KTs.mono e t)
theorem FRs.mono (e : Ext ρ H ρ' H') : ∀ {a : List (Nat × D)} {b : List (Str × V)}, FRs T ρ H a b → FRs T ρ' H' a b
  | _, _, .nil => .nil
  | _, _, .cons k r t => .cons k (r.mono e) (FRs.mono e t)
theorem KVs.length : ∀ {a : List (D × D)} {b : List (Key × V)}, KVs T ρ H a b → a.length = b.length
  | _, _, .nil => rfl
  | _, _, .cons _ _ t => by simp [KVs.length t]
theorem KTs.length : ∀ {a : List (D × D)} {b : List (List Key × V)}, KTs T ρ H a b → a.length = b.length
  | _, _, .nil => rfl
  | _, _, .cons _ _ t => by simp [KTs.length t]
theorem FRs.length : ∀ {a : List (Nat × D)} {b : List (Str × V)}, FRs T ρ H a b → a.length = b.length
  | _, _, .nil => rfl
  | _, _, .cons _ _ t => by simp [FRs.length t]

/-- symbols are written once -/
theorem Tab.inj (T : Tab) {i j : Nat} {x : Str} (a : T.syms[i]? = some x) (b : T.syms[j]? = some x) : i = j := nodup_ix T.nd a b
theorem Tab.inj' (T : Tab) {i j : Nat} {x y : Str} (a : T.syms[i]? = some x) (b : T.syms[j]? = some y) : Nat.beq i j = decide (x = y) := by
  by_cases e : x = y
  · subst e
    have := T.inj a b
    subst this
    simp
  · rw [decide_eq_false e]
    have : i ≠ j := fun q => by subst q; rw [a] at b; exact e (Option.some.inj b)
    cases h : Nat.beq i j with
    | false => rfl
    | true => exact absurd (Nat.eq_of_beq_eq_true h) this
end

/-! ### objects -/
inductive OA (T : Tab) (ρ : List Addr) (H : Hp) (a : Addr) : O → Prop
  | lst {ds : List D} {vs : List V} : H a = some (.lst vs) → RDs T ρ H ds vs → OA T ρ H a (.lst ds)
  | dk {kvs : List (D × D)} {ks : List (Key × V)} : H a = some (.dK ks) → KVs T ρ H kvs ks → OA T ρ H a (.dct false kvs)
  | dt {kvs : List (D × D)} {ks : List (List Key × V)} : H a = some (.dT ks) → KTs T ρ H kvs ks → OA T ρ H a (.dct true kvs)
  | ins {c : Nat} {x : Str} {C dx : Addr} {fs : List (Nat × D)} {gs : List (Str × V)} : T.syms[c]? = some x → T.mg x = some (.ref C) → H a = some (.ins C dx gs) → FRs T ρ H fs gs → OA T ρ H a (.ins c fs)
structure Sim (T : Tab) (ρ : List Addr) (S : Sto) (H : Hp) : Prop where
  len : ρ.length = S.length
  nd : ρ.Nodup
  at_ : ∀ (l : Nat) (o : O) (a : Addr), S[l]? = some o → ρ[l]? = some a → OA T ρ H a o
section
variable {T : Tab} {ρ ρ' : List Addr} {S : Sto} {H H' : Hp} {a : Addr} {o : O} {l : Nat}
theorem OA.some (h : OA T ρ H a o) : ∃ u, H a = some u ∧ ¬ Imm u := by
  cases h with
  | lst h _ => exact ⟨_, h, fun z => z⟩
  | dk h _ => exact ⟨_, h, fun z => z⟩
  | dt h _ => exact ⟨_, h, fun z => z⟩
  | ins _ _ h _ => exact ⟨_, h, fun z => z⟩
/-- where its own object stands as it stood -/
theorem OA.mono (h : OA T ρ H a o) (e : Ext ρ H ρ' H') (s : H' a = H a) : OA T ρ' H' a o := by
  cases h with
  | lst h r => exact .lst (s.trans h) (r.mono e)
  | dk h r => exact .dk (s.trans h) (r.mono e)
  | dt h r => exact .dt (s.trans h) (r.mono e)
  | ins h1 h2 h r => exact .ins h1 h2 (s.trans h) (r.mono e)
theorem Sim.get (s : Sim T ρ S H) (h : S[l]? = some o) : ∃ a, ρ[l]? = some a ∧ OA T ρ H a o := by
  have hl : l < ρ.length := by rw [s.len]; exact (List.getElem?_eq_some_iff.mp h).1
  have ha : ρ[l]? = some ρ[l] := by simp [hl]
  exact ⟨_, ha, s.at_ l o _ h ha⟩
theorem Sim.getA (s : Sim T ρ S H) (h : S[l]? = some o) (ha : ρ[l]? = some a) : OA T ρ H a o := s.at_ l o a h ha
/-- a new object -/
theorem Sim.new {p : Addr} {u : HO} (s : Sim T ρ S H) (hp : H p = none) (new : OA T (ρ ++ [p]) (upd H p u) p o) : Sim T (ρ ++ [p]) (S ++ [o]) (upd H p u) ∧ Ext ρ H (ρ ++ [p]) (upd H p u) := by
  have e : Ext ρ H (ρ ++ [p]) (upd H p u) := ⟨⟨[p], rfl⟩, Keep.fresh hp⟩
  have hn : p ∉ ρ := fun hm => by
    obtain ⟨l, hl, e⟩ := List.getElem_of_mem hm
    have h1 : ρ[l]? = Option.some p := by simp [hl, e]
    have h2 : l < S.length := by rw [← s.len]; exact hl
    obtain ⟨u, hu, _⟩ := (s.at_ l S[l] p (by simp [h2]) h1).some
    rw [hp] at hu; cases hu
  refine ⟨⟨by simp [s.len], ?_, fun l o' a h1 h2 => ?_⟩, e⟩
  · rw [List.nodup_append]
    refine ⟨s.nd, by simp, fun a ha b hb => ?_⟩
    simp at hb; subst hb
    exact fun q => hn (q ▸ ha)
  · by_cases hl : l < S.length
    · rw [List.getElem?_append_left hl] at h1
      rw [List.getElem?_append_left (by rw [s.len]; exact hl)] at h2
      refine (s.at_ l o' a h1 h2).mono e (upd_ne fun q => hn ?_)
      subst q
      exact List.mem_of_getElem? h2
    · have h1' := List.getElem?_eq_some_iff.mp h1
      have hl2 : l = S.length := by
        have := h1'.1
        simp at this
        omega
      subst hl2
      rw [← s.len] at h2
      simp at h1 h2
      subst h1 h2
      exact new
/-- a new thing that the store does not know: a tuple -/
theorem Sim.aside {p : Addr} {u : HO} (s : Sim T ρ S H) (hp : H p = none) : Sim T ρ S (upd H p u) ∧ Ext ρ H ρ (upd H p u) := by
  have e : Ext ρ H ρ (upd H p u) := ⟨⟨[], by simp⟩, Keep.fresh hp⟩
  exact ⟨⟨s.len, s.nd, fun l o a h1 h2 => (s.at_ l o a h1 h2).mono e (upd_ne fun q => by
    subst q
    obtain ⟨w, hw, _⟩ := (s.at_ l o _ h1 h2).some
    rw [hp] at hw; cases hw)⟩, e⟩
/-- an object changed -/
theorem Sim.set {u : HO} {o' : O} (s : Sim T ρ S H) (h : S[l]? = some o) (ha : ρ[l]? = some a) (new : Ext ρ H ρ (upd H a u) → OA T ρ (upd H a u) a o') : Sim T ρ (S.set l o') (upd H a u) ∧ Ext ρ H ρ (upd H a u) := by
  obtain ⟨w, hw, ni⟩ := (s.getA h ha).some
  have e : Ext ρ H ρ (upd H a u) := ⟨⟨[], by simp⟩, Keep.mut hw ni⟩
  refine ⟨⟨by simp [s.len], s.nd, fun k o2 b h1 h2 => ?_⟩, e⟩
  by_cases hk : l = k
  · subst hk
    rw [ha] at h2; cases h2
    have hl : l < S.length := (List.getElem?_eq_some_iff.mp h).1
    rw [List.getElem?_set_self hl] at h1
    cases h1
    exact new e
  · rw [List.getElem?_set_ne hk] at h1
    refine (s.at_ k o2 b h1 h2).mono e (upd_ne fun q => hk ?_)
    subst q
    exact nodup_ixG s.nd ha h2
end

/-! ### frames -/
structure FR (T : Tab) (ρ : List Addr) (H : Hp) (fr : Fr) (σ : L2.St) : Prop where
  len : fr.length = σ.length
  at_ : ∀ (i : Nat) (d : D), fr[i]? = some (some d) → ∃ v, σ[i]? = some (some v) ∧ RD T ρ H d v
section
variable {T : Tab} {ρ ρ' : List Addr} {H H' : Hp} {fr : Fr} {σ : L2.St}
theorem FR.mono (f : FR T ρ H fr σ) (e : Ext ρ H ρ' H') : FR T ρ' H' fr σ := ⟨f.len, fun i d h => let ⟨v, h1, h2⟩ := f.at_ i d h; ⟨v, h1, h2.mono e⟩⟩
theorem FR.set (f : FR T ρ H fr σ) {i : Nat} {d : D} {v : V} (r : RD T ρ H d v) : FR T ρ H (fr.set i (some d)) (σ.set i (some v)) := by
  refine ⟨by simp [f.len], fun j e h => ?_⟩
  by_cases hij : i = j
  · subst hij
    have hl : i < fr.length := by
      have := (List.getElem?_eq_some_iff.mp h).1
      simpa using this
    rw [List.getElem?_set_self hl] at h
    cases h
    exact ⟨v, List.getElem?_set_self (by rw [← f.len]; exact hl), r⟩
  · rw [List.getElem?_set_ne hij] at h
    obtain ⟨w, h1, h2⟩ := f.at_ j e h
    exact ⟨w, by rw [List.getElem?_set_ne hij]; exact h1, h2⟩
theorem FR.unset (f : FR T ρ H fr σ) {i : Nat} : FR T ρ H (fr.set i none) (σ.set i none) := by
  refine ⟨by simp [f.len], fun j e h => ?_⟩
  by_cases hij : i = j
  · subst hij
    have hl : i < fr.length := by
      have := (List.getElem?_eq_some_iff.mp h).1
      simpa using this
    rw [List.getElem?_set_self hl] at h
    cases h
  · rw [List.getElem?_set_ne hij] at h
    obtain ⟨w, h1, h2⟩ := f.at_ j e h
    exact ⟨w, by rw [List.getElem?_set_ne hij]; exact h1, h2⟩
theorem FR.wipe (f : FR T ρ H fr σ) : ∀ vs : List Nat, FR T ρ H (PD.wipe fr vs) (L2.wipe σ vs)
  | [] => f
  | v :: vs => (FR.wipe f vs).unset
theorem nthFr_eq {fr : Fr} {i : Nat} {d : D} (h : nthFr fr i = some d) : fr[i]? = some (some d) := by
  unfold nthFr at h
  rw [nth_eq] at h
  split at h
  · rename_i e; cases h; exact e
  · cases h
end

/-! ### what is wanted behind a meaning -/
/-- an exception in the air -/
def ExR (T : Tab) (ρ : List Addr) (H : Hp) (c : Nat) (fs : List (Nat × D)) (cv : Value) (dx : Option Addr) : Prop :=
  ∃ x C, T.syms[c]? = some x ∧ T.mg x = some (.ref C) ∧ cv = .ref C ∧ ((fs = [] ∧ dx = none) ∨ ∃ d gs, dx = some d ∧ H d = some (.xd gs) ∧ FRs T ρ H fs gs)
def Po (T : Tab) (W : Value → Option Addr → Hp → Prop) (ρ : List Addr) (H : Hp) {α : Type} (x : R α) (Q : α → Sto → List Addr → Hp → Prop) : Prop := match x with
  | .ok a S' => ∀ ρ' H', Ext ρ H ρ' H' → Sim T ρ' S' H' → Q a S' ρ' H'
  | .ex c fs S' => ∀ ρ' H' cv dx, Ext ρ H ρ' H' → Sim T ρ' S' H' → ExR T ρ' H' c fs cv dx → W cv dx H'
  | .no => False
section
variable {T : Tab} {W : Value → Option Addr → Hp → Prop} {ρ ρ' : List Addr} {H H' : Hp} {α β : Type} {x : R α} {f : α → Sto → R β} {Q Q' : α → Sto → List Addr → Hp → Prop} {P : β → Sto → List Addr → Hp → Prop}
theorem Po.mono (h : Po T W ρ H x Q) (e : Ext ρ H ρ' H') : Po T W ρ' H' x Q := by
  cases x with
  | ok a s => exact fun ρ2 H2 e2 s2 => h ρ2 H2 (e.trans e2) s2
  | ex c fs s => exact fun ρ2 H2 cv dx e2 s2 x2 => h ρ2 H2 cv dx (e.trans e2) s2 x2
  | no => exact h
theorem Po.imp (h : Po T W ρ H x Q) (i : ∀ a S' ρ' H', Ext ρ H ρ' H' → Sim T ρ' S' H' → Q a S' ρ' H' → Q' a S' ρ' H') : Po T W ρ H x Q' := by
  cases x with
  | ok a s => exact fun ρ2 H2 e2 s2 => i a s ρ2 H2 e2 s2 (h ρ2 H2 e2 s2)
  | ex c fs s => exact h
  | no => exact h
theorem Po.bind (h : Po T W ρ H (x.bind f) P) : Po T W ρ H x (fun a S1 ρ1 H1 => Po T W ρ1 H1 (f a S1) P) := by
  cases x with
  | ok a s => exact fun ρ2 H2 e2 s2 => Po.mono (x := f a s) h e2
  | ex c fs s => exact h
  | no => exact h
theorem Po.ok {a : α} {S : Sto} (h : Po T W ρ H (.ok a S) Q) (s : Sim T ρ S H) : Q a S ρ H := h ρ H Ext.refl s
end
end PD
end Sec1
section Sec2
set_option Elab.async false
set_option linter.all false
set_option maxRecDepth 100000
set_option maxHeartbeats 4000000
/-! PD2: operators, built-ins, methods by values: the layer's rules bring what PD0 says. -/
namespace PD
open PySem PySem.Spec PyProof.Rows L2

theorem line_le {n : Nat} (h : Nat.ble n line = true) : n ≤ sizeLine := by rw [sizeLine_eq]; exact Nat.le_of_ble_eq_true h
theorem line_lt {n : Nat} (h : Nat.blt n line = true) : n < sizeLine := by rw [sizeLine_eq]; exact Nat.le_of_ble_eq_true h

abbrev W0 : Value → Option Addr → Hp → Prop := fun _ _ _ => False
/-- a meaning by values that raises nothing -/
def PoV (T : Tab) (ρ : List Addr) (H : Hp) (x : R D) (Q : VK) : Prop := Po T W0 ρ H x fun d _ ρ' H' => ∀ v, RD T ρ' H' d v → Q v H'
section
variable {T : Tab} {ρ : List Addr} {H : Hp} {S : Sto} {Q : VK} {d : D} {v : V} {o : O} {l : Nat} {a : Addr}
theorem PoV.ok (h : PoV T ρ H (.ok d S) Q) (s : Sim T ρ S H) (r : RD T ρ H d v) : Q v H := Po.ok h s v r
theorem PoV.new {u : HO} {p : Addr} (h : PoV T ρ H (new1 S o) Q) (s : Sim T ρ S H) (hp : H p = none) (new : Ext ρ H (ρ ++ [p]) (upd H p u) → OA T (ρ ++ [p]) (upd H p u) p o) : Q (.ref p) (upd H p u) := by
  have e0 : Ext ρ H (ρ ++ [p]) (upd H p u) := ⟨⟨[p], rfl⟩, Keep.fresh hp⟩
  obtain ⟨s', e⟩ := s.new hp (new e0)
  refine h _ _ e s' (.ref p) (.ref ?_)
  rw [← s.len]
  simp
theorem PoV.tup {p : Addr} {ds : List D} {vs : List V} (h : PoV T ρ H (.ok (.tup ds) S) Q) (s : Sim T ρ S H) (hp : H p = none) (r : RDs T ρ H ds vs) : Q (.ref p) (upd H p (.tup vs)) := by
  obtain ⟨s', e⟩ := s.aside (u := .tup vs) hp
  exact h ρ _ e s' _ (.tup upd_same (r.mono e))
theorem PoV.set {u : HO} {o' : O} (h : PoV T ρ H (.ok d (S.set l o')) Q) (s : Sim T ρ S H) (ho : S[l]? = some o) (ha : ρ[l]? = some a) (new : Ext ρ H ρ (upd H a u) → OA T ρ (upd H a u) a o') (r : Ext ρ H ρ (upd H a u) → RD T ρ (upd H a u) d v) : Q v (upd H a u) := by
  obtain ⟨s', e⟩ := s.set ho ha new
  exact h _ _ e s' v (r e)
end

/-! ### seen as sequences -/
section
variable {T : Tab} {ρ : List Addr} {H : Hp} {S : Sto} {d : D} {v : V}
theorem lst_nth {l : Nat} {xs : List D} (e : lstO S l = some xs) : S[l]? = some (.lst xs) := by
  unfold lstO at e
  rw [nth_eq] at e
  split at e
  · rename_i q; cases e; exact q
  · cases e
theorem lst_at {l : Nat} {a : Addr} {xs : List D} (s : Sim T ρ S H) (e : lstO S l = some xs) (ha : ρ[l]? = some a) : ∃ vs, H a = some (.lst vs) ∧ RDs T ρ H xs vs := by
  cases s.getA (lst_nth e) ha with
  | lst h1 h2 => exact ⟨_, h1, h2⟩
theorem seq_at {xs : List D} (s : Sim T ρ S H) (r : RD T ρ H d v) (h : seqO S d = some xs) : ∃ a vs, v = .ref a ∧ (SqL T.K H a vs ∨ SqT T.K H a vs) ∧ RDs T ρ H xs vs := by
  unfold seqO at h
  split at h
  · cases h; cases r with | tup h1 h2 => exact ⟨_, _, rfl, .inr (SqT.of h1), h2⟩
  · cases h; cases r with | ctp h1 h2 => exact ⟨_, _, rfl, .inr h1.t, h2⟩
  · cases h; cases r with | rol h1 h2 => exact ⟨_, _, rfl, .inl h1.l, h2⟩
  · rename_i l
    cases r with
    | ref ha =>
      obtain ⟨vs, h1, h2⟩ := lst_at s h ha
      exact ⟨_, _, rfl, .inl (SqL.of h1), h2⟩
  · cases h
end

theorem tup_at {T : Tab} {ρ : List Addr} {H : Hp} {d : D} {v : V} {xs : List D} (r : RD T ρ H d v) (h : tupO d = some xs) : ∃ a vs, v = .ref a ∧ (∀ H0 : Hp, SqT T.K H a vs) ∧ RDs T ρ H xs vs := by
  unfold tupO at h
  split at h
  · cases h; cases r with | tup h1 h2 => exact ⟨_, _, rfl, fun _ => SqT.of h1, h2⟩
  · cases h; cases r with | ctp h1 h2 => exact ⟨_, _, rfl, fun _ => h1.t, h2⟩
  · cases h

/-! ### binary operators -/
def bo : BO → Operator
  | .add => .Add | .sub => .Sub | .mul => .Mult | .mod => .Mod | .fdiv => .FloorDiv | .pow => .Pow
def rBin (T : Tab) (o : BO) : R2 := fun x y H Q => ∃ ρ S a b, Sim T ρ S H ∧ RD T ρ H a x ∧ RD T ρ H b y ∧ PoV T ρ H (binD o a b S) Q
theorem in64_ok {i : Int} (h : in64 i = true) : -(2 ^ 64) < i ∧ i < 2 ^ 64 := by
  cases i with
  | ofNat n => have : n < 18446744073709551616 := Nat.le_of_ble_eq_true h; rw [Int.ofNat_eq_natCast]; constructor <;> omega
  | negSucc n => have : n < 18446744073709551615 := Nat.le_of_ble_eq_true h; constructor <;> omega
theorem isPos_ok {i : Int} (h : isPos i = true) : 0 < i := by
  unfold isPos at h
  split at h
  · cases h
  · exact Int.natCast_pos.mpr (Nat.succ_pos _)
  · cases h
theorem natI_ok (i : Int) : natI i = i.natAbs := by cases i <;> simp [natI]
section
variable {T : Tab} {X : Cx}
theorem op_bin (hK : X.K = T.K) (o : BO) : OpR X (binaryOp (bo o)) (rBin T o) := by
  intro pins s σ H x y v u Q I rx ry h
  obtain ⟨ρ, S, a, b, sm, ra, rb, h⟩ := h
  cases o with
  | add =>
    have tt : ∀ {a b : D}, RD T ρ H a x → RD T ρ H b y → PoV T ρ H (catT a b S) Q → wpAny (model X.prog X.w) X.A (binaryOp .Add v u) (EP X pins σ Q) X.xe s := by
      intro a b ra rb h
      unfold catT at h
      split at h
      · rename_i xs ys e1 e2
        obtain ⟨p1, vs, rfl, h1, q1⟩ := tup_at ra e1
        obtain ⟨p2, ws, rfl, h2, q2⟩ := tup_at rb e2
        rw [← hK] at h1 h2
        split at h
        · rename_i hz
          have hz' := line_le hz
          rw [q1.length, q2.length] at hz'
          refine op_catA pins s σ H _ _ v u Q I rx ry ⟨_, _, _, _, rfl, rfl, h1 H, h2 H, hz', fun e => ?_, fun e e' => ?_, fun e e' p hp => ?_⟩
          · subst e
            cases q1
            exact h.ok sm rb
          · subst e'
            cases q2
            cases q1 with
            | nil => exact absurd rfl e
            | cons r rs => exact h.ok sm ra
          · cases q1 with
            | nil => exact absurd rfl e
            | cons r rs =>
              cases q2 with
              | nil => exact absurd rfl e'
              | cons r2 rs2 => exact h.tup sm hp ((RDs.cons r rs).append (.cons r2 rs2))
        · exact h.elim
      · exact h.elim
    unfold binD at h
    cases a <;> cases b <;> (try exact tt ra rb h)
    · cases ra; cases rb
      exact op_add pins s σ H _ _ v u Q I rx ry ⟨_, _, rfl, rfl, h.ok sm (.int _)⟩
    · rename_i l k
      dsimp only at h
      split at h
      · rename_i xs ys e1 e2
        split at h
        · rename_i hz
          cases ra with
          | ref ha =>
            cases rb with
            | ref hb =>
              obtain ⟨vs, h1, q1⟩ := lst_at sm e1 ha
              obtain ⟨ws, h2, q2⟩ := lst_at sm e2 hb
              have hz' := line_le hz
              rw [q1.length, q2.length] at hz'
              exact op_cat pins s σ H _ _ v u Q I rx ry ⟨_, _, _, _, rfl, rfl, h1, h2, hz', fun p hp => h.new sm hp fun e => .lst upd_same ((q1.append q2).mono e)⟩
        · exact h.elim
      · exact h.elim
  | sub =>
    unfold binD at h
    cases a <;> cases b <;> (try exact h.elim)
    cases ra; cases rb
    exact op_sub pins s σ H _ _ v u Q I rx ry ⟨_, _, rfl, rfl, h.ok sm (.int _)⟩
  | mul =>
    unfold binD at h
    cases a <;> cases b <;> (try exact h.elim)
    cases ra; cases rb
    dsimp only at h
    split at h
    · rename_i hc
      refine op_mul pins s σ H _ _ v u Q I rx ry ⟨_, _, rfl, rfl, ?_, h.ok sm (.int _)⟩
      rcases Bool.or_eq_true_iff.mp hc with hc | hc
      · exact .inl (in64_ok hc)
      · exact .inr (in64_ok hc)
    · exact h.elim
  | mod =>
    unfold binD at h
    cases a <;> cases b <;> (try exact h.elim)
    cases ra; cases rb
    dsimp only at h
    split at h
    · rename_i hc
      exact op_mod pins s σ H _ _ v u Q I rx ry ⟨_, _, rfl, rfl, isPos_ok hc, h.ok sm (.int _)⟩
    · exact h.elim
  | fdiv =>
    unfold binD at h
    cases a <;> cases b <;> (try exact h.elim)
    cases ra; cases rb
    dsimp only at h
    split at h
    · rename_i hc
      obtain ⟨c1, c2⟩ := Bool.and_eq_true_iff.mp hc
      have c3 := isPos_ok c1
      have c4 := Nat.le_of_ble_eq_true c2
      rw [natI_ok] at c4
      exact op_fdiv pins s σ H _ _ v u Q I rx ry ⟨_, _, rfl, rfl, ⟨c3, by omega⟩, h.ok sm (.int _)⟩
    · exact h.elim
  | pow =>
    unfold binD at h
    cases a <;> cases b <;> (try exact h.elim)
    rename_i i j
    cases ra; cases rb
    dsimp only at h
    split at h
    · rename_i hc
      obtain ⟨c1, c4⟩ := Bool.and_eq_true_iff.mp hc
      obtain ⟨c1, c2⟩ := Bool.and_eq_true_iff.mp c1
      have c2 := Nat.le_of_ble_eq_true c2
      have c4 := Nat.le_of_ble_eq_true c4
      rw [natI_ok] at c2 c4
      have c3 : 0 ≤ j := by
        cases j with
        | ofNat n => exact Int.natCast_nonneg n
        | negSucc n => exact absurd c1 (by simp [isNN])
      have e : j.toNat = natI j := by rw [natI_ok]; omega
      refine op_pow pins s σ H _ _ v u Q I rx ry ⟨_, _, rfl, rfl, ⟨c3, by omega, by omega⟩, ?_⟩
      show Q (.int (i ^ j.toNat)) H
      rw [e]
      exact h.ok sm (.int _)
    · exact h.elim
end

/-! ### == -/
def toPy (T : Tab) (S : Sto) : Nat → D → PyData
  | 0, _ => .none
  | n + 1, d => match d with
    | .bl b => .bool b
    | .int i => .int i
    | .str k => .str (T.sy k)
    | .tup xs => .tuple (xs.map (toPy T S n))
    | .ctp xs => .tuple (xs.map (toPy T S n))
    | .ref l => match lstO S l with
      | some xs => .list (xs.map (toPy T S n))
      | none => .none
    | _ => .none
theorem sy_at {T : Tab} {k : Nat} {x : Str} (h : T.syms[k]? = some x) : T.sy k = x := by
  unfold Tab.sy
  rw [List.getD_eq_getElem?_getD, h]; rfl
section
variable {T : Tab} {ρ : List Addr} {H : Hp} {S : Sto}
theorem dp_all {n : Nat} (ih : ∀ (d : D) (v : V), shpD n S d = true → RD T ρ H d v → Dp T.K H v (toPy T S n d)) : ∀ {xs : List D} {vs : List V}, xs.all (shpD n S) = true → RDs T ρ H xs vs → DpAll T.K H vs (xs.map (toPy T S n))
  | _, _, _, .nil => .nil
  | _, _, h, .cons r rs => by
    rw [List.all_cons, Bool.and_eq_true] at h
    exact .cons (ih _ _ h.1 r) (dp_all ih h.2 rs)
theorem dp_of (s : Sim T ρ S H) : ∀ (n : Nat) (d : D) (v : V), shpD n S d = true → RD T ρ H d v → Dp T.K H v (toPy T S n d)
  | 0, _, _, h, _ => by simp [shpD] at h
  | n + 1, d, v, h, r => by
    unfold shpD at h
    unfold toPy
    cases r with
    | non => exact .non
    | bl b => exact .bl b
    | int i => exact .int i
    | str e => dsimp only; rw [sy_at e]; exact .str _
    | tup h1 q => exact .tup (SqT.of h1) (dp_all (dp_of s n) h q)
    | ctp h1 q => exact .tup h1.t (dp_all (dp_of s n) h q)
    | ref ha =>
      dsimp only at h ⊢
      split at h
      · rename_i xs e
        obtain ⟨vs, h1, q⟩ := lst_at s e ha
        try rw [e]
        exact .lst (SqL.of h1) (dp_all (dp_of s n) h q)
      · cases h
    | glo _ _ => cases h
    | rol _ _ => cases h
    | kd _ => cases h
theorem lay_all {n : Nat} (ih : ∀ (d : D) (v : V), shpD n S d = true → RD T ρ H d v → (toPy T S n d).canLay0 = true ∧ (toPy T S n d).depth ≤ n) : ∀ {xs : List D} {vs : List V}, xs.all (shpD n S) = true → RDs T ρ H xs vs →
    PyData.canLayAll0 (xs.map (toPy T S n)) = true ∧ PyData.depthAll (xs.map (toPy T S n)) ≤ n
  | _, _, _, .nil => ⟨by simp [PyData.canLayAll0], by simp [PyData.depthAll]⟩
  | _, _, h, .cons r rs => by
    rw [List.all_cons, Bool.and_eq_true] at h
    obtain ⟨a1, a2⟩ := ih _ _ h.1 r
    obtain ⟨b1, b2⟩ := lay_all ih h.2 rs
    simp only [List.map_cons, PyData.canLayAll0, PyData.depthAll, a1, b1, Bool.and_self, true_and]
    omega
theorem lay_of (s : Sim T ρ S H) : ∀ (n : Nat) (d : D) (v : V), shpD n S d = true → RD T ρ H d v → (toPy T S n d).canLay0 = true ∧ (toPy T S n d).depth ≤ n
  | 0, _, _, h, _ => by simp [shpD] at h
  | n + 1, d, v, h, r => by
    unfold shpD at h
    unfold toPy
    cases r with
    | non => simp [PyData.canLay0, PyData.depth]
    | bl b => simp [PyData.canLay0, PyData.depth]
    | int i => simp [PyData.canLay0, PyData.depth]
    | str e =>
      dsimp only; rw [sy_at e]
      simp only [PyData.canLay0, PyData.depth, Nat.zero_le, and_true]
      exact T.ok _ (List.mem_of_getElem? e)
    | tup h1 q =>
      obtain ⟨a1, a2⟩ := lay_all (lay_of s n) h q
      simp only [PyData.canLay0, PyData.depth, a1, true_and]; omega
    | ctp h1 q =>
      obtain ⟨a1, a2⟩ := lay_all (lay_of s n) h q
      simp only [PyData.canLay0, PyData.depth, a1, true_and]; omega
    | ref ha =>
      dsimp only at h ⊢
      split at h
      · rename_i xs e
        obtain ⟨vs, h1, q⟩ := lst_at s e ha
        try rw [e]
        obtain ⟨a1, a2⟩ := lay_all (lay_of s n) h q
        simp only [PyData.canLay0, PyData.depth, a1, true_and]; omega
      · cases h
    | glo _ _ => cases h
    | rol _ _ => cases h
    | kd _ => cases h
theorem eqbs_py {n : Nat} (ih : ∀ (a b : D) (v w : V), shpD n S a = true → shpD n S b = true → RD T ρ H a v → RD T ρ H b w → eqb n S a b = PyData.eqv (toPy T S n a) (toPy T S n b)) : ∀ {xs ys : List D} {vs ws : List V},
    xs.all (shpD n S) = true → ys.all (shpD n S) = true → RDs T ρ H xs vs → RDs T ρ H ys ws → eqbs (eqb n S) xs ys = PyData.eqvAll (xs.map (toPy T S n)) (ys.map (toPy T S n))
  | _, _, _, _, _, _, .nil, .nil => by simp [eqbs, PyData.eqvAll]
  | _, _, _, _, _, _, .nil, .cons _ _ => by simp [eqbs, PyData.eqvAll]
  | _, _, _, _, _, _, .cons _ _, .nil => by simp [eqbs, PyData.eqvAll]
  | _, _, _, _, h1, h2, .cons r rs, .cons q qs => by
    rw [List.all_cons, Bool.and_eq_true] at h1 h2
    simp only [List.map_cons, eqbs, PyData.eqvAll]
    rw [ih _ _ _ _ h1.1 h2.1 r q, eqbs_py ih h1.2 h2.2 rs qs]
theorem eqb_py (s : Sim T ρ S H) : ∀ (n : Nat) (a b : D) (v w : V), shpD n S a = true → shpD n S b = true → RD T ρ H a v → RD T ρ H b w → eqb n S a b = PyData.eqv (toPy T S n a) (toPy T S n b) := by
  intro n
  induction n with
  | zero => intro _ _ _ _ h; simp [shpD] at h
  | succ n ih =>
    have lf : ∀ (l : Nat), shpD (n + 1) S (.ref l) = true → ∃ xs, lstO S l = some xs ∧ xs.all (shpD n S) = true ∧ toPy T S (n + 1) (.ref l) = .list (xs.map (toPy T S n)) := by
      intro l h
      have h2 : (match lstO S l with
        | some xs => xs.all (shpD n S)
        | none => false) = true := h
      cases e : lstO S l with
      | none => rw [e] at h2; cases h2
      | some xs =>
        rw [e] at h2
        refine ⟨xs, rfl, h2, ?_⟩
        show (match lstO S l with
          | some xs => PyData.list (xs.map (toPy T S n))
          | none => PyData.none) = _
        rw [e]
    intro a b v w ha hb ra rb
    cases ra with
    | glo _ _ => cases ha
    | rol _ _ => cases ha
    | kd _ => cases ha
    | ref h1 =>
      obtain ⟨xs, e1, a1, t1⟩ := lf _ ha
      rw [t1]
      cases rb with
      | glo _ _ => cases hb
      | rol _ _ => cases hb
      | kd _ => cases hb
      | ref h2 =>
        obtain ⟨ys, e2, a2, t2⟩ := lf _ hb
        rw [t2]
        obtain ⟨vs, _, q1⟩ := lst_at s e1 h1
        obtain ⟨ws, _, q2⟩ := lst_at s e2 h2
        show (match lstO S _, lstO S _ with
          | some x, some y => eqbs (eqb n S) x y
          | _, _ => false) = _
        rw [e1, e2]
        exact eqbs_py ih a1 a2 q1 q2
      | non => rfl
      | bl _ => rfl
      | int _ => rfl
      | str _ => rfl
      | tup _ _ => rfl
      | ctp _ _ => rfl
    | non =>
      cases rb with
      | glo _ _ => cases hb
      | rol _ _ => cases hb
      | kd _ => cases hb
      | ref h2 => obtain ⟨ys, e2, a2, t2⟩ := lf _ hb; rw [t2]; rfl
      | non => rfl
      | bl _ => rfl
      | int _ => rfl
      | str _ => rfl
      | tup _ _ => rfl
      | ctp _ _ => rfl
    | bl x =>
      cases rb with
      | glo _ _ => cases hb
      | rol _ _ => cases hb
      | kd _ => cases hb
      | ref h2 => obtain ⟨ys, e2, a2, t2⟩ := lf _ hb; rw [t2]; rfl
      | non => rfl
      | bl _ => rfl
      | int _ => exact (Bool.beq_eq_decide_eq _ _).symm
      | str _ => rfl
      | tup _ _ => rfl
      | ctp _ _ => rfl
    | int x =>
      cases rb with
      | glo _ _ => cases hb
      | rol _ _ => cases hb
      | kd _ => cases hb
      | ref h2 => obtain ⟨ys, e2, a2, t2⟩ := lf _ hb; rw [t2]; rfl
      | non => rfl
      | bl _ => exact (Bool.beq_eq_decide_eq _ _).symm
      | int _ => exact (Bool.beq_eq_decide_eq _ _).symm
      | str _ => rfl
      | tup _ _ => rfl
      | ctp _ _ => rfl
    | str e1 =>
      cases rb with
      | glo _ _ => cases hb
      | rol _ _ => cases hb
      | kd _ => cases hb
      | ref h2 => obtain ⟨ys, e2, a2, t2⟩ := lf _ hb; rw [t2]; rfl
      | non => rfl
      | bl _ => rfl
      | int _ => rfl
      | str e2 =>
        show Nat.beq _ _ = (T.sy _ == T.sy _)
        rw [sy_at e1, sy_at e2, T.inj' e1 e2, Bool.beq_eq_decide_eq]
      | tup _ _ => rfl
      | ctp _ _ => rfl
    | tup _ q1 =>
      cases rb with
      | glo _ _ => cases hb
      | rol _ _ => cases hb
      | kd _ => cases hb
      | ref h2 => obtain ⟨ys, e2, a2, t2⟩ := lf _ hb; rw [t2]; rfl
      | non => rfl
      | bl _ => rfl
      | int _ => rfl
      | str _ => rfl
      | tup _ q2 => exact eqbs_py ih ha hb q1 q2
      | ctp _ q2 => exact eqbs_py ih ha hb q1 q2
    | ctp _ q1 =>
      cases rb with
      | glo _ _ => cases hb
      | rol _ _ => cases hb
      | kd _ => cases hb
      | ref h2 => obtain ⟨ys, e2, a2, t2⟩ := lf _ hb; rw [t2]; rfl
      | non => rfl
      | bl _ => rfl
      | int _ => rfl
      | str _ => rfl
      | tup _ q2 => exact eqbs_py ih ha hb q1 q2
      | ctp _ q2 => exact eqbs_py ih ha hb q1 q2
theorem shaped_of (s : Sim T ρ S H) {d : D} {v : V} (h : shpD depthE S d = true) (r : RD T ρ H d v) : SeqAt.shaped (toPy T S depthE d) = true := by
  obtain ⟨a, b⟩ := lay_of s depthE d v h r
  unfold SeqAt.shaped
  rw [a, Bool.true_and]
  exact decide_eq_true (Nat.le_trans b (by decide))
end
end PD
end Sec2
section Sec3
set_option Elab.async false
set_option linter.all false
set_option maxRecDepth 100000
set_option maxHeartbeats 4000000
/-! PD3: comparisons, built-ins, subscripts, slices, methods by values. -/
namespace PD
open PySem PySem.Spec PyProof.Rows L2

def co : CO → CmpOp
  | .eq => .Eq | .ne => .NotEq | .lt => .Lt | .le => .LtE | .gt => .Gt | .ge => .GtE | .in_ => .In | .nin => .NotIn | .is_ => .Is | .isn => .IsNot
def rCmp (T : Tab) (o : CO) : R2 := fun x y H Q => ∃ ρ S a b, Sim T ρ S H ∧ RD T ρ H a x ∧ RD T ρ H b y ∧ PoV T ρ H (cmpR o a b S) Q

/-! ### keys -/
section
variable {T : Tab} {ρ : List Addr} {H : Hp}
theorem KR.of {d : D} {v : V} (r : RD T ρ H d v) (h : keyD d = true) : ∃ k, KR T d k ∧ v = kV k := by
  cases r <;> first | (cases h; done) | skip
  · exact ⟨_, .int _, rfl⟩
  · rename_i e; exact ⟨_, .str e, rfl⟩
theorem KRs.of : ∀ {ds : List D} {vs : List V}, RDs T ρ H ds vs → ds.all keyD = true → ∃ ks, KRs T ds ks ∧ vs = ks.map kV
  | _, _, .nil, _ => ⟨[], .nil, rfl⟩
  | _, _, .cons r rs, h => by
    rw [List.all_cons, Bool.and_eq_true] at h
    obtain ⟨k, k1, rfl⟩ := KR.of r h.1
    obtain ⟨ks, k2, rfl⟩ := KRs.of rs h.2
    exact ⟨k :: ks, .cons k1 k2, rfl⟩
theorem KR.beq {a b : D} {x y : Key} (h1 : KR T a x) (h2 : KR T b y) : D.beq a b = decide (x = y) := by
  cases h1 <;> cases h2
  · rw [key_ll]; simp [D.beq, Bool.beq_eq_decide_eq]
  · rw [key_lr]; rfl
  · rw [key_rl]; rfl
  · rename_i e1 _ _ e2
    rw [key_rr]
    exact T.inj' e1 e2
theorem KRs.beq : ∀ {a b : List D} {x y : List Key}, KRs T a x → KRs T b y → D.beqs a b = decide (x = y)
  | _, _, _, _, .nil, .nil => by simp [D.beqs]
  | _, _, _, _, .nil, .cons _ _ => by simp [D.beqs]
  | _, _, _, _, .cons _ _, .nil => by simp [D.beqs]
  | _, _, _, _, .cons k ks, .cons q qs => by
    simp only [D.beqs]
    rw [KR.beq k q, KRs.beq ks qs]
    simp [List.cons.injEq, Bool.decide_and]
theorem KVs.lk {d : D} {k : Key} (h : KR T d k) : ∀ {a : List (D × D)} {b : List (Key × V)}, KVs T ρ H a b → match lkD a d with
    | some e => ∃ v, valV b k = some v ∧ RD T ρ H e v
    | none => valV b k = none
  | _, _, .nil => rfl
  | _, _, .cons (k := k0) q r t => by
    unfold lkD
    have e := KR.beq q h
    by_cases hk : D.beq k0 d = true
    · rw [if_pos hk]
      rw [hk] at e
      exact ⟨_, valV_pos (of_decide_eq_true e.symm), r⟩
    · rw [if_neg hk]
      have e2 := eq_false_of_ne_true hk
      rw [e2] at e
      rw [valV_neg (p := (_, _)) (of_decide_eq_false e.symm)]
      exact KVs.lk h t
theorem KTs.lk {ds : List D} {d : D} {k : List Key} (hd : tupO d = some ds) (h : KRs T ds k) : ∀ {a : List (D × D)} {b : List (List Key × V)}, KTs T ρ H a b → match lkD a d with
    | some e => ∃ v, valV b k = some v ∧ RD T ρ H e v
    | none => valV b k = none
  | _, _, .nil => rfl
  | _, _, .cons (ks := k0) q r t => by
    unfold lkD
    have e := KRs.beq q h
    have e0 : ∀ xs : List D, D.beq (.tup xs) d = D.beqs xs ds := fun xs => by
      cases d <;> first | (cases hd; done) | (cases hd; rfl)
    rw [← e0] at e
    by_cases hk : D.beq (.tup k0) d = true
    · rw [if_pos hk]
      rw [hk] at e
      exact ⟨_, valV_pos (of_decide_eq_true e.symm), r⟩
    · rw [if_neg hk]
      have e2 := eq_false_of_ne_true hk
      rw [e2] at e
      rw [valV_neg (p := (_, _)) (of_decide_eq_false e.symm)]
      exact KTs.lk hd h t
theorem KVs.snoc {k d : D} {y : Key} {v : V} (h : KR T k y) (r : RD T ρ H d v) : ∀ {a : List (D × D)} {b : List (Key × V)}, KVs T ρ H a b → KVs T ρ H (a ++ [(k, d)]) (b ++ [(y, v)])
  | _, _, .nil => .cons h r .nil
  | _, _, .cons q s t => .cons q s (KVs.snoc h r t)
theorem KVs.any {k : D} {y : Key} (h : KR T k y) : ∀ {a : List (D × D)} {b : List (Key × V)}, KVs T ρ H a b → (a.any fun p => D.beq p.1 k) = b.any fun kv => decide (kv.1 = y)
  | _, _, .nil => rfl
  | _, _, .cons q s t => by rw [List.any_cons, List.any_cons, KR.beq q h, KVs.any h t]
theorem KVs.repl {k d : D} {y : Key} {v : V} (h : KR T k y) (r : RD T ρ H d v) : ∀ {a : List (D × D)} {b : List (Key × V)}, KVs T ρ H a b →
    KVs T ρ H (a.map fun p => if D.beq p.1 k then (p.1, d) else p) (b.map fun kv => if kv.1 = y then (kv.1, v) else kv)
  | _, _, .nil => .nil
  | _, _, .cons (y := y0) q s t => by
    rw [List.map_cons, List.map_cons]
    dsimp only
    rw [KR.beq q h]
    by_cases e : y0 = y
    · rw [if_pos e, if_pos (decide_eq_true e)]; exact .cons q r (KVs.repl h r t)
    · rw [if_neg e, if_neg (by rw [decide_eq_false e]; exact Bool.false_ne_true)]; exact .cons q s (KVs.repl h r t)
theorem KVs.put {k d : D} {y : Key} {v : V} (h : KR T k y) (r : RD T ρ H d v) {a : List (D × D)} {b : List (Key × V)} (t : KVs T ρ H a b) : KVs T ρ H (putD a k d) (putK b y v) := by
  unfold putD putK
  rw [t.any h]
  split
  · exact t.repl h r
  · exact t.snoc h r
theorem KTs.snoc {ks : List D} {d : D} {y : List Key} {v : V} (h : KRs T ks y) (r : RD T ρ H d v) : ∀ {a : List (D × D)} {b : List (List Key × V)}, KTs T ρ H a b → KTs T ρ H (a ++ [(.tup ks, d)]) (b ++ [(y, v)])
  | _, _, .nil => .cons h r .nil
  | _, _, .cons q s t => .cons q s (KTs.snoc h r t)
theorem KTs.any {ks : List D} {y : List Key} (h : KRs T ks y) : ∀ {a : List (D × D)} {b : List (List Key × V)}, KTs T ρ H a b → (a.any fun p => D.beq p.1 (.tup ks)) = b.any fun kv => decide (kv.1 = y)
  | _, _, .nil => rfl
  | _, _, .cons q s t => by
    rw [List.any_cons, List.any_cons, ← KRs.beq q h, KTs.any h t]
    rfl
theorem KTs.repl {ks : List D} {d : D} {y : List Key} {v : V} (h : KRs T ks y) (r : RD T ρ H d v) : ∀ {a : List (D × D)} {b : List (List Key × V)}, KTs T ρ H a b →
    KTs T ρ H (a.map fun p => if D.beq p.1 (.tup ks) then (p.1, d) else p) (b.map fun kv => if kv.1 = y then (kv.1, v) else kv)
  | _, _, .nil => .nil
  | _, _, .cons (y := y0) (ks := k0) q s t => by
    rw [List.map_cons, List.map_cons]
    dsimp only
    have e1 : D.beq (.tup k0) (.tup ks) = decide (y0 = y) := KRs.beq q h
    rw [e1]
    by_cases e : y0 = y
    · rw [if_pos e, if_pos (decide_eq_true e)]; exact .cons q r (KTs.repl h r t)
    · rw [if_neg e, if_neg (by rw [decide_eq_false e]; exact Bool.false_ne_true)]; exact .cons q s (KTs.repl h r t)
theorem KTs.put {ks : List D} {d : D} {y : List Key} {v : V} (h : KRs T ks y) (r : RD T ρ H d v) {a : List (D × D)} {b : List (List Key × V)} (t : KTs T ρ H a b) : KTs T ρ H (putD a (.tup ks) d) (putK b y v) := by
  unfold putD putK
  rw [t.any h]
  split
  · exact t.repl h r
  · exact t.snoc h r
end

/-! ### flat data -/
section
variable {T : Tab} {ρ : List Addr} {H : Hp} {S : Sto}
theorem flat_of {d : D} {v : V} (r : RD T ρ H d v) (h : flatD d = true) : flatV v = true := by
  cases r <;> first | rfl | (cases h; done)
theorem flats_of : ∀ {ds : List D} {vs : List V}, RDs T ρ H ds vs → ds.all flatD = true → vs.all flatV = true
  | _, _, .nil, _ => rfl
  | _, _, .cons r rs, h => by
    rw [List.all_cons, Bool.and_eq_true] at h ⊢
    exact ⟨flat_of r h.1, flats_of rs h.2⟩
theorem eqb_flat {a b : D} {v w : V} (r : RD T ρ H a v) (q : RD T ρ H b w) (ha : flatD a = true) (hb : flatD b = true) : eqb 1 S a b = eqV v w := by
  cases r <;> cases q <;> first | (cases ha; done) | (cases hb; done) | rfl | skip
  all_goals try exact (Bool.beq_eq_decide_eq (α := Int) _ _).symm
  · rename_i e1 _ _ e2
    show Nat.beq _ _ = (_ == _)
    rw [T.inj' e1 e2, Bool.beq_eq_decide_eq]
theorem any_flat {x : D} {y : V} (q : RD T ρ H x y) (hx : flatD x = true) : ∀ {ds : List D} {vs : List V}, RDs T ρ H ds vs → ds.all flatD = true → (ds.any fun z => eqb 1 S z x) = inV y vs
  | _, _, .nil, _ => rfl
  | _, _, .cons r rs, h => by
    rw [List.all_cons, Bool.and_eq_true] at h
    have ih := any_flat q hx rs h.2
    unfold inV at ih ⊢
    rw [List.any_cons, List.any_cons, eqb_flat r q h.1 hx, ih]
theorem any_py (s : Sim T ρ S H) {x : D} {y : V} (q : RD T ρ H x y) (hx : shpD depthE S x = true) : ∀ {ds : List D} {vs : List V}, RDs T ρ H ds vs → ds.all (shpD depthE S) = true →
    (ds.any fun z => eqb depthE S z x) = (ds.map (toPy T S depthE)).any fun z => PyData.eqv z (toPy T S depthE x)
  | _, _, .nil, _ => rfl
  | _, _, .cons r rs, h => by
    rw [List.all_cons, Bool.and_eq_true] at h
    rw [List.map_cons, List.any_cons, List.any_cons, any_py s q hx rs h.2, eqb_py s depthE _ _ _ _ h.1 hx r q]
theorem shaped_list (s : Sim T ρ S H) {ds : List D} {vs : List V} (h : ds.all (shpD depthE S) = true) (r : RDs T ρ H ds vs) : SeqAt.shaped (.list (ds.map (toPy T S depthE))) = true := by
  obtain ⟨a, b⟩ := lay_all (lay_of s depthE) h r
  unfold SeqAt.shaped
  simp only [PyData.canLay0, PyData.depth, a, Bool.true_and]
  have : depthE = 60 := rfl
  exact decide_eq_true (by omega)
theorem dct_at {l : Nat} {a : Addr} {t : Bool} {kvs : List (D × D)} (s : Sim T ρ S H) (e : nth S l = some (.dct t kvs)) (ha : ρ[l]? = some a) :
    (t = false ∧ ∃ ks, H a = some (.dK ks) ∧ KVs T ρ H kvs ks) ∨ (t = true ∧ ∃ ks, H a = some (.dT ks) ∧ KTs T ρ H kvs ks) := by
  rw [nth_eq] at e
  cases s.getA e ha with
  | dk h1 h2 => exact .inl ⟨rfl, _, h1, h2⟩
  | dt h1 h2 => exact .inr ⟨rfl, _, h1, h2⟩
theorem refI_at {l : Nat} {a : Addr} (s : Sim T ρ S H) (e : refI S l = true) (ha : ρ[l]? = some a) : ∃ o, H a = some o ∧ isObj o = true := by
  unfold refI at e
  rw [nth_eq] at e
  split at e
  · rename_i q
    cases s.getA q ha with
    | lst h1 _ => exact ⟨_, h1, rfl⟩
  · rename_i q
    cases s.getA q ha with
    | ins _ _ h1 _ => exact ⟨_, h1, rfl⟩
  · cases e
theorem ref_beq {l k : Nat} {a b : Addr} (s : Sim T ρ S H) (ha : ρ[l]? = some a) (hb : ρ[k]? = some b) : Nat.beq l k = decide (a = b) := by
  by_cases e : a = b
  · subst e
    have := nodup_ixG s.nd ha hb
    subst this
    simp
  · rw [decide_eq_false e]
    have : l ≠ k := fun q => by subst q; rw [ha] at hb; exact e (Option.some.inj hb)
    cases h : Nat.beq l k with
    | false => rfl
    | true => exact absurd (Nat.eq_of_beq_eq_true h) this
/-- a dict asked at a key -/
theorem dct_get {l : Nat} {a : Addr} {t : Bool} {kvs : List (D × D)} {x : D} {y : V} (s : Sim T ρ S H) (e : nth S l = some (.dct t kvs)) (ha : ρ[l]? = some a) (r : RD T ρ H x y) (k : keyOk t x = true) :
    match lkD kvs x with
    | some d => ∃ v, DGet H a y (some v) ∧ RD T ρ H d v
    | none => DGet H a y none := by
  rcases dct_at s e ha with ⟨rfl, ks, h1, h2⟩ | ⟨rfl, ks, h1, h2⟩
  · obtain ⟨ky, k1, rfl⟩ := KR.of r k
    have := h2.lk k1
    cases e2 : lkD kvs x with
    | none => rw [e2] at this; rw [← show valV ks ky = none from this]; exact DGet.k h1
    | some d => rw [e2] at this; obtain ⟨v, q1, q2⟩ := this; exact ⟨v, q1 ▸ DGet.k h1, q2⟩
  · cases x <;> first | (cases k; done) | skip
    rename_i xs
    cases r with
    | tup hb rs =>
      obtain ⟨ky, k1, rfl⟩ := KRs.of rs k
      have := h2.lk (d := .tup xs) rfl k1
      cases e2 : lkD kvs (.tup xs) with
      | none => rw [e2] at this; rw [← show valV ks ky = none from this]; exact DGet.t h1 hb
      | some d => rw [e2] at this; obtain ⟨v, q1, q2⟩ := this; exact ⟨v, q1 ▸ DGet.t h1 hb, q2⟩
/-- a dict's store -/
theorem dct_put {l : Nat} {a : Addr} {t : Bool} {kvs : List (D × D)} {x d : D} {y v : V} (s : Sim T ρ S H) (e : nth S l = some (.dct t kvs)) (ha : ρ[l]? = some a) (r : RD T ρ H x y) (q : RD T ρ H d v) (k : keyOk t x = true) (hl : Nat.blt kvs.length line = true) :
    ∃ H', DPut H a y v H' ∧ Sim T ρ (S.set l (.dct t (putD kvs x d))) H' ∧ Ext ρ H ρ H' := by
  have hl := line_lt hl
  have e' := e
  rw [nth_eq] at e'
  rcases dct_at s e ha with ⟨rfl, ks, h1, h2⟩ | ⟨rfl, ks, h1, h2⟩
  · obtain ⟨ky, k1, rfl⟩ := KR.of r k
    rw [h2.length] at hl
    exact ⟨_, DPut.k h1 hl, s.set e' ha fun e => .dk upd_same ((h2.put k1 q).mono e)⟩
  · cases x <;> first | (cases k; done) | skip
    cases r with
    | tup hb rs =>
      obtain ⟨ky, k1, rfl⟩ := KRs.of rs k
      rw [h2.length] at hl
      exact ⟨_, DPut.t h1 hb hl, s.set e' ha fun e => .dt upd_same ((h2.put k1 q).mono e)⟩
end

section
variable {T : Tab} {X : Cx}
theorem PoV.cmp {T : Tab} {ρ : List Addr} {H : Hp} {S : Sto} {Q : VK} {o : CO} {a b : D} (h : PoV T ρ H (cmpR o a b S) Q) (s : Sim T ρ S H) : ∃ k, cmpD o a b S = some k ∧ Q (.bl k) H := by
  unfold cmpR at h
  cases e : cmpD o a b S with
  | none => rw [e] at h; exact h.elim
  | some k => rw [e] at h; exact ⟨k, rfl, PoV.ok h s (.bl k)⟩
theorem in_ok (hK : X.K = T.K) (hu : X.A.units + 65 < cLine) {k : Bool} (neg : Bool) {pins : List (Addr × Obj)} {s : Shared} {σ : L2.St} {H : Hp} {x y : V} {v u : Value} {Q : VK} (I : L2.Inv X pins σ H s) (rx : L2.RelV x v) (ry : L2.RelV y u)
    {ρ : List Addr} {S : Sto} {a b : D} (sm : Sim T ρ S H) (ra : RD T ρ H a x) (rb : RD T ρ H b y) (e : inO S a b = some k) (q : Q (.bl (if neg then !k else k)) H) :
    wpAny (model X.prog X.w) X.A (compareOp (if neg then .NotIn else .In) v u) (EP X pins σ Q) X.xe s := by
  have flat : ∀ {ys : List D}, (∃ p vs, y = .ref p ∧ (SqL X.K H p vs ∨ SqT X.K H p vs) ∧ RDs T ρ H ys vs) → (if flatD a && ys.all flatD then some (ys.any fun z => eqb 1 S z a) else none) = some k →
      wpAny (model X.prog X.w) X.A (compareOp (if neg then .NotIn else .In) v u) (EP X pins σ Q) X.xe s := by
    intro ys ⟨p, vs, hy, hs, r⟩ e
    split at e
    · rename_i hf
      rw [Bool.and_eq_true] at hf
      cases e
      rw [any_flat ra hf.1 r hf.2] at q
      cases neg with
      | false => exact op_in_seq pins s σ H _ _ v u Q I rx ry ⟨p, vs, hy, hs, flat_of ra hf.1, flats_of r hf.2, q⟩
      | true => exact op_notIn_seq pins s σ H _ _ v u Q I rx ry ⟨p, vs, hy, hs, flat_of ra hf.1, flats_of r hf.2, q⟩
    · cases e
  unfold inO at e
  cases b <;> (try (cases e; done))
  · cases rb with | tup h1 h2 => exact flat ⟨_, _, rfl, .inr (SqT.of h1), h2⟩ e
  · rename_i l
    dsimp only at e
    cases rb with
    | ref ha =>
      split at e
      · rename_i ys e1
        split at e
        · rename_i hs
          rw [Bool.and_eq_true] at hs
          cases e
          have e1' : lstO S l = some ys := by unfold lstO; rw [e1]
          obtain ⟨vs, h1, h2⟩ := lst_at sm e1' ha
          rw [any_py sm ra hs.1 h2 hs.2] at q
          have dx := dp_of sm depthE a x hs.1 ra
          have dy : Dp T.K H _ (.list (ys.map (toPy T S depthE))) := .lst (SqL.of h1) (dp_all (dp_of sm depthE) hs.2 h2)
          rw [← hK] at dx dy
          cases neg with
          | false => exact op_inD hu pins s σ H _ _ v u Q I rx ry ⟨_, _, dx, dy, shaped_of sm hs.1 ra, shaped_list sm hs.2 h2, q⟩
          | true => exact op_notInD hu pins s σ H _ _ v u Q I rx ry ⟨_, _, dx, dy, shaped_of sm hs.1 ra, shaped_list sm hs.2 h2, q⟩
        · cases e
      · rename_i t kvs e1
        split at e
        · rename_i hk
          cases e
          have hu1 : X.A.units + 1 < cLine := by omega
          have g := dct_get sm e1 ha ra hk
          cases ry
          cases e2 : lkD kvs a with
          | none =>
            rw [e2] at g q
            cases neg with
            | false => exact d_in hu1 I g rx fun s' I' => ⟨.bl false, H, I', rfl, q⟩
            | true => exact d_notIn hu1 I g rx fun s' I' => ⟨.bl true, H, I', rfl, q⟩
          | some d =>
            rw [e2] at g q
            obtain ⟨w, g, _⟩ := g
            cases neg with
            | false => exact d_in hu1 I g rx fun s' I' => ⟨.bl true, H, I', rfl, q⟩
            | true => exact d_notIn hu1 I g rx fun s' I' => ⟨.bl false, H, I', rfl, q⟩
        · cases e
      · cases e
  · cases rb with | ctp h1 h2 => exact flat ⟨_, _, rfl, .inr (hK ▸ h1.t), h2⟩ e
theorem op_cmp (hK : X.K = T.K) (hu : X.A.units + 65 < cLine) (o : CO) : OpR X (compareOp (co o)) (rCmp T o) := by
  intro pins s σ H x y v u Q I rx ry h
  obtain ⟨ρ, S, a, b, sm, ra, rb, h⟩ := h
  obtain ⟨k, e, q⟩ := h.cmp sm
  have eqq : ∀ {k : Bool}, eqO S a b = some k → (SeqAt.shaped (toPy T S depthE a) = true ∧ SeqAt.shaped (toPy T S depthE b) = true ∧ Dp X.K H x (toPy T S depthE a) ∧ Dp X.K H y (toPy T S depthE b) ∧ k = PyData.eqv (toPy T S depthE a) (toPy T S depthE b)) := by
    intro k e
    unfold eqO at e
    split at e
    · rename_i hs
      rw [Bool.and_eq_true] at hs
      cases e
      rw [hK]
      exact ⟨shaped_of sm hs.1 ra, shaped_of sm hs.2 rb, dp_of sm depthE a x hs.1 ra, dp_of sm depthE b y hs.2 rb, eqb_py sm depthE a b x y hs.1 hs.2 ra rb⟩
    · cases e
  unfold cmpD at e
  cases o with
  | eq =>
    obtain ⟨s1, s2, d1, d2, rfl⟩ := eqq e
    exact op_eqD (by omega) pins s σ H _ _ v u Q I rx ry ⟨_, _, d1, d2, s1, s2, q⟩
  | ne =>
    obtain ⟨k', e', rfl⟩ := Option.map_eq_some_iff.mp e
    obtain ⟨s1, s2, d1, d2, rfl⟩ := eqq e'
    exact op_neD (by omega) pins s σ H _ _ v u Q I rx ry ⟨_, _, d1, d2, s1, s2, q⟩
  | lt => cases a <;> cases b <;> first | (cases e; done) | (cases e; cases ra; cases rb; exact op_lt pins s σ H _ _ v u Q I rx ry ⟨_, _, rfl, rfl, q⟩)
  | le => cases a <;> cases b <;> first | (cases e; done) | (cases e; cases ra; cases rb; exact op_le pins s σ H _ _ v u Q I rx ry ⟨_, _, rfl, rfl, q⟩)
  | gt => cases a <;> cases b <;> first | (cases e; done) | (cases e; cases ra; cases rb; exact op_gt pins s σ H _ _ v u Q I rx ry ⟨_, _, rfl, rfl, q⟩)
  | ge => cases a <;> cases b <;> first | (cases e; done) | (cases e; cases ra; cases rb; exact op_ge pins s σ H _ _ v u Q I rx ry ⟨_, _, rfl, rfl, q⟩)
  | in_ => exact in_ok hK hu false I rx ry sm ra rb e q
  | nin =>
    obtain ⟨k', e', rfl⟩ := Option.map_eq_some_iff.mp e
    exact in_ok hK hu true I rx ry sm ra rb e' q
  | is_ =>
    dsimp only at e
    split at e
    · cases e
      cases rb
      refine op_isN pins s σ H _ _ v u Q I rx ry ⟨rfl, ?_⟩
      cases ra <;> exact q
    · cases e
      cases ra; cases rb
      exact op_isBl pins s σ H _ _ v u Q I rx ry ⟨_, _, rfl, rfl, by rw [← Bool.beq_eq_decide_eq]; exact q⟩
    · split at e
      · rename_i hi
        rw [Bool.and_eq_true] at hi
        cases e
        cases ra with
        | ref ha =>
          cases rb with
          | ref hb =>
            obtain ⟨oa, h1, i1⟩ := refI_at sm hi.1 ha
            obtain ⟨ob, h2, i2⟩ := refI_at sm hi.2 hb
            exact op_is_ref pins s σ H _ _ v u Q I rx ry ⟨_, _, _, _, rfl, rfl, h1, i1, h2, i2, by rw [← ref_beq sm ha hb]; exact q⟩
      · cases e
    · cases e
  | isn =>
    dsimp only at e
    split at e
    · cases e
      cases rb
      refine op_notN pins s σ H _ _ v u Q I rx ry ⟨rfl, ?_⟩
      cases ra <;> exact q
    · cases e
      cases ra; cases rb
      exact op_notBl pins s σ H _ _ v u Q I rx ry ⟨_, _, rfl, rfl, by rw [← Bool.beq_eq_decide_eq]; exact q⟩
    · split at e
      · rename_i hi
        rw [Bool.and_eq_true] at hi
        cases e
        cases ra with
        | ref ha =>
          cases rb with
          | ref hb =>
            obtain ⟨oa, h1, i1⟩ := refI_at sm hi.1 ha
            obtain ⟨ob, h2, i2⟩ := refI_at sm hi.2 hb
            exact op_isnot_ref pins s σ H _ _ v u Q I rx ry ⟨_, _, _, _, rfl, rfl, h1, i1, h2, i2, by rw [← ref_beq sm ha hb]; exact q⟩
      · cases e
    · cases e
end
end PD
end Sec3
section Sec4
set_option Elab.async false
set_option linter.all false
set_option maxRecDepth 100000
set_option maxHeartbeats 4000000
/-! PD4: built-ins, subscripts, slices, methods by values. -/
namespace PD
open PySem PySem.Spec PyProof.Rows L2
section
variable {T : Tab} {X : Cx}
def biV : BI → Value
  | .len => .builtin "len" | .int => .type "int" | .abs => .builtin "abs" | .min => .builtin "min" | .max => .builtin "max" | .sum => .builtin "sum" | .list => .type "list" | .tuple => .type "tuple"
  | .range => .type "range" | .enum => .type "enumerate" | .zip => .type "zip"
def rBi (T : Tab) (b : BI) : List V → Hp → VK → Prop := fun vs H Q => ∃ ρ S ds, Sim T ρ S H ∧ RDs T ρ H ds vs ∧ PoV T ρ H (biD b ds S) Q
theorem ints_at {ρ : List Addr} {H : Hp} : ∀ {ds : List D} {vs : List V} {ns : List Int}, RDs T ρ H ds vs → intsOf ds = some ns → vs = ns.map V.int
  | _, _, _, .nil, e => by cases e; rfl
  | _, _, _, .cons r rs, e => by
    cases r <;> first | (cases e; done) | skip
    unfold intsOf at e
    obtain ⟨ms, e1, rfl⟩ := Option.map_eq_some_iff.mp e
    rw [ints_at rs e1]
    rfl
theorem call_bi (hK : X.K = T.K) (hc : X.calm = true) (b : BI) : CallR X (biV b) (rBi T b) := by
  intro pins s σ H vs us Q I rv h
  obtain ⟨ρ, S, ds, sm, rs, h⟩ := h
  have one : ∀ {d : D}, ds = [d] → ∃ x, vs = [x] ∧ RD T ρ H d x := by
    intro d e; subst e
    cases rs with | cons r t => cases t; exact ⟨_, rfl, r⟩
  have two : ∀ {d e : D}, ds = [d, e] → ∃ x y, vs = [x, y] ∧ RD T ρ H d x ∧ RD T ρ H e y := by
    intro d e q; subst q
    cases rs with | cons r t => cases t with | cons r2 t => cases t; exact ⟨_, _, rfl, r, r2⟩
  have seq : ∀ {d : D} {xs : List D}, ds = [d] → seqO S d = some xs → ∃ a ws, vs = [.ref a] ∧ (SqL X.K H a ws ∨ SqT X.K H a ws) ∧ RDs T ρ H xs ws := by
    intro d xs e1 e2
    obtain ⟨x, rfl, r⟩ := one e1
    obtain ⟨a, ws, rfl, h1, h2⟩ := seq_at sm r e2
    exact ⟨a, ws, rfl, by rw [hK]; exact h1, h2⟩
  unfold biD at h
  split at h
  · -- len of a reference
    rename_i l
    obtain ⟨x, rfl, r⟩ := one rfl
    split at h
    · rename_i xs e
      have e' : lstO S l = some xs := by unfold lstO; rw [e]
      obtain ⟨a, ws, e1, h1, h2⟩ := seq rfl e'
      cases e1
      refine call_len_seq pins s σ H _ us Q I rv ⟨_, _, rfl, h1, ?_⟩
      rw [← h2.length]
      exact PoV.ok h sm (.int _)
    · rename_i t kvs e
      cases r with
      | ref ha =>
        rcases dct_at sm e ha with ⟨rfl, ks, h1, h2⟩ | ⟨rfl, ks, h1, h2⟩
        · refine call_lenD pins s σ H _ us Q I rv ⟨_, _, rfl, h1, ?_⟩
          rw [← h2.length]
          exact PoV.ok h sm (.int _)
        · refine call_len_dT pins s σ H _ us Q I rv ⟨_, _, rfl, h1, ?_⟩
          rw [← h2.length]
          exact PoV.ok h sm (.int _)
    · exact h.elim
  · obtain ⟨a, ws, rfl, h1, h2⟩ := seq rfl rfl
    refine call_len_seq pins s σ H _ us Q I rv ⟨_, _, rfl, h1, ?_⟩
    rw [← h2.length]
    exact PoV.ok h sm (.int _)
  · obtain ⟨a, ws, rfl, h1, h2⟩ := seq rfl rfl
    refine call_len_seq pins s σ H _ us Q I rv ⟨_, _, rfl, h1, ?_⟩
    rw [← h2.length]
    exact PoV.ok h sm (.int _)
  · obtain ⟨a, ws, rfl, h1, h2⟩ := seq rfl rfl
    refine call_len_seq pins s σ H _ us Q I rv ⟨_, _, rfl, h1, ?_⟩
    rw [← h2.length]
    exact PoV.ok h sm (.int _)
  · obtain ⟨x, rfl, r⟩ := one rfl
    cases r
    exact call_int1 pins s σ H _ us Q I rv (.inl ⟨_, rfl, PoV.ok h sm (.int _)⟩)
  · obtain ⟨x, rfl, r⟩ := one rfl
    cases r
    exact call_int1 pins s σ H _ us Q I rv (.inr ⟨_, rfl, PoV.ok h sm (.int _)⟩)
  · obtain ⟨x, rfl, r⟩ := one rfl
    cases r
    exact call_abs pins s σ H _ us Q I rv ⟨_, rfl, PoV.ok h sm (.int _)⟩
  · obtain ⟨x, y, rfl, r, r2⟩ := two rfl
    cases r; cases r2
    exact call_min2 hc pins s σ H _ us Q I rv ⟨_, _, rfl, PoV.ok h sm (.int _)⟩
  · obtain ⟨x, y, rfl, r, r2⟩ := two rfl
    cases r; cases r2
    exact call_max2 hc pins s σ H _ us Q I rv ⟨_, _, rfl, PoV.ok h sm (.int _)⟩
  · obtain ⟨x, rfl, r⟩ := one rfl
    split at h
    · rename_i xs e
      split at h
      · rename_i ns e2
        cases r with
        | ref ha =>
          obtain ⟨ws, h1, h2⟩ := lst_at sm e ha
          have := ints_at h2 e2
          subst this
          exact cr_sum hc pins s σ H _ us Q I rv ⟨_, _, rfl, SqL.of h1, PoV.ok h sm (.int _)⟩
      · exact h.elim
    · exact h.elim
  · obtain ⟨a, ws, rfl, h1, h2⟩ := seq rfl rfl
    exact call_list_of pins s σ H _ us Q I rv ⟨_, _, rfl, h1, fun p hp => h.new sm hp fun e => .lst upd_same (h2.mono e)⟩
  · obtain ⟨a, ws, rfl, h1, h2⟩ := seq rfl rfl
    exact call_list_of pins s σ H _ us Q I rv ⟨_, _, rfl, h1, fun p hp => h.new sm hp fun e => .lst upd_same (h2.mono e)⟩
  · split at h
    · rename_i xs e
      obtain ⟨a, ws, rfl, h1, h2⟩ := seq rfl e
      exact call_list_of pins s σ H _ us Q I rv ⟨_, _, rfl, h1, fun p hp => h.new sm hp fun e => .lst upd_same (h2.mono e)⟩
    · exact h.elim
  · obtain ⟨x, rfl, r⟩ := one rfl
    split at h
    · rename_i xs e
      cases r with
      | ref ha =>
        obtain ⟨ws, h1, h2⟩ := lst_at sm e ha
        exact call_tuple_of pins s σ H _ us Q I rv ⟨_, _, rfl, .inl ⟨SqL.of h1, fun p hp => h.tup sm hp h2⟩⟩
    · exact h.elim
  · obtain ⟨x, rfl, r⟩ := one rfl
    have r' := r
    cases r with
    | tup h1 h2 => exact call_tuple_of pins s σ H _ us Q I rv ⟨_, _, rfl, .inr ⟨SqT.of h1, PoV.ok h sm r'⟩⟩
  · obtain ⟨x, rfl, r⟩ := one rfl
    have r' := r
    cases r with
    | ctp h1 h2 => exact call_tuple_of pins s σ H _ us Q I rv ⟨_, _, rfl, .inr ⟨hK ▸ h1.t, PoV.ok h sm r'⟩⟩
  · exact h.elim

/-! ### subscripts -/
theorem ixI_at {xs : List D} {i : Int} {d : D} (h : ixI xs i = some d) {ρ : List Addr} {H : Hp} {vs : List V} (r : RDs T ρ H xs vs) : ∃ v, atI vs i = some v ∧ RD T ρ H d v := by
  unfold ixI at h
  have hl := r.length
  cases i with
  | ofNat n =>
    dsimp only at h
    rw [nth_eq] at h
    obtain ⟨v, h1, h2⟩ := r.get h
    exact ⟨v, atI_nat h1, h2⟩
  | negSucc n =>
    dsimp only at h
    split at h
    · rename_i hn
      have hn := Nat.le_of_ble_eq_true hn
      rw [nth_eq] at h
      obtain ⟨v, h1, h2⟩ := r.get h
      refine ⟨v, ?_, h2⟩
      unfold atI ixN
      rw [if_neg (by omega), if_pos (by rw [← hl]; omega)]
      show vs[((Int.negSucc n) + (vs.length : Int)).toNat]? = some v
      rw [← h1]
      congr 1
      rw [← hl]
      omega
    · cases h
theorem ixNat_at {n j : Nat} {i : Int} (h : ixNat n i = some j) : ixN n i = some j := by
  unfold ixNat at h
  unfold ixN
  cases i with
  | ofNat k =>
    dsimp only at h
    split at h
    · rename_i hk
      cases h
      have := Nat.le_of_ble_eq_true hk
      rw [if_pos (by rw [Int.ofNat_eq_natCast]; omega), if_pos (by rw [Int.ofNat_eq_natCast]; omega)]
      rfl
    · cases h
  | negSucc k =>
    dsimp only at h
    split at h
    · rename_i hk
      cases h
      have := Nat.le_of_ble_eq_true hk
      rw [if_neg (by omega), if_pos (by omega)]
      congr 1
      omega
    · cases h
end
end PD
end Sec4
section Sec5
set_option Elab.async false
set_option linter.all false
set_option maxRecDepth 100000
set_option maxHeartbeats 4000000
/-! PD5: expressions: each rule of the layer brings the deep meaning. -/
namespace PD
open PySem PySem.Spec PyProof.Rows L2

abbrev Mn := Fr → Sto → R D
abbrev Mns := Fr → Sto → R (List D)
/-- a reading that asks for the deep meaning -/
def DE (T : Tab) (W : WX) (f : Mn) : TE := fun σ H Q => ∃ ρ S fr, Sim T ρ S H ∧ FR T ρ H fr σ ∧ Po T (fun c d H' => W c d σ H') ρ H (f fr S) fun d _ ρ' H' => ∀ v, RD T ρ' H' d v → Q v H'
def DA (T : Tab) (W : WX) (f : Mns) : TA := fun σ H Q => ∃ ρ S fr, Sim T ρ S H ∧ FR T ρ H fr σ ∧ Po T (fun c d H' => W c d σ H') ρ H (f fr S) fun ds _ ρ' H' => ∀ vs, RDs T ρ' H' ds vs → Q vs H'
def DT (T : Tab) (W : WX) (f : Mn) : TT := fun σ H Q => ∃ ρ S fr, Sim T ρ S H ∧ FR T ρ H fr σ ∧ Po T (fun c d H' => W c d σ H') ρ H (f fr S) fun d _ ρ' H' => ∃ b, d = .bl b ∧ Q b H'

theorem _root_.L2.PE.wk {X : Cx} {e : Expr} {t t' : TE} (h : PE X e t) (i : ∀ σ H Q, t' σ H Q → t σ H Q) : PE X e t' := ⟨fun pins s σ H Q I q => h.run pins s σ H Q I (i σ H Q q)⟩
theorem _root_.L2.PT.wk {X : Cx} {e : Expr} {t t' : TT} (h : PT X e t) (i : ∀ σ H Q, t' σ H Q → t σ H Q) : PT X e t' := ⟨fun pins s σ H Q I q => h.run pins s σ H Q I (i σ H Q q)⟩
theorem _root_.L2.PW.wk {X : Cx} {e : Expr} {t t' : TT} (h : PW X e t) (i : ∀ σ H Q, t' σ H Q → t σ H Q) : PW X e t' := ⟨fun wh pins s σ H Q I q => h.run wh pins s σ H Q I (i σ H Q q)⟩
theorem _root_.L2.PA.wk {X : Cx} {e : List Expr} {t t' : TA} (h : PA X e t) (i : ∀ σ H Q, t' σ H Q → t σ H Q) : PA X e t' := ⟨fun pos pins s σ H Q I q => h.run pos pins s σ H Q I (i σ H Q q)⟩
theorem _root_.L2.PS.wk {X : Cx} {e : Stmt} {t t' : TS} (h : PS X e t) (i : ∀ D σ H, t' D σ H → t D σ H) : PS X e t' := ⟨fun pins s σ H D I q => h.run pins s σ H D I (i D σ H q)⟩
theorem _root_.L2.PSs.wk {X : Cx} {e : List Stmt} {t t' : TS} (h : PSs X e t) (i : ∀ D σ H, t' D σ H → t D σ H) : PSs X e t' := ⟨fun pins s σ H D I q => h.run pins s σ H D I (i D σ H q)⟩

section
variable {T : Tab} {W : WX} {X : Cx} {f g : Mn}
/-- values alone raise nothing: any wish will do -/
theorem Po.anyW {W1 W2 : Value → Option Addr → Hp → Prop} {ρ : List Addr} {H : Hp} {α : Type} {x : R α} {Q : α → Sto → List Addr → Hp → Prop} (h : Po T W1 ρ H x Q) (n : ∀ c fs s, x ≠ .ex c fs s) : Po T W2 ρ H x Q := by
  cases x with
  | ok a s => exact h
  | ex c fs s => exact absurd rfl (n c fs s)
  | no => exact h
/-- the two-place scheme -/
theorem de_bin {o : D → D → Sto → R D} {r : R2} (no : ∀ a b s c fs s', o a b s ≠ .ex c fs s')
    (hr : ∀ (x y : V) (H : Hp) (Q : VK), (∃ ρ S a b, Sim T ρ S H ∧ RD T ρ H a x ∧ RD T ρ H b y ∧ PoV T ρ H (o a b S) Q) → r x y H Q) :
    ∀ σ H Q, DE T W (fun fr S => (f fr S).bind fun x S1 => (g fr S1).bind fun y S2 => o x y S2) σ H Q → tOp r (DE T W f) (DE T W g) σ H Q := by
  rintro σ H Q ⟨ρ, S, fr, s, r0, h⟩
  refine ⟨ρ, S, fr, s, r0, h.bind.imp fun d1 S1 ρ1 H1 e1 s1 h1 v1 r1 => ⟨ρ1, S1, fr, s1, r0.mono e1, h1.bind.imp fun d2 S2 ρ2 H2 e2 s2 h2 v2 r2 => ?_⟩⟩
  exact hr v1 v2 H2 Q ⟨ρ2, S2, d1, d2, s2, r1.mono e2, r2, h2.anyW (no d1 d2 S2)⟩
theorem binD_noex (o : BO) (a b : D) (s : Sto) (c : Nat) (fs : List (Nat × D)) (s' : Sto) : binD o a b s ≠ .ex c fs s' := by
  unfold binD catT new1
  intro h
  split at h <;> (repeat' (split at h)) <;> cases h
theorem cmpR_noex (o : CO) (a b : D) (s : Sto) (c : Nat) (fs : List (Nat × D)) (s' : Sto) : cmpR o a b s ≠ .ex c fs s' := by
  unfold cmpR
  intro h
  split at h <;> cases h
end

/-! ### names and constants -/
section
variable {T : Tab} {W : WX} {X : Cx} {G : Pg} {call : Call}
theorem snd_var {i : Nat} {x : Str} {pos : Pos} (hN : X.N[i]? = some x) (hv : Vis X.env.scope x) (hd : (x == ("__debug__" : Str)) = false) (hcd : (x == ("__classdict__" : Str)) = false) : PE X (.Name x pos) (DE T W (evE G call (.var i))) :=
  (pe_var hN hv hd hcd).wk fun σ H Q ⟨ρ, S, fr, s, r, h⟩ => by
    unfold evE at h
    split at h
    · rename_i d e
      obtain ⟨v, h1, h2⟩ := r.at_ i d (nthFr_eq e)
      exact ⟨v, h1, h.ok s v h2⟩
    · exact h.elim
theorem snd_int {i : Int} {j : Nat} {pos : Pos} : PE X (.Constant (.int i) j pos) (DE T W (evE G call (.lit (.int i)))) := pe_int.wk fun σ H Q ⟨ρ, S, fr, s, r, h⟩ => h.ok s _ (.int i)
theorem snd_bl {b : Bool} {j : Nat} {pos : Pos} : PE X (.Constant (.bool b) j pos) (DE T W (evE G call (.lit (.bl b)))) := pe_bl.wk fun σ H Q ⟨ρ, S, fr, s, r, h⟩ => h.ok s _ (.bl b)
theorem snd_non {j : Nat} {pos : Pos} : PE X (.Constant .none j pos) (DE T W (evE G call (.lit .non))) := pe_non.wk fun σ H Q ⟨ρ, S, fr, s, r, h⟩ => h.ok s _ .non
theorem snd_str {k : Nat} {x : Str} {j : Nat} {pos : Pos} (e : T.syms[k]? = some x) : PE X (.Constant (.str x) j pos) (DE T W (evE G call (.lit (.str k)))) := pe_str.wk fun σ H Q ⟨ρ, S, fr, s, r, h⟩ => h.ok s _ (.str e)
/-- a constant of the module -/
theorem snd_con {k : Nat} {x : Str} {pos : Pos} {d : D} {u : Value} {v : V} (hg : Gl X x) (hm : X.mg x = some u) (rv : L2.RelV v u) (hd : (x == ("__debug__" : Str)) = false) (e : nth G.cons k = some d) (hr : ∀ ρ H, RD T ρ H d v) : PE X (.Name x pos) (DE T W (evE G call (.con k))) :=
  (pe_glob hg hm rv hd).wk fun σ H Q ⟨ρ, S, fr, s, r, h⟩ => by
    unfold evE at h
    rw [e] at h
    exact h.ok s v (hr ρ H)

/-! ### operators -/
theorem snd_bin {a b : Expr} {ea eb : E} {o : BO} {pos : Pos} (hK : X.K = T.K) (ha : PE X a (DE T W (evE G call ea))) (hb : PE X b (DE T W (evE G call eb))) : PE X (.BinOp a (bo o) b pos) (DE T W (evE G call (.bin o ea eb))) :=
  (pe_op (op_bin hK o) ha hb).wk (de_bin (binD_noex o) fun x y H Q h => h)
theorem snd_cmp {a b : Expr} {ea eb : E} {o : CO} {pos : Pos} (hK : X.K = T.K) (hu : X.A.units + 65 < cLine) (hm : behindInMarks (co o) b = false) (ha : PE X a (DE T W (evE G call ea))) (hb : PE X b (DE T W (evE G call eb))) : PE X (.Compare a [co o] [b] pos) (DE T W (evE G call (.cmp o ea eb))) :=
  (pe_cmpR (op_cmp hK hu o) ha hb hm).wk (de_bin (cmpR_noex o) fun x y H Q h => h)
theorem snd_neg {a : Expr} {ea : E} {pos : Pos} (ha : PE X a (DE T W (evE G call ea))) : PE X (.UnaryOp .USub a pos) (DE T W (evE G call (.neg ea))) :=
  (pe_un un_neg ha).wk fun σ H Q ⟨ρ, S, fr, s, r, h⟩ => by
    unfold evE at h
    refine ⟨ρ, S, fr, s, r, h.bind.imp fun d S1 ρ1 H1 e1 s1 h1 v r1 => ?_⟩
    cases r1 <;> first | exact h1.elim | skip
    exact ⟨_, rfl, h1.ok s1 _ (.int _)⟩

/-! ### argument lists, displays -/
theorem snd_nil : PA X [] (DA T W (evEs G call [])) := pa_nil.wk fun σ H Q ⟨ρ, S, fr, s, r, h⟩ => by
  unfold evEs at h
  exact h.ok s [] .nil
theorem snd_cons {e : Expr} {es : List Expr} {d : E} {ds : List E} (ha : PE X e (DE T W (evE G call d))) (hr : PA X es (DA T W (evEs G call ds))) (hs : starEach (e :: es) X.env = (false, eval e X.env) :: starEach es X.env) : PA X (e :: es) (DA T W (evEs G call (d :: ds))) :=
  (pa_cons ha hr hs).wk fun σ H Q ⟨ρ, S, fr, s, r, h⟩ => by
    unfold evEs at h
    refine ⟨ρ, S, fr, s, r, h.bind.imp fun d S1 ρ1 H1 e1 s1 h1 v r1 => ⟨ρ1, S1, fr, s1, r.mono e1, h1.bind.imp fun ds S2 ρ2 H2 e2 s2 h2 vs rs => h2.ok s2 _ (.cons (r1.mono e2) rs)⟩⟩
theorem snd_tup {es : List Expr} {ds : List E} {k : Nat} {pos : Pos} (h : PA X es (DA T W (evEs G call ds))) : PE X (.Tuple es k pos) (DE T W (evE G call (.tup ds))) :=
  (pe_tup h).wk fun σ H Q ⟨ρ, S, fr, s, r, h⟩ => by
    unfold evE at h
    refine ⟨ρ, S, fr, s, r, h.bind.imp fun ds S1 ρ1 H1 e1 s1 h1 vs rs => ?_⟩
    split at h1
    · rename_i hz
      have hz := line_le hz
      rw [rs.length] at hz
      exact ⟨hz, fun p hp => PoV.tup (h1.anyW fun _ _ _ => by intro z; cases z) s1 hp rs⟩
    · exact h1.elim
theorem snd_lst {es : List Expr} {ds : List E} {pos : Pos} (h : PA X es (DA T W (evEs G call ds))) : PE X (.List es pos) (DE T W (evE G call (.lst ds))) :=
  (pe_lst h).wk fun σ H Q ⟨ρ, S, fr, s, r, h⟩ => by
    unfold evE at h
    refine ⟨ρ, S, fr, s, r, h.bind.imp fun ds S1 ρ1 H1 e1 s1 h1 vs rs => ?_⟩
    split at h1
    · rename_i hz
      have hz := line_le hz
      rw [rs.length] at hz
      exact ⟨hz, fun p hp => PoV.new (h1.anyW fun _ _ _ => by intro z; cases z) s1 hp fun e => .lst upd_same (rs.mono e)⟩
    · exact h1.elim
theorem snd_dnew {t : Bool} {pos : Pos} : PE X (.Dict [] [] pos) (DE T W (evE G call (.dnew t))) := by
  cases t with
  | false => exact pe_dnewK.wk fun σ H Q ⟨ρ, S, fr, s, r, h⟩ => fun p hp => PoV.new (h.anyW fun _ _ _ => by intro z; cases z) s hp fun e => .dk upd_same .nil
  | true => exact pe_dnewT.wk fun σ H Q ⟨ρ, S, fr, s, r, h⟩ => fun p hp => PoV.new (h.anyW fun _ _ _ => by intro z; cases z) s hp fun e => .dt upd_same .nil

/-! ### and, or, not, if-else as values -/
theorem snd_andV {a b : Expr} {rest : List Expr} {ea eb : E} {pos : Pos} (ha : PE X a (DE T W (evE G call ea))) (hb : PE X (.BoolOp .And (b :: rest) pos) (DE T W (evE G call eb))) : PE X (.BoolOp .And (a :: b :: rest) pos) (DE T W (evE G call (.and_ ea eb))) :=
  (pe_and ha hb).wk fun σ H Q ⟨ρ, S, fr, s, r, h⟩ => by
    unfold evE at h
    refine ⟨ρ, S, fr, s, r, h.bind.imp fun d S1 ρ1 H1 e1 s1 h1 v r1 => ?_⟩
    cases r1 <;> first | exact h1.elim | skip
    rename_i c
    refine ⟨c, rfl, ?_⟩
    cases c with
    | true => exact ⟨ρ1, S1, fr, s1, r.mono e1, h1⟩
    | false => exact h1.ok s1 _ (.bl _)
theorem snd_orV {a b : Expr} {rest : List Expr} {ea eb : E} {pos : Pos} (ha : PE X a (DE T W (evE G call ea))) (hb : PE X (.BoolOp .Or (b :: rest) pos) (DE T W (evE G call eb))) : PE X (.BoolOp .Or (a :: b :: rest) pos) (DE T W (evE G call (.or_ ea eb))) :=
  (pe_or ha hb).wk fun σ H Q ⟨ρ, S, fr, s, r, h⟩ => by
    unfold evE at h
    refine ⟨ρ, S, fr, s, r, h.bind.imp fun d S1 ρ1 H1 e1 s1 h1 v r1 => ?_⟩
    cases r1 <;> first | exact h1.elim | skip
    rename_i c
    refine ⟨c, rfl, ?_⟩
    cases c with
    | false => exact ⟨ρ1, S1, fr, s1, r.mono e1, h1⟩
    | true => exact h1.ok s1 _ (.bl _)
theorem snd_notV {a : Expr} {ea : E} {pos : Pos} (ha : PE X a (DE T W (evE G call ea))) : PE X (.UnaryOp .Not a pos) (DE T W (evE G call (.not_ ea))) :=
  (pe_not ha).wk fun σ H Q ⟨ρ, S, fr, s, r, h⟩ => by
    unfold evE at h
    refine ⟨ρ, S, fr, s, r, h.bind.imp fun d S1 ρ1 H1 e1 s1 h1 v r1 => ?_⟩
    cases r1 <;> first | exact h1.elim | skip
    exact ⟨_, rfl, h1.ok s1 _ (.bl _)⟩
theorem snd_ite {c a b : Expr} {ec ea eb : E} {pos : Pos} (hc : PT X c (DT T W (evE G call ec))) (ha : PE X a (DE T W (evE G call ea))) (hb : PE X b (DE T W (evE G call eb))) : PE X (.IfExp c a b pos) (DE T W (evE G call (.ite ec ea eb))) :=
  (pe_ifExp hc ha hb).wk fun σ H Q ⟨ρ, S, fr, s, r, h⟩ => by
    unfold evE at h
    refine ⟨ρ, S, fr, s, r, h.bind.imp fun d S1 ρ1 H1 e1 s1 h1 => ?_⟩
    cases d <;> first | exact h1.elim | skip
    rename_i k
    refine ⟨k, rfl, ?_⟩
    cases k with
    | true => exact ⟨ρ1, S1, fr, s1, r.mono e1, h1⟩
    | false => exact ⟨ρ1, S1, fr, s1, r.mono e1, h1⟩

/-! ### tests -/
theorem DT.of {f : Mn} {σ : L2.St} {H : Hp} {Q : Bool → Hp → Prop} (h : DT T W f σ H Q) : tB (DE T W f) σ H Q := by
  obtain ⟨ρ, S, fr, s, r, h⟩ := h
  exact ⟨ρ, S, fr, s, r, h.imp fun d S1 ρ1 H1 e1 s1 ⟨b, e, q⟩ v r1 => by subst e; cases r1; exact ⟨b, rfl, q⟩⟩
theorem snd_val {e : Expr} {d : E} (h : PE X e (DE T W (evE G call d))) (he : ∀ whole, isTrue e X.env whole = (do let v ← whole; standAt e.pos; holding [v] (truthy v))) : PT X e (DT T W (evE G call d)) :=
  (pt_val h he).wk fun σ H Q h => h.of
theorem snd_cmpT {a b : Expr} {ea eb : E} {o : CO} {pos : Pos} (hK : X.K = T.K) (hu : X.A.units + 65 < cLine) (hm : behindInMarks (co o) b = false) (ha : PE X a (DE T W (evE G call ea))) (hb : PE X b (DE T W (evE G call eb))) : PT X (.Compare a [co o] [b] pos) (DT T W (evE G call (.cmp o ea eb))) :=
  (pt_cmpR (op_cmp hK hu o) ha hb hm).wk fun σ H Q h => de_bin (W := W) (cmpR_noex o) (fun x y H Q h => h) σ H _ h.of
theorem snd_notT {a : Expr} {ea : E} {pos : Pos} (ha : PT X a (DT T W (evE G call ea))) : PT X (.UnaryOp .Not a pos) (DT T W (evE G call (.not_ ea))) :=
  (pt_not ha).wk fun σ H Q ⟨ρ, S, fr, s, r, h⟩ => by
    unfold evE at h
    refine ⟨ρ, S, fr, s, r, h.bind.imp fun d S1 ρ1 H1 e1 s1 h1 => ?_⟩
    cases d <;> first | exact h1.elim | skip
    obtain ⟨b, e, q⟩ := h1.ok s1
    cases e
    exact ⟨_, rfl, q⟩
theorem snd_andT {a b : Expr} {rest : List Expr} {ea eb : E} {pos : Pos} (ha : PT X a (DT T W (evE G call ea))) (hb : PW X (.BoolOp .And (b :: rest) pos) (DT T W (evE G call eb))) : PW X (.BoolOp .And (a :: b :: rest) pos) (DT T W (evE G call (.and_ ea eb))) :=
  (pw_and ha hb).wk fun σ H Q ⟨ρ, S, fr, s, r, h⟩ => by
    unfold evE at h
    refine ⟨ρ, S, fr, s, r, h.bind.imp fun d S1 ρ1 H1 e1 s1 h1 => ?_⟩
    cases d <;> first | exact h1.elim | skip
    rename_i c
    refine ⟨c, rfl, ?_⟩
    cases c with
    | true => exact ⟨ρ1, S1, fr, s1, r.mono e1, h1⟩
    | false => obtain ⟨b, e, q⟩ := h1.ok s1; cases e; exact q
theorem snd_orT {a b : Expr} {rest : List Expr} {ea eb : E} {pos : Pos} (ha : PT X a (DT T W (evE G call ea))) (hb : PW X (.BoolOp .Or (b :: rest) pos) (DT T W (evE G call eb))) : PW X (.BoolOp .Or (a :: b :: rest) pos) (DT T W (evE G call (.or_ ea eb))) :=
  (pw_or ha hb).wk fun σ H Q ⟨ρ, S, fr, s, r, h⟩ => by
    unfold evE at h
    refine ⟨ρ, S, fr, s, r, h.bind.imp fun d S1 ρ1 H1 e1 s1 h1 => ?_⟩
    cases d <;> first | exact h1.elim | skip
    rename_i c
    refine ⟨c, rfl, ?_⟩
    cases c with
    | false => exact ⟨ρ1, S1, fr, s1, r.mono e1, h1⟩
    | true => obtain ⟨b, e, q⟩ := h1.ok s1; cases e; exact q
end
end PD
end Sec5
section Sec6
set_option Elab.async false
set_option linter.all false
set_option maxRecDepth 100000
set_option maxHeartbeats 4000000
/-! PD6: what of the program must stand behind the top; calls. -/
namespace PD
open PySem PySem.Spec PyProof.Rows L2

/-- where defs and classes stand -/
structure Lay where
  fa : Nat → Addr
  fd : Nat → FuncData
  ca : Nat → Addr
/-- of a def: its global name, its parameters' names -/
structure DI where
  gl : Option Nat
  ps : List Str
structure Inf where
  ds : List DI
  flds : List Nat

/-- how a call binds -/
def PatF (T : Tab) (G : Pg) (J : Inf) (Ly : Lay) (f : Nat) (d : Df) (di : DI) (n : Nat) (ks : List Nat) : Prop :=
  ∃ (kn : List Str) (g : List Value → List Value → List Value) (gV : List V → List V → List V), (∀ (i k : Nat), ks[i]? = some k → ∃ x : Str, T.syms[k]? = some x ∧ kn[i]? = some x) ∧ kn.length = ks.length ∧ KBn T.K (Ly.fd f) di.ps n kn g gV ∧
    ∀ (ρ : List Addr) (H : Hp) (xs : List D) (ws : List V) (ys : List D) (zs : List V) (as : List D), xs.length = n → ys.length = ks.length → RDs T ρ H xs ws → RDs T ρ H ys zs → bindA d.prm xs ks ys = some as → RDs T ρ H as (gV ws zs)
structure DefF (T : Tab) (G : Pg) (J : Inf) (Ly : Lay) (f : Nat) (d : Df) (di : DI) : Prop where
  len : di.ps.length = d.prm.length
  kp : PySem.W.keepIn T.K (.ref (Ly.fa f)) = true
  fn : PySem.W.isFn T.K (.ref (Ly.fa f)) = true
  fn2 : PySem.W.fnIn T.K (Ly.fa f) = true
  gl : ∀ g, di.gl = some g → ∃ x, T.syms[g]? = some x ∧ T.mg x = some (.ref (Ly.fa f))
  pat : ∀ n ks, patO d.pats n ks = true → PatF T G J Ly f d di n ks
structure ClF (T : Tab) (G : Pg) (J : Inf) (Ly : Lay) (c : Nat) (k : Cl) : Prop where
  mg : ∃ x, T.syms[c]? = some x ∧ T.mg x = some (.ref (Ly.ca c))
  kp : PySem.W.keepIn T.K (.ref (Ly.ca c)) = true
  cls : Cls T.K (Ly.ca c)
  met : ∀ m f, lkN k.meths m = some f → ∃ x, T.syms[m]? = some x ∧ Meth T.K (Ly.ca c) x (Ly.fa f)
  prp : ∀ m f, lkN k.props m = some f → ∃ x p, T.syms[m]? = some x ∧ PropOf T.K (Ly.ca c) x p (Ly.fa f)
  noa : ∀ f x, f ∈ J.flds → T.syms[f]? = some x → lkN k.props f = none → lkN k.meths f = none → NoAttr T.K (Ly.ca c) x
  mkr : ∀ f, k.init = some f → Mk T.K (Ly.ca c) (Ly.fa f)
  isi : ∀ c' k', lkN G.cls c' = some k' → PySem.W.kitOne T.K (.ref (Ly.ca c)) (.ref (Ly.ca c')) = some (k.up.any (Nat.beq c'))
  ha : PySem.W.findIn T.K (.ref (Ly.ca c)) "__class__" = some (some (.builtin "object.__class__"))
  hn : PySem.W.specialIn T.K (.builtin "object.__class__") "__get__" = some (some (.builtin "getset_descriptor.__get__"))
  htk : PySem.W.takesIn T.K (.builtin "object.__class__") = some true
  hm : PySem.W.mroIn T.K (Ly.ca c) (.type "object") = some true
/-- names that the meaning asks for, by their number in ids -/
def idTab : List (Nat × Str) := [(0, "__getitem__"), (1, "__setitem__"), (8, "append"), (9, "pop"), (10, "insert"), (11, "extend"), (12, "clear"), (16, "get")]
structure Stat (T : Tab) (G : Pg) (J : Inf) (Ly : Lay) : Prop where
  def_ : ∀ f d, nth G.defs f = some d → d.pats ≠ [] → ∃ di, nth J.ds f = some di ∧ DefF T G J Ly f d di
  cls : ∀ c k, lkN G.cls c = some k → ClF T G J Ly c k
  ids : ∀ (i : Nat) (x : Str), (i, x) ∈ idTab → T.syms[G.ids.getD i 0]? = some x

/-- a def's promise -/
def spD (T : Tab) (G : Pg) (n f : Nat) : Sp := fun vs H Q E => ∃ ρ S ds d, nth G.defs f = some d ∧ Sim T ρ S H ∧ RDs T ρ H ds vs ∧ Po T E ρ H (callN G n f ds S) fun r _ ρ' H' => ∀ v, RD T ρ' H' r v → Q v H'
/-- every def keeps it -/
def Fns (T : Tab) (G : Pg) (J : Inf) (Ly : Lay) (P : Program) (w : World) (base : Heap) (n : Nat) : Prop := ∀ f d di, nth G.defs f = some d → d.pats ≠ [] → nth J.ds f = some di → FnOk P w T.K T.mg base (L2.CX P w) (3 * n) (Ly.fa f) (Ly.fd f) di.ps (spD T G n f)

/-- the names of a block as they are written, and as they stand -/
structure KindOk (sc : Scope) (X : Cx) : Prop where
  kind : X.env.scope.kind = .function
  lo : ∀ x, sc.names.lookup x = some .local → X.env.scope.names.lookup x = some .local
  ce : ∀ x, sc.names.lookup x = some .cell → X.env.scope.names.lookup x = some .cell ∧ X.fn x = true
  fr : ∀ x, sc.names.lookup x = some .free → X.env.scope.names.lookup x = some .cell ∨ X.env.scope.names.lookup x = some .free
  gl : ∀ x, sc.names.lookup x = some .globalImplicit → X.env.scope.names.lookup x = some .globalImplicit
/-- where code is walked -/
structure CC where
  N : List Str
  sc : Scope
structure Cq (T : Tab) (G : Pg) (J : Inf) (Ly : Lay) (n : Nat) (c : CC) (W : WX) (X : Cx) : Prop where
  st : Stat T G J Ly
  K : X.K = T.K
  mg : X.mg = T.mg
  N : X.N = c.N
  nd : X.N.Nodup
  kn : KindOk c.sc X
  calm : X.calm = true
  room : Room (3 * n + 1) X.A
  tk : Takes X W
  own : PassesOwn (model X.prog X.w) X.A X.env X.xe
  fns : Fns T G J Ly X.prog X.w X.base n
  kd : ∀ a kvs, T.kd a kvs → ∀ k x d, T.syms[k]? = some x → lkD kvs (.str k) = some d → ∃ v, KDct T.K X.w a x v ∧ ∀ ρ H, RD T ρ H d v
section
variable {T : Tab} {G : Pg} {J : Inf} {Ly : Lay} {n : Nat} {c : CC} {W : WX} {X : Cx}
theorem Cq.hu (C : Cq T G J Ly n c W X) : X.A.units + 65 < cLine := by have := C.room.un; omega
theorem Cq.hr (C : Cq T G J Ly n c W X) : Room (3 * n) X.A := C.room.mono (by omega)

/-- a call by values -/
theorem run_code (C : Cq T G J Ly n c W X) {A' : Around} {outer : List Env} {s : Shared} {H : Hp} {Q : VK} {E : XK} (hr : Room (3 * n) A') (e0 : Env0 X.prog X.w X.K X.mg X.base A' outer s H) (X1 : X.K.In s.heap)
    {ρ : List Addr} {S : Sto} {f : Nat} {xs ys : List D} {ks : List Nat} {kn : List Str} {vs zs : List V} {us ws : List Value} (sm : Sim T ρ S H) (rx : RDs T ρ H xs vs) (ry : RDs T ρ H ys zs) (ru : Vals vs us) (rw' : Vals zs ws)
    (hkn : ∀ (i k : Nat), ks[i]? = some k → ∃ x : Str, T.syms[k]? = some x ∧ kn[i]? = some x) (hkl : kn.length = ks.length) (hyl : ys.length = ks.length)
    (h : Po T E ρ H (callA G (callN G n) f xs ks ys S) fun r _ ρ' H' => ∀ v, RD T ρ' H' r v → Q v H') :
    codeAny (model X.prog X.w) A' (.call (.ref (Ly.fa f)) ⟨us, kn.zip ws⟩) (CR (L2.CX X.prog X.w) outer X.prog X.w H s Q E) s := by
  unfold callA at h
  split at h
  · rename_i d ed
    split at h
    · rename_i hp
      split at h
      · rename_i as ea
        obtain ⟨di, edi, F⟩ := C.st.def_ f d ed (fun z => by rw [z] at hp; cases hp)
        obtain ⟨kn', g, gV, q1, q2, kb, q3⟩ := F.pat _ _ hp
        have ekn : kn' = kn := by
          refine List.ext_getElem? fun i => ?_
          cases e : ks[i]? with
          | none =>
            have : ks.length ≤ i := List.getElem?_eq_none_iff.mp e
            rw [List.getElem?_eq_none (by omega), List.getElem?_eq_none (by omega)]
          | some k =>
            obtain ⟨x, a1, a2⟩ := hkn i k e
            obtain ⟨y, b1, b2⟩ := q1 i k e
            rw [a1] at b1; cases b1
            rw [a2, b2]
        subst ekn
        have r3 : RDs T ρ H as (gV vs zs) := q3 ρ H xs vs ys zs as rfl hyl rx ry ea
        have rv := kb.rel ru rw'
        have hb := kb.to s us ws (C.K ▸ X1) (by rw [← ru.length, ← rx.length]) (by rw [← rw'.length, ← ry.length, hyl, q2])
        exact (C.fns f d di ed (fun z => by rw [z] at hp; cases hp) edi).run A' outer s H ⟨us, kn'.zip ws⟩ (g us ws) (gV vs zs) Q E hr (by rw [C.K, C.mg] at e0; exact e0) hb rv ⟨ρ, S, as, d, ed, sm, r3, h⟩
      · exact h.elim
    · exact h.elim
  · exact h.elim
/-- .. in any activation of this code -/
theorem run_any (C : Cq T G J Ly n c W X) {A' : Around} {pins : List (Addr × Obj)} {s : Shared} {σ : L2.St} {H : Hp} {Q : VK} (hr : Room (3 * n) A') (e0 : Env0 X.prog X.w X.K X.mg X.base A' X.stack s H) (I : L2.Inv X pins σ H s)
    {ρ : List Addr} {S : Sto} {f : Nat} {xs ys : List D} {ks : List Nat} {kn : List Str} {vs zs : List V} {us ws : List Value} (sm : Sim T ρ S H) (rx : RDs T ρ H xs vs) (ry : RDs T ρ H ys zs) (ru : Vals vs us) (rw' : Vals zs ws)
    (hkn : ∀ (i k : Nat), ks[i]? = some k → ∃ x : Str, T.syms[k]? = some x ∧ kn[i]? = some x) (hkl : kn.length = ks.length) (hyl : ys.length = ks.length)
    (h : Po T (fun c d H' => W c d σ H') ρ H (callA G (callN G n) f xs ks ys S) fun r _ ρ' H' => ∀ v, RD T ρ' H' r v → Q v H') :
    wpAny (model X.prog X.w) A' (call (.ref (Ly.fa f)) us (kn.zip ws)) (EP X pins σ Q) X.xe s := by
  refine wpAny_call (codeAny_mono (run_code C hr e0 I.kIn sm rx ry ru rw' hkn hkl hyl h) fun r s' hq => ?_)
  cases r with
  | error e => exact C.tk e s' (XE.of_call I (fun cls d H' h => h) hq)
  | ok fl =>
    cases fl with
    | ret u => exact I.after hq
    | next => exact False.elim hq
    | brk => exact False.elim hq
    | cont => exact False.elim hq
end
end PD
end Sec6
section Sec7
set_option Elab.async false
set_option linter.all false
set_option maxRecDepth 100000
set_option maxHeartbeats 4000000
/-! PD7: calls of defs, classes, methods. -/
namespace PD
open PySem PySem.Spec PyProof.Rows L2

/-! ### argument lists as they are written -/
def notStar : Expr → Bool
  | .Starred _ _ => false
  | _ => true
theorem star_ne {e : Expr} {es : List Expr} {env : Env} (h : notStar e = true) : starEach (e :: es) env = (false, eval e env) :: starEach es env := by
  cases e <;> first | rfl | (cases h; done)
theorem star_any {pos : Pos} {env : Env} : ∀ {es : List Expr}, es.all notStar = true → (backTo pos (starEach es env)).any (·.1) = false
  | [], _ => rfl
  | e :: es, h => by
    rw [List.all_cons, Bool.and_eq_true] at h
    rw [star_ne h.1]
    show (false || (backTo pos (starEach es env)).any (·.1)) = false
    rw [star_any h.2]; rfl
theorem star_all {pos : Pos} {env : Env} : ∀ {es : List Expr}, es.all notStar = true → (backTo pos (starEach es env)).all (fun x => !x.1) = true
  | [], _ => rfl
  | e :: es, h => by
    rw [List.all_cons, Bool.and_eq_true] at h
    rw [star_ne h.1]
    show (true && (backTo pos (starEach es env)).all (fun x => !x.1)) = true
    rw [star_all h.2]; rfl
/-- the keywords' names -/
def kwNames : List Keyword → Option (List Str)
  | [] => some []
  | ⟨some n, _, _⟩ :: r => (kwNames r).map (n :: ·)
  | _ => none
theorem kw_all {pos : Pos} {env : Env} : ∀ {kws : List Keyword} {ns : List Str}, kwNames kws = some ns →
    (backToKw pos (keywordEach kws env)).all (·.1.isSome) = true ∧ (backToKw pos (keywordEach kws env)).filterMap (·.1) = ns ∧ (backToKw pos (keywordEach kws env)).any (·.1.isNone) = false
  | [], _, h => by cases h; exact ⟨rfl, rfl, rfl⟩
  | ⟨none, _, _⟩ :: _, _, h => by cases h
  | ⟨some n, v, p⟩ :: r, _, h => by
    unfold kwNames at h
    obtain ⟨ms, e, rfl⟩ := Option.map_eq_some_iff.mp h
    obtain ⟨a, b, c⟩ := kw_all (pos := pos) (env := env) e
    refine ⟨?_, ?_, ?_⟩
    · show (true && (backToKw pos (keywordEach r env)).all (·.1.isSome)) = true
      rw [a]; rfl
    · show n :: (backToKw pos (keywordEach r env)).filterMap (·.1) = n :: ms
      rw [b]
    · show (false || (backToKw pos (keywordEach r env)).any (·.1.isNone)) = false
      rw [c]; rfl

section
variable {T : Tab} {G : Pg} {J : Inf} {Ly : Lay} {n : Nat} {c : CC} {W : WX} {X : Cx} {call : Call}
theorem snd_knil : PK X [] (DA T W (evEs G call [])) := ⟨fun pos pins s σ H Q I ⟨ρ, S, fr, sm, r, h⟩ => pk_nil.run pos pins s σ H Q I (by
  unfold evEs at h
  exact h.ok sm [] .nil)⟩
theorem snd_kcons {nm : Option Str} {kpos : Pos} {e : Expr} {kws : List Keyword} {d : E} {ds : List E} (ha : PE X e (DE T W (evE G call d))) (hr : PK X kws (DA T W (evEs G call ds))) : PK X (⟨nm, e, kpos⟩ :: kws) (DA T W (evEs G call (d :: ds))) :=
  ⟨fun pos pins s σ H Q I ⟨ρ, S, fr, sm, r, h⟩ => (pk_cons ha hr).run pos pins s σ H Q I (by
    unfold evEs at h
    refine ⟨ρ, S, fr, sm, r, h.bind.imp fun d S1 ρ1 H1 e1 s1 h1 v r1 => ⟨ρ1, S1, fr, s1, r.mono e1, h1.bind.imp fun ds S2 ρ2 H2 e2 s2 h2 vs rs => h2.ok s2 _ (.cons (r1.mono e2) rs)⟩⟩)⟩

/-- from the callee's value on: arguments, keywords, the call -/
theorem cw (C : Cq T G J Ly n c W X) {fv : Value} {first : List Value} {es : List Expr} {kws : List Keyword} {kn : List Str} {pos : Pos} {eds evs : List E} {pins : List (Addr × Obj)} {s : Shared} {σ : L2.St} {H : Hp} {Q' : Value → Shared → Prop} {R : List V → List V → Hp → Prop}
    (hkp : PySem.W.keepIn X.K fv = true) (hes : es.all notStar = true) (hkw : kwNames kws = some kn) (le : es.length = eds.length) (lk : kws.length = evs.length) (ha : PA X es (DA T W (evEs G call eds))) (hk : PK X kws (DA T W (evEs G call evs))) (I : L2.Inv X pins σ H s)
    (h : DA T W (evEs G call eds) σ H fun vs H1 => DA T W (evEs G call evs) σ H1 fun zs H2 => R vs zs H2)
    (run : ∀ (us ws : List Value) (vs zs : List V) (s2 : Shared) (H2 : Hp), L2.Inv X pins σ H2 s2 → Vals vs us → Vals zs ws → R vs zs H2 → wpAny (model X.prog X.w) X.A (PySem.call fv (first ++ us) (kn.zip ws)) Q' X.xe s2) :
    wpAny (model X.prog X.w) X.A (callWith pos fv first (backTo pos (starEach es X.env)) (backToKw pos (keywordEach kws X.env))) Q' X.xe s := by
  obtain ⟨k1, k2, k3⟩ := kw_all (pos := pos) (env := X.env) hkw
  have nilD : ∀ {σ : L2.St} {H : Hp} {Q : List V → Hp → Prop}, DA T W (evEs G call []) σ H Q → Q [] H := by
    rintro σ H Q ⟨ρ, S, fr, sm, r, h⟩
    unfold evEs at h
    exact h.ok sm [] .nil
  cases es with
  | nil =>
    cases eds with
    | cons _ _ => cases le
    | nil =>
      have h := nilD h
      cases kws with
      | nil =>
        cases evs with
        | cons _ _ => cases lk
        | nil =>
          cases hkw
          exact PySem.W.callWith_K0 I.kIn hkp (run [] [] [] [] s H I .nil .nil (nilD h))
      | cons kw kws =>
        refine PySem.W.callWith_KW0 (h₀ := X.base) I.ok.mod.kin hkp k1 (thn (hk.run pos pins s σ H _ I h) fun ws s2 ⟨zs, H2, I2, rz, q2⟩ => ⟨I2.kIn, ?_⟩) (by rw [k3]; rfl)
        rw [k2]
        exact run [] ws [] zs s2 H2 I2 .nil rz q2
  | cons e es =>
    have h1 := ha.run pos pins s σ H _ I h
    rw [List.all_cons, Bool.and_eq_true] at hes
    cases kws with
    | nil =>
      cases evs with
      | cons _ _ => cases lk
      | nil =>
        cases hkw
        exact PySem.W.callWith_K (h₀ := X.base) I.ok.mod.kin hkp (thn h1 fun us s1 ⟨vs, H1, I1, r1, q1⟩ => ⟨I1.kIn, run us [] vs [] s1 H1 I1 r1 .nil (nilD q1)⟩) (star_ne hes.1) (star_any hes.2)
    | cons kw kws =>
      refine PySem.W.callWith_KW (h₀ := X.base) I.ok.mod.kin hkp k1 (thn h1 fun us s1 ⟨vs, H1, I1, r, q⟩ => ?_) (by rw [k3, star_any (by rw [List.all_cons, hes.1, hes.2]; rfl)]; rfl) (star_ne hes.1)
      refine thn (hk.run pos pins s1 σ H1 _ I1 q) fun ws s2 ⟨zs, H2, I2, rz, q2⟩ => ⟨I2.kIn, ?_⟩
      rw [k2]
      exact run us ws vs zs s2 H2 I2 r rz q2

/-- the meaning of arguments and keywords, with what follows -/
theorem args_split {eds evs : List E} {P : D → Sto → List Addr → Hp → Prop} {k : List D → List D → Sto → R D} {ρ : List Addr} {S : Sto} {fr : Fr} {σ : L2.St} {H : Hp} (sm : Sim T ρ S H) (r : FR T ρ H fr σ)
    (h : Po T (fun c d H' => W c d σ H') ρ H ((evEs G call eds fr S).bind fun xs s1 => (evEs G call evs fr s1).bind fun ys s2 => k xs ys s2) P) :
    DA T W (evEs G call eds) σ H fun vs H1 => DA T W (evEs G call evs) σ H1 fun zs H2 => ∃ ρ2 S2 xs ys, Ext ρ H ρ2 H2 ∧ Sim T ρ2 S2 H2 ∧ RDs T ρ2 H2 xs vs ∧ RDs T ρ2 H2 ys zs ∧ xs.length = eds.length ∧ ys.length = evs.length ∧ Po T (fun c d H' => W c d σ H') ρ2 H2 (k xs ys S2) P := by
  have len : ∀ (es : List E) (fr : Fr) (S : Sto) (xs : List D) (S' : Sto), evEs G call es fr S = .ok xs S' → xs.length = es.length := by
    intro es
    induction es with
    | nil => intro fr S xs S' e; unfold evEs at e; cases e; rfl
    | cons a es ih =>
      intro fr S xs S' e
      unfold evEs at e
      cases e1 : evE G call a fr S with
      | ok d s1 =>
        rw [e1] at e
        cases e2 : evEs G call es fr s1 with
        | ok ds s2 =>
          have e : ((evEs G call es fr s1).bind fun vs s2 => R.ok (d :: vs) s2) = .ok xs S' := e
          rw [e2] at e
          cases e
          simp [ih _ _ _ _ e2]
        | ex c fs s =>
          have e : ((evEs G call es fr s1).bind fun vs s2 => R.ok (d :: vs) s2) = .ok xs S' := e
          rw [e2] at e; cases e
        | no =>
          have e : ((evEs G call es fr s1).bind fun vs s2 => R.ok (d :: vs) s2) = .ok xs S' := e
          rw [e2] at e; cases e
      | ex c fs s => rw [e1] at e; cases e
      | no => rw [e1] at e; cases e
  refine ⟨ρ, S, fr, sm, r, ?_⟩
  have h := h.bind
  cases e1 : evEs G call eds fr S with
  | no => rw [e1] at h; exact h
  | ex c fs s => rw [e1] at h; exact h
  | ok xs S1 =>
    rw [e1] at h
    intro ρ1 H1 x1 s1 vs rs
    have h := (h ρ1 H1 x1 s1).bind
    refine ⟨ρ1, S1, fr, s1, r.mono x1, ?_⟩
    cases e2 : evEs G call evs fr S1 with
    | no => rw [e2] at h; exact h
    | ex c fs s => rw [e2] at h; exact h
    | ok ys S2 =>
      rw [e2] at h
      intro ρ2 H2 x2 s2 zs rz
      exact ⟨ρ2, S2, xs, ys, x1.trans x2, s2, rs.mono x2, rz, len _ _ _ _ _ e1, len _ _ _ _ _ e2, h ρ2 H2 x2 s2⟩

/-- the written names of keywords, by symbols -/
def kwOk (T : Tab) (ks : List Nat) (kn : List Str) : Prop := kn.length = ks.length ∧ ∀ (i k : Nat), ks[i]? = some k → ∃ x : Str, T.syms[k]? = some x ∧ kn[i]? = some x

/-- f(..), f a def of the module -/
theorem snd_call (C : Cq T G J Ly n c W X) {f : Nat} {di : DI} {d : Df} {g : Nat} {x : Str} {es : List Expr} {kws : List Keyword} {kn : List Str} {ks : List Nat} {eds evs : List E} {p pos : Pos} (ed : nth G.defs f = some d) (ep : d.pats.isEmpty = false) (edi : nth J.ds f = some di) (hg : di.gl = some g) (hx : T.syms[g]? = some x) (hgl : Gl X x)
    (hdb : (x == ("__debug__" : Str)) = false) (hes : es.all notStar = true) (hkw : kwNames kws = some kn) (hko : kwOk T ks kn) (le : es.length = eds.length) (lk : kws.length = evs.length) (ha : PA X es (DA T W (evEs G (callN G n) eds))) (hk : PK X kws (DA T W (evEs G (callN G n) evs))) (lks : ks.length = evs.length) :
    PE X (.Call (.Name x p) es kws pos) (DE T W (evE G (callN G n) (.call f eds ks evs))) := by
  refine ⟨fun pins s σ H Q I ⟨ρ, S, fr, sm, r, h⟩ => ?_⟩
  unfold evE at h
  obtain ⟨di', edi', F⟩ := C.st.def_ f d ed (fun z => by rw [z] at ep; cases ep)
  rw [edi] at edi'; cases edi'
  obtain ⟨y, hy, hm⟩ := F.gl g hg
  rw [hx] at hy; cases hy
  refine wpAny_Call_Name_kw (ld_glob I hgl (by rw [C.mg]; exact hm) ?_ hdb)
  refine cw C (by rw [C.K]; exact F.kp) hes hkw le lk ha hk I (args_split sm r h) ?_
  rintro us ws vs zs s2 H2 I2 ru rw' ⟨ρ2, S2, xs, ys, x2, s2', rx, ry, l1, l2, q⟩
  exact run_any C C.hr I2.env0 I2 s2' rx ry ru rw' hko.2 hko.1 (by rw [l2, lks]) q

/-! ### instances -/
theorem ins_at {ρ : List Addr} {H : Hp} {S : Sto} {l : Nat} {a : Addr} {c : Nat} {fs : List (Nat × D)} (s : Sim T ρ S H) (e : nth S l = some (.ins c fs)) (ha : ρ[l]? = some a) : ∃ x C dx gs, T.syms[c]? = some x ∧ T.mg x = some (.ref C) ∧ H a = some (.ins C dx gs) ∧ FRs T ρ H fs gs := by
  rw [nth_eq] at e
  cases s.getA e ha with
  | ins h1 h2 h3 h4 => exact ⟨_, _, _, _, h1, h2, h3, h4⟩
theorem FRs.lk {ρ : List Addr} {H : Hp} {f : Nat} {x : Str} (hx : T.syms[f]? = some x) : ∀ {fs : List (Nat × D)} {gs : List (Str × V)}, FRs T ρ H fs gs → match lkN fs f with
    | some d => ∃ v, gs.lookup x = some v ∧ RD T ρ H d v
    | none => gs.lookup x = none
  | _, _, .nil => rfl
  | _, _, .cons (k := k) (x := y) hk r t => by
    unfold lkN
    have e := T.inj' hk hx
    rw [e]
    by_cases h : y = x
    · subst h
      rw [if_pos (decide_eq_true rfl)]
      exact ⟨_, by simp [List.lookup_cons], r⟩
    · rw [if_neg (by rw [decide_eq_false h]; exact Bool.false_ne_true)]
      have e2 : ((x == y) = false) := by simp [Ne.symm h]
      rw [List.lookup_cons, e2]
      exact FRs.lk hx t
theorem FRs.put {ρ : List Addr} {H : Hp} {f : Nat} {x : Str} {d : D} {v : V} (hx : T.syms[f]? = some x) (rv : RD T ρ H d v) : ∀ {fs : List (Nat × D)} {gs : List (Str × V)}, FRs T ρ H fs gs → FRs T ρ H (putN fs f d) (putF x v gs)
  | _, _, .nil => .cons hx rv .nil
  | _, _, .cons (k := k) (x := y) hk r t => by
    unfold putN putF
    rw [T.inj' hk hx]
    by_cases h : y = x
    · rw [if_pos h, if_pos (decide_eq_true h)]; exact .cons hk rv t
    · rw [if_neg h, if_neg (by rw [decide_eq_false h]; exact Bool.false_ne_true)]; exact .cons hk r (FRs.put hx rv t)
/-- the class of an instance in the store -/
theorem cls_at (C : Cq T G J Ly n c W X) {ρ : List Addr} {H : Hp} {S : Sto} {l : Nat} {a : Addr} {cc : Nat} {fs : List (Nat × D)} {k : Cl} (s : Sim T ρ S H) (e : nth S l = some (.ins cc fs)) (ha : ρ[l]? = some a) (ek : lkN G.cls cc = some k) :
    ∃ dx gs, H a = some (.ins (Ly.ca cc) dx gs) ∧ FRs T ρ H fs gs ∧ ClF T G J Ly cc k := by
  obtain ⟨x, C', dx, gs, h1, h2, h3, h4⟩ := ins_at s e ha
  have F := C.st.cls cc k ek
  obtain ⟨y, q1, q2⟩ := F.mg
  rw [h1] at q1; cases q1
  rw [h2] at q2; cases q2
  exact ⟨dx, gs, h3, h4, F⟩

/-- C(..), by values -/
theorem run_new (C : Cq T G J Ly n c W X) {pins : List (Addr × Obj)} {s : Shared} {σ : L2.St} {H : Hp} {Q : VK}
    (I : L2.Inv X pins σ H s) {ρ : List Addr} {S : Sto} {cc : Nat} {k : Cl} (ek : lkN G.cls cc = some k) {xs ys : List D} {ks : List Nat} {kn : List Str} {vs zs : List V} {us ws : List Value} (sm : Sim T ρ S H) (rx : RDs T ρ H xs vs) (ry : RDs T ρ H ys zs) (ru : Vals vs us) (rw' : Vals zs ws)
    (hkn : ∀ (i k : Nat), ks[i]? = some k → ∃ x : Str, T.syms[k]? = some x ∧ kn[i]? = some x) (hkl : kn.length = ks.length) (hyl : ys.length = ks.length)
    (h : Po T (fun c d H' => W c d σ H') ρ H (newD G (callN G n) cc xs ks ys S) fun r _ ρ' H' => ∀ v, RD T ρ' H' r v → Q v H') :
    wpAny (model X.prog X.w) X.A (PySem.call (.ref (Ly.ca cc)) us (kn.zip ws)) (EP X pins σ Q) X.xe s := by
  have F := C.st.cls cc k ek
  unfold newD at h
  rw [ek] at h; dsimp only at h
  cases ef : k.init with
  | none => rw [ef] at h; exact h.elim
  | some f =>
    rw [ef] at h; dsimp only at h
    have M := F.mkr f ef
    rw [← C.K] at M
    obtain ⟨x, hx, hm⟩ := F.mg
    have e1 : H s.heap.objs.size = none := I.hok.fresh (Nat.le_refl _)
    have e2 : H (s.heap.objs.size + 1) = none := I.hok.fresh (Nat.le_succ _)
    have ne : s.heap.objs.size ≠ s.heap.objs.size + 1 := Nat.ne_of_lt (Nat.lt_succ_self _)
    have I2 := Inv.made (C := Ly.ca cc) I
    obtain ⟨sm1, x1⟩ := sm.aside (u := .own (s.heap.objs.size + 1)) e1
    have e2' : upd H s.heap.objs.size (.own (s.heap.objs.size + 1)) (s.heap.objs.size + 1) = none := by rw [upd_ne (Ne.symm ne)]; exact e2
    obtain ⟨sm2, x2⟩ := sm1.new (o := .ins cc []) (u := .ins (Ly.ca cc) s.heap.objs.size []) e2' (.ins hx hm upd_same .nil)
    have xx := x1.trans x2
    have l0 : (ρ ++ [s.heap.objs.size + 1])[S.length]? = some (s.heap.objs.size + 1) := by rw [← sm.len]; simp
    have r1 : Vals (V.ref (s.heap.objs.size + 1) :: vs) (Value.ref (s.heap.objs.size + 1) :: us) := .cons rfl ru
    have h := h.mono xx
    have hq : Po T (fun c d H' => W c d σ H') (ρ ++ [s.heap.objs.size + 1]) (upd (upd H s.heap.objs.size (.own (s.heap.objs.size + 1))) (s.heap.objs.size + 1) (.ins (Ly.ca cc) s.heap.objs.size []))
        (callA G (callN G n) f (.ref S.length :: xs) ks ys (S ++ [.ins cc []])) fun r _ ρ' H' => ∀ v, RD T ρ' H' r v → v = .non ∧ Q (.ref (s.heap.objs.size + 1)) H' := by
      unfold initD at h
      cases er : callA G (callN G n) f (.ref S.length :: xs) ks ys (S ++ [.ins cc []]) with
      | no => rw [er] at h; exact h
      | ex c fs s1 => rw [er] at h; exact h
      | ok d s1 =>
        rw [er] at h
        cases d <;> first | exact h.elim | skip
        intro ρ' H' x3 sm3 v rv
        cases rv
        exact ⟨rfl, h ρ' H' x3 sm3 _ (.ref (x3.at l0))⟩
    refine wpAny_call (make_map (f := Ly.fa f) I.kIn M.makes M.init (beq_iff_eq.mp M.fn) (codeAny_mono (run_code C (C.room.make (Ly.ca cc) us (kn.zip ws) |>.mono (Nat.le_refl _)) (I2.env0.make (Ly.ca cc) us (kn.zip ws)) I2.kIn sm2 (.cons (.ref l0) (rx.mono xx)) (ry.mono xx) r1 rw' hkn hkl hyl hq) fun r s' hq' => ?_))
    cases r with
    | error e => exact C.tk e s' (XE.of_call I2 (fun cls d H' h => h) hq')
    | ok fl =>
      cases fl with
      | ret u =>
        obtain ⟨v, H', I3, rv, ev, q3⟩ := I2.after hq'
        subst ev
        exact ⟨rv, ⟨V.ref (s.heap.objs.size + 1), H', I3, rfl, q3⟩⟩
      | next => exact False.elim hq'
      | brk => exact False.elim hq'
      | cont => exact False.elim hq'
/-- C(..) -/
theorem snd_new (C : Cq T G J Ly n c W X) {cc : Nat} {k : Cl} (ek : lkN G.cls cc = some k) {x : Str} {es : List Expr} {kws : List Keyword} {kn : List Str} {ks : List Nat} {eds evs : List E} {p pos : Pos} (hx : T.syms[cc]? = some x) (hgl : Gl X x)
    (hdb : (x == ("__debug__" : Str)) = false) (hes : es.all notStar = true) (hkw : kwNames kws = some kn) (hko : kwOk T ks kn) (le : es.length = eds.length) (lk : kws.length = evs.length) (ha : PA X es (DA T W (evEs G (callN G n) eds))) (hk : PK X kws (DA T W (evEs G (callN G n) evs))) (lks : ks.length = evs.length) :
    PE X (.Call (.Name x p) es kws pos) (DE T W (evE G (callN G n) (.new cc eds ks evs))) := by
  refine ⟨fun pins s σ H Q I ⟨ρ, S, fr, sm, r, h⟩ => ?_⟩
  unfold evE at h
  have F := C.st.cls cc k ek
  obtain ⟨y, hy, hm⟩ := F.mg
  rw [hx] at hy; cases hy
  refine wpAny_Call_Name_kw (ld_glob I hgl (by rw [C.mg]; exact hm) ?_ hdb)
  refine cw C (by rw [C.K]; exact F.kp) hes hkw le lk ha hk I (args_split sm r h) ?_
  rintro us ws vs zs s2 H2 I2 ru rw' ⟨ρ2, S2, xs, ys, x2, s2', rx, ry, l1, l2, q⟩
  exact run_new C I2 ek s2' rx ry ru rw' hko.2 hko.1 (by rw [l2, lks]) q
end
end PD
end Sec7
section Sec8
set_option Elab.async false
set_option linter.all false
set_option maxRecDepth 100000
set_option maxHeartbeats 4000000
/-! PD8: methods. -/
namespace PD
open PySem PySem.Spec PyProof.Rows L2

/-- no call that could be super() -/
def baseOk : Expr → Bool
  | .Call (.Name _ _) [] [] _ => false
  | _ => true
theorem base_of {o : Expr} {m : Str} {env : Env} (h : baseOk o = true) : attributeBase o m env (eval o env) = eval o env := by
  unfold attributeBase
  split
  · cases h
  · rfl

section
variable {prog : Program} {w : World} {A : Around} {E' : Value → Shared → Prop} {s : Shared} {env : Env}
/-- o.m(e, ..): the object, the method, the call -/
theorem meth_wp {o : Expr} {m : Str} {apos pos : Pos} {es : List Expr} {Q : Value → Shared → Prop} (hb : baseOk o = true) (hes : es.all notStar = true) (hn : es.length < 29) (hl : (apos.endLine == pos.line) = true)
    (h : wpAny (model prog w) A (eval o env) (fun ov s1 => ∀ pl, wpAny (model prog w) A (getMethod ov m pl) (fun fx s2 => wpAny (model prog w) A (callWith pos fx.1 fx.2 (backTo pos (starEach es env)) []) Q E' s2) E' s1) E' s) :
    wpAny (model prog w) A (eval (.Call (.Attribute o m apos) es [] pos) env) Q E' s := by
  rw [arm_eval_Call, base_of hb]
  refine wpAny_bind (wpAny_mono h (fun ov s₁ h₁ => wpAny_bind (wpAny_standAt ?_)) fun _ _ e => e)
  have hform : methodCallForm (es.length + ([] : List Keyword).length) (backTo pos (starEach es env)) (backToKw pos (keywordEach [] env)) = true := by
    unfold methodCallForm
    rw [star_all hes]
    show (true && true && decide (es.length + 0 + 0 < 30)) = true
    rw [decide_eq_true (by omega)]; rfl
  have hpos : methodCallPos true o env apos pos = pure pos := by unfold methodCallPos; simp [hl]
  unfold methodCall
  rw [hform]
  refine wpAny_bind (wpAny_holding (wpAny_mono (h₁ _) (fun fx s2 h2 => ?_) fun _ _ e => e))
  exact wpAny_bind (wpAny_of_eq hpos h2)
end

/-- built-in methods by their numbers -/
def bmI : Nat → String
  | 0 => "list.append" | 1 => "list.pop" | 2 => "list.insert" | 3 => "list.extend" | 4 => "list.clear" | _ => "dict.get"
def bmN : Nat → Str
  | 0 => "append" | 1 => "pop" | 2 => "insert" | 3 => "extend" | 4 => "clear" | _ => "get"
def bmT (k : Nat) : String := if k < 5 then "list" else "dict"
theorem bm_slot : ∀ k : Nat, PlainAttrs (bmT k) ∧ Slot (bmT k) (bmN k) (bmI k) ∧ typeOf (.builtin (bmI k)) = pure (.type "method_descriptor")
  | 0 => ⟨F.plainAttrs_list, F.slot_list_append, F.type_list_append⟩
  | 1 => ⟨F.plainAttrs_list, F.slot_list_pop, F.type_list_pop⟩
  | 2 => ⟨F.plainAttrs_list, F.slot_list_insert, F.type_list_insert⟩
  | 3 => ⟨F.plainAttrs_list, F.slot_list_extend, F.type_list_extend⟩
  | 4 => ⟨F.plainAttrs_list, F.slot_list_clear, F.type_list_clear⟩
  | k + 5 => by
    have e : bmT (k + 5) = "dict" := if_neg (by omega)
    rw [e]
    exact ⟨F.plainAttrs_dict, F.slot_dict_get, F.type_dict_get⟩

section
variable {T : Tab} {G : Pg} {J : Inf} {Ly : Lay} {n : Nat} {c : CC} {W : WX} {X : Cx} {call : Call}
theorem in62_i {i : Int} (h : in62 i = true) : -(2 ^ 62) ≤ i ∧ i < 2 ^ 62 := by
  unfold in62 at h
  cases i with
  | ofNat k => have := Nat.le_of_ble_eq_true h; constructor <;> simp <;> omega
  | negSucc k => have := Nat.le_of_ble_eq_true h; constructor <;> omega
/-- a built-in method by values -/
theorem run_bm (hu : X.A.units + 65 < cLine) {k : Nat} {pins : List (Addr × Obj)} {s : Shared} {σ : L2.St} {H : Hp} {Q : VK} {ρ : List Addr} {S : Sto} {x : D} {xs : List D} {v : V} {vs : List V} {u : Value} {us : List Value}
    (I : L2.Inv X pins σ H s) (sm : Sim T ρ S H) (rx : RD T ρ H x v) (rs : RDs T ρ H xs vs) (ru : RelV v u) (rus : Vals vs us) (h : PoV T ρ H (bmD x k xs S) Q) :
    wpAny (model X.prog X.w) X.A (PySem.call (.builtin (bmI k)) (u :: us)) (EP X pins σ Q) X.xe s := by
  unfold bmD at h
  split at h
  · rename_i l
    cases rx with
    | ref ha =>
    split at h
    · rename_i ds ed
      rw [nth_eq] at ed
      obtain ⟨ws, hH, rw'⟩ : ∃ ws, H _ = some (.lst ws) ∧ RDs T ρ H ds ws := by
        cases sm.getA ed ha with
        | lst h1 h2 => exact ⟨_, h1, h2⟩
      split at h
      · -- append
        rename_i v0
        cases rs with
        | cons r1 r2 =>
        cases r2
        split at h
        · rename_i hz
          have hz := line_lt hz
          rw [rw'.length] at hz
          exact mt_append pins s σ H _ _ _ _ Q I ru rus ⟨_, ws, _, rfl, rfl, hH, hz, h.set sm ed ha (fun e => .lst upd_same ((rw'.mono e).append (.cons (r1.mono e) .nil))) (fun e => .non)⟩
        · exact h.elim
      · -- pop
        rename_i i
        cases rs with
        | cons r1 r2 =>
        cases r2
        cases r1
        split at h
        · rename_i j ej
          split at h
          · rename_i d edd
            split at h
            · rename_i hi
              have hi := in62_i hi
              rw [nth_eq] at edd
              obtain ⟨w0, hw, rw0⟩ := rw'.get edd
              have hj : seqIndex? i ws.length = some j := by
                rw [← rw'.length]; exact (ixN_seq (ixNat_at ej)).1
              exact mt_popAt pins s σ H _ _ _ _ Q I ru rus ⟨_, ws, i, j, _, rfl, rfl, hH, by omega, by omega, hj, hw, h.set sm ed ha (fun e => .lst upd_same ((rw'.mono e).eraseIdx j)) (fun e => rw0.mono e)⟩
            · exact h.elim
          · exact h.elim
        · exact h.elim
      · -- insert
        rename_i i v0
        cases rs with
        | cons r1 r2 =>
        cases r2 with
        | cons r2 r3 =>
        cases r3
        cases r1
        split at h
        · rename_i hz
          rw [Bool.and_eq_true, Bool.and_eq_true] at hz
          obtain ⟨hz, hi, hnn⟩ := hz
          have hz := line_lt hz
          have hi := in62_i hi
          rw [rw'.length] at hz
          have h0 : 0 ≤ i ∧ natI i = i.toNat := by
            cases i with
            | ofNat k => exact ⟨Int.natCast_nonneg k, rfl⟩
            | negSucc k => cases hnn
          refine mt_insert pins s σ H _ _ _ _ Q I ru rus ⟨_, ws, i, _, rfl, rfl, hH, hz, h0.1, by omega, ?_⟩
          refine h.set sm ed ha (fun e => .lst upd_same ?_) (fun e => .non)
          unfold ins1
          rw [h0.2, show ds.take i.toNat ++ v0 :: ds.drop i.toNat = ds.take i.toNat ++ [v0] ++ ds.drop i.toNat by simp]
          exact (((rw'.mono e).take _).append (.cons (r2.mono e) .nil)).append ((rw'.mono e).drop _)
        · exact h.elim
      · -- extend
        rename_i k'
        cases rs with
        | cons r1 r2 =>
        cases r2
        cases r1 with
        | ref hb =>
        split at h
        · rename_i ys ey
          split at h
          · rename_i hz
            obtain ⟨zs, hB, rz⟩ := lst_at sm ey hb
            have hz := line_le hz
            rw [rw'.length, rz.length] at hz
            exact mt_extend pins s σ H _ _ _ _ Q I ru rus ⟨_, _, ws, zs, rfl, rfl, hH, hB, hz, h.set sm ed ha (fun e => .lst upd_same ((rw'.mono e).append (rz.mono e))) (fun e => .non)⟩
          · exact h.elim
        · exact h.elim
      · -- clear
        cases rs
        exact mt_clear pins s σ H _ _ _ _ Q I ru rus ⟨_, ws, rfl, rfl, hH, h.set sm ed ha (fun e => .lst upd_same .nil) (fun e => .non)⟩
      · exact h.elim
    · rename_i t kvs ed
      split at h
      · rename_i k' d'
        cases rs with
        | cons r1 r2 =>
        cases r2 with
        | cons r2 r3 =>
        cases r3
        split at h
        · rename_i hk
          have g := dct_get sm ed ha r1 hk
          cases rus with
          | cons q1 q2 =>
          cases q2 with
          | cons q2 q3 =>
          cases q3
          cases ru
          cases el : lkD kvs k' with
          | none =>
            rw [el] at g h
            exact d_get2 (by omega) I g q1 q2 fun w' s3 I3 rw' => ⟨_, H, I3, rw', h.ok sm r2⟩
          | some d0 =>
            rw [el] at g h
            obtain ⟨v0, g1, g2⟩ := g
            exact d_get2 (by omega) I g1 q1 q2 fun w' s3 I3 rw' => ⟨_, H, I3, rw', h.ok sm g2⟩
        · exact h.elim
      · exact h.elim
    · exact h.elim
  · exact h.elim
theorem bmD_noex {a : D} {k : Nat} {vs : List D} {s : Sto} (c : Nat) (fs : List (Nat × D)) (s' : Sto) : bmD a k vs s ≠ .ex c fs s' := by
  unfold bmD
  intro h
  repeat' (split at h)
  all_goals cases h
theorem evEs_nil {fr : Fr} {s : Sto} : evEs G call [] fr s = .ok [] s := by unfold evEs; rfl
/-- arguments alone, with what follows -/
theorem args1 {eds : List E} {P : D → Sto → List Addr → Hp → Prop} {k : List D → Sto → R D} {ρ : List Addr} {S : Sto} {fr : Fr} {σ : L2.St} {H : Hp} (sm : Sim T ρ S H) (r : FR T ρ H fr σ)
    (h : Po T (fun c d H' => W c d σ H') ρ H ((evEs G call eds fr S).bind fun xs s1 => k xs s1) P) :
    DA T W (evEs G call eds) σ H fun vs H1 => ∃ ρ1 S1 xs, Ext ρ H ρ1 H1 ∧ Sim T ρ1 S1 H1 ∧ RDs T ρ1 H1 xs vs ∧ Po T (fun c d H' => W c d σ H') ρ1 H1 (k xs S1) P :=
  ⟨ρ, S, fr, sm, r, h.bind.imp fun xs S1 ρ1 H1 e1 s1 h1 vs rs => ⟨ρ1, S1, xs, e1, s1, rs, h1⟩⟩
theorem bmL_of {ids : List Nat} {m k : Nat} (h : bmL ids m = some k) : k < 5 ∧ m = ids.getD (8 + k) 0 := by
  unfold bmL at h
  repeat' (split at h)
  all_goals first | (cases h; done) | (rename_i e; cases h; exact ⟨by decide, Nat.eq_of_beq_eq_true e⟩)
theorem bmG_of {ids : List Nat} {m k : Nat} (h : bmG ids m = some k) : k = 5 ∧ m = ids.getD 16 0 := by
  unfold bmG at h
  split at h
  · rename_i e; cases h; exact ⟨rfl, Nat.eq_of_beq_eq_true e⟩
  · cases h
/-- o.m(e, ..) -/
theorem snd_meth (C : Cq T G J Ly n c W X) {o : Expr} {ao : E} {m : Str} {ms : Nat} {es : List Expr} {eds : List E} {apos pos : Pos} (hm : T.syms[ms]? = some m) (hb : baseOk o = true) (hes : es.all notStar = true) (hn : es.length < 29) (hl : (apos.endLine == pos.line) = true)
    (le : es.length = eds.length) (ho : PE X o (DE T W (evE G (callN G n) ao))) (ha : PA X es (DA T W (evEs G (callN G n) eds))) :
    PE X (.Call (.Attribute o m apos) es [] pos) (DE T W (evE G (callN G n) (.meth ao ms eds))) := by
  refine ⟨fun pins s σ H Q I ⟨ρ, S, fr, sm, r, h⟩ => ?_⟩
  unfold evE at h
  refine meth_wp hb hes hn hl (thn (ho.run pins s σ H (fun v H1 => ∃ ρ1 S1 d, Ext ρ H ρ1 H1 ∧ Sim T ρ1 S1 H1 ∧ RD T ρ1 H1 d v ∧ Po T (fun c d H' => W c d σ H') ρ1 H1 (methK G (callN G n) d ms S1 (evEs G (callN G n) eds fr)) fun r _ ρ' H' => ∀ v, RD T ρ' H' r v → Q v H') I
    ⟨ρ, S, fr, sm, r, h.bind.imp fun d S1 ρ1 H1 e1 s1 h1 v r1 => ⟨ρ1, S1, d, e1, s1, r1, h1⟩⟩) fun u s1 ⟨v, H1, I1, rv, ρ1, S1, d, e1, sm1, rd, q⟩ pl => ?_)
  have fr1 := r.mono e1
  unfold methK at q
  split at q
  · rename_i t et
    have blt : ∀ (k : Nat), tyV X.K (bmT k) v H1 → m = bmN k → t = .bm k → wpAny (model X.prog X.w) X.A (getMethod u m pl) (fun fx s2 => wpAny (model X.prog X.w) X.A (callWith pos fx.1 fx.2 (backTo pos (starEach es X.env)) []) (EP X pins σ Q) X.xe s2) X.xe s1 := by
      intro k ty em ekt
      subst em ekt
      obtain ⟨pa, slot, hty⟩ := bm_slot k
      obtain ⟨h1, h2⟩ := tyV_is I1 rv ty
      refine getMethod_builtin h1 pa slot hty h2 ?_
      have hA := ha.run pos pins s1 σ H1 _ I1 (args1 sm1 fr1 q)
      have fin : ∀ us s2, (∃ vs H2, L2.Inv X pins σ H2 s2 ∧ Vals vs us ∧ ∃ ρ2 S2 xs, Ext ρ1 H1 ρ2 H2 ∧ Sim T ρ2 S2 H2 ∧ RDs T ρ2 H2 xs vs ∧ Po T (fun c d H' => W c d σ H') ρ2 H2 (mtcD G (callN G n) (.bm k) d xs S2) fun r _ ρ' H' => ∀ v, RD T ρ' H' r v → Q v H') →
          wpAny (model X.prog X.w) X.A (PySem.call (.builtin (bmI k)) (u :: us)) (EP X pins σ Q) X.xe s2 := by
        rintro us s2 ⟨vs, H2, I2, rvs, ρ2, S2, xs, e2, sm2, rxs, q2⟩
        exact run_bm C.hu I2 sm2 (rd.mono e2) rxs rv rvs (Po.anyW q2 bmD_noex)
      cases es with
      | nil =>
        cases eds with
        | cons _ _ => cases le
        | nil =>
          refine Calls.callWith_builtin rfl (PySem.evalArgs_none ?_)
          obtain ⟨ρ', S', fr', a1, a2, a3⟩ := args1 sm1 fr1 q
          unfold evEs at a3
          exact fin [] s1 ⟨[], H1, I1, .nil, a3.ok a1 [] .nil⟩
      | cons e es =>
        rw [List.all_cons, Bool.and_eq_true] at hes
        rw [star_ne hes.1] at hA ⊢
        refine Calls.callWith_builtin (by show (false || (backTo pos (starEach es X.env)).any (·.1)) = false; rw [star_any hes.2] <;> rfl) (Calls.evalArgs_plain ?_)
        exact thn hA fun us s2 hq => fin us s2 hq
    unfold methD at et
    split at et
    · rename_i l
      cases rd with
      | ref hla =>
      split at et
      · rename_i xs ex
        rw [nth_eq] at ex
        obtain ⟨k, ek, rfl⟩ := Option.map_eq_some_iff.mp et
        obtain ⟨hk, em⟩ := bmL_of ek
        refine blt k ?_ ?_ rfl
        · have hT : bmT k = "list" := if_pos hk
          rw [hT]
          cases sm1.getA ex hla with
          | lst h1 h2 => exact .inl ⟨rfl, _, SqL.of h1⟩
        · have hz := C.st.ids (8 + k) (bmN k) (by
            match k, hk with
            | 0, _ => simp [idTab, bmN]
            | 1, _ => simp [idTab, bmN]
            | 2, _ => simp [idTab, bmN]
            | 3, _ => simp [idTab, bmN]
            | 4, _ => simp [idTab, bmN])
          rw [← em, hm] at hz
          exact Option.some.inj hz
      · rename_i t' kvs ex
        rw [nth_eq] at ex
        obtain ⟨k, ek, rfl⟩ := Option.map_eq_some_iff.mp et
        obtain ⟨rfl, em⟩ := bmG_of ek
        refine blt 5 ?_ ?_ rfl
        · show tyV X.K "dict" _ _
          cases sm1.getA ex hla with
          | dk h1 h2 => exact .inr (.inr (.inl ⟨rfl, .inl ⟨_, h1⟩⟩))
          | dt h1 h2 => exact .inr (.inr (.inl ⟨rfl, .inr ⟨_, h1⟩⟩))
        · have hz := C.st.ids 16 "get" (by simp [idTab])
          rw [← em, hm] at hz
          exact Option.some.inj hz
      · rename_i cc fs ex
        split at et
        · rename_i kc ekc
          split at et
          · rename_i elf
            obtain ⟨f, ef, rfl⟩ := Option.map_eq_some_iff.mp et
            obtain ⟨dx, gs, g1, g2, Fc⟩ := cls_at C sm1 ex hla ekc
            obtain ⟨y, hy, M⟩ := Fc.met ms f ef
            rw [hm] at hy; cases hy
            cases rv
            have hnone : gs.lookup m = none := by
              have := FRs.lk hm g2
              rw [elf] at this
              exact this
            have M' := M
            have Cl' := Fc.cls
            rw [← C.K] at M' Cl'
            refine getmeth_ok I1 g1 Cl' M' hnone ?_
            have ee : (fun (xs : List D) (s1 : Sto) => (evEs G (callN G n) [] fr s1).bind fun (ys : List D) s2 => mtcD G (callN G n) (.fn f) (.ref l) xs s2) = fun vs s2 => mtcD G (callN G n) (.fn f) (.ref l) vs s2 := by
              funext xs s1; rw [evEs_nil]; rfl
            rw [← ee] at q
            refine cw (call := callN G n) (evs := []) (kws := []) (kn := []) C M'.kp hes rfl le rfl ha snd_knil I1 (args_split (k := fun xs ys S2 => mtcD G (callN G n) (.fn f) (.ref l) xs S2) sm1 fr1 q) ?_
            · rintro us ws vs zs s2 H2 I2 ru rw' ⟨ρ2, S2, xs, ys, x2, s2', rx, ry, l1, l2, q2⟩
              have hys : ys = [] := by cases ys with
                | nil => rfl
                | cons _ _ => cases l2
              subst hys
              exact run_any C (us := Value.ref _ :: us) (vs := V.ref _ :: vs) (xs := .ref l :: xs) (ys := []) (ks := []) C.hr I2.env0 I2 s2' (.cons (.ref (x2.at hla)) rx) ry (.cons rfl ru) rw' (by simp) rfl rfl q2
          · cases et
        · cases et
      · cases et
    · cases et
  · exact q.elim
end
end PD
end Sec8
section Sec9
set_option Elab.async false
set_option linter.all false
set_option maxRecDepth 100000
set_option maxHeartbeats 4000000
/-! PD9: attributes, subscripts. -/
namespace PD
open PySem PySem.Spec PyProof.Rows L2
section
variable {T : Tab} {G : Pg} {J : Inf} {Ly : Lay} {n : Nat} {c : CC} {W : WX} {X : Cx} {call : Call}
/-- a property, read -/
theorem run_prop (C : Cq T G J Ly n c W X) {pins : List (Addr × Obj)} {σ : L2.St} {H : Hp} {s : Shared} {Q : VK} {b : Bool} {E' : Value → Shared → Prop} {ρ : List Addr} {S : Sto} {l : Nat} {a dx : Addr} {cc g : Nat} {x : Str} {p : Addr} {fs : List (Str × V)}
    (I : L2.Inv X pins σ H s) (sm : Sim T ρ S H) (hla : ρ[l]? = some a) (ea : H a = some (.ins (Ly.ca cc) dx fs)) (k : Cls T.K (Ly.ca cc)) (hp : PropOf T.K (Ly.ca cc) x p (Ly.fa g))
    (h : Po T W0 ρ H (noEx (callA G (callN G n) g [.ref l] [] [] S)) fun r _ ρ' H' => ∀ v, RD T ρ' H' r v → Q v H') :
    wpAny (model X.prog X.w) X.A (getAttr (.ref a) x b) (EP X pins σ Q) E' s := by
  rw [← C.K] at k hp
  obtain ⟨mA, O, _, _, _, _⟩ := ins_get I.hok ea
  obtain ⟨od, Jn, _⟩ := O.look
  obtain ⟨rest, hrec⟩ := hp.rec_
  have I1 := I.tok (s.toks + 1)
  have hc : (PySem.W.clsIn X.K (Ly.ca cc)).isSome = true := by
    obtain ⟨cd, hc, _⟩ := PySem.W.any_some k.hd
    rw [hc]
    rfl
  refine PySem.W.get_bind I.kIn Jn (PySem.W.plainGet_of (k.get x)).1 (PySem.W.findObj_data hc hp.at_ hp.get hp.tak) (PySem.W.plainGet_of (k.get x)).2 (wpAny_call (PySem.W.prop_get (s := { s with toks := s.toks + 1 }) I.kIn hrec ?_))
  have h' : Po T W0 ρ H (callA G (callN G n) g [.ref l] [] [] S) fun r _ ρ' H' => ∀ v, RD T ρ' H' r v → Q v H' := by
    unfold noEx at h
    cases e : callA G (callN G n) g [.ref l] [] [] S with
    | ok d s1 => rw [e] at h; exact h
    | ex cl fs s1 => rw [e] at h; exact h.elim
    | no => rw [e] at h; exact h
  refine codeAny_mono (run_code C (kn := []) (A' := X.A.in1) (E := W0) (us := [.ref a]) (ws := []) (vs := [.ref a]) (zs := []) C.room.in1 I1.env0.in1 I1.kIn sm (.cons (.ref hla) .nil) .nil (.cons rfl .nil) .nil (by simp) rfl rfl h') fun r s' hq => ?_
  cases r with
  | error er =>
    obtain ⟨_, _, _, _, _, _, _, _, _, _, _, _, hE⟩ := hq
    exact hE.elim
  | ok fl =>
    cases fl with
    | ret u =>
      obtain ⟨v, H', I3, rv, q3⟩ := I1.after hq
      show wpAny _ _ (handedOut u) _ _ _
      rw [PySem.W.handedOut_of (handed_of rv)]
      exact wpAny_pure ⟨v, H', I3, rv, q3⟩
    | next => exact False.elim hq
    | brk => exact False.elim hq
    | cont => exact False.elim hq
/-- e.f -/
theorem snd_fld (C : Cq T G J Ly n c W X) {e : Expr} {ae : E} {f : Nat} {x : Str} {pos : Pos} (hx : T.syms[f]? = some x) (hf : f ∈ J.flds) (hb : baseOk e = true) (he : PE X e (DE T W (evE G (callN G n) ae))) :
    PE X (.Attribute e x pos) (DE T W (evE G (callN G n) (.fld ae f))) := by
  refine ⟨fun pins s σ H Q I ⟨ρ, S, fr, sm, r, h⟩ => ?_⟩
  unfold evE at h
  refine attr_of (base_of hb) (thn (he.run pins s σ H (fun v H1 => ∃ ρ1 S1 d, Sim T ρ1 S1 H1 ∧ RD T ρ1 H1 d v ∧ Po T (fun c d H' => W c d σ H') ρ1 H1 (fldD G (callN G n) d f S1) fun r _ ρ' H' => ∀ v, RD T ρ' H' r v → Q v H') I
    ⟨ρ, S, fr, sm, r, h.bind.imp fun d S1 ρ1 H1 e1 s1 h1 v r1 => ⟨ρ1, S1, d, s1, r1, h1⟩⟩) fun u s1 ⟨v, H1, I1, rv, ρ1, S1, d, sm1, rd, q⟩ => ?_)
  unfold fldD at q
  split at q
  · rename_i l
    cases rd with
    | ref hla =>
    cases rv
    split at q
    · rename_i cc fs ex
      split at q
      · rename_i k ek
        obtain ⟨dx, gs, g1, g2, F⟩ := cls_at C sm1 ex hla ek
        split at q
        · rename_i g eg
          obtain ⟨y, p, hy, hp⟩ := F.prp f g eg
          rw [hx] at hy; cases hy
          exact run_prop C I1 sm1 hla g1 F.cls hp (q.anyW fun c fs s' e => by
            unfold noEx at e
            split at e <;> cases e)
        · rename_i eg
          split at q
          · rename_i em
            split at q
            · rename_i d ed
              have := FRs.lk hx g2
              rw [ed] at this
              obtain ⟨v, q1, q2⟩ := this
              have k1 := F.cls
              have k2 := F.noa f x hf hx eg em
              rw [← C.K] at k1 k2
              exact getattr_ok I1 g1 k1 k2 q1 fun u s' I' ru => ⟨v, H1, I', ru, q.ok sm1 v q2⟩
            · exact q.elim
          · exact q.elim
      · exact q.elim
    · exact q.elim
  · exact q.elim

/-! ### subscripts -/
def noSl : Expr → Bool
  | .Slice _ _ _ _ => false
  | _ => true
theorem noSl_f {e : Expr} (h : noSl e = true) (o i : Value) : subscripted e false o i = operate [o, i] (getItem o i) := by
  cases e <;> first | rfl | cases h
theorem noSl_t {e : Expr} (h : noSl e = true) (o i : Value) : subscripted e true o i = runValue (.builtin "lifetime.subscript" ⟨[o, i], []⟩) := by
  cases e <;> first | rfl | cases h
/-- a[i], by values -/
theorem run_ix (C : Cq T G J Ly n c W X) {value slice : Expr} {pins : List (Addr × Obj)} {s : Shared} {σ : L2.St} {H : Hp} {x y : D} {vx vy : V} {v u : Value} {Q : VK} {ρ : List Addr} {S : Sto}
    (hs : noSl slice = true) (I : L2.Inv X pins σ H s) (sm : Sim T ρ S H) (rx : RD T ρ H x vx) (ry : RD T ρ H y vy) (rv : RelV vx v) (ru : RelV vy u)
    (h : Po T (fun c d H' => W c d σ H') ρ H (ixD G (callN G n) x y S) fun r _ ρ' H' => ∀ v, RD T ρ' H' r v → Q v H') :
    wpAny (model X.prog X.w) X.A (subscriptTail value slice v u) (EP X pins σ Q) X.xe s := by
  have seq : ∀ {xs : List D} {i : Int} {d : D} {vs : List V} {p : Addr}, y = .int i → ixI xs i = some d → RDs T ρ H xs vs → vx = .ref p → (SqL T.K H p vs ∨ SqT T.K H p vs) → Po T (fun c d H' => W c d σ H') ρ H (.ok d S) (fun r _ ρ' H' => ∀ v, RD T ρ' H' r v → Q v H') →
      wpAny (model X.prog X.w) X.A (subscriptTail value slice v u) (EP X pins σ Q) X.xe s := by
    intro xs i d vs p ey ex rs ev hq hp
    subst ey
    cases ry
    obtain ⟨w0, a1, a2⟩ := ixI_at ex rs
    rw [← C.K] at hq
    refine ix_seq value slice pins s σ H vx _ v u Q I rv ru ?_ (noSl_f hs _ _)
    rcases hq with hq | hq
    · exact .inl ⟨p, vs, i, w0, ev, rfl, hq, a1, hp.ok sm w0 a2⟩
    · exact .inr (.inl ⟨p, vs, i, w0, ev, rfl, hq, a1, hp.ok sm w0 a2⟩)
  unfold ixD at h
  split at h
  · split at h
    · split at h
      · rename_i e
        cases rx with
        | ctp q1 q2 => exact seq rfl e q2 rfl (.inr q1.t) h
      · exact h.elim
    · exact h.elim
  · split at h
    · split at h
      · rename_i e
        cases rx with
        | tup q1 q2 => exact seq rfl e q2 rfl (.inr (SqT.of q1)) h
      · exact h.elim
    · exact h.elim
  · cases rx with
    | kd hk =>
    split at h
    · rename_i k
      split at h
      · rename_i d ed
        cases ry with
        | str hx =>
        obtain ⟨v0, g1, g2⟩ := C.kd _ _ hk k _ d hx ed
        rw [← C.K] at g1
        exact ix_kdict value slice pins s σ H _ _ v u Q I rv ru ⟨_, _, v0, rfl, rfl, g1, h.ok sm v0 (g2 ρ H)⟩ (noSl_f hs _ _)
      · exact h.elim
    · exact h.elim
  · split at h
    · split at h
      · rename_i e
        cases rx with
        | rol q1 q2 => exact seq rfl e q2 rfl (.inl q1.l) h
      · exact h.elim
    · exact h.elim
  · rename_i l
    cases rx with
    | ref hla =>
    split at h
    · rename_i xs ex
      rw [nth_eq] at ex
      split at h
      · split at h
        · rename_i e
          cases sm.getA ex hla with
          | lst h1 h2 => exact seq rfl e h2 rfl (.inl (SqL.of h1)) h
        · exact h.elim
      · exact h.elim
    · rename_i t kvs ex
      split at h
      · rename_i hk
        have g := dct_get sm ex hla ry hk
        split at h
        · rename_i d ed
          rw [ed] at g
          obtain ⟨w0, g1, g2⟩ := g
          cases rv
          exact tail_any (dict_typeIs I g1) PySem.F.slot_dict_getitem.lookup (d_getItem (by have := C.hu; omega) I g1 ru fun w' s3 I3 rw' => ⟨w0, H, I3, rw', h.ok sm w0 g2⟩) (noSl_f hs _ _)
        · exact h.elim
      · exact h.elim
    · rename_i cc fs ex
      split at h
      · rename_i k ek
        split at h
        · rename_i f ef
          obtain ⟨dx, gs, g1, g2, F⟩ := cls_at C sm ex hla ek
          obtain ⟨z, hz, M⟩ := F.met _ f ef
          rw [C.st.ids 0 "__getitem__" (by simp [idTab])] at hz
          cases hz
          cases rv
          obtain ⟨m, fr⟩ := I.fr
          obtain ⟨mA, O, _, _, _, _⟩ := ins_get I.hok g1
          obtain ⟨od, Jn, _⟩ := O.look
          have fn2 : PySem.W.fnIn X.K (Ly.fa f) = true := by
            unfold callA at h
            split at h
            · rename_i d ed
              split at h
              · rename_i hp
                obtain ⟨di, _, F2⟩ := C.st.def_ f d ed (fun z => by rw [z] at hp; cases hp)
                rw [C.K]; exact F2.fn2
              · exact h.elim
            · exact h.elim
          rw [← C.K] at M
          refine PySem.W.sub_K fr I.ok.mod.kin Jn M.at_ fn2 M.fn ?_ (noSl_t hs _ _)
          exact run_any (A' := X.A.in1) (xs := [.ref l, y]) (ys := []) (ks := []) (kn := []) (us := [.ref _, u]) (ws := []) (vs := [.ref _, vy]) (zs := []) C C.room.in1 I.env0.in1 I sm (.cons (.ref hla) (.cons ry .nil)) .nil (.cons rfl (.cons ru .nil)) .nil (by simp) rfl rfl h
        · exact h.elim
      · exact h.elim
    · exact h.elim
  · exact h.elim
/-- a[i] -/
theorem snd_ix (C : Cq T G J Ly n c W X) {a i : Expr} {ea ei : E} {pos : Pos} (hs : noSl i = true) (ha : PE X a (DE T W (evE G (callN G n) ea))) (hi : PE X i (DE T W (evE G (callN G n) ei))) : PE X (.Subscript a i pos) (DE T W (evE G (callN G n) (.ix ea ei))) := by
  refine ⟨fun pins s σ H Q I ⟨ρ, S, fr, sm, r, h⟩ => ?_⟩
  unfold evE at h
  refine Subscript_ (thn (ha.run pins s σ H (fun v H1 => ∃ ρ1 S1 d, Ext ρ H ρ1 H1 ∧ Sim T ρ1 S1 H1 ∧ RD T ρ1 H1 d v ∧ Po T (fun c d H' => W c d σ H') ρ1 H1 ((evE G (callN G n) ei fr S1).bind fun y s2 => ixD G (callN G n) d y s2) fun r _ ρ' H' => ∀ v, RD T ρ' H' r v → Q v H') I
    ⟨ρ, S, fr, sm, r, h.bind.imp fun d S1 ρ1 H1 e1 s1 h1 v r1 => ⟨ρ1, S1, d, e1, s1, r1, h1⟩⟩) fun u s1 ⟨v, H1, I1, rv, ρ1, S1, d, e1, sm1, rd, q⟩ => ?_)
  refine thn (hi.run pins s1 σ H1 (fun w H2 => ∃ ρ2 S2 y, Ext ρ1 H1 ρ2 H2 ∧ Sim T ρ2 S2 H2 ∧ RD T ρ2 H2 y w ∧ Po T (fun c d H' => W c d σ H') ρ2 H2 (ixD G (callN G n) d y S2) fun r _ ρ' H' => ∀ v, RD T ρ' H' r v → Q v H') I1
    ⟨ρ1, S1, fr, sm1, r.mono e1, q.bind.imp fun y S2 ρ2 H2 e2 s2 h2 w r2 => ⟨ρ2, S2, y, e2, s2, r2, h2⟩⟩) fun u' s2 ⟨w, H2, I2, rw', ρ2, S2, y, e2, sm2, ry, q2⟩ => ?_
  exact run_ix C hs I2 sm2 (rd.mono e2) ry rv rw' q2

/-! ### slices -/
def DO (T : Tab) (W : WX) (f : Fr → Sto → R (Option Int)) : TO := fun σ H Q => ∃ ρ S fr, Sim T ρ S H ∧ FR T ρ H fr σ ∧ Po T (fun c d H' => W c d σ H') ρ H (f fr S) fun o _ _ H' => Q o H'
theorem snd_po0 : PO X none (DO T W fun fr s => partR (evEs G call [] fr s)) := ⟨fun pins s σ H Q I ⟨ρ, S, fr, sm, r, h⟩ => po_none.run pins s σ H Q I (by
  dsimp only at h
  rw [evEs_nil] at h
  exact h.ok sm)⟩
theorem snd_po1 {e : Expr} {d : E} (he : PE X e (DE T W (evE G call d))) : PO X (some e) (DO T W fun fr s => partR (evEs G call [d] fr s)) := ⟨fun pins s σ H Q I ⟨ρ, S, fr, sm, r, h⟩ => (po_some he).run pins s σ H Q I (by
  refine ⟨ρ, S, fr, sm, r, ?_⟩
  dsimp only at h
  have h : Po T (fun c d H' => W c d σ H') ρ H (partR ((evE G call d fr S).bind fun v s1 => (evEs G call [] fr s1).bind fun vs s2 => .ok (v :: vs) s2)) fun o _ _ H' => Q o H' := by
    rw [show evEs G call [d] fr S = (evE G call d fr S).bind fun v s1 => (evEs G call [] fr s1).bind fun vs s2 => .ok (v :: vs) s2 by rw [evEs]] at h
    exact h
  cases e1 : evE G call d fr S with
  | no => rw [e1] at h; exact h
  | ex c fs s => rw [e1] at h; exact h
  | ok x S1 =>
    rw [e1] at h
    have h : Po T (fun c d H' => W c d σ H') ρ H (match partL [x] with | some o => R.ok o S1 | none => R.no) fun o _ _ H' => Q o H' := by
      have e2 : partR ((R.ok x S1).bind fun v s1 => (evEs G call [] fr s1).bind fun vs s2 => .ok (v :: vs) s2) = (match partL [x] with | some o => R.ok o S1 | none => R.no) := by
        show partR ((evEs G call [] fr S1).bind fun vs s2 => .ok (x :: vs) s2) = _
        rw [evEs_nil]; rfl
      rw [e2] at h
      exact h
    intro ρ1 H1 x1 s1 v rv
    cases x <;> first | exact h.elim | skip
    cases rv
    exact ⟨_, rfl, h ρ1 H1 x1 s1⟩)⟩
theorem clip_eq {n d : Nat} {o : Option Int} : clipI n d o = HT.sIx n d o := by
  cases o with
  | none => rfl
  | some i => cases i with
    | ofNat k => exact (HT.sIx_nat n d k).symm
    | negSucc k =>
      show n - (k + 1) = (if Int.negSucc k < 0 then (Int.negSucc k + (n : Int)).toNat else min (Int.negSucc k).toNat n)
      rw [if_pos (Int.negSucc_lt_zero k)]
      omega
theorem cut_rel {ρ : List Addr} {H : Hp} {ds : List D} {vs : List V} (r : RDs T ρ H ds vs) (lo hi : Option Int) : RDs T ρ H (cut ds lo hi) (cutV vs lo hi) := by
  unfold cut cutV
  rw [clip_eq, clip_eq, r.length]
  exact (r.drop _).take _
def rSl (T : Tab) : V → Option Int → Option Int → Hp → VK → Prop := fun v lo hi H Q => ∃ ρ S x, Sim T ρ S H ∧ RD T ρ H x v ∧ PoV T ρ H (slD x lo hi S) Q
theorem sl_any (C : Cq T G J Ly n c W X) : SlR X (rSl T) := by
  intro pins s σ H x v vl vu lo hi sl Q I rx hs pl pu ⟨ρ, S, d, sm, rd, h⟩
  unfold slD at h
  split at h
  · rename_i xs
    cases rd with
    | tup h1 h2 =>
      refine sl_tupA pins s σ H _ v vl vu lo hi sl Q I rx hs pl pu ⟨_, _, rfl, SqT.of h1, fun w => ?_, fun w p hp => ?_⟩
      · have e : cut xs lo hi = xs := by
          unfold cut
          rw [clip_eq, clip_eq, h2.length, w.1, w.2, ← h2.length]
          simp
        rw [e] at h
        exact PoV.ok h sm (.tup h1 h2)
      · exact PoV.tup h sm hp (cut_rel h2 lo hi)
  · cases rd with
    | ctp h1 h2 =>
      have h1' := h1
      rw [← C.K] at h1'
      refine sl_tupA pins s σ H _ v vl vu lo hi sl Q I rx hs pl pu ⟨_, _, rfl, h1'.t, fun w => ?_, fun w p hp => ?_⟩
      · rw [if_pos (by rw [clip_eq, clip_eq, h2.length, w.1, w.2, Bool.and_eq_true]; exact ⟨rfl, Nat.beq_refl _⟩)] at h
        exact PoV.ok h sm (.ctp h1 h2)
      · rw [if_neg (by
          rw [clip_eq, clip_eq, h2.length, Bool.and_eq_true]
          intro z
          exact w ⟨Nat.eq_of_beq_eq_true z.1, Nat.eq_of_beq_eq_true z.2⟩)] at h
        exact PoV.tup h sm hp (cut_rel h2 lo hi)
  · rename_i l
    cases rd with
    | ref hla =>
    split at h
    · rename_i xs ex
      obtain ⟨vs, h1, h2⟩ := lst_at sm ex hla
      exact sl_list pins s σ H _ v vl vu lo hi sl Q I rx hs pl pu ⟨_, _, rfl, SqL.of h1, fun p hp => PoV.new h sm hp fun e => .lst upd_same ((cut_rel h2 lo hi).mono e)⟩
    · exact h.elim
  · rename_i xs
    cases rd with
    | rol h1 h2 =>
    have h1' := h1.l
    rw [← C.K] at h1'
    exact sl_list pins s σ H _ v vl vu lo hi sl Q I rx hs pl pu ⟨_, _, rfl, h1', fun p hp => PoV.new h sm hp fun e => .lst upd_same ((cut_rel h2 lo hi).mono e)⟩
  · exact h.elim
theorem slD_noex {a : D} {lo hi : Option Int} {s : Sto} (c : Nat) (fs : List (Nat × D)) (s' : Sto) : slD a lo hi s ≠ .ex c fs s' := by
  unfold slD new1
  intro h
  repeat' (split at h)
  all_goals cases h
/-- a[lo:hi] -/
theorem snd_sl (C : Cq T G J Ly n c W X) {a : Expr} {lo hi : Option Expr} {ea : E} {el eh : List E} {p2 pos : Pos} (ha : PE X a (DE T W (evE G (callN G n) ea))) (hl : PO X lo (DO T W fun fr s => partR (evEs G (callN G n) el fr s))) (hh : PO X hi (DO T W fun fr s => partR (evEs G (callN G n) eh fr s))) :
    PE X (.Subscript a (.Slice lo hi none p2) pos) (DE T W (evE G (callN G n) (.sl ea el eh))) :=
  (pe_slice (sl_any C) ha hl hh).wk fun σ H Q ⟨ρ, S, fr, sm, r, h⟩ => by
    unfold evE at h
    exact ⟨ρ, S, fr, sm, r, h.bind.imp fun d S1 ρ1 H1 e1 s1 h1 v r1 => ⟨ρ1, S1, fr, s1, r.mono e1, h1.bind.imp fun l S2 ρ2 H2 e2 s2 h2 => ⟨ρ2, S2, fr, s2, r.mono (e1.trans e2), h2.bind.imp fun u S3 ρ3 H3 e3 s3 h3 =>
      ⟨ρ3, S3, d, s3, r1.mono (e2.trans e3), h3.anyW slD_noex⟩⟩⟩⟩
end
end PD
end Sec9
section Sec10
set_option Elab.async false
set_option linter.all false
set_option maxRecDepth 100000
set_option maxHeartbeats 4000000
/-! PD10: built-ins, isinstance, chains, written dicts. -/
namespace PD
open PySem PySem.Spec PyProof.Rows L2
def biNm : BI → Str
  | .len => "len" | .int => "int" | .abs => "abs" | .min => "min" | .max => "max" | .sum => "sum" | .list => "list" | .tuple => "tuple" | .range => "range" | .enum => "enumerate" | .zip => "zip"
theorem biD_noex {b : BI} {vs : List D} {s : Sto} (c : Nat) (fs : List (Nat × D)) (s' : Sto) : biD b vs s ≠ .ex c fs s' := by
  unfold biD new1
  intro h
  repeat' (split at h)
  all_goals cases h
theorem isiD_noex {G : Pg} {a : D} {k : Nat} {s : Sto} (c : Nat) (fs : List (Nat × D)) (s' : Sto) : isiD G a k s ≠ .ex c fs s' := by
  unfold isiD
  intro h
  repeat' (split at h)
  all_goals cases h
section
variable {T : Tab} {G : Pg} {J : Inf} {Ly : Lay} {n : Nat} {c : CC} {W : WX} {X : Cx} {call : Call}
/-- f(e, ..), f a built-in -/
theorem snd_bi (C : Cq T G J Ly n c W X) {b : BI} {e : Expr} {es : List Expr} {eds : List E} {p pos : Pos} (hg : Gl X (biNm b)) (hm : X.mg (biNm b) = none) (hes : (e :: es).all notStar = true) (ha : PA X (e :: es) (DA T W (evEs G call eds))) :
    PE X (.Call (.Name (biNm b) p) (e :: es) [] pos) (DE T W (evE G call (.bi b eds))) := by
  rw [List.all_cons, Bool.and_eq_true] at hes
  have he := star_ne (es := es) (env := X.env) hes.1
  have hpl := star_any (pos := pos) (env := X.env) hes.2
  have r := call_bi (X := X) C.K C.calm b
  have h : PE X (.Call (.Name (biNm b) p) (e :: es) [] pos) (tCB (rBi T b) (DA T W (evEs G call eds))) := by
    cases b
    · exact pe_callB r hg hm (by decide +kernel) ha (by decide) (by decide) he hpl
    · exact pe_callTy r hg hm (by decide +kernel) ha (by decide) (by decide) he hpl
    · exact pe_callB r hg hm (by decide +kernel) ha (by decide) (by decide) he hpl
    · exact pe_callB r hg hm (by decide +kernel) ha (by decide) (by decide) he hpl
    · exact pe_callB r hg hm (by decide +kernel) ha (by decide) (by decide) he hpl
    · exact pe_callB r hg hm (by decide +kernel) ha (by decide) (by decide) he hpl
    · exact pe_callTy r hg hm (by decide +kernel) ha (by decide) (by decide) he hpl
    · exact pe_callTy r hg hm (by decide +kernel) ha (by decide) (by decide) he hpl
    · exact pe_callTy r hg hm (by decide +kernel) ha (by decide) (by decide) he hpl
    · exact pe_callTy r hg hm (by decide +kernel) ha (by decide) (by decide) he hpl
    · exact pe_callTy r hg hm (by decide +kernel) ha (by decide) (by decide) he hpl
  exact h.wk fun σ H Q ⟨ρ, S, fr, sm, r, h⟩ => by
    unfold evE at h
    exact ⟨ρ, S, fr, sm, r, h.bind.imp fun ds S1 ρ1 H1 e1 s1 h1 vs rs => ⟨ρ1, S1, ds, s1, rs, h1.anyW biD_noex⟩⟩
/-- isinstance(a, C) -/
theorem snd_isi (C : Cq T G J Ly n c W X) {a : Expr} {ea : E} {cc : Nat} {k : Cl} {x : Str} {p p2 pos : Pos} (ek : lkN G.cls cc = some k) (hx : T.syms[cc]? = some x) (hgl : Gl X x) (hdb : (x == ("__debug__" : Str)) = false)
    (hg : Gl X "isinstance") (hm : X.mg "isinstance" = none) (hs : notStar a = true) (ha : PE X a (DE T W (evE G call ea))) : PE X (.Call (.Name "isinstance" p) [a, .Name x p2] [] pos) (DE T W (evE G call (.isi ea cc))) := by
  have F := C.st.cls cc k ek
  obtain ⟨y, hy, hmg⟩ := F.mg
  rw [hx] at hy; cases hy
  refine (pe_callB (X := X) call_isi hg hm (by decide +kernel) (pa_cons ha (pa_cons (pe_glob (v := .ref (Ly.ca cc)) hgl (by rw [C.mg]; exact hmg) rfl hdb) pa_nil (star_ne rfl)) (star_ne hs)) (by decide) (by decide) (star_ne hs) (star_any rfl)).wk fun σ H Q ⟨ρ, S, fr, sm, r, h⟩ => ?_
  unfold evE at h
  refine ⟨ρ, S, fr, sm, r, h.bind.imp fun d S1 ρ1 H1 e1 s1 h1 v rv => ?_⟩
  unfold isiD at h1
  split at h1
  · rename_i l
    cases rv with
    | ref hla =>
    split at h1
    · rename_i c' fs ex
      split at h1
      · rename_i k' ek'
        obtain ⟨dx, gs, g1, g2, F'⟩ := cls_at C s1 ex hla ek'
        have cl := F'.cls
        have ha := F'.ha
        have hn := F'.hn
        have htk := F'.htk
        have hm := F'.hm
        have isi := F'.isi cc k ek
        rw [← C.K] at cl ha hn htk hm isi
        exact ⟨_, _, _, .ref (Ly.ca cc), k'.up.any (Nat.beq cc), rfl, .own _, .base (.ins g1 cl ha hn htk hm), isi, h1.ok s1 _ (.bl _)⟩
      · exact h1.elim
    · exact h1.elim
  · exact h1.elim
/-- a op b op' c -/
theorem chain_of {o o' : CO} {ea eb ec : E} : ∀ σ H Q, DE T W (evE G call (.chain o o' ea eb ec)) σ H Q → tChain (rCmp T o) (rCmp T o') (DE T W (evE G call ea)) (DE T W (evE G call eb)) (DE T W (evE G call ec)) σ H Q := by
  rintro σ H Q ⟨ρ, S, fr, sm, r, h⟩
  unfold evE at h
  refine ⟨ρ, S, fr, sm, r, h.bind.imp fun x S1 ρ1 H1 e1 s1 h1 v1 r1 => ⟨ρ1, S1, fr, s1, r.mono e1, h1.bind.imp fun y S2 ρ2 H2 e2 s2 h2 v2 r2 => ?_⟩⟩
  refine ⟨ρ2, S2, x, y, s2, r1.mono e2, r2, ?_⟩
  have h2 := h2.bind
  unfold cmpR at h2 ⊢
  cases e : cmpD o x y S2 with
  | none => rw [e] at h2; exact h2.elim
  | some k =>
    rw [e] at h2
    intro ρ3 H3 e3 s3 v rv
    cases rv
    refine ⟨k, rfl, ?_⟩
    have h3 := h2 ρ3 H3 e3 s3
    cases k with
    | true =>
      refine ⟨ρ3, S2, fr, s3, r.mono (e1.trans (e2.trans e3)), h3.bind.imp fun w S4 ρ4 H4 e4 s4 h4 v4 r4 => ?_⟩
      exact ⟨ρ4, S4, y, w, s4, r2.mono (e3.trans e4), r4, h4.anyW (cmpR_noex o' y w S4)⟩
    | false => exact h3.ok s3 _ (.bl _)
theorem snd_chain (C : Cq T G J Ly n c W X) {a b d : Expr} {ea eb ed : E} {o o' : CO} {pos : Pos} (hm : behindInMarks (co o') d = false) (ha : PE X a (DE T W (evE G call ea))) (hb : PE X b (DE T W (evE G call eb))) (hd : PE X d (DE T W (evE G call ed))) :
    PE X (.Compare a [co o, co o'] [b, d] pos) (DE T W (evE G call (.chain o o' ea eb ed))) :=
  (pe_chain (op_cmp C.K C.hu o) (op_cmp C.K C.hu o') ha hb hd (by show behindInMarks (co o') d = false; exact hm)).wk chain_of
theorem snd_chainT (C : Cq T G J Ly n c W X) {a b d : Expr} {ea eb ed : E} {o o' : CO} {pos : Pos} (hm : behindInMarks (co o') d = false) (ha : PE X a (DE T W (evE G call ea))) (hb : PE X b (DE T W (evE G call eb))) (hd : PE X d (DE T W (evE G call ed))) :
    PT X (.Compare a [co o, co o'] [b, d] pos) (DT T W (evE G call (.chain o o' ea eb ed))) :=
  (pt_chain (op_cmp C.K C.hu o) (op_cmp C.K C.hu o') ha hb hd (by show behindInMarks (co o') d = false; exact hm)).wk fun σ H Q h => chain_of σ H _ h.of

/-! ### written dicts: keys and values constants -/
inductive CV (T : Tab) : D → V → Prop
  | int (i : Int) : CV T (.int i) (.int i)
  | str {k : Nat} {x : Str} : T.syms[k]? = some x → CV T (.str k) (.str x)
theorem CV.rd {d : D} {v : V} (h : CV T d v) (ρ : List Addr) (H : Hp) : RD T ρ H d v := by cases h with
  | int i => exact .int i
  | str e => exact .str e
theorem CV.key {d : D} {v : V} (h : CV T d v) : ∃ k, KR T d k ∧ v = kV k := by cases h with
  | int i => exact ⟨_, .int i, rfl⟩
  | str e => exact ⟨_, .str e, rfl⟩
/-- the rows as they are written -/
inductive DRows (X : Cx) (T : Tab) : List (Option Expr) → List Expr → List (D × D) → List (V × V) → Prop
  | nil : DRows X T [] [] [] []
  | cons {k v : Expr} {ks : List (Option Expr)} {vs : List Expr} {d e : D} {r : List (D × D)} {x y : V} {t : List (V × V)} : PE X k (tC x) → PE X v (tC y) → CV T d x → CV T e y → DRows X T ks vs r t → DRows X T (some k :: ks) (v :: vs) ((d, e) :: r) ((x, y) :: t)
theorem DRows.pps {pos : Pos} : ∀ {ks : List (Option Expr)} {vs : List Expr} {r : List (D × D)} {t : List (V × V)}, DRows X T ks vs r t → PPs X pos ks vs (t.map fun p => (tC p.1, tC p.2))
  | _, _, _, _, .nil => pps_nil
  | _, _, _, _, .cons a b _ _ q => pps_cons a b (DRows.pps q)
theorem DRows.pairs {σ : L2.St} {H : Hp} : ∀ {t : List (V × V)} {Q : List (V × V) → Hp → Prop}, Q t H → tPairs (t.map fun p => (tC p.1, tC p.2)) σ H Q
  | [], _, h => h
  | (x, y) :: t, Q, h => DRows.pairs (t := t) (Q := fun ps H3 => Q ((x, y) :: ps) H3) h
theorem DRows.kvs {ρ : List Addr} {H : Hp} : ∀ {ks : List (Option Expr)} {vs : List Expr} {r : List (D × D)} {t : List (V × V)}, DRows X T ks vs r t → ∃ kvs : List (Key × V), t = kvs.map (fun kv => (kV kv.1, kv.2)) ∧ KVs T ρ H r kvs
  | _, _, _, _, .nil => ⟨[], rfl, .nil⟩
  | _, _, _, _, .cons _ _ c1 c2 q => by
    obtain ⟨kvs, e1, e2⟩ := DRows.kvs (ρ := ρ) (H := H) q
    obtain ⟨k, h1, rfl⟩ := c1.key
    exact ⟨(k, _) :: kvs, by rw [e1]; rfl, .cons h1 (c2.rd ρ H) e2⟩
theorem DRows.len : ∀ {ks : List (Option Expr)} {vs : List Expr} {r : List (D × D)} {t : List (V × V)}, DRows X T ks vs r t → ks.all (·.isSome) = true ∧ ks.length = vs.length ∧ ks.length = r.length ∧ t.length = r.length
  | _, _, _, _, .nil => ⟨rfl, rfl, rfl, rfl⟩
  | _, _, _, _, .cons _ _ _ _ q => by obtain ⟨a, b, c, d⟩ := DRows.len q; simp [a, b, c, d]; omega
theorem merge_rel {ρ : List Addr} {H : Hp} : ∀ {r : List (D × D)} {kvs : List (Key × V)} {a : List (D × D)} {b : List (Key × V)}, KVs T ρ H r kvs → KVs T ρ H a b → KVs T ρ H (mergeD a r) (mergeK b kvs)
  | _, _, _, _, .nil, q => q
  | _, _, _, _, .cons h1 h2 t, q => by
    have := merge_rel t (KVs.put h1 h2 q)
    exact this
theorem snd_disp {ks : List (Option Expr)} {vs : List Expr} {r : List (D × D)} {t : List (V × V)} {pos : Pos} (h : DRows X T ks vs r t) (h0 : ks ≠ []) (h15 : ks.length ≤ 15) : PE X (.Dict ks vs pos) (DE T W (evE G call (.disp r))) :=
  (pe_disp h.pps h.len.1 h.len.2.1 h0 h15).wk fun σ H Q ⟨ρ, S, fr, sm, rr, q⟩ => by
    unfold evE at q
    intro p hp
    refine DRows.pairs ?_
    obtain ⟨kvs, e1, e2⟩ := DRows.kvs (ρ := ρ) (H := H) h
    refine ⟨upd_same, kvs, e1, ?_, ?_⟩
    · have h1 := h.len
      rw [e1, List.length_map] at h1
      omega
    · have e3 : upd (upd H p (.dK [])) p (.dK (mergeK [] kvs)) = upd H p (.dK (mergeK [] kvs)) := by funext b; unfold upd; split <;> rfl
      rw [e3]
      exact PoV.new (q.anyW fun _ _ _ => by intro z; cases z) sm hp fun e => .dk upd_same ((merge_rel e2 .nil).mono e)
end
end PD
end Sec10
section Sec11
set_option Elab.async false
set_option linter.all false
set_option maxRecDepth 100000
set_option maxHeartbeats 4000000
/-! PDE: enumerate(a tuple), walked. -/
namespace PD
open PySem PySem.Spec PyProof.Rows L2
open PySem.AutoSeq1 (wpAny_loadPart')

theorem meets_enum1 {v : Value} {o : Obj} {H : Heap → Prop} (B : PySem.Begins v o H) :
    Meets (Builtin.«enumerate.__new__» ⟨[.type "enumerate", v], []⟩) (fun _ R s => H s.heap ∧
      R (.ok (.ret (.ref (s.heap.push o).objs.size))) { s with heap := (s.heap.push o).push { cls := .type "enumerate", data := .fields #[.none, .bool false, .ref s.heap.objs.size, rawInt 0, .none, .none] } }) :=
  .of_wp fun prog w A R s h => by
    obtain ⟨hp, g, d, tk, os⟩ := s; obtain ⟨h1, h⟩ := h
    have hsub := sub_enumerate
    have q1 : ∀ {A' : Around} {E : Value → Shared → Prop} {Q : Value → Shared → Prop}, Q (.ref hp.objs.size) ⟨hp.push o, g, d, tk, os⟩ → wpAny (model prog w) A' (pyIter v) Q E ⟨hp, g, d, tk, os⟩ :=
      fun q => B.iter prog w _ _ ⟨hp, g, d, tk, os⟩ _ h1 q
    wp_walk using q1
    refine wpAny_stack_any fun st => wpAny_pure ?_
    split
    · rename_i c _ _ _ _ _
      cases (c == Value.type "enumerate")
      · wp_walk using q1
        exact ⟨_, rfl, h⟩
      · wp_walk using q1
        exact ⟨_, rfl, h⟩
    · wp_walk using q1
      exact ⟨_, rfl, h⟩
section
variable {prog : Program} {w : World} {A : Around} {E : Value → Shared → Prop} {s : Shared}
theorem call_enum1 {v : Value} {o : Obj} {H : Heap → Prop} {Q : Value → Shared → Prop} (B : PySem.Begins v o H) (h1 : H s.heap)
    (h : ∀ h', IsEnum h' (s.heap.objs.size + 1) s.heap.objs.size 0 .none → h'.get? s.heap.objs.size = some o → h'.objs.size = s.heap.objs.size + 2 →
      (∀ b o, s.heap.get? b = some o → h'.get? b = some o) → Q (.ref (s.heap.objs.size + 1)) { s with heap := h' }) :
    wpAny (model prog w) A (call (.type "enumerate") [v]) Q E s := by
  refine callType_new F.called_enumerate (by decide) (F.typeCall_enumerate_1 _) (F.newCall_enumerate_1 _) (fun obj => F.args_object_init_2 obj _) F.entry_enumerate_new
    (meets_enum1 B) ⟨h1, ?_⟩
  have hz : (s.heap.push o).objs.size = s.heap.objs.size + 1 := Heap.size_push ..
  show _ ∧ _
  rw [hz]
  have he : IsEnum ((s.heap.push o).push { cls := .type "enumerate", data := .fields #[.none, .bool false, .ref s.heap.objs.size, rawInt 0, .none, .none] }) (s.heap.objs.size + 1) s.heap.objs.size 0 .none := by
    have := Heap.get?_push_size (s.heap.push o) (o := { cls := .type "enumerate", data := .fields #[.none, .bool false, .ref s.heap.objs.size, rawInt 0, .none, .none] }) rfl
    rw [hz] at this; exact this
  refine ⟨⟨_, he, rfl⟩, h _ he (Heap.get?_push_of_some _ (Heap.get?_push_size _ B.free)) (by rw [Heap.size_push, hz]) fun b o x => Heap.get?_push_of_some _ (Heap.get?_push_of_some _ x)⟩
end

/-- the tuple at a, each item in a new pair -/
def IteT (K : PySem.W.Frag) (a : Addr) : It :=
  ⟨fun i H => ∃ (xs : List V) (x : V), SqT K H a xs ∧ xs[i]? = some x, fun i H v H' => ∃ T x, v = .ref T ∧ H T = none ∧ H' = upd H T (.tup [.int (i : Nat), x]) ∧ ∀ xs, SqT K H a xs → xs[i]? = some x, fun i H => ∃ xs : List V, SqT K H a xs ∧ xs.length ≤ i⟩
theorem turn_enumT {P : Program} {w : World} {K : PySem.W.Frag} {elts : List Expr} {kk : Nat} {tpos : Pos} (a e it : Addr) :
    Turn P w K (.Tuple elts kk tpos) (IteT K a) [e, it] e (fun i h => (∃ old, IsEnum h e it ((i : Nat) : Int) old) ∧ h.IsTupleIter it a i ∧ e ≠ it) where
  mem := by simp
  obj := fun i h st b hb => by
    obtain ⟨⟨old, he⟩, ⟨o, ho, hc, hd⟩, _⟩ := st
    have e' : b = e ∨ b = it := by simpa using hb
    rcases e' with z | z
    · rw [z]; exact ⟨_, he, fun v q => nomatch q⟩
    · rw [z]; exact ⟨o, ho, fun v q => by rw [hd] at q; cases q⟩
  keep := fun i h h' st k => let ⟨⟨old, he⟩, hi, hne⟩ := st; ⟨⟨old, k e (by simp) _ he⟩, hi.at fun o q => k it (by simp) o q, hne⟩
  item := by
    intro X hP hw hK hc i pins s σ H E I hf st hg
    subst hP hw hK
    obtain ⟨⟨old, he⟩, hit, hne⟩ := st
    obtain ⟨xs, x, hq, hx⟩ := hg
    obtain ⟨its, rv, p, hz⟩ := I.tuple hq
    obtain ⟨u, hu, ru⟩ := rv.get hx
    have hel : e < s.heap.objs.size := Heap.lt_size he
    have hil : it < s.heap.objs.size := by obtain ⟨_, q, _⟩ := hit; exact Heap.lt_size q
    have hae : a ≠ e := fun z => by
      subst z
      obtain ⟨o, q1, q2, _⟩ := (show s.heap.IsTuple a its.toArray from p)
      rw [he] at q1; cases q1; injection q2 with q2; exact absurd q2 (by decide)
    have hai : a ≠ it := fun z => by
      subst z
      obtain ⟨o, q1, q2, _⟩ := (show s.heap.IsTuple a its.toArray from p)
      obtain ⟨o', q3, q4, _⟩ := hit
      rw [q1] at q3; cases q3
      rw [q2] at q4; injection q4 with q4; exact absurd q4 (by decide)
    have D := PySem.Draws.tuple (prog := X.prog) (w := X.w) (A := X.A.in1) (I.ok.hd hc) it a hai its.toArray
    have hlt : i < its.toArray.size := by
      have := (List.getElem?_eq_some_iff.mp hu).1
      simpa using this
    refine wpAny_pyNext_enum_itemD D he ⟨hit, show s.heap.IsTuple a its.toArray from p⟩ hlt hne (by simp [hne, Ne.symm hae]) fun y h' tk hy ho hst hT hsz hk => ?_
    have hy : y = u := by
      have : its.toArray[i]? = some y := hy
      rw [show its.toArray[i]? = some u by simpa using hu] at this
      cases this; rfl
    subst hy
    refine ⟨_, rfl, wpAny_letOwnedTupleGo_enum (s := { s with heap := h', toks := tk + 1 }) ho fun h'' he' sb => ?_⟩
    have hT2 : h''.get? s.heap.objs.size = some { cls := .type "tuple", data := .seq #[.int i tk, y] } := (sb.2 _ (Nat.ne_of_gt hel)).trans hT
    have new : ObjOk X.prog X.w (upd H s.heap.objs.size (.tup [.int (i : Nat), x])) h'' s.heap.objs.size (.tup [.int (i : Nat), x]) :=
      ⟨by show 2 ≤ sizeLine; decide, [.int i tk, y], .cons ⟨_, rfl⟩ (.cons ru .nil), ⟨_, hT2, rfl, _, rfl⟩⟩
    have I1 : L2.Inv X pins σ (upd H s.heap.objs.size (.tup [.int (i : Nat), x])) { s with heap := h'', toks := tk + 1 } :=
      I.turnedNew (ch := [e, it]) (fun b ob hb q => (sb.2 b (fun z => hb (by simp [z]))).trans (hk b ob (fun z => hb (by simp [z])) (fun z => hb (by simp [z])) q)) hf (Nat.le_refl _) new
    refine ⟨.ref s.heap.objs.size, _, I1, rfl, ⟨_, x, rfl, I.hok.fresh (Nat.le_refl _), rfl, fun ys hy => by rw [I.tuple_inj hy hq]; exact hx⟩, ⟨⟨y, ?_⟩, hst.1.at fun o q => (sb.2 it (Ne.symm hne)).trans q, hne⟩, fun b hb => ?_⟩
    · have e1 : ((i + 1 : Nat) : Int) = (i : Int) + 1 := by omega
      rw [e1]; exact he'
    · have hb' : b < s.heap.objs.size := by
        have e' : b = e ∨ b = it := by simpa using hb
        rcases e' with z | z
        · rw [z]; exact hel
        · rw [z]; exact hil
      rw [upd_ne (Nat.ne_of_lt hb')]
      exact (hf b hb).1
  done := by
    intro X hP hw hK hc i pins s σ H E I hf st hg
    subst hP hw hK
    obtain ⟨⟨old, he⟩, hit, hne⟩ := st
    obtain ⟨xs, hq, hx⟩ := hg
    obtain ⟨its, rv, p, hz⟩ := I.tuple hq
    obtain ⟨f0, f1, f2, f3, f4, f5⟩ := hf it (by simp)
    have hl := rv.length
    have hT : s.TypeIs (.ref e) "enumerate" := ⟨_, he, rfl⟩
    unfold pyNext
    refine wpAny_bind (wpAny_attempt (wpAny_callSpecial?_slot (name := Str.ofString "__next__") hT F.slot_enumerate_next
      (wpAny_call_entry F.slot_enumerate_next hT F.entry_enumerate_next ?_ (F.args_enumerate_next_1 _))))
    show wpAny _ _ (field (.ref e) 2 >>= _) _ _ _
    refine wpAny_bind (wpAny_field he rfl (x := .ref it) rfl ?_)
    refine wpAny_bind (PySem.wpAny_nextOf_tuple_end (show X.A.in1.handled = none from I.ok.hd hc) hit (show s.heap.IsTuple a its.toArray from p) (by simp; omega) fun h' x he' hx' => ?_)
    obtain ⟨o, ho, hc⟩ := hx'
    refine wpAny_bind (wpAny_isInstance (T := "StopIteration") (b := true) ⟨o, ho, hc⟩ isSubtype_stop ?_)
    exact wpAny_pure ⟨rfl, I.turned (t' := s.toks) (fun b o hb q => he' b o hb q) f0 f1 f3 f4 f5⟩
  self := fun A i s Q E st h => let ⟨⟨_, he⟩, _⟩ := st; wpAny_pyIter_enum he h

/-- enumerate of a list or a tuple -/
def iEnumA (K : PySem.W.Frag) (ta : TA) : TI := fun σ H R => ta σ H fun vs H1 => ∃ a xs, vs = [.ref a] ∧ ((SqL K H1 a xs ∧ R (Ite K a) H1) ∨ (SqT K H1 a xs ∧ R (IteT K a) H1))
theorem pi_enumA {X : Cx} {e : Expr} {ta : TA} {p pos tpos : Pos} {elts : List Expr} {kk : Nat} (hg : Gl X "enumerate") (hm : X.mg "enumerate" = none) (ha : PA X [e] ta) (hs : starEach [e] X.env = [(false, eval e X.env)]) :
    PI X (.Tuple elts kk tpos) (.Call (.Name "enumerate" p) [e] [] pos) (iEnumA X.K ta) := by
  refine ⟨fun pins s σ H R I h => ?_⟩
  refine Call_ (ld_blt I hg hm boot_enumerate (PyProof.Rows.callWith_type1 (thn (ha.run pos pins s σ H _ I h) fun us s1 ⟨vs, H1, I1, r1, q1⟩ => ?_) hs rfl))
  obtain ⟨a, xs, ex, q1⟩ := q1
  subst ex
  cases r1 with
  | cons r rr =>
    cases rr
    cases r
    have two : ∀ b, b ∈ [s1.heap.objs.size + 1, s1.heap.objs.size] → FpOk X pins H1 b := fun b hb => by
      have e' : b = s1.heap.objs.size + 1 ∨ b = s1.heap.objs.size := by simpa using hb
      have hle : s1.heap.objs.size ≤ b := by
        rcases e' with z | z
        · rw [z]; exact Nat.le_add_right _ _
        · rw [z]; exact Nat.le_refl _
      exact I1.fpOk hle (I1.hok.fresh hle)
    rcases q1 with ⟨hq, q⟩ | ⟨hq, q⟩
    · obtain ⟨its, rv, p', hz⟩ := I1.list hq
      refine call_enumerate_list p'.isList fun h' he hit hsz hk => wpAny_pyIter_enum he ?_
      have I2 : L2.Inv X pins σ H1 { s1 with heap := h' } := I1.kept (t' := s1.toks) hk
      exact ⟨s1.heap.objs.size + 1, [s1.heap.objs.size + 1, s1.heap.objs.size], _, _, H1, rfl, I2, turn_enum a (s1.heap.objs.size + 1) s1.heap.objs.size, ⟨⟨.none, he⟩, hit, Nat.succ_ne_self _⟩, two, q⟩
    · obtain ⟨its, rv, p', hz⟩ := I1.tuple hq
      refine call_enum1 (begins_tuple a its.toArray) p' fun h' he hit hsz hk => wpAny_pyIter_enum he ?_
      have I2 : L2.Inv X pins σ H1 { s1 with heap := h' } := I1.kept (t' := s1.toks) hk
      exact ⟨s1.heap.objs.size + 1, [s1.heap.objs.size + 1, s1.heap.objs.size], _, _, H1, rfl, I2, turn_enumT a (s1.heap.objs.size + 1) s1.heap.objs.size, ⟨⟨.none, he⟩, ⟨_, hit, rfl, rfl⟩, Nat.succ_ne_self _⟩, two, q⟩
end PD
end Sec11
section Sec12
set_option Elab.async false
set_option linter.all false
set_option maxRecDepth 100000
set_option maxHeartbeats 4000000
/-! PD11: targets, statements. -/
namespace PD
open PySem PySem.Spec PyProof.Rows L2

abbrev MnS := Fr → Sto → SR
/-- what is wanted behind a statement's meaning -/
def SPo (T : Tab) (W : WX) (ρ : List Addr) (H : Hp) (D : Ends) : SR → Prop
  | .nx fr S' => ∀ ρ' H' σ', Ext ρ H ρ' H' → Sim T ρ' S' H' → FR T ρ' H' fr σ' → D.nx σ' H'
  | .rt d S' => ∀ ρ' H' v, Ext ρ H ρ' H' → Sim T ρ' S' H' → RD T ρ' H' d v → D.rt v H'
  | .ex c fs fr S' => ∀ ρ' H' cv dx σ', Ext ρ H ρ' H' → Sim T ρ' S' H' → FR T ρ' H' fr σ' → ExR T ρ' H' c fs cv dx → W cv dx σ' H'
  | .no => False
def DS (T : Tab) (W : WX) (f : MnS) : TS := fun D σ H => ∃ ρ S fr, Sim T ρ S H ∧ FR T ρ H fr σ ∧ SPo T W ρ H D (f fr S)
section
variable {T : Tab} {W : WX} {ρ ρ' : List Addr} {H H' : Hp} {En : Ends} {α : Type} {fr : Fr} {σ : L2.St}
theorem SPo.mono {x : SR} (h : SPo T W ρ H En x) (e : Ext ρ H ρ' H') : SPo T W ρ' H' En x := by
  cases x with
  | nx fr S => exact fun a b c e2 s f => h a b c (e.trans e2) s f
  | rt d S => exact fun a b c e2 s f => h a b c (e.trans e2) s f
  | ex c fs fr S => exact fun a b c d f e2 s g q => h a b c d f (e.trans e2) s g q
  | no => exact h
theorem SPo.of {x : R α} {f : α → Sto → SR} (r : FR T ρ H fr σ) (h : SPo T W ρ H En (SR.of x fr f)) : Po T (fun c d H' => W c d σ H') ρ H x fun a S1 ρ1 H1 => SPo T W ρ1 H1 En (f a S1) := by
  cases x with
  | ok a s => exact fun ρ2 H2 e2 s2 => SPo.mono (x := f a s) h e2
  | ex c fs s => exact fun ρ2 H2 cv dx e2 s2 x2 => h ρ2 H2 cv dx σ e2 s2 (r.mono e2) x2
  | no => exact h
theorem SPo.nx {S : Sto} (h : SPo T W ρ H En (.nx fr S)) (s : Sim T ρ S H) (r : FR T ρ H fr σ) : En.nx σ H := h ρ H σ Ext.refl s r
theorem SPo.rt {d : D} {v : V} {S : Sto} (h : SPo T W ρ H En (.rt d S)) (s : Sim T ρ S H) (r : RD T ρ H d v) : En.rt v H := h ρ H v Ext.refl s r
end

/-! ### targets -/
mutual
/-- the names that a target sets -/
def slotsT : CT → List Nat
  | .nm i => [i]
  | .tp cs => slotsTs cs
def slotsTs : List CT → List Nat
  | [] => []
  | c :: cs => slotsT c ++ slotsTs cs
end
/-- alike but for these names -/
def Agr (vs : List Nat) (σ σ' : L2.St) : Prop := σ'.length = σ.length ∧ ∀ j, j ∉ vs → σ'[j]? = σ[j]?
theorem Agr.trans {vs ws : List Nat} {a b c : L2.St} (h : Agr vs a b) (g : Agr ws b c) : Agr (vs ++ ws) a c := ⟨g.1.trans h.1, fun j hj => (g.2 j (fun z => hj (List.mem_append_right _ z))).trans (h.2 j (fun z => hj (List.mem_append_left _ z)))⟩
def DG (T : Tab) (t : CT) : TG := fun v σ H Q => ∃ ρ S fr d fr', Sim T ρ S H ∧ FR T ρ H fr σ ∧ RD T ρ H d v ∧ letT t d fr = some fr' ∧ ∀ σ', FR T ρ H fr' σ' → Agr (slotsT t) σ σ' → Q σ' H
def DGs (T : Tab) (ts : List CT) : TGs := fun vs σ H Q => ∃ ρ S fr ds fr', Sim T ρ S H ∧ FR T ρ H fr σ ∧ RDs T ρ H ds vs ∧ letTs ts ds fr = some fr' ∧ ∀ σ', FR T ρ H fr' σ' → Agr (slotsTs ts) σ σ' → Q σ' H
theorem _root_.L2.PG.wk {X : Cx} {e : Expr} {t t' : TG} (h : PG X e t) (i : ∀ v σ H Q, t' v σ H Q → t v σ H Q) : PG X e t' := ⟨fun pins s σ H v u Q I r q => h.run pins s σ H v u Q I r (i v σ H Q q)⟩
theorem _root_.L2.PGs.wk {X : Cx} {e : List Expr} {t t' : TGs} (h : PGs X e t) (i : ∀ v σ H Q, t' v σ H Q → t v σ H Q) : PGs X e t' := ⟨fun pins s σ H v u Q I r q => h.run pins s σ H v u Q I r (i v σ H Q q)⟩
theorem asg_map {e : Expr} {es : List Expr} {env : Env} (h : notStar e = true) : (assignEach (e :: es) env) = (false, assign e env) :: assignEach es env := by
  cases e <;> first | rfl | (cases h; done)
theorem asg_len {env : Env} : ∀ {es : List Expr}, (assignEach es env).length = es.length
  | [] => rfl
  | e :: es => by
    have := asg_len (env := env) (es := es)
    cases e <;> (show (assignEach es env).length + 1 = es.length + 1; rw [this])
theorem asg_star {env : Env} : ∀ {es : List Expr}, es.all notStar = true → (assignEach es env).findIdx? (·.1) = none
  | [], _ => rfl
  | e :: es, h => by
    rw [List.all_cons, Bool.and_eq_true] at h
    rw [asg_map h.1, List.findIdx?_cons, asg_star h.2]
    rfl
section
variable {T : Tab} {G : Pg} {J : Inf} {Ly : Lay} {n : Nat} {c : CC} {W : WX} {X : Cx} {call : Call}
theorem snd_gnm {i : Nat} {x : Str} {pos : Pos} (hN : X.N.Nodup) (hi : X.N[i]? = some x) (hl : Loc X.env.scope x) (hf : X.fn x = true ∨ X.env.scope.names.lookup x = some .local) : PG X (.Name x pos) (DG T (.nm i)) :=
  (pg_name hN hi hl hf).wk fun v σ H Q ⟨ρ, S, fr, d, fr', sm, r, rd, e, q⟩ => by
    cases e
    exact q _ (r.set rd) ⟨by simp, fun j hj => by
      have hj : ¬ i = j := by rintro rfl; exact hj (by simp [slotsT])
      rw [List.getElem?_set_ne hj]⟩
theorem snd_gtp {es : List Expr} {ts : List CT} {k : Nat} {pos : Pos} (C : Cq T G J Ly n c W X) (hes : es.all notStar = true) (hl : es.length = ts.length) (h : PGs X es (DGs T ts)) : PG X (.Tuple es k pos) (DG T (.tp ts)) :=
  (pg_tup (n := ts.length) C.calm h (by rw [asg_len, hl]) (asg_star hes)).wk fun v σ H Q ⟨ρ, S, fr, d, fr', sm, r, rd, e, q⟩ => by
    have len : ∀ {ts : List CT} {ds : List D} {fr fr' : Fr}, letTs ts ds fr = some fr' → ds.length = ts.length := by
      intro ts
      induction ts with
      | nil => intro ds fr fr' e; cases ds with
        | nil => rfl
        | cons _ _ => unfold letTs at e; cases e
      | cons t ts ih => intro ds fr fr' e; cases ds with
        | nil => unfold letTs at e; cases e
        | cons d ds =>
          unfold letTs at e
          split at e
          · simp [ih e]
          · cases e
    unfold letT at e
    cases rd <;> first | (cases e; done) | skip
    · rename_i h1 h2 _
      exact ⟨_, _, rfl, SqT.of h1, by rw [← h2.length, len e], ρ, S, fr, _, fr', sm, r, h2, e, q⟩
    · rename_i h1 h2 _
      rw [C.K]
      exact ⟨_, _, rfl, h1.t, by rw [← h2.length, len e], ρ, S, fr, _, fr', sm, r, h2, e, q⟩
theorem snd_gnil : PGs X [] (DGs T []) := pgs_nil.wk fun vs σ H Q ⟨ρ, S, fr, ds, fr', sm, r, rd, e, q⟩ => by
  cases ds with
  | nil =>
    cases rd
    unfold letTs at e
    cases e
    exact ⟨rfl, q σ r ⟨rfl, fun _ _ => rfl⟩⟩
  | cons _ _ => unfold letTs at e; cases e
theorem snd_gcons {e : Expr} {es : List Expr} {t : CT} {ts : List CT} (hs : notStar e = true) (h1 : PG X e (DG T t)) (h2 : PGs X es (DGs T ts)) : PGs X (e :: es) (DGs T (t :: ts)) :=
  (pgs_cons h1 h2 (by rw [asg_map hs]; rfl)).wk fun vs σ H Q ⟨ρ, S, fr, ds, fr', sm, r, rd, e, q⟩ => by
    cases ds with
    | nil => unfold letTs at e; cases e
    | cons d ds =>
      cases rd with
      | cons r1 r2 =>
      unfold letTs at e
      split at e
      · rename_i fr1 e1
        exact ⟨_, _, rfl, ρ, S, fr, d, fr1, sm, r, r1, e1, fun σ1 f1 g1 => ⟨ρ, S, fr1, ds, fr', sm, f1, r2, e, fun σ2 f2 g2 => q σ2 f2 (g1.trans g2)⟩⟩
      · cases e

/-! ### small statements -/
theorem snd_snil : PSs X [] (DS T W (evSs G call [])) := pss_nil.wk fun D σ H ⟨ρ, S, fr, sm, r, h⟩ => by
  unfold evSs at h
  exact h.nx sm r
theorem snd_scons {st : Stmt} {sts : List Stmt} {t : PD.St} {ts : List PD.St} (h1 : PS X st (DS T W (evS G call t))) (h2 : PSs X sts (DS T W (evSs G call ts))) : PSs X (st :: sts) (DS T W (evSs G call (t :: ts))) :=
  (pss_cons h1 h2).wk fun D σ H ⟨ρ, S, fr, sm, r, h⟩ => by
    unfold evSs at h
    refine ⟨ρ, S, fr, sm, r, ?_⟩
    cases e : evS G call t fr S with
    | nx fr' S' =>
      rw [e] at h
      exact fun ρ' H' σ' e2 s2 r2 => ⟨ρ', S', fr', s2, r2, SPo.mono (x := evSs G call ts fr' S') h e2⟩
    | rt d S' => rw [e] at h; exact h
    | ex c fs fr S' => rw [e] at h; exact h
    | no => rw [e] at h; exact h
theorem snd_no {st : Stmt} : PS X st (DS T W (evS G call .no)) := ⟨fun pins s σ H D I ⟨ρ, S, fr, sm, r, h⟩ => by unfold evS at h; exact h.elim⟩
theorem snd_Eno {e : Expr} : PE X e (DE T W (evE G call .no)) := ⟨fun pins s σ H D I ⟨ρ, S, fr, sm, r, h⟩ => by unfold evE at h; exact h.elim⟩
theorem snd_pass {pos : Pos} : PS X (.Pass pos) (DS T W (evS G call .pass)) := ps_pass.wk fun D σ H ⟨ρ, S, fr, sm, r, h⟩ => by
  unfold evS at h
  exact h.nx sm r
theorem snd_expr {e : Expr} {d : E} {pos : Pos} (he : PE X e (DE T W (evE G call d))) (hs : swapsWith e none pos.line X.env = pure false) : PS X (.Expr e pos) (DS T W (evS G call (.expr d))) :=
  (ps_expr he hs).wk fun D σ H ⟨ρ, S, fr, sm, r, h⟩ => by
    unfold evS at h
    exact ⟨ρ, S, fr, sm, r, (SPo.of r h).imp fun a S1 ρ1 H1 e1 s1 h1 v rv => h1.nx s1 (r.mono e1)⟩
theorem snd_ret {e : Expr} {d : E} {pos : Pos} (he : PE X e (DE T W (evE G call d))) : PS X (.Return (some e) pos) (DS T W (evS G call (.ret d))) :=
  (ps_ret he).wk fun D σ H ⟨ρ, S, fr, sm, r, h⟩ => by
    unfold evS at h
    exact ⟨ρ, S, fr, sm, r, (SPo.of r h).imp fun a S1 ρ1 H1 e1 s1 h1 v rv => h1.rt s1 rv⟩
theorem snd_retN {pos : Pos} : PS X (.Return none pos) (DS T W (evS G call .retN)) := ps_retN.wk fun D σ H ⟨ρ, S, fr, sm, r, h⟩ => by
  unfold evS at h
  exact SPo.rt h sm .non
theorem snd_if {e : Expr} {a b : List Stmt} {d : E} {x y : List PD.St} {pos : Pos} (hc : PT X e (DT T W (evE G call d))) (ha : PSs X a (DS T W (evSs G call x))) (hb : PSs X b (DS T W (evSs G call y))) : PS X (.If e a b pos) (DS T W (evS G call (.if_ d x y))) :=
  (ps_if hc ha hb).wk fun D σ H ⟨ρ, S, fr, sm, r, h⟩ => by
    unfold evS at h
    refine ⟨ρ, S, fr, sm, r, (SPo.of r h).imp fun d S1 ρ1 H1 e1 s1 h1 => ?_⟩
    cases d <;> first | exact h1.elim | skip
    rename_i k
    refine ⟨k, rfl, ?_⟩
    cases k with
    | true => exact ⟨ρ1, S1, fr, s1, r.mono e1, h1⟩
    | false => exact ⟨ρ1, S1, fr, s1, r.mono e1, h1⟩
theorem snd_asg {tg e : Expr} {t : CT} {d : E} {pos : Pos} (he : PE X e (DE T W (evE G call d))) (hg : PG X tg (DG T t)) (hst : notStar tg = true) (hs : swapsWithSole [tg] e pos.line X.env = pure false) (hw : swappedStores [tg] e X.env = pure none) :
    PS X (.Assign [tg] e pos) (DS T W (evS G call (.asg t d))) :=
  (ps_asg he hg hs hw (by rw [asg_map hst]; rfl)).wk fun D σ H ⟨ρ, S, fr, sm, r, h⟩ => by
    unfold evS at h
    refine ⟨ρ, S, fr, sm, r, (SPo.of r h).imp fun a S1 ρ1 H1 e1 s1 h1 v rv => ?_⟩
    split at h1
    · rename_i fr' e2
      exact ⟨ρ1, S1, fr, a, fr', s1, r.mono e1, rv, e2, fun σ' f' _ => h1.nx s1 f'⟩
    · exact h1.elim
theorem snd_par {i j : Nat} {x y : Str} {a b : Expr} {ea eb : E} {px py pt pos : Pos} {kt k2 pt2} (hc : X.calm = true) (hN : X.N.Nodup) (hi : X.N[i]? = some x) (hj : X.N[j]? = some y) (hij : i ≠ j)
    (hx : X.env.scope.names.lookup x = some .local) (hy : X.env.scope.names.lookup y = some .local) (ha : PA X [a, b] (DA T W (evEs G call [ea, eb])))
    (hw : swappedStores [.Tuple [.Name x px, .Name y py] kt pt] (.Tuple [a, b] k2 pt2) X.env = pure (some [x, y])) :
    PS X (.Assign [.Tuple [.Name x px, .Name y py] kt pt] (.Tuple [a, b] k2 pt2) pos) (DS T W (evS G call (.par [i, j] [ea, eb]))) :=
  (ps_par hc hN hi hj hij hx hy ha hw).wk fun D σ H ⟨ρ, S, fr, sm, r, h⟩ => by
    unfold evS at h
    refine ⟨ρ, S, fr, sm, r, (SPo.of r h).imp fun ds S1 ρ1 H1 e1 s1 h1 vs rv => ?_⟩
    cases ds with
    | nil => simp [letTs] at h1; exact h1.elim
    | cons d1 ds => cases ds with
      | nil => simp [letTs, letT] at h1; exact h1.elim
      | cons d2 ds => cases ds with
        | cons _ _ => simp [letTs, letT] at h1; exact h1.elim
        | nil =>
          cases rv with
          | cons r1 rv => cases rv with
            | cons r2 rv =>
              cases rv
              have e3 : letTs ([i, j].map .nm) [d1, d2] fr = some ((fr.set i (some d1)).set j (some d2)) := by simp [letTs, letT]
              rw [e3] at h1
              exact ⟨_, _, rfl, h1.nx s1 (((r.mono e1).set r1).set r2)⟩
/-- a.f = e -/
theorem snd_asgF (C : Cq T G J Ly n c W X) {o e : Expr} {eo d : E} {f : Nat} {x : Str} {p pos : Pos} (hx : T.syms[f]? = some x) (hf : f ∈ J.flds) (ho : PE X o (DE T W (evE G call eo))) (he : PE X e (DE T W (evE G call d))) (hs : swapsWith e (some (.Attribute o x p)) pos.line X.env = pure false) :
    PS X (.Assign [.Attribute o x p] e pos) (DS T W (evS G call (.asgF eo f d))) := by
  have F := ps_fld (X := X) ho he hs
  refine F.wk fun D σ H ⟨ρ, S, fr, sm, r, h⟩ => ?_
  unfold evS at h
  refine ⟨ρ, S, fr, sm, r, (SPo.of r h).imp fun v S1 ρ1 H1 e1 s1 h1 y ry => ⟨ρ1, S1, fr, s1, r.mono e1, (SPo.of (r.mono e1) h1).imp fun a S2 ρ2 H2 e2 s2 h2 z rz => ?_⟩⟩
  have h2 := SPo.of (r.mono (e1.trans e2)) h2
  unfold setFD at h2
  split at h2
  · rename_i l
    cases rz with
    | ref hla =>
    split at h2
    · rename_i cc fs ex
      split at h2
      · rename_i k ek
        obtain ⟨dx, gs, g1, g2, F⟩ := cls_at C s2 ex hla ek
        split at h2
        · rename_i ep em
          split at h2
          · rename_i hz
            have k1 := F.cls
            have k2 := F.noa f x hf hx ep em
            rw [← C.K] at k1 k2
            have hz := Nat.le_of_ble_eq_true hz
            rw [g2.length] at hz
            refine ⟨_, _, dx, gs, rfl, g1, k1, k2, hz, ?_⟩
            rw [nth_eq] at ex
            obtain ⟨y', m1, m2⟩ := F.mg
            obtain ⟨s3, e3⟩ := s2.set (o' := .ins cc (putN fs f v)) ex hla (u := .ins (Ly.ca cc) dx (putF x y gs)) fun e => OA.ins m1 m2 upd_same ((g2.put hx (ry.mono e2)).mono e)
            exact (h2 _ _ e3 s3).nx s3 (r.mono (e1.trans (e2.trans e3)))
          · exact h2.elim
        · exact h2.elim
      · exact h2.elim
    · exact h2.elim
  · exact h2.elim
end
end PD
end Sec12
section Sec13
set_option Elab.async false
set_option linter.all false
set_option maxRecDepth 100000
set_option maxHeartbeats 4000000
/-! PD12: stores into lists and dicts, op=. -/
namespace PD
open PySem PySem.Spec PyProof.Rows L2
theorem setSB_noex {a i v : D} {s : Sto} (c : Nat) (fs : List (Nat × D)) (s' : Sto) : setSB a i v s ≠ .ex c fs s' := by
  unfold setSB
  intro h
  repeat' (split at h)
  all_goals cases h
theorem ixB_noex {a i : D} {s : Sto} (c : Nat) (fs : List (Nat × D)) (s' : Sto) : ixB a i s ≠ .ex c fs s' := by
  unfold ixB
  intro h
  repeat' (split at h)
  all_goals cases h
theorem augD_noex {o : BO} {a i : D} {s : Sto} (c : Nat) (fs : List (Nat × D)) (s' : Sto) : augD o a i s ≠ .ex c fs s' := by
  unfold augD
  intro h
  repeat' (split at h)
  all_goals cases h
section
variable {T : Tab} {G : Pg} {J : Inf} {Ly : Lay} {n : Nat} {c : CC} {W : WX} {X : Cx} {call : Call}
def rSet (T : Tab) : TSet := fun o i v H Q => ∃ ρ S a x y, Sim T ρ S H ∧ RD T ρ H a o ∧ RD T ρ H x i ∧ RD T ρ H y v ∧ Po T W0 ρ H (setSB a x y S) fun _ _ _ H' => Q H'
theorem set_any (C : Cq T G J Ly n c W X) : PSet X (rSet T) := by
  intro pins s σ H o i v ov iv u Q I ro ri rv ⟨ρ, S, a, x, y, sm, ra, rx, ry, h⟩
  unfold setSB at h
  split at h
  · rename_i l
    cases ra with
    | ref hla =>
    split at h
    · rename_i xs ex
      rw [nth_eq] at ex
      split at h
      · rename_i k
        cases rx
        split at h
        · rename_i j ej
          cases sm.getA ex hla with
          | lst h1 h2 =>
            have ej := ixNat_at ej
            rw [h2.length] at ej
            obtain ⟨s', e'⟩ := sm.set (o' := .lst (xs.set j y)) ex hla (u := .lst _) fun e => .lst upd_same ((h2.mono e).set (ry.mono e) j)
            exact set_list pins s σ H _ _ v ov iv u Q I ro ri rv ⟨_, _, k, j, rfl, rfl, h1, ej, h _ _ e' s'⟩
        · exact h.elim
      · exact h.elim
    · rename_i t kvs ex
      split at h
      · rename_i hk
        rw [Bool.and_eq_true] at hk
        obtain ⟨H', g, s', e'⟩ := dct_put sm ex hla rx ry hk.1 hk.2
        exact set_dict (by have := C.hu; omega) pins s σ H _ i v ov iv u Q I ro ri rv ⟨_, H', rfl, g, h _ _ e' s'⟩
      · exact h.elim
    · exact h.elim
  · exact h.elim
def rGet (T : Tab) : V → V → Hp → VK → Prop := fun o i H Q => ∃ ρ S a x, Sim T ρ S H ∧ RD T ρ H a o ∧ RD T ρ H x i ∧ PoV T ρ H (ixB a x S) Q
theorem get_any (C : Cq T G J Ly n c W X) : PGet X (rGet T) := by
  intro pins s σ H o i ov iv Q I ro ri ⟨ρ, S, a, x, sm, ra, rx, h⟩
  unfold ixB at h
  split at h
  · rename_i l
    cases ra with
    | ref hla =>
    cases ro
    split at h
    · rename_i xs ex
      rw [nth_eq] at ex
      split at h
      · rename_i k
        cases rx
        split at h
        · rename_i d ed
          cases sm.getA ex hla with
          | lst h1 h2 =>
            obtain ⟨w0, a1, a2⟩ := ixI_at ed h2
            obtain ⟨t, rfl⟩ := ri
            obtain ⟨its, r, pl, hz⟩ := I.list (SqL.of h1)
            obtain ⟨j, q1, q2, q3, q4, q5⟩ := atI_get a1
            obtain ⟨w, ew, rw'⟩ := r.get q2
            have hl := r.length
            have hn := line63
            have fin : EP X pins σ Q w s := ⟨w0, H, I, rw', h.ok sm a2⟩
            by_cases h0 : 0 ≤ k
            · have hj : k.toNat = j := by
                rw [seqIndex_of h0 q5] at q1
                exact Option.some.inj q1
              exact wpAny_getItem_list pl.isList h0 (by omega) (by rw [hj]; simpa using ew) fin
            · have hj : (k + (its.toArray.size : Int)).toNat = j := by
                rw [seqIndex_neg (by omega) q4] at q1
                rw [List.size_toArray, ← hl]
                exact Option.some.inj q1
              exact wpAny_getItem_list_neg pl.isList (by omega) (by rw [List.size_toArray]; omega) (by omega) (by rw [hj]; simpa using ew) fin
        · exact h.elim
      · exact h.elim
    · rename_i t kvs ex
      split at h
      · rename_i hk
        have g := dct_get sm ex hla rx hk
        split at h
        · rename_i d ed
          rw [ed] at g
          obtain ⟨w0, g1, g2⟩ := g
          exact d_getItem (by have := C.hu; omega) I g1 ri fun w' s3 I3 rw' => ⟨w0, H, I3, rw', h.ok sm g2⟩
        · exact h.elim
      · exact h.elim
    · exact h.elim
  · exact h.elim
def rAug (T : Tab) (o : BO) : TIp := fun x y H Q => ∃ ρ S a b, Sim T ρ S H ∧ RD T ρ H a x ∧ RD T ρ H b y ∧ PoV T ρ H (augD o a b S) Q
theorem aug_any (o : BO) : PIp X (bo o) (rAug T o) := by
  intro pins s σ H x y v u Q I r1 r2 ⟨ρ, S, a, b, sm, ra, rb, h⟩
  unfold augD at h
  split at h
  · cases ra; cases rb
    exact ip_add pins s σ H _ _ v u Q I r1 r2 ⟨_, _, rfl, rfl, h.ok sm (.int _)⟩
  · cases ra; cases rb
    exact ip_sub pins s σ H _ _ v u Q I r1 r2 ⟨_, _, rfl, rfl, h.ok sm (.int _)⟩
  · exact h.elim
/-- a[i] = e -/
theorem snd_asgS (C : Cq T G J Ly n c W X) {o i e : Expr} {eo ei d : E} {p pos : Pos} (ho : PE X o (DE T W (evE G call eo))) (hi : PE X i (DE T W (evE G call ei))) (he : PE X e (DE T W (evE G call d))) (hn : noSl i = true)
    (hs : swapsWithSole [.Subscript o i p] e pos.line X.env = pure false) (hw : swappedStores [.Subscript o i p] e X.env = pure none) : PS X (.Assign [.Subscript o i p] e pos) (DS T W (evS G call (.asgS eo ei d))) := by
  refine (ps_asg he (pg_sub ho hi (set_any C) (by intro v; cases i <;> first | rfl | cases hn)) hs hw (by rw [asg_map rfl]; rfl)).wk fun D σ H ⟨ρ, S, fr, sm, r, h⟩ => ?_
  unfold evS at h
  refine ⟨ρ, S, fr, sm, r, (SPo.of r h).imp fun v S1 ρ1 H1 e1 s1 h1 vv rv => ⟨ρ1, S1, fr, s1, r.mono e1, (SPo.of (r.mono e1) h1).imp fun a S2 ρ2 H2 e2 s2 h2 va ra => ⟨ρ2, S2, fr, s2, r.mono (e1.trans e2), (SPo.of (r.mono (e1.trans e2)) h2).imp fun x S3 ρ3 H3 e3 s3 h3 vx rx => ?_⟩⟩⟩
  refine ⟨ρ3, S3, a, x, v, s3, ra.mono e3, rx, rv.mono (e2.trans e3), Po.anyW ((SPo.of (r.mono (e1.trans (e2.trans e3))) h3).imp fun _ S4 ρ4 H4 e4 s4 h4 => h4.nx s4 (r.mono (e1.trans (e2.trans (e3.trans e4))))) setSB_noex⟩
/-- x op= e -/
theorem snd_augN {i : Nat} {x : Str} {o : BO} {e : Expr} {d : E} {p pos : Pos} (hN : X.N.Nodup) (hi : X.N[i]? = some x) (hl : Loc X.env.scope x) (hf : X.fn x = true ∨ X.env.scope.names.lookup x = some .local) (he : PE X e (DE T W (evE G call d))) : PS X (.AugAssign (.Name x p) (bo o) e pos) (DS T W (evS G call (.augN i o d))) :=
  (ps_aug hN hi hl he (aug_any (T := T) o) hf).wk fun D σ H ⟨ρ, S, fr, sm, r, h⟩ => by
    unfold evS at h
    split at h
    · rename_i x ex
      obtain ⟨v, h1, h2⟩ := r.at_ i x (nthFr_eq ex)
      refine ⟨v, h1, ρ, S, fr, sm, r, (SPo.of r h).imp fun y S1 ρ1 H1 e1 s1 q1 w ry => ⟨ρ1, S1, x, y, s1, h2.mono e1, ry, Po.anyW ((SPo.of (r.mono e1) q1).imp fun z S2 ρ2 H2 e2 s2 q2 u ru => q2.nx s2 ((r.mono (e1.trans e2)).set ru)) augD_noex⟩⟩
    · exact h.elim
/-- a[i] op= e -/
theorem snd_augS (C : Cq T G J Ly n c W X) {a i e : Expr} {ea ei d : E} {o : BO} {p pos : Pos} (ha : PE X a (DE T W (evE G call ea))) (hi : PE X i (DE T W (evE G call ei))) (he : PE X e (DE T W (evE G call d))) (hn : noSl i = true) :
    PS X (.AugAssign (.Subscript a i p) (bo o) e pos) (DS T W (evS G call (.augS ea ei o d))) :=
  (ps_augS ha hi (get_any C) he (aug_any (T := T) o) (set_any C) (by intros; cases i <;> first | rfl | cases hn)).wk fun D σ H ⟨ρ, S, fr, sm, r, h⟩ => by
    unfold evS at h
    refine ⟨ρ, S, fr, sm, r, (SPo.of r h).imp fun x S1 ρ1 H1 e1 s1 h1 vx rx => ⟨ρ1, S1, fr, s1, r.mono e1, (SPo.of (r.mono e1) h1).imp fun y S2 ρ2 H2 e2 s2 h2 vy ry => ?_⟩⟩
    have r2 := r.mono (e1.trans e2)
    refine ⟨ρ2, S2, x, y, s2, rx.mono e2, ry, Po.anyW ((SPo.of r2 h2).imp fun z S3 ρ3 H3 e3 s3 h3 vz rz => ?_) ixB_noex⟩
    have r3 := r2.mono e3
    refine ⟨ρ3, S3, fr, s3, r3, (SPo.of r3 h3).imp fun w S4 ρ4 H4 e4 s4 h4 vw rw' => ?_⟩
    have r4 := r3.mono e4
    refine ⟨ρ4, S4, z, w, s4, rz.mono e4, rw', Po.anyW ((SPo.of r4 h4).imp fun u S5 ρ5 H5 e5 s5 h5 vu ru => ?_) augD_noex⟩
    have r5 := r4.mono e5
    exact ⟨ρ5, S5, x, y, u, s5, rx.mono (e2.trans (e3.trans (e4.trans e5))), ry.mono (e3.trans (e4.trans e5)), ru, Po.anyW ((SPo.of r5 h5).imp fun _ S6 ρ6 H6 e6 s6 h6 => h6.nx s6 (r5.mono e6)) setSB_noex⟩
end
end PD
end Sec13
section Sec14
set_option Elab.async false
set_option linter.all false
set_option maxRecDepth 100000
set_option maxHeartbeats 4000000
/-! PD13: loops. -/
namespace PD
open PySem PySem.Spec PyProof.Rows L2
/-- what a source says, the iterator does -/
def SrcOk (T : Tab) (J : It) (src : Src) (ρ0 : List Addr) (H0 : Hp) : Prop := ∀ ρ S H, Ext ρ0 H0 ρ H → Sim T ρ S H → ∀ i, match src i S with
  | none => True
  | some none => J.stop i H
  | some (some d) => J.go i H ∧ ∀ x H', J.yld i H x H' → Ext ρ H ρ H' ∧ Sim T ρ S H' ∧ RD T ρ H' d x
section
variable {T : Tab} {ρ : List Addr} {H : Hp} {S : Sto}
theorem nth_none {α : Type} {xs : List α} {i : Nat} (h : nth xs i = none) : xs.length ≤ i := by rw [nth_eq] at h; exact List.getElem?_eq_none_iff.mp h
theorem src_list {d : D} {w : Wk} {v : V} (sm : Sim T ρ S H) (hw : wkL S d = some w) (rd : RD T ρ H d v) : ∃ a vs, v = .ref a ∧ SqL T.K H a vs ∧ SrcOk T (Itl T.K a) (srcAt w) ρ H := by
  unfold wkL at hw
  split at hw
  · rename_i xs
    cases hw
    cases rd with
    | rol h1 h2 =>
      refine ⟨_, _, rfl, h1.l, fun ρ' S' H' e s i => ?_⟩
      have h1' := h1.keep e.keep
      have h2' := h2.mono e
      unfold srcAt
      cases en : nth xs i with
      | none => exact ⟨_, h1'.l, by rw [← h2.length]; exact nth_none en⟩
      | some y =>
        rw [nth_eq] at en
        obtain ⟨u, q1, q2⟩ := h2'.get en
        refine ⟨⟨_, u, h1'.l, q1⟩, fun x H2 ⟨e1, hx⟩ => ?_⟩
        subst e1
        have := hx _ h1'.l
        rw [q1] at this; cases this
        exact ⟨Ext.refl, s, q2⟩
  · rename_i l
    cases rd with
    | ref hla =>
    split at hw
    · rename_i xs0 ex0
      cases hw
      obtain ⟨vs0, g1, g2⟩ := lst_at sm ex0 hla
      refine ⟨_, vs0, rfl, SqL.of g1, fun ρ' S' H' e s i => ?_⟩
      cases el : lstO S' l with
      | none =>
        have es : srcAt (.live l) i S' = none := by unfold srcAt; rw [el]
        rw [es]; exact True.intro
      | some xs =>
        have es : srcAt (.live l) i S' = some (nth xs i) := by unfold srcAt; rw [el]
        rw [es]
        obtain ⟨vs, h1, h2⟩ := lst_at s el (e.at hla)
        cases en : nth xs i with
        | none => exact ⟨_, SqL.of h1, by rw [← h2.length]; exact nth_none en⟩
        | some y =>
          rw [nth_eq] at en
          obtain ⟨u, q1, q2⟩ := h2.get en
          refine ⟨⟨_, u, SqL.of h1, q1⟩, fun x H2 ⟨e1, hx⟩ => ?_⟩
          subst e1
          have := hx _ (SqL.of h1)
          rw [q1] at this; cases this
          exact ⟨Ext.refl, s, q2⟩
    · cases hw
  · cases hw
theorem src_tup {d : D} {w : Wk} {v : V} (hw : wkT d = some w) (rd : RD T ρ H d v) : ∃ a vs, v = .ref a ∧ SqT T.K H a vs ∧ SrcOk T (Itt T.K a) (srcAt w) ρ H := by
  have go : ∀ {xs : List D} {a : Addr} {vs : List V}, SqT T.K H a vs → RDs T ρ H xs vs → SrcOk T (Itt T.K a) (srcAt (.seq xs)) ρ H := by
    intro xs a vs h1 h2 ρ' S' H' e s i
    have h1' := SqT_keep e.keep h1
    have h2' := h2.mono e
    unfold srcAt
    cases en : nth xs i with
    | none => exact ⟨_, h1', by rw [← h2.length]; exact nth_none en⟩
    | some y =>
      rw [nth_eq] at en
      obtain ⟨u, q1, q2⟩ := h2'.get en
      refine ⟨⟨_, u, h1', q1⟩, fun x H2 ⟨e1, hx⟩ => ?_⟩
      subst e1
      have := hx _ h1'
      rw [q1] at this; cases this
      exact ⟨Ext.refl, s, q2⟩
  unfold wkT at hw
  split at hw
  · cases hw
    cases rd with
    | tup h1 h2 => exact ⟨_, _, rfl, SqT.of h1, go (SqT.of h1) h2⟩
  · cases hw
    cases rd with
    | ctp h1 h2 => exact ⟨_, _, rfl, h1.t, go h1.t h2⟩
  · cases hw
theorem src_rng {lo : Int} {n : Nat} : SrcOk T (Itr lo n) (srcAt (.rng lo n)) ρ H := by
  intro ρ' S' H' e s i
  have es : srcAt (.rng lo n) i S' = some (if Nat.blt i n then some (.int (lo + Int.ofNat i)) else none) := rfl
  rw [es]
  cases h : Nat.blt i n with
  | true =>
    refine ⟨Nat.le_of_ble_eq_true h, fun x H2 ⟨e1, e2⟩ => ?_⟩
    subst e1 e2
    exact ⟨Ext.refl, s, .int _⟩
  | false =>
    show n ≤ i
    have : ¬ i + 1 ≤ n := fun z => by
      have z : Nat.blt i n = true := Nat.ble_eq_true_of_le z
      rw [h] at z; cases z
    omega
theorem src_pair {H : Hp} {ρ' : List Addr} {S' : Sto} {Tp : Addr} {ds : List D} {vs : List V} (s : Sim T ρ' S' H) (hn : H Tp = none) (r : RDs T ρ' H ds vs) : Ext ρ' H ρ' (upd H Tp (.tup vs)) ∧ Sim T ρ' S' (upd H Tp (.tup vs)) ∧ RD T ρ' (upd H Tp (.tup vs)) (.tup ds) (.ref Tp) := by
  obtain ⟨s', e⟩ := s.aside (u := .tup vs) hn
  exact ⟨e, s', .tup upd_same (r.mono e)⟩
theorem src_enum {w : Wk} {a : Addr} (h : SrcOk T (Itl T.K a) (srcAt w) ρ H) : SrcOk T (Ite T.K a) (srcAt (.enum w)) ρ H := by
  intro ρ' S' H' e s i
  have h := h ρ' S' H' e s i
  unfold srcAt
  cases es : srcAt w i S' with
  | none => exact True.intro
  | some o =>
    rw [es] at h
    cases o with
    | none => exact h
    | some d =>
      refine ⟨h.1, fun v H2 ⟨Tp, x, e1, e2, e3, e4⟩ => ?_⟩
      subst e1 e3
      obtain ⟨_, _, rx⟩ := h.2 x H' ⟨rfl, e4⟩
      exact src_pair s e2 (.cons (.int _) (.cons rx .nil))
theorem src_enumT {w : Wk} {a : Addr} (h : SrcOk T (Itt T.K a) (srcAt w) ρ H) : SrcOk T (IteT T.K a) (srcAt (.enum w)) ρ H := by
  intro ρ' S' H' e s i
  have h := h ρ' S' H' e s i
  unfold srcAt
  cases es : srcAt w i S' with
  | none => exact True.intro
  | some o =>
    rw [es] at h
    cases o with
    | none => exact h
    | some d =>
      refine ⟨h.1, fun v H2 ⟨Tp, x, e1, e2, e3, e4⟩ => ?_⟩
      subst e1 e3
      obtain ⟨_, _, rx⟩ := h.2 x H' ⟨rfl, e4⟩
      exact src_pair s e2 (.cons (.int _) (.cons rx .nil))
/-- at every turn the list is one -/
def There (T : Tab) (P : Hp → List V → Prop) (w : Wk) (ρ0 : List Addr) (H0 : Hp) : Prop := ∀ ρ S H, Ext ρ0 H0 ρ H → Sim T ρ S H → ∀ i o, srcAt w i S = some o → ∃ vs, P H vs
theorem src_zip {w1 w2 : Wk} {a b : Addr} (h1 : SrcOk T (Itl T.K a) (srcAt w1) ρ H) (h2 : SrcOk T (Itl T.K b) (srcAt w2) ρ H) : SrcOk T (Itz T.K a b) (srcAt (.zip w1 w2)) ρ H := by
  intro ρ' S' H' e s i
  have h1 := h1 ρ' S' H' e s i
  have h2 := h2 ρ' S' H' e s i
  unfold srcAt
  cases e1 : srcAt w1 i S' with
  | none =>
    cases e2 : srcAt w2 i S' with
    | none => exact True.intro
    | some o2 => cases o2 <;> exact True.intro
  | some o1 =>
    rw [e1] at h1
    cases e2 : srcAt w2 i S' with
    | none => cases o1 <;> exact True.intro
    | some o2 =>
      rw [e2] at h2
      cases o1 with
      | none =>
        obtain ⟨xs, q1, q2⟩ := (show (Itl T.K a).stop i H' from h1)
        cases o2 with
        | none =>
          obtain ⟨ys, q3, q4⟩ := (show (Itl T.K b).stop i H' from h2)
          exact ⟨xs, ys, q1, q3, .inl q2⟩
        | some d2 =>
          obtain ⟨⟨ys, y, q3, q4⟩, _⟩ := h2
          exact ⟨xs, ys, q1, q3, .inl q2⟩
      | some d1 =>
        obtain ⟨⟨xs, x, q1, q2⟩, y1⟩ := h1
        cases o2 with
        | none =>
          obtain ⟨ys, q3, q4⟩ := (show (Itl T.K b).stop i H' from h2)
          exact ⟨xs, ys, q1, q3, .inr q4⟩
        | some d2 =>
          obtain ⟨⟨ys, y, q3, q4⟩, y2⟩ := h2
          refine ⟨⟨xs, ys, x, y, q1, q3, q2, q4⟩, fun v H2 ⟨Tp, x', y', z1, z2, z3, z4, z5⟩ => ?_⟩
          subst z1 z3
          obtain ⟨_, _, rx⟩ := y1 x' H' ⟨rfl, z4⟩
          obtain ⟨_, _, ry⟩ := y2 y' H' ⟨rfl, z5⟩
          exact src_pair s z2 (.cons rx (.cons ry .nil))
theorem src_zipT {w1 w2 : Wk} {a b : Addr} (h1 : SrcOk T (Itt T.K a) (srcAt w1) ρ H) (h2 : SrcOk T (Itt T.K b) (srcAt w2) ρ H) : SrcOk T (RZ.ItzT T.K a b) (srcAt (.zip w1 w2)) ρ H := by
  intro ρ' S' H' e s i
  have h1 := h1 ρ' S' H' e s i
  have h2 := h2 ρ' S' H' e s i
  unfold srcAt
  cases e1 : srcAt w1 i S' with
  | none =>
    cases e2 : srcAt w2 i S' with
    | none => exact True.intro
    | some o2 => cases o2 <;> exact True.intro
  | some o1 =>
    rw [e1] at h1
    cases e2 : srcAt w2 i S' with
    | none => cases o1 <;> exact True.intro
    | some o2 =>
      rw [e2] at h2
      cases o1 with
      | none =>
        obtain ⟨xs, q1, q2⟩ := (show (Itt T.K a).stop i H' from h1)
        cases o2 with
        | none =>
          obtain ⟨ys, q3, q4⟩ := (show (Itt T.K b).stop i H' from h2)
          exact ⟨xs, ys, q1, q3, .inl q2⟩
        | some d2 =>
          obtain ⟨⟨ys, y, q3, q4⟩, _⟩ := h2
          exact ⟨xs, ys, q1, q3, .inl q2⟩
      | some d1 =>
        obtain ⟨⟨xs, x, q1, q2⟩, y1⟩ := h1
        cases o2 with
        | none =>
          obtain ⟨ys, q3, q4⟩ := (show (Itt T.K b).stop i H' from h2)
          exact ⟨xs, ys, q1, q3, .inr q4⟩
        | some d2 =>
          obtain ⟨⟨ys, y, q3, q4⟩, y2⟩ := h2
          refine ⟨⟨xs, ys, x, y, q1, q3, q2, q4⟩, fun v H2 ⟨Tp, x', y', z1, z2, z3, z4, z5⟩ => ?_⟩
          subst z1 z3
          obtain ⟨_, _, rx⟩ := y1 x' H' ⟨rfl, z4⟩
          obtain ⟨_, _, ry⟩ := y2 y' H' ⟨rfl, z5⟩
          exact src_pair s z2 (.cons rx (.cons ry .nil))
end

/-! ### iterables as they are written -/
def isNo : Wk → Bool
  | .no => true
  | _ => false
def DIt (T : Tab) (W : WX) (f : Mns) (wb : Option BI) : TI := fun σ H R => ∃ ρ S fr, Sim T ρ S H ∧ FR T ρ H fr σ ∧ Po T (fun c d H' => W c d σ H') ρ H (f fr S) fun vs S1 ρ1 H1 => isNo (walkG wb vs S1) = false ∧ ∀ J, SrcOk T J (srcAt (walkG wb vs S1)) ρ1 H1 → R J H1
section
variable {T : Tab} {G : Pg} {J : Inf} {Ly : Lay} {n : Nat} {c : CC} {W : WX} {X : Cx} {call : Call} {tg : Expr}
theorem evEs1 {d : E} {fr : Fr} {S : Sto} {W' : Value → Option Addr → Hp → Prop} {ρ : List Addr} {H : Hp} {P : List D → Sto → List Addr → Hp → Prop} (h : Po T W' ρ H (evEs G call [d] fr S) P) : Po T W' ρ H (evE G call d fr S) fun v S1 ρ1 H1 => P [v] S1 ρ1 H1 := by
  rw [show evEs G call [d] fr S = (evE G call d fr S).bind fun v s1 => (evEs G call [] fr s1).bind fun vs s2 => .ok (v :: vs) s2 by rw [evEs]] at h
  refine h.bind.imp fun v S1 ρ1 H1 e1 s1 h1 => ?_
  rw [evEs_nil] at h1
  exact Po.ok h1 s1
theorem snd_pi0 (C : Cq T G J Ly n c W X) {e : Expr} {d : E} (he : PE X e (DE T W (evE G call d))) : PI X tg e (DIt T W (evEs G call [d]) none) := by
  refine ⟨fun pins s σ H R I ⟨ρ, S, fr, sm, r, h⟩ => ?_⟩
  refine thn (he.run pins s σ H (fun v H1 => ∃ ρ1 S1 d, Sim T ρ1 S1 H1 ∧ RD T ρ1 H1 d v ∧ isNo (walkG none [d] S1) = false ∧ ∀ J, SrcOk T J (srcAt (walkG none [d] S1)) ρ1 H1 → R J H1) I
    ⟨ρ, S, fr, sm, r, (evEs1 h).imp fun d S1 ρ1 H1 e1 s1 h1 v rv => ⟨ρ1, S1, d, s1, rv, h1⟩⟩) fun u s1 ⟨v, H1, I1, ru, ρ1, S1, d, sm1, rd, nz, q⟩ => ?_
  have one : ∀ b, b ∈ [s1.heap.objs.size] → FpOk X pins H1 b := fun b hb => by
    have e : b = s1.heap.objs.size := by simpa using hb
    subst e
    exact I1.fpOk (Nat.le_refl _) (I1.hok.fresh (Nat.le_refl _))
  have eq : walkG none [d] S1 = (wkA S1 d).getD .no := rfl
  rw [eq] at nz q
  unfold wkA at nz q
  cases e1 : wkL S1 d with
  | some w =>
    rw [e1] at nz q
    obtain ⟨a, vs, rfl, hq, so⟩ := src_list sm1 e1 rd
    cases ru
    rw [← C.K] at hq so
    obtain ⟨its, rv, p, hz⟩ := I1.list hq
    refine wpAny_pyIter_list p.isList ?_
    exact ⟨s1.heap.objs.size, [s1.heap.objs.size], _, _, H1, rfl, I1.kept (t' := s1.toks) fun b o e => Heap.get?_push_of_some _ e, turn_list a _, ⟨_, Heap.get?_push_size _ rfl, rfl, rfl⟩, one, q _ so⟩
  | none =>
    rw [e1] at nz q
    cases e2 : wkT d with
    | none => rw [e2] at nz; cases nz
    | some w =>
      rw [e2] at nz q
      obtain ⟨a, vs, rfl, hq, so⟩ := src_tup (T := T) e2 rd
      cases ru
      rw [← C.K] at hq so
      obtain ⟨its, rv, p, hz⟩ := I1.tuple hq
      refine wpAny_pyIter_tuple (show s1.heap.IsTuple a its.toArray from p) ?_
      exact ⟨s1.heap.objs.size, [s1.heap.objs.size], _, _, H1, rfl, I1.kept (t' := s1.toks) fun b o e => Heap.get?_push_of_some _ e, turn_tuple a _, ⟨_, Heap.get?_push_size _ rfl, rfl, rfl⟩, one, q _ so⟩
theorem _root_.L2.PI.wk {X : Cx} {tg e : Expr} {t t' : TI} (h : PI X tg e t) (i : ∀ σ H R, t' σ H R → t σ H R) : PI X tg e t' := ⟨fun pins s σ H R I q => h.run pins s σ H R I (i σ H R q)⟩
theorem Po.eqn {T : Tab} {W : Value → Option Addr → Hp → Prop} {ρ : List Addr} {H : Hp} {α : Type} {x : R α} {Q : α → Sto → List Addr → Hp → Prop} (h : Po T W ρ H x Q) : Po T W ρ H x fun a S ρ' H' => x = .ok a S ∧ Q a S ρ' H' := by
  cases x with
  | ok a s => exact fun ρ2 H2 e2 s2 => ⟨rfl, h ρ2 H2 e2 s2⟩
  | ex c fs s => exact h
  | no => exact h
theorem evEs_len : ∀ {es : List E} {fr : Fr} {S : Sto} {xs : List D} {S' : Sto}, evEs G call es fr S = .ok xs S' → xs.length = es.length
  | [], fr, S, xs, S', e => by unfold evEs at e; cases e; rfl
  | a :: es, fr, S, xs, S', e => by
    rw [show evEs G call (a :: es) fr S = (evE G call a fr S).bind fun v s1 => (evEs G call es fr s1).bind fun vs s2 => .ok (v :: vs) s2 by rw [evEs]] at e
    cases e1 : evE G call a fr S with
    | ok d s1 =>
      rw [e1] at e
      have e : ((evEs G call es fr s1).bind fun vs s2 => R.ok (d :: vs) s2) = .ok xs S' := e
      cases e2 : evEs G call es fr s1 with
      | ok ds s2 =>
        rw [e2] at e
        cases e
        simp [evEs_len e2]
      | ex c fs s => rw [e2] at e; cases e
      | no => rw [e2] at e; cases e
    | ex c fs s => rw [e1] at e; cases e
    | no => rw [e1] at e; cases e
theorem snd_pir1 {e : Expr} {d : E} {p pos : Pos} (hg : Gl X "range") (hm : X.mg "range" = none) (hs : notStar e = true) (ha : PA X [e] (DA T W (evEs G call [d]))) : PI X tg (.Call (.Name "range" p) [e] [] pos) (DIt T W (evEs G call [d]) (some .range)) :=
  (pi_range1 hg hm ha (star_ne hs)).wk fun σ H R ⟨ρ, S, fr, sm, r, h⟩ => ⟨ρ, S, fr, sm, r, h.eqn.imp fun ds S1 ρ1 H1 e1 s1 ⟨ee, nz, q⟩ vs rv => by
    have hl := evEs_len ee
    cases rv with
    | nil => cases hl
    | cons r1 rv => cases rv with
      | cons _ _ => cases hl
      | nil =>
        cases r1 <;> first | (cases nz; done) | skip
        rename_i j _
        have ew : walkG (some .range) [.int j] S1 = if in62 j then .rng 0 j.toNat else .no := rfl
        rw [ew] at nz q
        cases e6 : in62 j with
        | false => rw [e6] at nz; cases nz
        | true =>
          rw [e6] at q
          have := in62_i e6
          exact ⟨j, rfl, by omega, by omega, q _ src_rng⟩⟩
theorem snd_pir2 {e e2 : Expr} {d d2 : E} {p pos : Pos} (hg : Gl X "range") (hm : X.mg "range" = none) (hs : notStar e = true) (hs2 : notStar e2 = true) (ha : PA X [e, e2] (DA T W (evEs G call [d, d2]))) : PI X tg (.Call (.Name "range" p) [e, e2] [] pos) (DIt T W (evEs G call [d, d2]) (some .range)) :=
  (pi_range2 hg hm ha (by rw [star_ne hs, star_ne hs2]; rfl) (by rw [star_ne hs2]; rfl)).wk fun σ H R ⟨ρ, S, fr, sm, r, h⟩ => ⟨ρ, S, fr, sm, r, h.eqn.imp fun ds S1 ρ1 H1 e1 s1 ⟨ee, nz, q⟩ vs rv => by
    have hl := evEs_len ee
    cases rv with
    | nil => cases hl
    | cons r1 rv => cases rv with
      | nil => cases hl
      | cons r2 rv => cases rv with
        | cons _ _ => cases hl
        | nil =>
          cases r1 <;> first | (cases nz; done) | skip
          cases r2 <;> first | (cases nz; done) | skip
          rename_i i j _
          have ew : walkG (some .range) [.int i, .int j] S1 = if in62 i && in62 j then .rng i (j - i).toNat else .no := rfl
          rw [ew] at nz q
          cases e6 : (in62 i && in62 j) with
          | false => rw [e6] at nz; cases nz
          | true =>
            rw [e6] at q
            rw [Bool.and_eq_true] at e6
            have h1 := in62_i e6.1
            have h2 := in62_i e6.2
            exact ⟨i, j, rfl, ⟨by omega, by omega, by omega, by omega⟩, q _ src_rng⟩⟩
theorem snd_pie (C : Cq T G J Ly n c W X) {e : Expr} {d : E} {elts : List Expr} {kk : Nat} {p pos tpos : Pos} (hg : Gl X "enumerate") (hm : X.mg "enumerate" = none) (hs : notStar e = true) (ha : PA X [e] (DA T W (evEs G call [d]))) :
    PI X (.Tuple elts kk tpos) (.Call (.Name "enumerate" p) [e] [] pos) (DIt T W (evEs G call [d]) (some .enum)) :=
  (pi_enumA hg hm ha (star_ne hs)).wk fun σ H R ⟨ρ, S, fr, sm, r, h⟩ => ⟨ρ, S, fr, sm, r, h.eqn.imp fun ds S1 ρ1 H1 e1 s1 ⟨ee, nz, q⟩ vs rv => by
    have hl := evEs_len ee
    cases rv with
    | nil => cases hl
    | cons r1 rv => cases rv with
      | cons _ _ => cases hl
      | nil =>
        rename_i x v _
        have ew : walkG (some .enum) [x] S1 = match wkA S1 x with | some w => .enum w | none => .no := rfl
        rw [ew] at nz q
        unfold wkA at nz q
        rw [C.K]
        cases e3 : wkL S1 x with
        | some w =>
          rw [e3] at nz q
          obtain ⟨a, vs, rfl, hq, so⟩ := src_list s1 e3 r1
          exact ⟨a, vs, rfl, .inl ⟨hq, q _ (src_enum so)⟩⟩
        | none =>
          rw [e3] at nz q
          cases e4 : wkT x with
          | none => rw [e4] at nz; cases nz
          | some w =>
            rw [e4] at nz q
            obtain ⟨a, vs, rfl, hq, so⟩ := src_tup (T := T) e4 r1
            exact ⟨a, vs, rfl, .inr ⟨hq, q _ (src_enumT so)⟩⟩⟩
theorem snd_piz (C : Cq T G J Ly n c W X) {e e2 : Expr} {d d2 : E} {elts : List Expr} {kk : Nat} {p pos tpos : Pos} (hg : Gl X "zip") (hm : X.mg "zip" = none) (hs : notStar e = true) (hs2 : notStar e2 = true) (ha : PA X [e, e2] (DA T W (evEs G call [d, d2]))) :
    PI X (.Tuple elts kk tpos) (.Call (.Name "zip" p) [e, e2] [] pos) (DIt T W (evEs G call [d, d2]) (some .zip)) :=
  (RZ.pi_zipA hg hm ha (star_ne hs) (star_any (by simp [hs2]))).wk fun σ H R ⟨ρ, S, fr, sm, r, h⟩ => ⟨ρ, S, fr, sm, r, h.eqn.imp fun ds S1 ρ1 H1 e1 s1 ⟨ee, nz, q⟩ vs rv => by
    have hl := evEs_len ee
    cases rv with
    | nil => cases hl
    | cons r1 rv => cases rv with
      | nil => cases hl
      | cons r2 rv => cases rv with
        | cons _ _ => cases hl
        | nil =>
          rename_i x v y w0 _
          have tt : (∃ w w', wkT x = some w ∧ wkT y = some w' ∧ walkG (some .zip) [x, y] S1 = .zip w w') ∨ (∃ w w', wkL S1 x = some w ∧ wkL S1 y = some w' ∧ walkG (some .zip) [x, y] S1 = .zip w w') := by
            have ew : walkG (some .zip) [x, y] S1 = match wkL S1 x, wkL S1 y with
              | some x, some y => .zip x y
              | _, _ => match wkT x, wkT y with
                | some x, some y => .zip x y
                | _, _ => .no := rfl
            rw [ew] at nz ⊢
            cases a1 : wkL S1 x <;> cases a2 : wkL S1 y <;> cases a3 : wkT x <;> cases a4 : wkT y <;> rw [a1, a2, a3, a4] at nz <;> first | (cases nz; done) | exact .inl ⟨_, _, rfl, rfl, rfl⟩ | exact .inr ⟨_, _, rfl, rfl, rfl⟩
          rw [C.K]
          rcases tt with ⟨w, w', b1, b2, b3⟩ | ⟨w, w', b1, b2, b3⟩
          · rw [b3] at q
            obtain ⟨a, vs, rfl, hq, so⟩ := src_tup (T := T) b1 r1
            obtain ⟨a', vs', rfl, hq', so'⟩ := src_tup (T := T) b2 r2
            exact ⟨a, a', vs, vs', rfl, .inr ⟨hq, hq', q _ (src_zipT so so')⟩⟩
          · rw [b3] at q
            obtain ⟨a, vs, rfl, hq, so⟩ := src_list s1 b1 r1
            obtain ⟨a', vs', rfl, hq', so'⟩ := src_list s1 b2 r2
            exact ⟨a, a', vs, vs', rfl, .inl ⟨hq, hq', q _ (src_zip so so')⟩⟩⟩

/-! ### for, while -/
theorem snd_for (C : Cq T G J Ly n c W X) {iter : Expr} {body : List Stmt} {t : CT} {wb : Option BI} {its : List E} {b : List PD.St} {pos : Pos} (hi : PI X tg iter (DIt T W (evEs G call its) wb)) (hg : PG X tg (DG T t)) (hb : PSs X body (DS T W (evSs G call b)))
    (hs : ∀ x, foldedSetIterable iter X.env x = pure x) : PS X (.For tg iter body [] pos) (DS T W (evS G call (.for_ t wb its b))) :=
  (ps_for C.own C.calm hi hg hb hs).wk fun D σ H ⟨ρ, S, fr, sm, r, h⟩ => by
    unfold evS at h
    refine ⟨ρ, S, fr, sm, r, (SPo.of r h).imp fun vs S1 ρ1 H1 e1 s1 h1 => ⟨?_, fun Ji so => ?_⟩⟩
    · cases ew : walkG wb vs S1 <;> first | rfl | skip
      rw [ew] at h1
      exact h1.elim
    · refine ⟨fun i m σ H => ∃ ρ S fr, Ext ρ1 H1 ρ H ∧ Sim T ρ S H ∧ FR T ρ H fr σ ∧ SPo T W ρ H D (forG (srcAt (walkG wb vs S1)) (fun d fr s => forT t (evSs G call b) d fr s) m i fr S), ⟨fuelL, ρ1, S1, fr, Ext.refl, s1, r.mono e1, h1⟩, ?_⟩
      rintro i m σ2 H2 ⟨ρ2, S2, fr2, e2, s2, r2, h2⟩
      cases m with
      | zero => exact h2.elim
      | succ m =>
        unfold forG at h2
        have ok := so ρ2 S2 H2 e2 s2 i
        cases es : srcAt (walkG wb vs S1) i S2 with
        | none => rw [es] at h2; exact h2.elim
        | some o =>
          rw [es] at h2 ok
          cases o with
          | none => exact .inl ⟨ok, h2.nx s2 r2⟩
          | some d =>
            refine .inr ⟨ok.1, fun σ' H' => ∃ ρ S fr, Ext ρ1 H1 ρ H' ∧ Sim T ρ S H' ∧ FR T ρ H' fr σ' ∧ SPo T W ρ H' D (forG (srcAt (walkG wb vs S1)) (fun d fr s => forT t (evSs G call b) d fr s) m (i + 1) fr S), fun σ' H' q => ⟨m, Nat.lt_succ_self m, q⟩, fun x H3 y => ?_⟩
            obtain ⟨e3, s3, rx⟩ := ok.2 x H3 y
            dsimp only at h2
            cases el : letT t d fr2 with
            | none =>
              have : forT t (evSs G call b) d fr2 S2 = .no := by unfold forT; rw [el]
              rw [this] at h2; exact h2.elim
            | some fr3 =>
              have ef : forT t (evSs G call b) d fr2 S2 = evSs G call b fr3 S2 := by unfold forT; rw [el]
              rw [ef] at h2
              refine ⟨ρ2, S2, fr2, d, fr3, s3, r2.mono e3, rx, el, fun σ3 f3 _ => ⟨ρ2, S2, fr3, s3, f3, ?_⟩⟩
              cases eb : evSs G call b fr3 S2 with
              | nx fr4 S4 =>
                rw [eb] at h2
                exact fun ρ4 H4 σ4 e4 s4 f4 => ⟨ρ4, S4, fr4, e2.trans (e3.trans e4), s4, f4, SPo.mono h2 (e3.trans e4)⟩
              | rt d4 S4 => rw [eb] at h2; exact SPo.mono (x := .rt d4 S4) h2 e3
              | ex c4 fs4 fr4 S4 => rw [eb] at h2; exact SPo.mono (x := .ex c4 fs4 fr4 S4) h2 e3
              | no => rw [eb] at h2; exact h2.elim
theorem snd_while (C : Cq T G J Ly n c W X) {e : Expr} {body : List Stmt} {d : E} {b : List PD.St} {pos : Pos} (hc : PT X e (DT T W (evE G call d))) (hb : PSs X body (DS T W (evSs G call b))) : PS X (.While e body [] pos) (DS T W (evS G call (.while_ d b))) :=
  (ps_while C.own hc hb).wk fun D σ H ⟨ρ, S, fr, sm, r, h⟩ => by
    unfold evS at h
    refine ⟨fun m σ H => ∃ ρ S fr, Sim T ρ S H ∧ FR T ρ H fr σ ∧ SPo T W ρ H D (whileD (evE G call d) (evSs G call b) m fr S), ⟨fuelL, ρ, S, fr, sm, r, h⟩, ?_⟩
    rintro m σ2 H2 ⟨ρ2, S2, fr2, s2, r2, h2⟩
    cases m with
    | zero => exact h2.elim
    | succ m =>
      unfold whileD at h2
      refine ⟨ρ2, S2, fr2, s2, r2, ?_⟩
      cases et : evE G call d fr2 S2 with
      | no => rw [et] at h2; exact h2.elim
      | ex c4 fs4 S4 => rw [et] at h2; exact fun ρ3 H3 cv dx e3 s3 x3 => h2 ρ3 H3 cv dx σ2 e3 s3 (r2.mono e3) x3
      | ok v S3 =>
        rw [et] at h2
        cases v <;> first | exact h2.elim | skip
        rename_i k
        cases k with
        | false => exact fun ρ3 H3 e3 s3 => ⟨false, rfl, h2 ρ3 H3 σ2 e3 s3 (r2.mono e3)⟩
        | true =>
          intro ρ3 H3 e3 s3
          refine ⟨true, rfl, fun σ' H' => ∃ ρ S fr, Sim T ρ S H' ∧ FR T ρ H' fr σ' ∧ SPo T W ρ H' D (whileD (evE G call d) (evSs G call b) m fr S), fun σ' H' q => ⟨m, Nat.lt_succ_self m, q⟩, ρ3, S3, fr2, s3, r2.mono e3, ?_⟩
          dsimp only at h2
          cases eb : evSs G call b fr2 S3 with
          | nx fr4 S4 =>
            rw [eb] at h2
            exact fun ρ4 H4 σ4 e4 s4 f4 => ⟨ρ4, S4, fr4, s4, f4, SPo.mono h2 (e3.trans e4)⟩
          | rt d4 S4 => rw [eb] at h2; exact SPo.mono (x := .rt d4 S4) h2 e3
          | ex c4 fs4 fr4 S4 => rw [eb] at h2; exact SPo.mono (x := .ex c4 fs4 fr4 S4) h2 e3
          | no => rw [eb] at h2; exact h2.elim
end
end PD
end Sec14
section Sec15
set_option Elab.async false
set_option linter.all false
set_option maxRecDepth 100000
set_option maxHeartbeats 4000000
/-! PD14: list comprehensions. -/
namespace PD
open PySem PySem.Spec PyProof.Rows L2

/-! ### own slots forgotten -/
theorem wipe_get {σ : L2.St} {j : Nat} : ∀ {vs : List Nat}, (L2.wipe σ vs)[j]? = if j ∈ vs then (if j < σ.length then some none else none) else σ[j]?
  | [] => by simp [L2.wipe]
  | v :: vs => by
    unfold L2.wipe
    rw [List.getElem?_set, wipe_get (vs := vs)]
    have hl := wipe_length σ vs
    by_cases h : v = j
    · subst h
      rw [if_pos rfl, hl]
      rw [if_pos (List.mem_cons_self ..)]
    · rw [if_neg h]
      by_cases h2 : j ∈ vs
      · rw [if_pos h2, if_pos (List.mem_cons_of_mem _ h2)]
      · rw [if_neg h2, if_neg (fun z => (List.mem_cons.mp z).elim (fun q => h q.symm) h2)]
theorem wipe_agr {σ σ' : L2.St} {vs ws : List Nat} (a : Agr ws (L2.wipe σ vs) σ') (h : ∀ j ∈ ws, j ∈ vs) : L2.wipe σ' vs = L2.wipe σ vs := by
  refine List.ext_getElem? fun j => ?_
  have hl : σ'.length = σ.length := a.1.trans (wipe_length σ vs)
  rw [wipe_get, wipe_get, hl]
  by_cases hj : j ∈ vs
  · rw [if_pos hj, if_pos hj]
  · rw [if_neg hj, if_neg hj, a.2 j (fun z => hj (h j z)), wipe_get, if_neg hj]

abbrev Wn : WX := fun _ _ _ _ => False
section
variable {T : Tab} {G : Pg} {J : Inf} {Ly : Lay} {n : Nat} {c : CC} {W : WX} {X : Cx} {call : Call}
theorem Po.okW {W1 W2 : Value → Option Addr → Hp → Prop} {ρ : List Addr} {H : Hp} {α : Type} {x : R α} {Q : α → Sto → List Addr → Hp → Prop} (h : Po T W1 ρ H x Q) {a : α} {s : Sto} (e : x = .ok a s) : Po T W2 ρ H x Q := by
  subst e; exact h
theorem _root_.L2.PTs.wk {X : Cx} {e : List Expr} {t t' : TT} (h : PTs X e t) (i : ∀ σ H Q, t' σ H Q → t σ H Q) : PTs X e t' := ⟨fun pins s σ H Q I q => h.run pins s σ H Q I (i σ H Q q)⟩
theorem snd_ifs0 : PTs X [] (DT T W (evE G call (.lit (.bl true)))) := pts_nil.wk fun σ H Q ⟨ρ, S, fr, sm, r, h⟩ => by
  unfold evE at h
  obtain ⟨b, e, q⟩ := Po.ok h sm
  cases e
  exact q
/-- the turn's meaning, opened -/
theorem lcT_ok {own : List Nat} {t : CT} {cc e : Fr → Sto → R D} {fr fr1 : Fr} {d : D} {s s' : Sto} {o : Option D} (hl : letT t d (wipe fr own) = some fr1) (h : lcT own t cc e fr d s = .ok o s') :
    (cc fr1 s = .ok (.bl false) s' ∧ o = none) ∨ ∃ s1 v, cc fr1 s = .ok (.bl true) s1 ∧ e fr1 s1 = .ok v s' ∧ o = some v := by
  unfold lcT at h
  rw [hl] at h
  dsimp only at h
  cases ec : cc fr1 s with
  | no => rw [ec] at h; cases h
  | ex c fs s => rw [ec] at h; cases h
  | ok b s1 =>
    rw [ec] at h
    cases b <;> first | (cases h; done) | skip
    rename_i k
    cases k with
    | false =>
      have h : (R.ok none s1 : R (Option D)) = .ok o s' := h
      cases h
      exact .inl ⟨rfl, rfl⟩
    | true =>
      have h : ((e fr1 s1).bind fun v s'' => R.ok (some v) s'') = .ok o s' := h
      cases ee : e fr1 s1 with
      | no => rw [ee] at h; cases h
      | ex c fs s => rw [ee] at h; cases h
      | ok v s2 => rw [ee] at h; cases h; exact .inr ⟨s1, v, rfl, ee, rfl⟩
theorem lcT_let {own : List Nat} {t : CT} {cc e : Fr → Sto → R D} {fr : Fr} {d : D} {s s' : Sto} {o : Option D} (h : lcT own t cc e fr d s = .ok o s') : ∃ fr1, letT t d (wipe fr own) = some fr1 := by
  unfold lcT at h
  cases e : letT t d (wipe fr own) with
  | none => rw [e] at h; cases h
  | some fr1 => exact ⟨fr1, rfl⟩
/-- [e for t in .. if ..]: what the layer asks for -/
theorem lc_of {wb : Option BI} {its : List E} {t : CT} {cc e : E} {os : List Nat} (hsub : ∀ j ∈ slotsT t, j ∈ os) :
    ∀ σ H Q, DE T W (evE G call (.lc os t wb its cc e)) σ H Q → tLc (DIt T W (evEs G call its) wb) (DG T t) (DT T Wn (evE G call cc)) (DE T Wn (evE G call e)) os σ H Q := by
  rintro σ H Q ⟨ρ, S, fr, sm, r, h⟩
  unfold evE at h
  refine ⟨ρ, S, fr, sm, r, h.bind.imp fun vs S1 ρ1 H1 e1 s1 h1 => ⟨?_, fun Ji so Dl hD => ?_⟩⟩
  · cases ew : walkG wb vs S1 <;> first | rfl | skip
    rw [ew] at h1
    exact h1.elim
  · obtain ⟨s2, e2⟩ := s1.new (o := .lst []) (u := .lst []) hD (.lst upd_same .nil)
    have hat : (ρ1 ++ [Dl])[S1.length]? = some Dl := by rw [← s1.len]; simp
    have h1 := h1.mono e2
    refine ⟨fun i m H => ∃ ρ S, Ext (ρ1 ++ [Dl]) (upd H1 Dl (.lst [])) ρ H ∧ Sim T ρ S H ∧ Po T (fun c d H' => W c d σ H') ρ H ((compG (srcAt (walkG wb vs S1)) (fun d s => lcT os t (evE G call cc) (evE G call e) fr d s) S1.length m i S).bind fun _ s2 => .ok (.ref S1.length) s2) fun d _ ρ' H' => ∀ v, RD T ρ' H' d v → Q v H',
      ⟨fuelL, ρ1 ++ [Dl], S1 ++ [.lst []], Ext.refl, s2, h1⟩, ?_⟩
    rintro i m H2 ⟨ρ2, S2, x2, sm2, h2⟩
    cases m with
    | zero => exact h2.elim
    | succ m =>
      unfold compG at h2
      have ok := so ρ2 S2 H2 (e2.trans x2) sm2 i
      cases es : srcAt (walkG wb vs S1) i S2 with
      | none => rw [es] at h2; exact h2.elim
      | some o =>
        rw [es] at h2 ok
        cases o with
        | none =>
          have h2 : Po T (fun c d H' => W c d σ H') ρ2 H2 (.ok (.ref S1.length) S2) fun d _ ρ' H' => ∀ v, RD T ρ' H' d v → Q v H' := h2
          exact .inl ⟨ok, h2.ok sm2 _ (.ref (x2.at hat))⟩
        | some d =>
          dsimp only at h2
          cases et : lcT os t (evE G call cc) (evE G call e) fr d S2 with
          | no => rw [et] at h2; exact h2.elim
          | ex c4 fs4 S4 => rw [et] at h2; exact h2.elim
          | ok o S4 =>
            rw [et] at h2
            obtain ⟨fr1, el⟩ := lcT_let et
            refine .inr ⟨ok.1, fun H' => ∃ ρ S, Ext (ρ1 ++ [Dl]) (upd H1 Dl (.lst [])) ρ H' ∧ Sim T ρ S H' ∧ Po T (fun c d H' => W c d σ H') ρ H' ((compG (srcAt (walkG wb vs S1)) (fun d s => lcT os t (evE G call cc) (evE G call e) fr d s) S1.length m (i + 1) S).bind fun _ s2 => .ok (.ref S1.length) s2) fun d _ ρ' H' => ∀ v, RD T ρ' H' d v → Q v H',
              fun H' q => ⟨m, Nat.lt_succ_self m, q⟩, fun x H3 y => ?_⟩
            obtain ⟨e3, s3, rx⟩ := ok.2 x H3 y
            refine ⟨ρ2, S2, wipe fr os, d, fr1, s3, FR.wipe ((((r.mono e1).mono e2).mono x2).mono e3) os, rx, el, fun σ3 f3 a3 => ⟨wipe_agr a3 hsub, ρ2, S2, fr1, s3, f3, ?_⟩⟩
            rcases lcT_ok el et with ⟨ec, rfl⟩ | ⟨S3, v, ec, ee, rfl⟩
            · rw [ec]
              intro ρ4 H4 e4 s4
              refine ⟨false, rfl, ?_⟩
              exact ⟨ρ4, S4, x2.trans (e3.trans e4), s4, Po.mono h2 (e3.trans e4)⟩
            · rw [ec]
              intro ρ4 H4 e4 s4
              refine ⟨true, rfl, ?_⟩
              refine ⟨ρ4, S3, fr1, s4, f3.mono e4, ?_⟩
              rw [ee]
              intro ρ5 H5 e5 s5 vv rv
              dsimp only at h2
              cases ea : lstO S4 S1.length with
              | none => rw [ea] at h2; exact h2.elim
              | some acc =>
                rw [ea] at h2
                have x5 : Ext (ρ1 ++ [Dl]) (upd H1 Dl (.lst [])) ρ5 H5 := x2.trans (e3.trans (e4.trans e5))
                obtain ⟨accV, g1, g2⟩ := lst_at s5 ea (x5.at hat)
                dsimp only at h2
                split at h2
                · rename_i hz
                  have hz := line_lt hz
                  rw [g2.length] at hz
                  have e6 := lst_nth ea
                  obtain ⟨s6, e7⟩ := s5.set (o' := .lst (acc ++ [v])) e6 (x5.at hat) (u := .lst (accV ++ [vv])) fun e => .lst upd_same ((g2.mono e).append (.cons (rv.mono e) .nil))
                  exact ⟨accV, g1, hz, ρ5, _, x5.trans e7, s6, Po.mono h2 (e3.trans (e4.trans (e5.trans e7)))⟩
                · exact h2.elim
/-- the block of a comprehension, as it is written -/
structure Blk (X : Cx) (scope : Scope) (own : List (Str × Nat)) (tg : Expr) (ifs : List Expr) (elts : List (Expr × E)) (t : CT) (cc : E) (T : Tab) (G : Pg) (call : Call) : Prop where
  ok : BlkOk X.N X.env.scope scope own
  tg_ : ∀ (s : Shared) (H : Hp) (C : Addr) (cl : List (Str × Addr)) (fp : List Addr), PG (X.blk s H scope (compEnvC scope cl C X.env) fp) tg (DG T t)
  ifs_ : ∀ (s : Shared) (H : Hp) (C : Addr) (cl : List (Str × Addr)) (fp : List Addr), PTs (X.blk s H scope (compEnvC scope cl C X.env) fp) ifs (DT T Wn (evE G call cc))
  elt_ : ∀ (p : Expr × E), p ∈ elts → ∀ (s : Shared) (H : Hp) (C : Addr) (cl : List (Str × Addr)) (fp : List Addr), PE (X.blk s H scope (compEnvC scope cl C X.env) fp) p.1 (DE T Wn (evE G call p.2))
theorem snd_lc (C : Cq T G J Ly n c W X) {elt tg iter : Expr} {ifs : List Expr} {scope : Scope} {own : List (Str × Nat)} {pos : Pos} {wb : Option BI} {its : List E} {t : CT} {cc e : E} (hsub : ∀ j ∈ slotsT t, j ∈ own.map (·.2)) (hi : PI X tg iter (DIt T W (evEs G call its) wb))
    (B : Blk X scope own tg ifs [(elt, e)] t cc T G call) (hs : ∀ x, foldedSetIterable iter X.env x = pure x) : PE X (.ListComp elt [⟨tg, iter, ifs, 0⟩] scope pos) (DE T W (evE G call (.lc (own.map (·.2)) t wb its cc e))) :=
  (pe_lc C.calm C.nd hi B.ok B.tg_ B.ifs_ (B.elt_ (elt, e) (by simp)) hs).wk (lc_of hsub)
theorem snd_setLc (C : Cq T G J Ly n c W X) {i : Nat} {y : Str} {py spos : Pos} {elt tg iter : Expr} {ifs : List Expr} {scope : Scope} {own : List (Str × Nat)} {pos : Pos} {wb : Option BI} {its : List E} {t : CT} {cc e : E} (hsub : ∀ j ∈ slotsT t, j ∈ own.map (·.2))
    (hy : X.N[i]? = some y) (hyl : X.env.scope.names.lookup y = some .local) (hsw : swapsWith (.ListComp elt [⟨tg, iter, ifs, 0⟩] scope pos) (some (.Name y py)) spos.line X.env = pure true) (hi : PI X tg iter (DIt T W (evEs G call its) wb))
    (B : Blk X scope own tg ifs [(elt, e)] t cc T G call) (hs : ∀ x, foldedSetIterable iter X.env x = pure x) : PS X (.Assign [.Name y py] (.ListComp elt [⟨tg, iter, ifs, 0⟩] scope pos) spos) (DS T W (evS G call (.asg (.nm i) (.lc (own.map (·.2)) t wb its cc e)))) :=
  (ps_setLc C.calm C.nd hy hyl hsw hi B.ok B.tg_ B.ifs_ (B.elt_ (elt, e) (by simp)) hs).wk fun D σ H ⟨ρ, S, fr, sm, r, h⟩ => by
    rw [show evS G call (.asg (.nm i) (.lc (own.map (·.2)) t wb its cc e)) fr S = SR.of (evE G call (.lc (own.map (·.2)) t wb its cc e) fr S) fr fun v s1 => match letT (.nm i) v fr with
      | some fr' => .nx fr' s1
      | none => .no by rw [evS] <;> rfl] at h
    refine lc_of hsub σ H (fun v H1 => gName i v σ H1 D.nx) ⟨ρ, S, fr, sm, r, (SPo.of r h).imp fun a S1 ρ1 H1 e1 s1 h1 v rv => ?_⟩
    have h1 : SPo T W ρ1 H1 D (.nx (fr.set i (some a)) S1) := h1
    exact h1.nx s1 ((r.mono e1).set rv)

theorem lookup_map {f : Str × NameKind → Str × NameKind} (hf : ∀ p, (f p).1 = p.1) {x : Str} {k : NameKind} : ∀ {names : List (Str × NameKind)}, names.lookup x = some k → ∃ k', (names.map f).lookup x = some k'
  | [], h => by cases h
  | (n, k0) :: r, h => by
    rw [List.map_cons]
    have e : f (n, k0) = (n, (f (n, k0)).2) := Prod.ext (hf (n, k0)) rfl
    rw [e, List.lookup_cons]
    rw [List.lookup_cons] at h
    cases hx : x == n with
    | true => exact ⟨_, rfl⟩
    | false =>
      rw [hx] at h
      exact lookup_map hf h
/-- the block's context is one of this kind -/
theorem blk_cq (C : Cq T G J Ly n c W X) {scope : Scope} (hk : scope.kind = .function) {s : Shared} {H : Hp} {Ca : Addr} {cl : List (Str × Addr)} {fp : List Addr} : Cq T G J Ly n ⟨c.N, scope⟩ Wn (X.blk s H scope (compEnvC scope cl Ca X.env) fp) where
  st := C.st
  K := C.K
  mg := C.mg
  N := C.N
  nd := C.nd
  kn := {
    kind := hk
    lo := fun x h => lookup_relS_keep (by decide) h
    ce := fun x h => ⟨lookup_relS_keep (by decide) h, by show (scope.names.lookup x == some .cell) = true; rw [h]; rfl⟩
    fr := fun x h => by
      obtain ⟨k, e⟩ := lookup_map (f := fun (n, k) => if (k == NameKind.free && X.env.scope.kind == .function && X.env.scope.names.lookup n == some .cell) then (n, NameKind.cell) else (n, k)) (fun p => by dsimp only; split <;> rfl) h
      obtain ⟨k', e', r⟩ := lookup_relS e
      rw [h] at e'
      cases e'
      rcases r with rfl | ⟨_, rfl⟩
      · exact .inr e
      · exact .inl e
    gl := fun x h => lookup_relS_keep (by decide) h }
  calm := C.calm
  room := C.room
  tk := fun u s' ⟨_, _, _, _, _, _, _, _, _, _, _, _, _, _, _, _, w⟩ => w.elim
  own := PassesOwn.never
  fns := C.fns
  kd := C.kd
end
end PD
end Sec15
section Sec16
set_option Elab.async false
set_option linter.all false
set_option maxRecDepth 100000
set_option maxHeartbeats 4000000
/-! PD15: dict comprehensions; those with tuples as keys. -/
namespace PD
open PySem PySem.Spec PyProof.Rows L2
section
variable {X : Cx}
/-- d[k] = v within a comprehension, the key a tuple -/
theorem setT {pins : List (Addr × Obj)} {σ : L2.St} {H : Hp} {s : Shared} {E' : Value → Shared → Prop} {D b : Addr} {kvs : List (List Key × V)} {k : List Key} {v : V} {r : Value} {Q : Unit → Shared → Prop} (hu : X.A.units + 1 < cLine) (I : L2.Inv X pins σ H s) (hD : H D = some (.dT kvs)) (hz : kvs.length < sizeLine)
    (eb : H b = some (.tup (k.map kV))) (rv : RelV v r) (h : ∀ s', L2.Inv X pins σ (upd H D (.dT (putK kvs k v))) s' → Q () s') : wpAny (model X.prog X.w) X.A (dictSet D (.ref b) r) Q E' s := by
  obtain ⟨z, hd, xs, rel, dd⟩ := dt_of I.hok hD
  have hzx : xs.length ≤ sizeLine := by rw [← Paired.length rel]; exact z
  have hl : (putK kvs k v).length ≤ sizeLine := by have := length_putK kvs k v; omega
  refine wpAny_dictSet_heap (hsz := hzx) (show (tupleKind _).room X.A from (by show X.A.units < cLine; omega)) (key_of I.hok eb) dd fun h' dd' hs => h _ ?_
  obtain ⟨q, es, ep, hq, h2, h3, h4, _, h5⟩ := dd'
  refine d_write I (by rw [hD]; exact True.intro) hs ⟨q, hq⟩ ⟨hl, hd, _, (rel.put k eb rv).keeps fun c ys ec => ?_, q, es, ep, hq, h2, h3, h4, h5⟩
  rw [upd_ne (ne_of ec hD (fun z => nomatch z))]
  exact ec
/-- {k: v for ..}, the keys tuples -/
def tDcT (wi : TI) (g : TG) (tk tv : TE) (vs : List Nat) : TE := fun σ H Q => wi σ H fun J H1 => ∀ D, H1 D = none → ∃ W : Nat → Nat → Hp → Prop, (∃ m, W 0 m (upd H1 D (.dT []))) ∧ ∀ i m H, W i m H →
  (J.stop i H ∧ Q (.ref D) H) ∨ (J.go i H ∧ ∃ Nx : Hp → Prop, (∀ H', Nx H' → ∃ m', m' < m ∧ W (i + 1) m' H') ∧ ∀ x H', J.yld i H x H' → g x (L2.wipe σ vs) H' fun σ2 H2 => L2.wipe σ2 vs = L2.wipe σ vs ∧
    tk σ2 H2 fun y H4 => tv σ2 H4 fun z H5 => ∃ kvs k b, y = .ref b ∧ H5 b = some (.tup (k.map kV)) ∧ H5 D = some (.dT kvs) ∧ kvs.length < sizeLine ∧ Nx (upd H5 D (.dT (putK kvs k z))))
theorem dcT_core {pins : List (Addr × Obj)} {s : Shared} {σ : L2.St} {H : Hp} {Q : VK} {kx vx tg iter : Expr} {scope : Scope} {own : List (Str × Nat)} {pos pos' : Pos} {wi : TI} {g : TG} {tk tv : TE} {use : Option (Value → Sem Unit)} {Qf : Value → Shared → Prop} (hu : X.A.units + 1 < cLine) (hc : X.calm = true) (hN : X.N.Nodup) (I : L2.Inv X pins σ H s) (hi : PI X tg iter wi) (ok : BlkOk X.N X.env.scope scope own)
    (hg : ∀ (s : Shared) (H : Hp) (C : Addr) (cl : List (Str × Addr)) (fp : List Addr), PG (X.blk s H scope (compEnvC scope cl C X.env) fp) tg g)
    (hk : ∀ (s : Shared) (H : Hp) (C : Addr) (cl : List (Str × Addr)) (fp : List Addr), PE (X.blk s H scope (compEnvC scope cl C X.env) fp) kx tk)
    (he : ∀ (s : Shared) (H : Hp) (C : Addr) (cl : List (Str × Addr)) (fp : List Addr), PE (X.blk s H scope (compEnvC scope cl C X.env) fp) vx tv) (hs : ∀ x, foldedSetIterable iter X.env x = pure x)
    (h : tDcT wi g tk tv (own.map (·.2)) σ H Q)
    (hRR : ∀ D C s' m H', L2.Inv X pins σ H' s' → Q (.ref D) H' → s'.heap.Ns C m → FpOk X pins H' C → compPost (model X.prog X.w) X.A X.xe use Qf (.ref D) C (.ok .next) s') :
    wpAny (model X.prog X.w) X.A (comprehension (.DictComp kx vx [⟨tg, iter, [], 0⟩] scope pos) scope X.env pos' newDict false (eval iter X.env) use) Qf X.xe s := by
  have cell : ∀ y ∈ scope.names, y.2 = .free → ∃ c, X.env.cells.lookup y.1 = some c := fun y hy e => (ok.free y hy e).elim (fun k => I.ok.has _ (.inl k)) (fun k => I.ok.has _ (.inr k))
  refine wpAny_comprehension_free (use := use) rfl hs (closure_ok cell) ok.kind (fun y hy e => by rw [ok.uniq y hy, e]) (thn (hi.run pins s σ H _ I h) fun xv s1 hx => thn hx fun itv s2 ⟨it, fp, tn, J, H2, e, I2, T, st2, f2, q⟩ => ?_)
  subst e
  refine wpAny_newObj_type (newEnv_comp ?_)
  -- the new dict at D, the block's own names behind it
  obtain ⟨D, hD⟩ : ∃ D, D = s2.heap.objs.size := ⟨_, rfl⟩
  rw [← hD]
  obtain ⟨W, ⟨m0, w0⟩, turn⟩ := q D (I2.hok.fresh (Nat.le_of_eq hD.symm))
  obtain ⟨s3, hs3⟩ : ∃ s3 : Shared, s3 = { s2 with heap := s2.heap.push { cls := .type "dict", data := .dict #[] } } := ⟨_, rfl⟩
  have h3 : s3.heap = s2.heap.push { cls := .type "dict", data := .dict #[] } := by rw [hs3]
  obtain ⟨H3, hH3⟩ : ∃ H3, H3 = upd H2 D (.dT []) := ⟨_, rfl⟩
  have I3 : L2.Inv X pins σ H3 s3 := by
    rw [hs3, hH3, hD]
    exact I2.laid (t' := s2.toks) (fun b o e => Heap.get?_push_of_some _ e) (Nat.le_refl _) (dt_empty s2.heap I2.big)
  have f3 : ∀ b ∈ fp, FpOk X pins H3 b ∧ b < s3.heap.objs.size := fun b hb => by
    obtain ⟨o, e, _⟩ := T.obj _ _ st2 b hb
    have hlt := Heap.lt_size e
    exact ⟨⟨by rw [hH3, upd_ne (by rw [hD]; exact Nat.ne_of_lt hlt)]; exact (f2 b hb).1, (f2 b hb).2⟩, by rw [h3, Heap.size_push]; exact Nat.lt_succ_of_lt hlt⟩
  have st3 : tn 0 s3.heap := T.keep _ _ _ st2 fun b _ o e => by rw [h3]; exact Heap.get?_push_of_some _ e
  have I4 := block_start I3 ok hN f3
  have pg := hg s3 H3 s3.heap.objs.size (cellsFrom (s3.heap.objs.size + 1) scope.names (cloFrom X.env.cells scope.names [])) fp
  have pk := hk s3 H3 s3.heap.objs.size (cellsFrom (s3.heap.objs.size + 1) scope.names (cloFrom X.env.cells scope.names [])) fp
  have pv := he s3 H3 s3.heap.objs.size (cellsFrom (s3.heap.objs.size + 1) scope.names (cloFrom X.env.cells scope.names [])) fp
  rw [← hs3]
  show codeAny _ _ (.compStart (.DictComp kx vx [⟨tg, iter, [], 0⟩] scope pos) 0 (.ref it) (.ref D) (compEnvC scope (cellsFrom (s3.heap.objs.size + 1) scope.names (cloFrom X.env.cells scope.names [])) s3.heap.objs.size X.env)) _ { s3 with heap := pushCells (s3.heap.push { cls := .type "dict", data := .dict #[] }) scope.names }
  generalize hce : compEnvC scope (cellsFrom (s3.heap.objs.size + 1) scope.names (cloFrom X.env.cells scope.names [])) s3.heap.objs.size X.env = ce at I4 pg pk pv ⊢
  have cL : ce.locals = s3.heap.objs.size := by subst hce; rfl
  generalize hs4 : ({ s3 with heap := pushCells (s3.heap.push { cls := .type "dict", data := .dict #[] }) scope.names } : Shared) = s4 at I4 ⊢
  have st4 : tn 0 s4.heap := T.keep _ _ _ st3 fun b _ o e => by rw [← hs4]; exact pushCells_keeps _ _ _ _ (Heap.get?_push_of_some _ e)
  -- the iterator's own objects, at every turn
  have stat : ∀ {σ' : L2.St} {H' : Hp} {s' : Shared}, L2.Inv (X.blk s3 H3 scope ce fp) [] σ' H' s' → (∀ b ∈ fp, H' b = none) → ∀ b ∈ fp, FpOk (X.blk s3 H3 scope ce fp) [] H' b := fun {σ' H' s'} I' hn b hb =>
    ⟨hn b hb, (I'.ok.exf b hb).1, I'.ok.exfs b hb, .inl hb, fun x c e => (I'.ok.exf b hb).2 x c e, fun p hp => absurd (show p ∈ ([] : List (Addr × Obj)) ++ [] from hp) (by simp)⟩
  refine codeAny_compStart_dict ?loop (T.self X.A 0 _ _ _ st4 ?loop)
  refine compLoop_anyD (fun n s' => ∃ i H', L2.Inv (X.blk s3 H3 scope ce fp) [] (L2.wipe σ (own.map (·.2))) H' s' ∧ tn i s'.heap ∧ (∀ b ∈ fp, H' b = none) ∧ W i n H') ?_ m0 ⟨0, H3, I4, st4, fun b hb => (f3 b hb).1.1, by rw [hH3]; exact w0⟩
  rintro n s5 ⟨i, H5, I5, st5, n5, w5⟩
  rcases turn i n H5 w5 with ⟨stop, qq⟩ | ⟨go, Nx, hNx, step⟩
  · refine thnF (T.done (X.blk s3 H3 scope ce fp) rfl rfl rfl hc i [] s5 _ H5 (fun _ _ => False) I5 (stat I5 n5) st5 stop) fun r s6 ⟨hr, I6⟩ => ?_
    subst hr
    have I7 : L2.Inv X pins σ H5 s6 := I3.call' (ch := fp) I6.os I6.base I6.hok I6.bare fun b hb => ⟨(f3 b hb).1.2.2.2.1, (f3 b hb).1.2.1, (f3 b hb).1.2.2.2.2.1, (f3 b hb).1.2.2.2.2.2⟩
    have nC : H5 s3.heap.objs.size = none := by have z : H5 ce.locals = none := I6.free; rwa [cL] at z
    obtain ⟨m, hn, _⟩ := I6.loc
    have hn : s6.heap.Ns ce.locals m := hn
    rw [cL] at hn
    exact hRR D s3.heap.objs.size s6 m H5 I7 qq hn (I3.fpOk (H' := H5) (Nat.le_refl _) nC)
  · refine thnF (T.item (X.blk s3 H3 scope ce fp) rfl rfl rfl hc i [] s5 _ H5 (fun _ _ => False) I5 (stat I5 n5) st5 go) fun r s6 ⟨u, hr, h6⟩ => ?_
    subst hr
    refine thnF h6 fun _ s7 ⟨x, H7, I7, r7, y7, st7, n7⟩ => ?_
    have I7' := I7.pinned (stat I7 n7) (T.obj _ _ st7)
    refine thnF (pg.run _ s7 _ H7 x u _ I7' r7 (step x H7 y7)) fun _ s8 ⟨σ8, H8, I8, hw8, q8⟩ => ?_
    have fin : ∀ {s' : Shared} {H' : Hp}, L2.Inv (X.blk s3 H3 scope ce fp) ([] ++ pinsAt fp s7.heap) σ8 H' s' → Nx H' → ∃ m, m < n ∧ ∃ i H', L2.Inv (X.blk s3 H3 scope ce fp) [] (L2.wipe σ (own.map (·.2))) H' s' ∧ tn i s'.heap ∧ (∀ b ∈ fp, H' b = none) ∧ W i m H' := fun {s' H'} I' nx => by
      obtain ⟨m', hm, w'⟩ := hNx H' nx
      have pin' : ∀ b ∈ fp, ∀ o, s7.heap.get? b = some o → s'.heap.get? b = some o ∧ H' b = none := fun b hb o e =>
        let z := I'.pin (b, o) (List.mem_append_right _ (List.mem_append_right _ (mem_pinsAt hb e)))
        ⟨z.1, z.2.1⟩
      have hl : (L2.wipe σ (own.map (·.2))).length = σ8.length := by rw [← hw8, wipe_length]
      refine ⟨m', hm, i + 1, H', (I'.unpinned (pins := [])).weak hl (fun j v e => by rw [← hw8] at e; exact (wipe_some e).1), T.keep _ _ _ st7 fun b hb o e => (pin' b hb o e).1, fun b hb => ?_, w'⟩
      obtain ⟨o, e, _⟩ := T.obj _ _ st7 b hb
      exact (pin' b hb o e).2
    refine wpAny_tests_nil ?_
    rw [if_pos rfl]
    refine thnF (pk.run _ s8 σ8 H8 _ I8 q8) fun z s10 ⟨yk, H10, I10, r10, q10⟩ => ?_
    refine thnF (pv.run _ s10 σ8 H10 _ I10 q10) fun z2 s11 ⟨yv, H11, I11, r11, kvs, k, b, ek, hb11, hD11, hz11, nx⟩ => ?_
    subst ek
    cases r10
    exact setT (X := X.blk s3 H3 scope ce fp) hu I11 hD11 hz11 hb11 r11 fun s12 I12 => fin I12 nx
theorem pe_dcT {kx vx tg iter : Expr} {scope : Scope} {own : List (Str × Nat)} {pos : Pos} {wi : TI} {g : TG} {tk tv : TE} (hu : X.A.units + 1 < cLine) (hc : X.calm = true) (hN : X.N.Nodup) (hi : PI X tg iter wi) (ok : BlkOk X.N X.env.scope scope own)
    (hg : ∀ (s : Shared) (H : Hp) (C : Addr) (cl : List (Str × Addr)) (fp : List Addr), PG (X.blk s H scope (compEnvC scope cl C X.env) fp) tg g)
    (hk : ∀ (s : Shared) (H : Hp) (C : Addr) (cl : List (Str × Addr)) (fp : List Addr), PE (X.blk s H scope (compEnvC scope cl C X.env) fp) kx tk)
    (he : ∀ (s : Shared) (H : Hp) (C : Addr) (cl : List (Str × Addr)) (fp : List Addr), PE (X.blk s H scope (compEnvC scope cl C X.env) fp) vx tv) (hs : ∀ x, foldedSetIterable iter X.env x = pure x) :
    PE X (.DictComp kx vx [⟨tg, iter, [], 0⟩] scope pos) (tDcT wi g tk tv (own.map (·.2))) := by
  refine ⟨fun pins s σ H Q I h => ?_⟩
  rw [arm_eval_DictComp]
  refine dcT_core hu hc hN I hi ok hg hk he hs h fun D C s' m H' I' q hn f => ⟨m, hn, fun h'' sb => ?_⟩
  obtain ⟨f0, f1, f2, f3, f4, f5⟩ := f
  exact ⟨.ref D, H', I'.turned (t' := s'.toks) (fun b o hb e => (sb.2 b hb).trans e) f0 f1 f3 f4 f5, rfl, q⟩
/-- name = {k: v for ..} on one line -/
theorem ps_setDcT {i : Nat} {y : Str} {py spos : Pos} {kx vx tg iter : Expr} {scope : Scope} {own : List (Str × Nat)} {pos : Pos} {wi : TI} {g : TG} {tk tv : TE} (hu : X.A.units + 1 < cLine) (hc : X.calm = true) (hN : X.N.Nodup) (hy : X.N[i]? = some y) (hyl : X.env.scope.names.lookup y = some .local)
    (hsw : swapsWith (.DictComp kx vx [⟨tg, iter, [], 0⟩] scope pos) (some (.Name y py)) spos.line X.env = pure true) (hi : PI X tg iter wi) (ok : BlkOk X.N X.env.scope scope own)
    (hg : ∀ (s : Shared) (H : Hp) (C : Addr) (cl : List (Str × Addr)) (fp : List Addr), PG (X.blk s H scope (compEnvC scope cl C X.env) fp) tg g)
    (hk : ∀ (s : Shared) (H : Hp) (C : Addr) (cl : List (Str × Addr)) (fp : List Addr), PE (X.blk s H scope (compEnvC scope cl C X.env) fp) kx tk)
    (he : ∀ (s : Shared) (H : Hp) (C : Addr) (cl : List (Str × Addr)) (fp : List Addr), PE (X.blk s H scope (compEnvC scope cl C X.env) fp) vx tv) (hs : ∀ x, foldedSetIterable iter X.env x = pure x) :
    PS X (.Assign [.Name y py] (.DictComp kx vx [⟨tg, iter, [], 0⟩] scope pos) spos) (tAsg (tDcT wi g tk tv (own.map (·.2))) (gName i)) := by
  refine ⟨fun pins s σ H D I h => ?_⟩
  rw [exec_Assign_Name_used _ _ _ _ hsw]
  refine wpAny_bind (wpAny_standAt (wpAny_bind ?_))
  show wpAny _ X.A (do let _ ← comprehension (.DictComp kx vx [⟨tg, iter, [], 0⟩] scope pos) scope X.env (firstIterPos [⟨tg, iter, [], 0⟩] pos) newDict false (eval iter X.env) (some (assign (.Name y py) X.env))) _ _ s
  have h : tDcT wi g tk tv (own.map (·.2)) σ H (fun x H1 => gName i x σ H1 D.nx) := h
  refine wpAny_bind (thn (dcT_core (Qf := fun _ s' => SP X pins D .next s') hu hc hN I hi ok hg hk he hs h fun L C s' m H' I' q hn f => ?_) fun _ s' hq => wpAny_pure (wpAny_pure hq))
  show wpAny _ _ (assign (.Name y py) X.env (.ref L)) _ _ _
  refine wpAny_assign_Name (store_ok2 (v := V.ref L) I' hN hy (.inl hyl) rfl (fun s2 I2 ⟨a, sb, ha⟩ => ?_) (.inr hyl))
  obtain ⟨f0, f1, f2, f3, f4, f5⟩ := f
  have haC : C ≠ a := by
    rcases ha with z | z
    · rw [z]; exact f1
    · exact fun e => f4 y a z e.symm
  exact ⟨m, hn.sameBut sb haC, fun h3 sb3 => ⟨_, H', I2.turned (t' := s2.toks) (fun b o hb e => (sb3.2 b hb).trans e) f0 f1 f3 f4 f5, q⟩⟩
end
section
variable {T : Tab} {G : Pg} {J : Inf} {Ly : Lay} {n : Nat} {c : CC} {W : WX} {X : Cx} {call : Call}
theorem dcT_ok {own : List Nat} {t : CT} {k e : Fr → Sto → R D} {fr : Fr} {d : D} {s s' : Sto} {p : D × D} (h : dcT own t k e fr d s = .ok p s') :
    ∃ fr1 s1, letT t d (wipe fr own) = some fr1 ∧ k fr1 s = .ok p.1 s1 ∧ e fr1 s1 = .ok p.2 s' := by
  unfold dcT at h
  cases el : letT t d (wipe fr own) with
  | none => rw [el] at h; cases h
  | some fr1 =>
    rw [el] at h
    dsimp only at h
    cases ek : k fr1 s with
    | no => rw [ek] at h; cases h
    | ex c fs s => rw [ek] at h; cases h
    | ok x s1 =>
      rw [ek] at h
      have h : ((e fr1 s1).bind fun v s'' => R.ok (x, v) s'') = .ok p s' := h
      cases ee : e fr1 s1 with
      | no => rw [ee] at h; cases h
      | ex c fs s => rw [ee] at h; cases h
      | ok v s2 => rw [ee] at h; cases h; exact ⟨fr1, s1, rfl, ek, ee⟩
/-- the turns' invariant -/
def dcInv (T : Tab) (G : Pg) (call : Call) (W : WX) (σ : L2.St) (Q : VK) (wb : Option BI) (vs : List D) (S1 : Sto) (tk : Bool) (os : List Nat) (t : CT) (k e : E) (fr : Fr) (ρ1 : List Addr) (H1 : Hp) (i m : Nat) (H : Hp) : Prop :=
  ∃ ρ S, Ext ρ1 H1 ρ H ∧ Sim T ρ S H ∧ Po T (fun c d H' => W c d σ H') ρ H ((dctG tk (srcAt (walkG wb vs S1)) (fun d s => dcT os t (evE G call k) (evE G call e) fr d s) S1.length m i S).bind fun _ s2 => .ok (.ref S1.length) s2) fun d _ ρ' H' => ∀ v, RD T ρ' H' d v → Q v H'
theorem dc_of {wb : Option BI} {its : List E} {t : CT} {k e : E} {os : List Nat} (hsub : ∀ j ∈ slotsT t, j ∈ os) :
    ∀ σ H Q, DE T W (evE G call (.dc false os t wb its k e)) σ H Q → tDc (DIt T W (evEs G call its) wb) (DG T t) tYes (DE T Wn (evE G call k)) (DE T Wn (evE G call e)) os σ H Q := by
  rintro σ H Q ⟨ρ, S, fr, sm, r, h⟩
  unfold evE at h
  refine ⟨ρ, S, fr, sm, r, h.bind.imp fun vs S1 ρ1 H1 e1 s1 h1 => ⟨?_, fun Ji so Dl hD => ?_⟩⟩
  · cases ew : walkG wb vs S1 <;> first | rfl | skip
    rw [ew] at h1
    exact h1.elim
  · obtain ⟨s2, e2⟩ := s1.new (o := .dct false []) (u := .dK []) hD (.dk upd_same .nil)
    have hat : (ρ1 ++ [Dl])[S1.length]? = some Dl := by rw [← s1.len]; simp
    refine ⟨dcInv T G call W σ Q wb vs S1 false os t k e fr (ρ1 ++ [Dl]) (upd H1 Dl (.dK [])), ⟨fuelL, ρ1 ++ [Dl], S1 ++ [.dct false []], Ext.refl, s2, h1.mono e2⟩, ?_⟩
    rintro i m H2 ⟨ρ2, S2, x2, sm2, h2⟩
    cases m with
    | zero => exact h2.elim
    | succ m =>
      unfold dctG at h2
      have ok := so ρ2 S2 H2 (e2.trans x2) sm2 i
      cases es : srcAt (walkG wb vs S1) i S2 with
      | none => rw [es] at h2; exact h2.elim
      | some o =>
        rw [es] at h2 ok
        cases o with
        | none =>
          have h2 : Po T (fun c d H' => W c d σ H') ρ2 H2 (.ok (.ref S1.length) S2) fun d _ ρ' H' => ∀ v, RD T ρ' H' d v → Q v H' := h2
          exact .inl ⟨ok, h2.ok sm2 _ (.ref (x2.at hat))⟩
        | some d =>
          dsimp only at h2
          cases et : dcT os t (evE G call k) (evE G call e) fr d S2 with
          | no => rw [et] at h2; exact h2.elim
          | ex c4 fs4 S4 => rw [et] at h2; exact h2.elim
          | ok p S4 =>
            rw [et] at h2
            obtain ⟨fr1, S3, el, ek, ee⟩ := dcT_ok et
            obtain ⟨x, v⟩ := p
            refine .inr ⟨ok.1, dcInv T G call W σ Q wb vs S1 false os t k e fr (ρ1 ++ [Dl]) (upd H1 Dl (.dK [])) (i + 1) m, fun H' q => ⟨m, Nat.lt_succ_self m, q⟩, fun y H3 yy => ?_⟩
            obtain ⟨e3, s3, rx⟩ := ok.2 y H3 yy
            refine ⟨ρ2, S2, wipe fr os, d, fr1, s3, FR.wipe ((((r.mono e1).mono e2).mono x2).mono e3) os, rx, el, fun σ3 f3 a3 => ⟨wipe_agr a3 hsub, ?_⟩⟩
            refine ⟨ρ2, S2, fr1, s3, f3, ?_⟩
            rw [ek]
            intro ρ4 H4 e4 s4 kv rk
            refine ⟨ρ4, S3, fr1, s4, f3.mono e4, ?_⟩
            rw [ee]
            intro ρ5 H5 e5 s5 vv rv
            dsimp only at h2
            split at h2
            · rename_i tt kvs ed
              have x5 : Ext (ρ1 ++ [Dl]) (upd H1 Dl (.dK [])) ρ5 H5 := x2.trans (e3.trans (e4.trans e5))
              split at h2
              · rename_i hz
                rw [Bool.and_eq_true, Bool.and_eq_true] at hz
                obtain ⟨h0, h3, h4⟩ := hz
                have h0 : tt = false := by cases tt with
                  | false => rfl
                  | true => cases h0
                subst h0
                obtain ⟨ky, k1, ek1⟩ := KR.of rk h3
                have e6 := ed
                rw [nth_eq] at e6
                rcases dct_at s5 ed (x5.at hat) with ⟨_, ks, g1, g2⟩ | ⟨z, _⟩
                · have h4 := line_lt h4
                  rw [g2.length] at h4
                  obtain ⟨s6, e7⟩ := s5.set (o' := .dct false (putD kvs x v)) e6 (x5.at hat) (u := .dK (putK ks ky vv)) fun e => .dk upd_same ((g2.put k1 rv).mono e)
                  exact ⟨ks, ky, ek1, g1, h4, ρ5, _, x5.trans e7, s6, Po.mono h2 (e3.trans (e4.trans (e5.trans e7)))⟩
                · cases z
              · exact h2.elim
            · exact h2.elim
theorem dcT_of {wb : Option BI} {its : List E} {t : CT} {k e : E} {os : List Nat} (hsub : ∀ j ∈ slotsT t, j ∈ os) :
    ∀ σ H Q, DE T W (evE G call (.dc true os t wb its k e)) σ H Q → tDcT (DIt T W (evEs G call its) wb) (DG T t) (DE T Wn (evE G call k)) (DE T Wn (evE G call e)) os σ H Q := by
  rintro σ H Q ⟨ρ, S, fr, sm, r, h⟩
  unfold evE at h
  refine ⟨ρ, S, fr, sm, r, h.bind.imp fun vs S1 ρ1 H1 e1 s1 h1 => ⟨?_, fun Ji so Dl hD => ?_⟩⟩
  · cases ew : walkG wb vs S1 <;> first | rfl | skip
    rw [ew] at h1
    exact h1.elim
  · obtain ⟨s2, e2⟩ := s1.new (o := .dct true []) (u := .dT []) hD (.dt upd_same .nil)
    have hat : (ρ1 ++ [Dl])[S1.length]? = some Dl := by rw [← s1.len]; simp
    refine ⟨dcInv T G call W σ Q wb vs S1 true os t k e fr (ρ1 ++ [Dl]) (upd H1 Dl (.dT [])), ⟨fuelL, ρ1 ++ [Dl], S1 ++ [.dct true []], Ext.refl, s2, h1.mono e2⟩, ?_⟩
    rintro i m H2 ⟨ρ2, S2, x2, sm2, h2⟩
    cases m with
    | zero => exact h2.elim
    | succ m =>
      unfold dctG at h2
      have ok := so ρ2 S2 H2 (e2.trans x2) sm2 i
      cases es : srcAt (walkG wb vs S1) i S2 with
      | none => rw [es] at h2; exact h2.elim
      | some o =>
        rw [es] at h2 ok
        cases o with
        | none =>
          have h2 : Po T (fun c d H' => W c d σ H') ρ2 H2 (.ok (.ref S1.length) S2) fun d _ ρ' H' => ∀ v, RD T ρ' H' d v → Q v H' := h2
          exact .inl ⟨ok, h2.ok sm2 _ (.ref (x2.at hat))⟩
        | some d =>
          dsimp only at h2
          cases et : dcT os t (evE G call k) (evE G call e) fr d S2 with
          | no => rw [et] at h2; exact h2.elim
          | ex c4 fs4 S4 => rw [et] at h2; exact h2.elim
          | ok p S4 =>
            rw [et] at h2
            obtain ⟨fr1, S3, el, ek, ee⟩ := dcT_ok et
            obtain ⟨x, v⟩ := p
            refine .inr ⟨ok.1, dcInv T G call W σ Q wb vs S1 true os t k e fr (ρ1 ++ [Dl]) (upd H1 Dl (.dT [])) (i + 1) m, fun H' q => ⟨m, Nat.lt_succ_self m, q⟩, fun y H3 yy => ?_⟩
            obtain ⟨e3, s3, rx⟩ := ok.2 y H3 yy
            refine ⟨ρ2, S2, wipe fr os, d, fr1, s3, FR.wipe ((((r.mono e1).mono e2).mono x2).mono e3) os, rx, el, fun σ3 f3 a3 => ⟨wipe_agr a3 hsub, ?_⟩⟩
            refine ⟨ρ2, S2, fr1, s3, f3, ?_⟩
            rw [ek]
            intro ρ4 H4 e4 s4 kv rk
            refine ⟨ρ4, S3, fr1, s4, f3.mono e4, ?_⟩
            rw [ee]
            intro ρ5 H5 e5 s5 vv rv
            dsimp only at h2
            split at h2
            · rename_i tt kvs ed
              have x5 : Ext (ρ1 ++ [Dl]) (upd H1 Dl (.dT [])) ρ5 H5 := x2.trans (e3.trans (e4.trans e5))
              split at h2
              · rename_i hz
                rw [Bool.and_eq_true, Bool.and_eq_true] at hz
                obtain ⟨h0, h3, h4⟩ := hz
                have h0 : tt = true := by cases tt with
                  | true => rfl
                  | false => cases h0
                subst h0
                have e6 := ed
                rw [nth_eq] at e6
                rcases dct_at s5 ed (x5.at hat) with ⟨z, _⟩ | ⟨_, ks, g1, g2⟩
                · cases z
                · cases x <;> first | (cases h3; done) | skip
                  rename_i xs
                  have rk5 := rk.mono e5
                  cases rk5 with
                  | tup hb rs =>
                    obtain ⟨ky, k1, rfl⟩ := KRs.of rs h3
                    have h4 := line_lt h4
                    rw [g2.length] at h4
                    obtain ⟨s6, e7⟩ := s5.set (o' := .dct true (putD kvs (.tup xs) v)) e6 (x5.at hat) (u := .dT (putK ks ky vv)) fun e => .dt upd_same ((g2.put k1 rv).mono e)
                    exact ⟨ks, ky, _, rfl, hb, g1, h4, ρ5, _, x5.trans e7, s6, Po.mono h2 (e3.trans (e4.trans (e5.trans e7)))⟩
              · exact h2.elim
            · exact h2.elim

theorem snd_dc (C : Cq T G J Ly n c W X) {kx vx tg iter : Expr} {scope : Scope} {own : List (Str × Nat)} {pos : Pos} {wb : Option BI} {its : List E} {t : CT} {k e : E} {tk : Bool} (hsub : ∀ j ∈ slotsT t, j ∈ own.map (·.2)) (hi : PI X tg iter (DIt T W (evEs G call its) wb))
    (B : Blk X scope own tg [] [(kx, k), (vx, e)] t (.lit (.bl true)) T G call) (hs : ∀ x, foldedSetIterable iter X.env x = pure x) : PE X (.DictComp kx vx [⟨tg, iter, [], 0⟩] scope pos) (DE T W (evE G call (.dc tk (own.map (·.2)) t wb its k e))) := by
  cases tk with
  | false => exact (pe_dc C.calm C.nd hi B.ok B.tg_ (fun _ _ _ _ _ => pts_nil) (B.elt_ (kx, k) (by simp)) (B.elt_ (vx, e) (by simp)) hs).wk (dc_of hsub)
  | true => exact (pe_dcT (by have := C.hu; omega) C.calm C.nd hi B.ok B.tg_ (B.elt_ (kx, k) (by simp)) (B.elt_ (vx, e) (by simp)) hs).wk (dcT_of hsub)
theorem snd_setDc (C : Cq T G J Ly n c W X) {i : Nat} {y : Str} {py spos : Pos} {kx vx tg iter : Expr} {scope : Scope} {own : List (Str × Nat)} {pos : Pos} {wb : Option BI} {its : List E} {t : CT} {k e : E} (hsub : ∀ j ∈ slotsT t, j ∈ own.map (·.2))
    (hy : X.N[i]? = some y) (hyl : X.env.scope.names.lookup y = some .local) (hsw : swapsWith (.DictComp kx vx [⟨tg, iter, [], 0⟩] scope pos) (some (.Name y py)) spos.line X.env = pure true) (hi : PI X tg iter (DIt T W (evEs G call its) wb))
    (B : Blk X scope own tg [] [(kx, k), (vx, e)] t (.lit (.bl true)) T G call) (hs : ∀ x, foldedSetIterable iter X.env x = pure x) : PS X (.Assign [.Name y py] (.DictComp kx vx [⟨tg, iter, [], 0⟩] scope pos) spos) (DS T W (evS G call (.asg (.nm i) (.dc true (own.map (·.2)) t wb its k e)))) :=
  (ps_setDcT (by have := C.hu; omega) C.calm C.nd hy hyl hsw hi B.ok B.tg_ (B.elt_ (kx, k) (by simp)) (B.elt_ (vx, e) (by simp)) hs).wk fun D σ H ⟨ρ, S, fr, sm, r, h⟩ => by
    rw [show evS G call (.asg (.nm i) (.dc true (own.map (·.2)) t wb its k e)) fr S = SR.of (evE G call (.dc true (own.map (·.2)) t wb its k e) fr S) fr fun v s1 => match letT (.nm i) v fr with
      | some fr' => .nx fr' s1
      | none => .no by rw [evS] <;> rfl] at h
    refine dcT_of hsub σ H (fun v H1 => gName i v σ H1 D.nx) ⟨ρ, S, fr, sm, r, (SPo.of r h).imp fun a S1 ρ1 H1 e1 s1 h1 v rv => ?_⟩
    have h1 : SPo T W ρ1 H1 D (.nx (fr.set i (some a)) S1) := h1
    exact h1.nx s1 ((r.mono e1).set rv)
end
end PD
end Sec16
section Sec17
set_option Elab.async false
set_option linter.all false
set_option maxRecDepth 100000
set_option maxHeartbeats 4000000
/-! PD16: super().__init__(..) as a body's first statement. -/
namespace PD
open PySem PySem.Spec PyProof.Rows L2

/-- what stands behind super() in a method: f the method's own function, code its code object, cc its cell for the class D; g: what super finds -/
structure SupF (P : Program) (X : Cx) (f code cc D g : Addr) (a0 : Str) : Prop where
  fn : ∃ oc od fd osl ar, X.K.lookup f = some ⟨oc, od, .func fd, osl⟩ ∧ (fd.params.posonlyargs ++ fd.params.args).head? = some ar ∧ ar.arg = a0
  code : ∃ ccl cdd vs ccs file tf, X.K.lookup code = some ⟨ccl, cdd, .fields vs, ccs⟩ ∧ vs[2]? = some (.str file tf) ∧ ((P.main.file : Str) == file) = true
  cell : ∃ cl cld csl, X.K.lookup cc = some ⟨cl, cld, .cell (some (.ref D)), csl⟩
  sub : PySem.W.mroIn X.K D (.ref D) = some true
  mg : X.mg "super" = none
  top : (P.main.scope.names.lookup ("super" : Str)).isSome = false
  opq : PySem.W.nsIn X.K cStatics "thirdparty.any" = some none
  cls : (PySem.W.clsIn X.K D).isSome = true
  along : PySem.W.ks_superIn X.K D D "__init__" = some (some (.ref g))
  isf : PySem.W.typeIn X.K (.ref g) = some (.type "function")
  fnin : PySem.W.fnIn X.K g = true
/-- the method's block -/
structure SupE (X : Cx) (f code cc : Addr) (a0 : Str) : Prop where
  func : X.env.func = some f
  code : X.env.code = .ref code
  cell : X.env.cells.lookup ("__class__" : Str) = some cc
  hks : X.env.scope.names.lookup ("super" : Str) = some .globalImplicit
  hkc : X.env.scope.names.lookup ("__class__" : Str) = some .free
  hka : X.env.scope.names.lookup a0 = some .local
  n0 : X.N[0]? = some a0
theorem boot_super : bootBuiltins "super" = some (.type "super") := by decide +kernel

section
variable {T : Tab} {G : Pg} {J : Inf} {Ly : Lay} {n : Nat} {c : CC} {W : WX} {X : Cx}
theorem sup_stmt (C : Cq T G J Ly n c W X) {f code cc : Addr} {a0 : Str} {dn k : Nat} {D : Addr} (hD : D = Ly.ca dn) {kd : Cl} (ekd : lkN G.cls dn = some kd) (SF : SupF X.prog X f code cc D (Ly.fa k) a0) (SE : SupE X f code cc a0) {body : List Stmt} {e : Expr} {es : List Expr} {eds : List E} {p0 p1 apos cpos spos : Pos}
    (hes : (e :: es).all notStar = true) (hn : (e :: es).length < 29) (hl : (apos.endLine == cpos.line) = true) (ha : PA X (e :: es) (DA T W (evEs G (callN G n) eds))) {s : Shared} {σ : L2.St} {H : Hp} {En : Ends} (I : L2.Inv X [] σ H s)
    (h : DS T W (evS G (callN G n) (.expr (.scall dn k eds))) En σ H) :
    _root_.PySem.wpAt (model X.prog X.w) X.A (.func body X.env) (exec (.Expr (.Call (.Attribute (.Call (.Name "super" p0) [] [] p1) "__init__" apos) (e :: es) [] cpos) spos) X.env) (SP X [] En) X.xe s := by
  obtain ⟨ρ, S, fr, sm, r, h⟩ := h
  rw [show evS G (callN G n) (.expr (.scall dn k eds)) fr S = SR.of (evE G (callN G n) (.scall dn k eds) fr S) fr fun _ s1 => .nx fr s1 by rw [evS]] at h
  have h := SPo.of r h
  unfold evE at h
  split at h
  · rename_i l ef
    split at h
    · rename_i hi
      -- self stands in the frame
      obtain ⟨v, hv, rv⟩ := r.at_ 0 _ (nthFr_eq ef)
      cases rv with
      | @ref _ x hla =>
      have hins : ∃ fs, nth S l = some (.ins dn fs) := by
        unfold insOf at hi
        split at hi
        · rename_i c' fs e'
          have := Nat.eq_of_beq_eq_true hi
          subst this
          exact ⟨fs, e'⟩
        · cases hi
      obtain ⟨fs, ex⟩ := hins
      obtain ⟨dx, gs, g1, g2, Fc⟩ := cls_at C sm ex hla ekd
      rw [← hD] at g1
      obtain ⟨mA, O, _, _, _, _⟩ := ins_get I.hok g1
      obtain ⟨od, Jn, _⟩ := O.look
      obtain ⟨m, hns, hloc⟩ := I.loc
      obtain ⟨u, ru, lk⟩ := hloc 0 a0 _ SE.n0 hv (.inl SE.hka)
      cases ru
      have hm : m a0 = some (.ref x) := by
        rcases lk with ⟨_, q⟩ | ⟨q, _⟩
        · exact q
        · have q : X.env.scope.names.lookup a0 = some .cell ∨ X.env.scope.names.lookup a0 = some .free := q
          rw [SE.hka] at q
          rcases q with q | q <;> cases q
      obtain ⟨oc, odf, fd, osl, ar, hf, hp, har⟩ := SF.fn
      obtain ⟨ccl, cdd, vs, ccs, file, tf, hc1, hc2, hc3⟩ := SF.code
      obtain ⟨cl, cld, csl, hcell⟩ := SF.cell
      obtain ⟨cd, hcd⟩ := Option.isSome_iff_exists.mp SF.cls
      have KX : X.K.In s.heap := I.kIn
      rw [exec_Expr X.env _ _ I.quiet (by rfl)]
      refine _root_.PySem.wpAt_bind (_root_.PySem.wpAt_of_wpAny (wpAny_standAt ?_))
      rw [arm_eval_Call]
      refine _root_.PySem.wpAt_bind (_root_.PySem.wpAt_bind ?_)
      obtain ⟨hp0, g0, d0, t0, os0⟩ := s
      obtain ⟨oD, hD1, hD2⟩ : ∃ oD, hp0.get? D = some oD ∧ oD.data = .cls cd := by
        unfold PySem.W.clsIn at hcd
        split at hcd
        · rename_i c' d' cd' sl ho
          cases hcd
          exact ⟨_, KX _ _ ho, rfl⟩
        · cases hcd
      refine ks_wpAt_super_base (env := X.env) SE.hks SE.hkc (by decide) SE.func (KX _ _ hf) rfl hp SE.code (KX _ _ hc1) rfl hc2 hc3 SF.top ?_
      obtain ⟨mb, hb1, hb2⟩ := I.mod.blt
      refine PySem.W.ks_loadName_global I.ok.kind SE.hks (Calls.loadGlobal_builtin (env := X.env) (by rw [I.ok.glob]; exact I.mod.glob.keeps I.bk) SF.mg (by rw [I.ok.blt]; exact hb1.keeps I.bk) ((hb2 _ (by decide)).trans boot_super) ⟨rfl, ?_⟩)
      refine wpAny_loadName_free I.ok.kind SE.hkc SE.cell ⟨_, KX _ _ hcell, rfl⟩ ?_
      rw [har]
      refine wpAny_loadName_local I.ok.kind SE.hka hns hm ?_
      refine ks_wpAny_isType_cls hD1 hD2 ⟨rfl, ?_⟩
      refine ks_wpAny_call_super hD1 hD2 Jn.at_ Jn.cls (fun c e => ?_) (PySem.W.looks_mroIn KX SF.sub) (fun h' eso kp => ?_)
      · have := Jn.no
        unfold PySem.W.notCls at this
        rw [e] at this
        exact Bool.noConfusion this
      · -- the super object is there
        have I1 : L2.Inv X [] σ H ⟨h', g0, d0, t0, os0⟩ := I.kept (t' := t0) kp
        have K1 : X.K.In h' := I1.kIn
        refine _root_.PySem.wpAt_of_wpAny (wpAny_bind (wpAny_standAt ?_))
        have hform : methodCallForm ((e :: es).length + ([] : List Keyword).length) (backTo cpos (starEach (e :: es) X.env)) (backToKw cpos (keywordEach [] X.env)) = true := by
          unfold methodCallForm
          rw [star_all hes]
          show (true && true && decide ((e :: es).length + 0 + 0 < 30)) = true
          rw [decide_eq_true (by omega)]; rfl
        have hpos : methodCallPos true (.Call (.Name "super" p0) [] [] p1) X.env apos cpos = pure cpos := by unfold methodCallPos; simp [hl]
        unfold methodCall
        rw [hform]
        have hal := SF.along
        unfold PySem.W.ks_superIn at hal
        rw [hcd] at hal
        obtain ⟨of, hof, hofc⟩ : ∃ of, h'.get? (Ly.fa k) = some of ∧ of.cls = .type "function" := by
          have ht' : (X.K.lookup (Ly.fa k)).map (·.cls) = some (.type "function") := SF.isf
          cases z : X.K.lookup (Ly.fa k) with
          | none => rw [z] at ht'; cases ht'
          | some of => rw [z] at ht'; exact ⟨of, K1 _ _ z, Option.some.inj ht'⟩
        refine wpAny_bind (wpAny_holding (ks_wpAny_getMethod_super eso (PySem.W.looks_opaque K1 SF.opq) (l₀ := cd.mro) (fun A Q E s k q => wpAny_bind ((PySem.W.looks_clsIn K1 hcd) A _ E s k (wpAny_pure q))) rfl K1 hal hof hofc (PySem.W.ks_ne (h := hp0) KX Jn hcd) (by decide) ?_))
        refine wpAny_bind (wpAny_of_eq hpos ?_)
        have hq : H h'.objs.size = none := I1.hok.fresh (Nat.le_refl _)
        have I2 : L2.Inv X [] σ (upd H h'.objs.size (.met (Ly.fa k) x)) ⟨h'.push (PySem.W.methodObj (.ref (Ly.fa k)) (.ref x)), g0, d0, t0 + 1, os0⟩ :=
          I1.laid (t' := t0 + 1) (a := h'.objs.size) (o := .met (Ly.fa k) x) (fun b u z => Heap.get?_push_of_some _ z) (Nat.le_refl _)
            (show (h'.push (PySem.W.methodObj (.ref (Ly.fa k)) (.ref x))).get? h'.objs.size = some (PySem.W.methodObj (.ref (Ly.fa k)) (.ref x)) from Heap.get?_push_size h' rfl)
        obtain ⟨sm2, e2⟩ := sm.aside (u := .met (Ly.fa k) x) hq
        rw [List.all_cons, Bool.and_eq_true] at hes
        refine callwith_met (X := X) (A := X.A) (g := Ly.fa k) (a := x) (q := h'.objs.size) (by rw [star_ne hes.1]; show ((false || (backTo cpos (starEach es X.env)).any (·.1)) || false) = false; rw [star_any hes.2]; rfl) SF.fnin ?_
        have hA := ha.run cpos [] _ σ _ _ I2 (args1 (k := fun xs s1 => callA G (callN G n) k (.ref l :: xs) [] [] s1) sm2 (r.mono e2) (h.mono e2))
        rw [star_ne hes.1] at hA ⊢
        refine Calls.evalArgs_plain (thn hA fun us s3 ⟨vs, H3, I3, rvs, ρ3, S3, xs, e3, sm3, rxs, q3⟩ => ?_)
        have hmet : H3 h'.objs.size = some (.met (Ly.fa k) x) := e3.keep _ _ upd_same True.intro
        refine ⟨⟨I3.hok _ _ hmet, I3.kIn⟩, ?_⟩
        have hla3 := e3.at (e2.at hla)
        refine wpAny_call (call_met I3 hmet (codeAny_mono (run_code C (kn := []) (A' := X.A) (outer := X.stack) (us := .ref x :: us) (ws := []) (vs := .ref x :: vs) (zs := []) C.hr I3.env0 I3.kIn sm3 (.cons (.ref hla3) rxs) .nil (.cons rfl rvs) .nil (by simp) rfl rfl
          (q3.imp fun a S4 ρ4 H4 e4 s4 h4 v rv => h4.nx s4 (r.mono (e2.trans (e3.trans e4))))) fun rr s4 hq4 => ?_))
        cases rr with
        | error er => exact C.tk er s4 (XE.of_call I3 (fun cls d H' h => h) hq4)
        | ok fl =>
          cases fl with
          | ret u =>
            obtain ⟨v5, H5, I5, rv5, q5⟩ := I3.after (Q := fun _ H' => En.nx σ H') hq4
            exact _root_.PySem.wpAt_of_wpAny (wpAny_dropValue ⟨σ, H5, I5, q5⟩)
          | next => exact False.elim hq4
          | brk => exact False.elim hq4
          | cont => exact False.elim hq4
    · exact h.elim
  · exact h.elim
end
end PD
end Sec17
section Sec18
set_option Elab.async false
set_option linter.all false
set_option maxRecDepth 100000
set_option maxHeartbeats 4000000
/-! PD17: the check of an expression against its deep form. -/
namespace PD
open PySem PySem.Spec PyProof.Rows L2

/-! ### texts, names -/
def strEq (x y : Str) : Bool := natsB x.cps.toList y.cps.toList
theorem natsB_ok : ∀ {a b : List Nat}, natsB a b = true → a = b
  | [], [], _ => rfl
  | [], _ :: _, h => by cases h
  | _ :: _, [], h => by cases h
  | x :: a, y :: b, h => by
    have h : (Nat.beq x y && natsB a b) = true := h
    rw [Bool.and_eq_true] at h
    rw [Nat.eq_of_beq_eq_true h.1, natsB_ok h.2]
theorem natsB_refl : ∀ {a : List Nat}, natsB a a = true
  | [] => rfl
  | x :: a => by show (Nat.beq x x && natsB a a) = true; rw [Nat.beq_refl, natsB_refl]; rfl
theorem strEq_ok {x y : Str} (h : strEq x y = true) : x = y := by
  obtain ⟨⟨a⟩⟩ := x
  obtain ⟨⟨b⟩⟩ := y
  have := natsB_ok h
  subst this
  rfl
theorem strEq_refl {x : Str} : strEq x x = true := natsB_refl
def lookupS {α : Type} : List (Str × α) → Str → Option α
  | [], _ => none
  | (k, v) :: r, x => if strEq x k then some v else lookupS r x
theorem lookupS_eq {α : Type} : ∀ {l : List (Str × α)} {x : Str}, lookupS l x = l.lookup x
  | [], _ => rfl
  | (k, v) :: r, x => by
    unfold lookupS
    rw [List.lookup_cons]
    cases h : strEq x k with
    | true =>
      have := strEq_ok h
      subst this
      simp
    | false =>
      have : (x == k) = false := by
        cases q : x == k with
        | false => rfl
        | true =>
          have := eq_of_beq q
          subst this
          rw [strEq_refl] at h; cases h
      rw [this]
      exact lookupS_eq
def memS (xs : List Str) (x : Str) : Bool := xs.any (strEq x)
theorem memS_ok {xs : List Str} {x : Str} (h : memS xs x = true) : x ∈ xs := by
  obtain ⟨y, hy, e⟩ := List.any_eq_true.mp h
  rw [strEq_ok e]; exact hy
theorem memS_no {xs : List Str} {x : Str} (h : memS xs x = false) : x ∉ xs := fun z => by
  have : memS xs x = true := List.any_eq_true.mpr ⟨x, z, strEq_refl⟩
  rw [h] at this; cases this
def sameS (o : Option Str) (x : Str) : Bool := match o with
  | some y => strEq y x
  | none => false
theorem sameS_ok {o : Option Str} {x : Str} (h : sameS o x = true) : o = some x := by
  cases o with
  | none => cases h
  | some y => rw [strEq_ok h]

structure CK where
  syms : List Str
  G : Pg
  J : Inf
  cn : List Nat
def opB {α : Type} (o : Option α) (f : α → Bool) : Bool := match o with
  | some a => f a
  | none => false
theorem opB_ok {α : Type} {o : Option α} {f : α → Bool} (h : opB o f = true) : ∃ a, o = some a ∧ f a = true := by
  cases o with
  | none => cases h
  | some a => exact ⟨a, rfl, h⟩
def CK.sy (kpp : CK) (k : Nat) (x : Str) : Bool := sameS (nth kpp.syms k) x
def glb (c : CC) (x : Str) : Bool := match lookupS c.sc.names x with
  | some .globalImplicit => true
  | _ => false
def isVar (c : CC) (i : Nat) (x : Str) : Bool := sameS (nth c.N i) x && match lookupS c.sc.names x with
  | some .local => true
  | some .cell => true
  | some .free => true
  | _ => false
def isLoc (c : CC) (i : Nat) (x : Str) : Bool := sameS (nth c.N i) x && match lookupS c.sc.names x with
  | some .local => true
  | some .cell => true
  | _ => false

/-! ### the forms -/
def asName : Expr → Option Str | .Name x _ => some x | _ => none
def asInt : Expr → Option Int | .Constant (.int i) _ _ => some i | _ => none
def asBool : Expr → Option Bool | .Constant (.bool b) _ _ => some b | _ => none
def asNone : Expr → Option Unit | .Constant .none _ _ => some () | _ => none
def asStr : Expr → Option Str | .Constant (.str x) _ _ => some x | _ => none
def asTup : Expr → Option (List Expr) | .Tuple es _ _ => some es | _ => none
def asLst : Expr → Option (List Expr) | .List es _ => some es | _ => none
def asDict : Expr → Option (List (Option Expr) × List Expr) | .Dict k v _ => some (k, v) | _ => none
def asBin : Expr → Option (Expr × Operator × Expr) | .BinOp a o b _ => some (a, o, b) | _ => none
def asNeg : Expr → Option Expr | .UnaryOp .USub a _ => some a | _ => none
def asNot : Expr → Option Expr | .UnaryOp .Not a _ => some a | _ => none
def asCmp1 : Expr → Option (Expr × CmpOp × Expr) | .Compare a [o] [b] _ => some (a, o, b) | _ => none
def asCmp2 : Expr → Option (Expr × CmpOp × CmpOp × Expr × Expr) | .Compare a [o, o'] [b, c] _ => some (a, o, o', b, c) | _ => none
def asBO (op : PySem.BoolOp) : Expr → Option (Expr × Expr × List Expr)
  | .BoolOp o (a :: b :: r) _ => if o = op then some (a, b, r) else none
  | _ => none
def asIf : Expr → Option (Expr × Expr × Expr) | .IfExp t a b _ => some (t, a, b) | _ => none
def asAttr : Expr → Option (Expr × Str) | .Attribute a x _ => some (a, x) | _ => none
def asSub : Expr → Option (Expr × Expr) | .Subscript a i _ => some (a, i) | _ => none
def asSlice : Expr → Option (Expr × Option Expr × Option Expr) | .Subscript a (.Slice lo hi none _) _ => some (a, lo, hi) | _ => none
def asCallN : Expr → Option (Str × List Expr × List Keyword) | .Call (.Name x _) es kws _ => some (x, es, kws) | _ => none
def asCallM : Expr → Option (Expr × Str × Pos × List Expr × Pos) | .Call (.Attribute o m apos) es [] pos => some (o, m, apos, es, pos) | _ => none
def asLc : Expr → Option (Expr × Expr × Expr × List Expr × Scope) | .ListComp e [⟨t, i, fs, 0⟩] sc _ => some (e, t, i, fs, sc) | _ => none
def asDc : Expr → Option (Expr × Expr × Expr × Expr × Scope) | .DictComp k v [⟨t, i, [], 0⟩] sc _ => some (k, v, t, i, sc) | _ => none
theorem asName_ok {e : Expr} {a} (h : asName e = some a) : ∃ p, e = .Name a p := by cases e <;> simp [asName] at h; subst h; exact ⟨_, rfl⟩
theorem asInt_ok {e : Expr} {a} (h : asInt e = some a) : ∃ j p, e = .Constant (.int a) j p := by cases e <;> simp [asInt] at h; rename_i v k p; cases v <;> simp at h; subst h; exact ⟨_, _, rfl⟩
theorem asBool_ok {e : Expr} {a} (h : asBool e = some a) : ∃ j p, e = .Constant (.bool a) j p := by cases e <;> simp [asBool] at h; rename_i v k p; cases v <;> simp at h; subst h; exact ⟨_, _, rfl⟩
theorem asNone_ok {e : Expr} {a} (h : asNone e = some a) : ∃ j p, e = .Constant .none j p := by cases e <;> simp [asNone] at h; rename_i v k p; cases v <;> simp at h; exact ⟨_, _, rfl⟩
theorem asStr_ok {e : Expr} {a} (h : asStr e = some a) : ∃ j p, e = .Constant (.str a) j p := by cases e <;> simp [asStr] at h; rename_i v k p; cases v <;> simp at h; subst h; exact ⟨_, _, rfl⟩
theorem asTup_ok {e : Expr} {a} (h : asTup e = some a) : ∃ j p, e = .Tuple a j p := by cases e <;> simp [asTup] at h; subst h; exact ⟨_, _, rfl⟩
theorem asLst_ok {e : Expr} {a} (h : asLst e = some a) : ∃ p, e = .List a p := by cases e <;> simp [asLst] at h; subst h; exact ⟨_, rfl⟩
theorem asDict_ok {e : Expr} {a} (h : asDict e = some a) : ∃ p, e = .Dict a.1 a.2 p := by cases e <;> simp [asDict] at h; subst h; exact ⟨_, rfl⟩
theorem asBin_ok {e : Expr} {a} (h : asBin e = some a) : ∃ p, e = .BinOp a.1 a.2.1 a.2.2 p := by cases e <;> simp [asBin] at h; subst h; exact ⟨_, rfl⟩
theorem asNeg_ok {e : Expr} {a} (h : asNeg e = some a) : ∃ p, e = .UnaryOp .USub a p := by cases e <;> simp [asNeg] at h; rename_i o k p; cases o <;> simp at h; subst h; exact ⟨_, rfl⟩
theorem asNot_ok {e : Expr} {a} (h : asNot e = some a) : ∃ p, e = .UnaryOp .Not a p := by cases e <;> simp [asNot] at h; rename_i o k p; cases o <;> simp at h; subst h; exact ⟨_, rfl⟩
theorem asCmp1_ok {e : Expr} {a} (h : asCmp1 e = some a) : ∃ p, e = .Compare a.1 [a.2.1] [a.2.2] p := by
  unfold asCmp1 at h
  split at h <;> cases h
  exact ⟨_, rfl⟩
theorem asCmp2_ok {e : Expr} {a} (h : asCmp2 e = some a) : ∃ p, e = .Compare a.1 [a.2.1, a.2.2.1] [a.2.2.2.1, a.2.2.2.2] p := by
  unfold asCmp2 at h
  split at h <;> cases h
  exact ⟨_, rfl⟩
theorem asBO_ok {op : PySem.BoolOp} {e : Expr} {a} (h : asBO op e = some a) : ∃ p, e = .BoolOp op (a.1 :: a.2.1 :: a.2.2) p := by
  unfold asBO at h
  split at h
  · split at h
    · rename_i z; subst z; cases h; exact ⟨_, rfl⟩
    · cases h
  · cases h
theorem asIf_ok {e : Expr} {a} (h : asIf e = some a) : ∃ p, e = .IfExp a.1 a.2.1 a.2.2 p := by cases e <;> simp [asIf] at h; subst h; exact ⟨_, rfl⟩
theorem asAttr_ok {e : Expr} {a} (h : asAttr e = some a) : ∃ p, e = .Attribute a.1 a.2 p := by cases e <;> simp [asAttr] at h; subst h; exact ⟨_, rfl⟩
theorem asSub_ok {e : Expr} {a} (h : asSub e = some a) : ∃ p, e = .Subscript a.1 a.2 p := by cases e <;> simp [asSub] at h; subst h; exact ⟨_, rfl⟩
theorem asSlice_ok {e : Expr} {a} (h : asSlice e = some a) : ∃ p q, e = .Subscript a.1 (.Slice a.2.1 a.2.2 none p) q := by
  unfold asSlice at h
  split at h <;> cases h
  exact ⟨_, _, rfl⟩
theorem asCallN_ok {e : Expr} {a} (h : asCallN e = some a) : ∃ p q, e = .Call (.Name a.1 p) a.2.1 a.2.2 q := by
  unfold asCallN at h
  split at h <;> cases h
  exact ⟨_, _, rfl⟩
theorem asCallM_ok {e : Expr} {a} (h : asCallM e = some a) : e = .Call (.Attribute a.1 a.2.1 a.2.2.1) a.2.2.2.1 [] a.2.2.2.2 := by
  unfold asCallM at h
  split at h <;> cases h
  rfl
theorem asLc_ok {e : Expr} {a} (h : asLc e = some a) : ∃ p, e = .ListComp a.1 [⟨a.2.1, a.2.2.1, a.2.2.2.1, 0⟩] a.2.2.2.2 p := by
  unfold asLc at h
  split at h <;> cases h
  exact ⟨_, rfl⟩
theorem asDc_ok {e : Expr} {a} (h : asDc e = some a) : ∃ p, e = .DictComp a.1 a.2.1 [⟨a.2.2.1, a.2.2.2.1, [], 0⟩] a.2.2.2.2 p := by
  unfold asDc at h
  split at h <;> cases h
  exact ⟨_, rfl⟩

/-! ### the check -/
def notIte : E → Bool
  | .ite _ _ _ => false
  | _ => true
/-- a slice's part -/
def optL (o : Option Expr) : List Expr := match o with
  | some e => [e]
  | none => []
def chkCV (kpp : CK) : D → Expr → Bool
  | .int i, e => opB (asInt e) fun j => decide (i = j)
  | .str k, e => opB (asStr e) fun x => kpp.sy k x
  | _, _ => false
def chkRows (kpp : CK) : List (D × D) → List (Option Expr) → List Expr → Bool
  | [], [], [] => true
  | (d, f) :: r, some k :: ks, v :: vs => chkCV kpp d k && (chkCV kpp f v && chkRows kpp r ks vs)
  | _, _, _ => false
mutual
def chkTg (c : CC) : CT → Expr → Bool
  | .nm i, e => opB (asName e) fun x => isLoc c i x
  | .tp cs, e => opB (asTup e) fun es => es.all notStar && chkTgs c cs es
def chkTgs (c : CC) : List CT → List Expr → Bool
  | [], [] => true
  | t :: ts, e :: es => chkTg c t e && chkTgs c ts es
  | _, _ => false
end
def notSet : Expr → Bool
  | .Set _ _ _ => false
  | _ => true
theorem notSet_ok {e : Expr} (h : notSet e = true) {env : Env} (x : Value) : foldedSetIterable e env x = pure x := by
  cases e <;> first | rfl | (cases h; done)
/-- the call form around what is walked -/
def iterOf (c : CC) (wb : Option BI) (tg iter : Expr) (k : List Expr → Bool) : Bool := notSet iter && match wb with
  | none => k [iter]
  | some b => opB (asCallN iter) fun p => strEq p.1 (biNm b) && (glb c p.1 && (p.2.2.isEmpty && (p.2.1.all notStar && ((match b with
    | .range => Nat.beq p.2.1.length 1 || Nat.beq p.2.1.length 2
    | .enum => Nat.beq p.2.1.length 1 && (asTup tg).isSome
    | .zip => Nat.beq p.2.1.length 2 && (asTup tg).isSome
    | _ => false) && k p.2.1))))
def ownOf (c : CC) (os : List Nat) : List (Str × Nat) := os.map fun i => ((nth c.N i).getD Str.empty, i)
def blkB (c : CC) (os : List Nat) (sc : Scope) : Bool :=
  (match sc.kind with | .function => true | _ => false) && (os.all (fun i => Nat.blt i c.N.length) && sc.names.all fun y => (match lookupS sc.names y.1 with | some k => decide (k = y.2) | none => false) && (match y.2 with
    | .free => (match lookupS c.sc.names y.1 with | some .cell => true | some .free => true | _ => false)
    | .local => memS ((ownOf c os).map (·.1)) y.1 || !memS c.N y.1
    | .cell => memS ((ownOf c os).map (·.1)) y.1 || !memS c.N y.1
    | _ => true))
/-- keywords by their names -/
def kwB (kpp : CK) : List Nat → List Keyword → Bool
  | [], [] => true
  | k :: ks, w :: ws => opB w.arg (kpp.sy k) && kwB kpp ks ws
  | _, _ => false
def twoN : List Expr → Option (Expr × Str)
  | [x, .Name z _] => some (x, z)
  | _ => none
def isYes : E → Bool
  | .lit (.bl true) => true
  | _ => false
def one {α : Type} (f : Expr → Option α) (xs : List Expr) : Option α := match xs with
  | [x] => f x
  | _ => none
theorem one_ok {α : Type} {f : Expr → Option α} {xs : List Expr} {a : α} (h : one f xs = some a) : ∃ x, xs = [x] ∧ f x = some a := by
  unfold one at h
  split at h
  · exact ⟨_, rfl, h⟩
  · cases h
def isAnd : PySem.BoolOp → Bool
  | .And => true
  | .Or => false
mutual
/-- the form d against op of the expressions (one: the expression itself) -/
def chkE (kpp : CK) (c : CC) (op : PySem.BoolOp) : E → List Expr → Bool
  | .no, e => !e.isEmpty
  | .var i, e => opB (one asName e) fun x => isVar c i x
  | .lit d, e => match d with
    | .int i => opB (one asInt e) fun j => decide (i = j)
    | .bl b => opB (one asBool e) fun j => b == j
    | .non => (one asNone e).isSome
    | .str k => opB (one asStr e) fun x => kpp.sy k x
    | _ => false
  | .con k, e => opB (one asName e) fun x => glb c x && ((nth kpp.G.cons k).isSome && opB (nth kpp.cn k) fun g => kpp.sy g x)
  | .tup es, e => opB (one asTup e) fun xs => xs.all notStar && chkEs kpp c es xs
  | .lst es, e => opB (one asLst e) fun xs => xs.all notStar && chkEs kpp c es xs
  | .dnew _, e => opB (one asDict e) fun p => p.1.isEmpty && p.2.isEmpty
  | .disp r, e => opB (one asDict e) fun p => !p.1.isEmpty && (Nat.ble p.1.length 15 && chkRows kpp r p.1 p.2)
  | .bin o a b, e => opB (one asBin e) fun p => decide (p.2.1 = bo o) && (chkE kpp c .And a [p.1] && chkE kpp c .And b [p.2.2])
  | .neg a, e => opB (one asNeg e) fun x => chkE kpp c .And a [x]
  | .cmp o a b, e => opB (one asCmp1 e) fun p => decide (p.2.1 = co o) && (!behindInMarks (co o) p.2.2 && (chkE kpp c .And a [p.1] && chkE kpp c .And b [p.2.2]))
  | .chain o o' a b d, e => opB (one asCmp2 e) fun p => decide (p.2.1 = co o) && (decide (p.2.2.1 = co o') && (!behindInMarks (co o') p.2.2.2.2 && (chkE kpp c .And a [p.1] && (chkE kpp c .And b [p.2.2.2.1] && chkE kpp c .And d [p.2.2.2.2]))))
  | .and_ a b, e => notIte a && (notIte b && match e with
    | [x] => opB (asBO .And x) fun p => chkE kpp c .And a [p.1] && chkE kpp c .And b (p.2.1 :: p.2.2)
    | x :: y :: r => isAnd op && (chkE kpp c .And a [x] && chkE kpp c .And b (y :: r))
    | [] => false)
  | .or_ a b, e => notIte a && (notIte b && match e with
    | [x] => opB (asBO .Or x) fun p => chkE kpp c .Or a [p.1] && chkE kpp c .Or b (p.2.1 :: p.2.2)
    | x :: y :: r => !isAnd op && (chkE kpp c .Or a [x] && chkE kpp c .Or b (y :: r))
    | [] => false)
  | .not_ a, e => opB (one asNot e) fun x => notIte a && chkE kpp c .And a [x]
  | .ite t a b, e => opB (one asIf e) fun p => notIte t && (chkE kpp c .And t [p.1] && (chkE kpp c .And a [p.2.1] && chkE kpp c .And b [p.2.2]))
  | .fld a f, e => opB (one asAttr e) fun p => kpp.sy f p.2 && (kpp.J.flds.any (Nat.beq f) && (baseOk p.1 && chkE kpp c .And a [p.1]))
  | .ix a i, e => opB (one asSub e) fun p => noSl p.2 && (chkE kpp c .And a [p.1] && chkE kpp c .And i [p.2])
  | .sl a lo hi, e => opB (one asSlice e) fun p => chkE kpp c .And a [p.1] && (chkEs kpp c lo (optL p.2.1) && chkEs kpp c hi (optL p.2.2))
  | .bi b es, e => opB (one asCallN e) fun p => strEq p.1 (biNm b) && (glb c p.1 && (p.2.2.isEmpty && (!p.2.1.isEmpty && (p.2.1.all notStar && chkEs kpp c es p.2.1))))
  | .call f es ks vs, e => opB (one asCallN e) fun p => glb c p.1 && (opB (nth kpp.G.defs f) (fun d => !d.pats.isEmpty) && (opB (nth kpp.J.ds f) (fun di => opB di.gl fun g => kpp.sy g p.1) && (p.2.1.all notStar && (chkEs kpp c es p.2.1 && (kwB kpp ks p.2.2 && chkEs kpp c vs (p.2.2.map (·.value)))))))
  | .new k es ks vs, e => opB (one asCallN e) fun p => glb c p.1 && (kpp.sy k p.1 && ((lkN kpp.G.cls k).isSome && (p.2.1.all notStar && (chkEs kpp c es p.2.1 && (kwB kpp ks p.2.2 && chkEs kpp c vs (p.2.2.map (·.value)))))))
  | .meth a m es, e => opB (one asCallM e) fun p => kpp.sy m p.2.1 && (baseOk p.1 && (p.2.2.2.1.all notStar && (Nat.blt p.2.2.2.1.length 29 && (Nat.beq p.2.2.1.endLine p.2.2.2.2.line && (chkE kpp c .And a [p.1] && chkEs kpp c es p.2.2.2.1)))))
  | .scall _ _ _, _ => false
  | .isi a k, e => opB (one asCallN e) fun p => strEq p.1 "isinstance" && (glb c p.1 && (p.2.2.isEmpty && opB (twoN p.2.1) fun q => notStar q.1 && (glb c q.2 && (kpp.sy k q.2 && ((lkN kpp.G.cls k).isSome && chkE kpp c .And a [q.1])))))
  | .lc os t wb its q x, e => opB (one asLc e) fun p => blkB c os p.2.2.2.2 && ((slotsT t).all (fun j => os.any (Nat.beq j)) && (iterOf c wb p.2.1 p.2.2.1 (fun xs => chkEs kpp c its xs) && (chkTg ⟨c.N, p.2.2.2.2⟩ t p.2.1 && (chkE kpp ⟨c.N, p.2.2.2.2⟩ .And x [p.1] && (match p.2.2.2.1 with
    | [] => isYes q
    | f :: fs => fs.isEmpty && (notIte q && chkE kpp ⟨c.N, p.2.2.2.2⟩ .And q [f]))))))
  | .dc _ os t wb its k x, e => opB (one asDc e) fun p => blkB c os p.2.2.2.2 && ((slotsT t).all (fun j => os.any (Nat.beq j)) && (iterOf c wb p.2.2.1 p.2.2.2.1 (fun xs => chkEs kpp c its xs) && (chkTg ⟨c.N, p.2.2.2.2⟩ t p.2.2.1 && (chkE kpp ⟨c.N, p.2.2.2.2⟩ .And k [p.1] && chkE kpp ⟨c.N, p.2.2.2.2⟩ .And x [p.2.1]))))
def chkEs (kpp : CK) (c : CC) : List E → List Expr → Bool
  | [], [] => true
  | d :: ds, e :: es => chkE kpp c .And d [e] && chkEs kpp c ds es
  | _, _ => false
end
end PD
end Sec18
section Sec19
set_option Elab.async false
set_option linter.all false
set_option maxRecDepth 100000
set_option maxHeartbeats 4000000
/-! PD18: what the check of an expression gives. -/
namespace PD
open PySem PySem.Spec PyProof.Rows L2

structure CkOk (T : Tab) (G : Pg) (J : Inf) (kpp : CK) : Prop where
  syms : kpp.syms = T.syms
  sG : kpp.G = G
  sJ : kpp.J = J
  nodb : ∀ x ∈ T.syms, (x == ("__debug__" : Str)) = false ∧ (x == ("__classdict__" : Str)) = false
  con : ∀ k d g x, nth G.cons k = some d → nth kpp.cn k = some g → T.syms[g]? = some x → ∃ u v, T.mg x = some u ∧ L2.RelV v u ∧ ∀ ρ H, RD T ρ H d v
  blt : ∀ b, T.mg (biNm b) = none
  isi : T.mg "isinstance" = none
section
variable {T : Tab} {G : Pg} {J : Inf} {Ly : Lay} {n : Nat} {c : CC} {W : WX} {X : Cx} {kpp : CK}
theorem CkOk.sy (K0 : CkOk T G J kpp) {k : Nat} {x : Str} (h : kpp.sy k x = true) : T.syms[k]? = some x := by
  have := sameS_ok h
  rw [nth_eq, K0.syms] at this
  exact this
theorem CkOk.db (K0 : CkOk T G J kpp) {k : Nat} {x : Str} (h : kpp.sy k x = true) : (x == ("__debug__" : Str)) = false := (K0.nodb x (List.mem_of_getElem? (K0.sy h))).1
theorem glb_ok (C : Cq T G J Ly n c W X) {x : Str} (h : glb c x = true) : Gl X x := by
  unfold glb at h
  split at h
  · rename_i e
    rw [lookupS_eq] at e
    exact C.kn.gl x e
  · cases h
theorem isVar_ok (C : Cq T G J Ly n c W X) {i : Nat} {x : Str} (h : isVar c i x = true) : X.N[i]? = some x ∧ x ∈ c.N ∧ Vis X.env.scope x := by
  unfold isVar at h
  rw [Bool.and_eq_true] at h
  have e := sameS_ok h.1
  rw [nth_eq] at e
  refine ⟨by rw [C.N]; exact e, List.mem_of_getElem? e, ?_⟩
  have h2 := h.2
  split at h2
  · rename_i q; rw [lookupS_eq] at q; exact .inl (C.kn.lo x q)
  · rename_i q; rw [lookupS_eq] at q; exact .inr (.inl (C.kn.ce x q).1)
  · rename_i q; rw [lookupS_eq] at q; exact (C.kn.fr x q).elim (fun z => .inr (.inl z)) fun z => .inr (.inr z)
  · cases h2
theorem isLoc_ok (C : Cq T G J Ly n c W X) {i : Nat} {x : Str} (h : isLoc c i x = true) : X.N[i]? = some x ∧ x ∈ c.N ∧ Loc X.env.scope x ∧ (X.fn x = true ∨ X.env.scope.names.lookup x = some .local) := by
  unfold isLoc at h
  rw [Bool.and_eq_true] at h
  have e := sameS_ok h.1
  rw [nth_eq] at e
  refine ⟨by rw [C.N]; exact e, List.mem_of_getElem? e, ?_⟩
  have h2 := h.2
  split at h2
  · rename_i q; rw [lookupS_eq] at q; exact ⟨.inl (C.kn.lo x q), .inr (C.kn.lo x q)⟩
  · rename_i q; rw [lookupS_eq] at q; exact ⟨.inr (C.kn.ce x q).1, .inl (C.kn.ce x q).2⟩
  · cases h2

/-! ### lists of expressions -/
inductive Es (T : Tab) (W : WX) (X : Cx) (G : Pg) (call : Call) : List E → List Expr → Prop
  | nil : Es T W X G call [] []
  | cons {d : E} {ds : List E} {e : Expr} {es : List Expr} : PE X e (DE T W (evE G call d)) → Es T W X G call ds es → Es T W X G call (d :: ds) (e :: es)
variable {call : Call}
theorem Es.len : ∀ {ds : List E} {es : List Expr}, Es T W X G call ds es → es.length = ds.length
  | _, _, .nil => rfl
  | _, _, .cons _ t => by simp [Es.len t]
theorem Es.pa : ∀ {ds : List E} {es : List Expr}, Es T W X G call ds es → es.all notStar = true → PA X es (DA T W (evEs G call ds))
  | _, _, .nil, _ => snd_nil
  | _, _, .cons h t, hs => by
    rw [List.all_cons, Bool.and_eq_true] at hs
    exact snd_cons h (t.pa hs.2) (star_ne hs.1)
theorem Es.pk : ∀ {ds : List E} {kws : List Keyword}, Es T W X G call ds (kws.map (·.value)) → PK X kws (DA T W (evEs G call ds))
  | ds, [], h => by cases h; exact snd_knil
  | ds, ⟨a, v, p⟩ :: r, h => by
    cases h with
    | cons h t => exact snd_kcons h (Es.pk t)
theorem kw_ok (K0 : CkOk T G J kpp) : ∀ {ks : List Nat} {kws : List Keyword}, kwB kpp ks kws = true → ∃ kn, kwNames kws = some kn ∧ kwOk T ks kn ∧ ks.length = kws.length
  | [], [], _ => ⟨[], rfl, ⟨rfl, by simp⟩, rfl⟩
  | [], _ :: _, h => by cases h
  | _ :: _, [], h => by cases h
  | k :: ks, ⟨a, v, p⟩ :: r, h => by
    have h : (opB a (kpp.sy k) && kwB kpp ks r) = true := h
    rw [Bool.and_eq_true] at h
    obtain ⟨x, rfl, hx⟩ := opB_ok h.1
    obtain ⟨kn, e1, ⟨e2, e3⟩, e4⟩ := kw_ok K0 h.2
    refine ⟨x :: kn, by unfold kwNames; rw [e1]; rfl, ⟨by simp [e2], fun i k' hi => ?_⟩, by simp [e4]⟩
    cases i with
    | zero => simp at hi; subst hi; exact ⟨x, K0.sy hx, rfl⟩
    | succ i => simp at hi; simpa using e3 i k' hi

/-! ### targets -/
mutual
theorem chkTg_ok (C : Cq T G J Ly n c W X) : ∀ (t : CT) (e : Expr), chkTg c t e = true → PG X e (DG T t)
  | .nm i, e, h => by
    unfold chkTg at h
    obtain ⟨x, e1, h1⟩ := opB_ok h
    obtain ⟨p, rfl⟩ := asName_ok e1
    obtain ⟨q1, _, q2, q3⟩ := isLoc_ok C h1
    exact snd_gnm C.nd q1 q2 q3
  | .tp cs, e, h => by
    unfold chkTg at h
    obtain ⟨es, e1, h1⟩ := opB_ok h
    obtain ⟨j, p, rfl⟩ := asTup_ok e1
    rw [Bool.and_eq_true] at h1
    obtain ⟨q, l⟩ := chkTgs_ok C cs es h1.2 h1.1
    exact snd_gtp C h1.1 l q
theorem chkTgs_ok (C : Cq T G J Ly n c W X) : ∀ (ts : List CT) (es : List Expr), chkTgs c ts es = true → es.all notStar = true → PGs X es (DGs T ts) ∧ es.length = ts.length
  | [], [], _, _ => ⟨snd_gnil, rfl⟩
  | [], _ :: _, h, _ => by unfold chkTgs at h; cases h
  | _ :: _, [], h, _ => by unfold chkTgs at h; cases h
  | t :: ts, e :: es, h, hs => by
    unfold chkTgs at h
    rw [Bool.and_eq_true] at h
    rw [List.all_cons, Bool.and_eq_true] at hs
    obtain ⟨q, l⟩ := chkTgs_ok C ts es h.2 hs.2
    exact ⟨snd_gcons hs.1 (chkTg_ok C t e h.1) q, by simp [l]⟩
end
theorem iter_ok (K0 : CkOk T G J kpp) (C : Cq T G J Ly n c W X) {wb : Option BI} {tg iter : Expr} {its : List E} {k : List Expr → Bool} (hk : ∀ xs, k xs = true → Es T W X G call its xs) (h : iterOf c wb tg iter k = true) :
    PI X tg iter (DIt T W (evEs G call its) wb) ∧ ∀ x, foldedSetIterable iter X.env x = pure x := by
  unfold iterOf at h
  rw [Bool.and_eq_true] at h
  refine ⟨?_, notSet_ok h.1⟩
  have h := h.2
  cases wb with
  | none =>
    have q := hk [iter] h
    cases q with
    | cons h1 t => cases t; exact snd_pi0 C h1
  | some b =>
    obtain ⟨p, e1, h1⟩ := opB_ok h
    obtain ⟨p1, p2, rfl⟩ := asCallN_ok e1
    obtain ⟨x, es, kws⟩ := p
    simp only [Bool.and_eq_true] at h1
    obtain ⟨a1, a2, a3, a4, a5, a6⟩ := h1
    have a1 := strEq_ok a1
    subst a1
    have hg := glb_ok C a2
    have hm : X.mg (biNm b) = none := by rw [C.mg]; exact K0.blt b
    have a3 : kws = [] := List.isEmpty_iff.mp a3
    subst a3
    have q := hk es a6
    have qa := q.pa a4
    cases b <;> first | (cases a5; done) | skip
    · -- range
      rw [Bool.or_eq_true] at a5
      rcases a5 with a5 | a5
      · have a5 := Nat.eq_of_beq_eq_true a5
        cases q with
        | nil => cases a5
        | cons h1 t => cases t with
          | cons _ _ => simp at a5
          | nil =>
            simp only [List.all_cons, Bool.and_eq_true] at a4
            exact snd_pir1 hg hm a4.1 qa
      · have a5 := Nat.eq_of_beq_eq_true a5
        cases q with
        | nil => cases a5
        | cons h1 t => cases t with
          | nil => cases a5
          | cons h2 t => cases t with
            | cons _ _ => simp at a5
            | nil =>
              simp only [List.all_cons, Bool.and_eq_true] at a4
              exact snd_pir2 hg hm a4.1 a4.2.1 qa
    · -- enumerate
      rw [Bool.and_eq_true] at a5
      obtain ⟨tes, et⟩ := Option.isSome_iff_exists.mp a5.2
      obtain ⟨jj, pp, rfl⟩ := asTup_ok et
      have a5 := Nat.eq_of_beq_eq_true a5.1
      cases q with
      | nil => cases a5
      | cons h1 t => cases t with
        | cons _ _ => simp at a5
        | nil =>
          simp only [List.all_cons, Bool.and_eq_true] at a4
          exact snd_pie C hg hm a4.1 qa
    · rw [Bool.and_eq_true] at a5
      obtain ⟨tes, et⟩ := Option.isSome_iff_exists.mp a5.2
      obtain ⟨jj, pp, rfl⟩ := asTup_ok et
      have a5 := Nat.eq_of_beq_eq_true a5.1
      cases q with
      | nil => cases a5
      | cons h1 t => cases t with
        | nil => cases a5
        | cons h2 t => cases t with
          | cons _ _ => simp at a5
          | nil =>
            simp only [List.all_cons, Bool.and_eq_true] at a4
            exact snd_piz C hg hm a4.1 a4.2.1 qa
/-- written dicts -/
theorem cv_ok (K0 : CkOk T G J kpp) {d : D} {e : Expr} (h : chkCV kpp d e = true) : ∃ v, PE X e (tC v) ∧ CV T d v := by
  unfold chkCV at h
  split at h
  · obtain ⟨j, e1, h1⟩ := opB_ok h
    obtain ⟨a, b, rfl⟩ := asInt_ok e1
    have := of_decide_eq_true h1
    subst this
    exact ⟨_, pe_int, .int _⟩
  · obtain ⟨x, e1, h1⟩ := opB_ok h
    obtain ⟨a, b, rfl⟩ := asStr_ok e1
    exact ⟨_, pe_str, .str (K0.sy h1)⟩
  · cases h
theorem rows_ok (K0 : CkOk T G J kpp) : ∀ {r : List (D × D)} {ks : List (Option Expr)} {vs : List Expr}, chkRows kpp r ks vs = true → ∃ t, DRows X T ks vs r t
  | [], [], [], _ => ⟨[], .nil⟩
  | (d, f) :: r, some k :: ks, v :: vs, h => by
    unfold chkRows at h
    simp only [Bool.and_eq_true] at h
    obtain ⟨a, p1, c1⟩ := cv_ok (X := X) K0 h.1
    obtain ⟨b, p2, c2⟩ := cv_ok (X := X) K0 h.2.1
    obtain ⟨t, q⟩ := rows_ok K0 h.2.2
    exact ⟨_, .cons p1 p2 c1 c2 q⟩
  | [], [], _ :: _, h => by simp [chkRows] at h
  | [], _ :: _, _, h => by simp [chkRows] at h
  | (_, _) :: _, [], _, h => by simp [chkRows] at h
  | (_, _) :: _, none :: _, _, h => by simp [chkRows] at h
  | (_, _) :: _, some _ :: _, [], h => by simp [chkRows] at h

/-! ### a block's names -/
theorem own_map {c : CC} {os : List Nat} : (ownOf c os).map (·.2) = os := by
  unfold ownOf
  rw [List.map_map]
  exact List.map_id _
theorem blk_ok (C : Cq T G J Ly n c W X) {os : List Nat} {sc : Scope} (h : blkB c os sc = true) : sc.kind = .function ∧ BlkOk X.N X.env.scope sc (ownOf c os) := by
  unfold blkB at h
  simp only [Bool.and_eq_true] at h
  obtain ⟨h1, ⟨h2, h3⟩⟩ := h
  have hk : sc.kind = .function := by
    cases e : sc.kind <;> rw [e] at h1 <;> first | rfl | (cases h1; done)
  have key := List.all_eq_true.mp h3
  refine ⟨hk, hk, fun y hy => ?_, fun p hp => ?_, fun y hy e => ?_, fun y hy e => ?_⟩
  · have := key y hy
    rw [Bool.and_eq_true] at this
    have h1 := this.1
    split at h1
    · rename_i k q
      rw [lookupS_eq] at q
      rw [q, of_decide_eq_true h1]
    · cases h1
  · unfold ownOf at hp
    obtain ⟨i, hi, rfl⟩ := List.mem_map.mp hp
    have hl := Nat.le_of_ble_eq_true (List.all_eq_true.mp h2 i hi)
    rw [C.N]
    show c.N[i]? = some ((nth c.N i).getD Str.empty)
    rw [nth_eq]
    have hl : i < c.N.length := hl
    rw [List.getElem?_eq_getElem hl]
    rfl
  · have := key y hy
    rw [Bool.and_eq_true, e] at this
    have h1 := this.2
    dsimp only at h1
    split at h1
    · rename_i q; rw [lookupS_eq] at q; exact .inl (C.kn.ce _ q).1
    · rename_i q; rw [lookupS_eq] at q; exact C.kn.fr _ q
    · cases h1
  · have := key y hy
    rw [Bool.and_eq_true] at this
    have h1 := this.2
    have fin : (memS ((ownOf c os).map (·.1)) y.1 || !memS c.N y.1) = true → y.1 ∈ (ownOf c os).map (·.1) ∨ y.1 ∉ X.N := fun z => by
      rw [Bool.or_eq_true] at z
      rcases z with z | z
      · exact .inl (memS_ok z)
      · refine .inr ?_
        rw [C.N]
        refine memS_no ?_
        cases q : memS c.N y.1 with
        | false => rfl
        | true => rw [q] at z; cases z
    rcases e with e | e <;> rw [e] at h1 <;> exact fin h1

/-! ### expressions -/
/-- what an expression's check brings -/
def Res (T : Tab) (W : WX) (X : Cx) (G : Pg) (call : Call) (op : PySem.BoolOp) (d : E) (e : List Expr) : Prop :=
  (∀ pos, PE X (.BoolOp op e pos) (DE T W (evE G call d)) ∧ (notIte d = true → PW X (.BoolOp op e pos) (DT T W (evE G call d)))) ∧
  ∀ x, e = [x] → PE X x (DE T W (evE G call d)) ∧ (notIte d = true → PT X x (DT T W (evE G call d)))
theorem Res.of {d : E} {x : Expr} {op : PySem.BoolOp} (h : PE X x (DE T W (evE G call d))) (ht : notIte d = true → PT X x (DT T W (evE G call d))) : Res T W X G call op d [x] := by
  refine ⟨fun pos => ⟨pe_one h, fun hn => ?_⟩, fun y e => by cases e; exact ⟨h, ht⟩⟩
  cases op with
  | And => exact pw_and1 (ht hn)
  | Or => exact pw_or1 (ht hn)
theorem Res.val {d : E} {x : Expr} {op : PySem.BoolOp} (h : PE X x (DE T W (evE G call d))) (he : ∀ whole, isTrue x X.env whole = (do let v ← whole; standAt x.pos; holding [v] (truthy v))) : Res T W X G call op d [x] :=
  .of h fun _ => snd_val h he
theorem Res.pe {d : E} {x : Expr} {op : PySem.BoolOp} (r : Res T W X G call op d [x]) : PE X x (DE T W (evE G call d)) := (r.2 x rfl).1
theorem Res.pt {d : E} {x : Expr} {op : PySem.BoolOp} (r : Res T W X G call op d [x]) (h : notIte d = true) : PT X x (DT T W (evE G call d)) := (r.2 x rfl).2 h
/-- no statement's expression: anything, never come to -/
theorem Res.no {op : PySem.BoolOp} {e : List Expr} : Res T W X G call op .no e := by
  have pt : ∀ {x : Expr}, PT X x (DT T W (evE G call .no)) := ⟨fun pins s σ H D I ⟨ρ, S, fr, sm, r, h⟩ => by unfold evE at h; exact h.elim⟩
  have pw : ∀ {x : Expr}, PW X x (DT T W (evE G call .no)) := ⟨fun wh pins s σ H D I ⟨ρ, S, fr, sm, r, h⟩ => by unfold evE at h; exact h.elim⟩
  exact ⟨fun pos => ⟨snd_Eno, fun _ => pw⟩, fun x _ => ⟨snd_Eno, fun _ => pt⟩⟩

variable {n : Nat}
mutual
theorem chkE_ok (K0 : CkOk T G J kpp) : ∀ (d : E) (c : CC) (op : PySem.BoolOp) (e : List Expr), chkE kpp c op d e = true → (∀ x ∈ c.N, x ∈ T.syms) → ∀ {W : WX} {X : Cx}, Cq T G J Ly n c W X → Res T W X G (callN G n) op d e
  | .no, c, op, e, h, hN, W, X, C => .no
  | .var i, c, op, e, h, hN, W, X, C => by
    unfold chkE at h
    obtain ⟨x, e1, h1⟩ := opB_ok h
    obtain ⟨e0, rfl, e1⟩ := one_ok e1
    obtain ⟨p, rfl⟩ := asName_ok e1
    obtain ⟨q1, q2, q3⟩ := isVar_ok C h1
    obtain ⟨d1, d2⟩ := K0.nodb x (hN x q2)
    exact .val (snd_var q1 q3 d1 d2) fun _ => rfl
  | .lit d, c, op, e, h, hN, W, X, C => by
    unfold chkE at h
    cases d <;> first | (cases h; done) | skip
    · obtain ⟨u, hu⟩ := Option.isSome_iff_exists.mp h
      obtain ⟨e0, rfl, e1⟩ := one_ok hu
      obtain ⟨j, p, rfl⟩ := asNone_ok e1
      exact .val snd_non fun _ => rfl
    · obtain ⟨x, e1, h1⟩ := opB_ok h
      obtain ⟨e0, rfl, e1⟩ := one_ok e1
      obtain ⟨j, p, rfl⟩ := asBool_ok e1
      have := eq_of_beq h1
      subst this
      exact .val snd_bl fun _ => rfl
    · obtain ⟨x, e1, h1⟩ := opB_ok h
      obtain ⟨e0, rfl, e1⟩ := one_ok e1
      obtain ⟨j, p, rfl⟩ := asInt_ok e1
      have := of_decide_eq_true h1
      subst this
      exact .val snd_int fun _ => rfl
    · obtain ⟨x, e1, h1⟩ := opB_ok h
      obtain ⟨e0, rfl, e1⟩ := one_ok e1
      obtain ⟨j, p, rfl⟩ := asStr_ok e1
      exact .val (snd_str (K0.sy h1)) fun _ => rfl
  | .con k, c, op, e, h, hN, W, X, C => by
    unfold chkE at h
    obtain ⟨x, e1, h1⟩ := opB_ok h
    obtain ⟨e0, rfl, e1⟩ := one_ok e1
    obtain ⟨p, rfl⟩ := asName_ok e1
    simp only [Bool.and_eq_true] at h1
    obtain ⟨a1, a2, a3⟩ := h1
    obtain ⟨dd, ed⟩ := Option.isSome_iff_exists.mp a2
    obtain ⟨g, eg, a3⟩ := opB_ok a3
    rw [K0.sG] at ed
    obtain ⟨u, v, q1, q2, q3⟩ := K0.con k dd g x ed eg (K0.sy a3)
    exact .val (snd_con (glb_ok C a1) (by rw [C.mg]; exact q1) q2 (K0.db a3) ed q3) fun _ => rfl
  | .tup es, c, op, e, h, hN, W, X, C => by
    unfold chkE at h
    obtain ⟨x, e1, h1⟩ := opB_ok h
    obtain ⟨e0, rfl, e1⟩ := one_ok e1
    obtain ⟨j, p, rfl⟩ := asTup_ok e1
    rw [Bool.and_eq_true] at h1
    exact .val (snd_tup ((chkEs_ok K0 es c x h1.2 hN C).pa h1.1)) fun _ => rfl
  | .lst es, c, op, e, h, hN, W, X, C => by
    unfold chkE at h
    obtain ⟨x, e1, h1⟩ := opB_ok h
    obtain ⟨e0, rfl, e1⟩ := one_ok e1
    obtain ⟨p, rfl⟩ := asLst_ok e1
    rw [Bool.and_eq_true] at h1
    exact .val (snd_lst ((chkEs_ok K0 es c x h1.2 hN C).pa h1.1)) fun _ => rfl
  | .dnew t, c, op, e, h, hN, W, X, C => by
    unfold chkE at h
    obtain ⟨x, e1, h1⟩ := opB_ok h
    obtain ⟨e0, rfl, e1⟩ := one_ok e1
    obtain ⟨p, rfl⟩ := asDict_ok e1
    rw [Bool.and_eq_true] at h1
    obtain ⟨k, v⟩ := x
    have a1 : k = [] := List.isEmpty_iff.mp h1.1
    have a2 : v = [] := List.isEmpty_iff.mp h1.2
    subst a1 a2
    exact .val snd_dnew fun _ => rfl
  | .disp r, c, op, e, h, hN, W, X, C => by
    unfold chkE at h
    obtain ⟨x, e1, h1⟩ := opB_ok h
    obtain ⟨e0, rfl, e1⟩ := one_ok e1
    obtain ⟨p, rfl⟩ := asDict_ok e1
    simp only [Bool.and_eq_true] at h1
    obtain ⟨a1, a2, a3⟩ := h1
    obtain ⟨t, q⟩ := rows_ok (X := X) K0 a3
    exact .val (snd_disp q (fun z => by rw [z] at a1; cases a1) (Nat.le_of_ble_eq_true a2)) fun _ => rfl
  | .bin o a b, c, op, e, h, hN, W, X, C => by
    unfold chkE at h
    obtain ⟨x, e1, h1⟩ := opB_ok h
    obtain ⟨e0, rfl, e1⟩ := one_ok e1
    obtain ⟨p, rfl⟩ := asBin_ok e1
    simp only [Bool.and_eq_true] at h1
    obtain ⟨a1, a2, a3⟩ := h1
    rw [of_decide_eq_true a1]
    exact .val (snd_bin C.K (chkE_ok K0 a c .And [x.1] a2 hN C).pe (chkE_ok K0 b c .And [x.2.2] a3 hN C).pe) fun _ => rfl
  | .neg a, c, op, e, h, hN, W, X, C => by
    unfold chkE at h
    obtain ⟨x, e1, h1⟩ := opB_ok h
    obtain ⟨e0, rfl, e1⟩ := one_ok e1
    obtain ⟨p, rfl⟩ := asNeg_ok e1
    exact .val (snd_neg (chkE_ok K0 a c .And [x] h1 hN C).pe) fun _ => rfl
  | .cmp o a b, c, op, e, h, hN, W, X, C => by
    unfold chkE at h
    obtain ⟨x, e1, h1⟩ := opB_ok h
    obtain ⟨e0, rfl, e1⟩ := one_ok e1
    obtain ⟨p, rfl⟩ := asCmp1_ok e1
    simp only [Bool.and_eq_true] at h1
    obtain ⟨a1, a2, a3, a4⟩ := h1
    rw [of_decide_eq_true a1]
    have hm : behindInMarks (co o) x.2.2 = false := by simpa using a2
    have p1 := (chkE_ok K0 a c .And [x.1] a3 hN C).pe
    have p2 := (chkE_ok K0 b c .And [x.2.2] a4 hN C).pe
    exact .of (snd_cmp C.K C.hu hm p1 p2) fun _ => snd_cmpT C.K C.hu hm p1 p2
  | .chain o o' a b d, c, op, e, h, hN, W, X, C => by
    unfold chkE at h
    obtain ⟨x, e1, h1⟩ := opB_ok h
    obtain ⟨e0, rfl, e1⟩ := one_ok e1
    obtain ⟨p, rfl⟩ := asCmp2_ok e1
    simp only [Bool.and_eq_true] at h1
    obtain ⟨a1, a2, a3, a4, a5, a6⟩ := h1
    rw [of_decide_eq_true a1, of_decide_eq_true a2]
    have hm : behindInMarks (co o') x.2.2.2.2 = false := by simpa using a3
    have p1 := (chkE_ok K0 a c .And [x.1] a4 hN C).pe
    have p2 := (chkE_ok K0 b c .And [x.2.2.2.1] a5 hN C).pe
    have p3 := (chkE_ok K0 d c .And [x.2.2.2.2] a6 hN C).pe
    exact .of (snd_chain C hm p1 p2 p3) fun _ => snd_chainT C hm p1 p2 p3
  | .and_ a b, c, op, e, h, hN, W, X, C => by
    unfold chkE at h
    simp only [Bool.and_eq_true] at h
    obtain ⟨n1, n2, h⟩ := h
    split at h
    · obtain ⟨p, e1, h1⟩ := opB_ok h
      obtain ⟨pp, rfl⟩ := asBO_ok e1
      rw [Bool.and_eq_true] at h1
      have r1 := chkE_ok K0 a c .And [p.1] h1.1 hN C
      have r2 := chkE_ok K0 b c .And (p.2.1 :: p.2.2) h1.2 hN C
      exact .of (snd_andV r1.pe (r2.1 pp).1) fun _ => (snd_andT (r1.pt n1) ((r2.1 pp).2 n2)).pt
    · simp only [Bool.and_eq_true] at h
      rename_i x y r
      obtain ⟨a1, a2, a3⟩ := h
      cases op with
      | Or => cases a1
      | And =>
        have r1 := chkE_ok K0 a c .And [x] a2 hN C
        have r2 := chkE_ok K0 b c .And (y :: r) a3 hN C
        exact ⟨fun pos => ⟨snd_andV r1.pe (r2.1 pos).1, fun _ => snd_andT (r1.pt n1) ((r2.1 pos).2 n2)⟩, fun x e => by cases e⟩
    · cases h
  | .or_ a b, c, op, e, h, hN, W, X, C => by
    unfold chkE at h
    simp only [Bool.and_eq_true] at h
    obtain ⟨n1, n2, h⟩ := h
    split at h
    · obtain ⟨p, e1, h1⟩ := opB_ok h
      obtain ⟨pp, rfl⟩ := asBO_ok e1
      rw [Bool.and_eq_true] at h1
      have r1 := chkE_ok K0 a c .Or [p.1] h1.1 hN C
      have r2 := chkE_ok K0 b c .Or (p.2.1 :: p.2.2) h1.2 hN C
      exact .of (snd_orV r1.pe (r2.1 pp).1) fun _ => (snd_orT (r1.pt n1) ((r2.1 pp).2 n2)).pt
    · simp only [Bool.and_eq_true] at h
      rename_i x y r
      obtain ⟨a1, a2, a3⟩ := h
      cases op with
      | And => cases a1
      | Or =>
        have r1 := chkE_ok K0 a c .Or [x] a2 hN C
        have r2 := chkE_ok K0 b c .Or (y :: r) a3 hN C
        exact ⟨fun pos => ⟨snd_orV r1.pe (r2.1 pos).1, fun _ => snd_orT (r1.pt n1) ((r2.1 pos).2 n2)⟩, fun x e => by cases e⟩
    · cases h
  | .not_ a, c, op, e, h, hN, W, X, C => by
    unfold chkE at h
    obtain ⟨x, e1, h1⟩ := opB_ok h
    obtain ⟨e0, rfl, e1⟩ := one_ok e1
    obtain ⟨p, rfl⟩ := asNot_ok e1
    rw [Bool.and_eq_true] at h1
    have r := chkE_ok K0 a c .And [x] h1.2 hN C
    exact .of (snd_notV r.pe) fun _ => snd_notT (r.pt h1.1)
  | .ite t a b, c, op, e, h, hN, W, X, C => by
    unfold chkE at h
    obtain ⟨x, e1, h1⟩ := opB_ok h
    obtain ⟨e0, rfl, e1⟩ := one_ok e1
    obtain ⟨p, rfl⟩ := asIf_ok e1
    simp only [Bool.and_eq_true] at h1
    obtain ⟨a1, a2, a3, a4⟩ := h1
    exact .of (snd_ite ((chkE_ok K0 t c .And [x.1] a2 hN C).pt a1) (chkE_ok K0 a c .And [x.2.1] a3 hN C).pe (chkE_ok K0 b c .And [x.2.2] a4 hN C).pe) fun z => by cases z
  | .fld a f, c, op, e, h, hN, W, X, C => by
    unfold chkE at h
    obtain ⟨x, e1, h1⟩ := opB_ok h
    obtain ⟨e0, rfl, e1⟩ := one_ok e1
    obtain ⟨p, rfl⟩ := asAttr_ok e1
    simp only [Bool.and_eq_true] at h1
    obtain ⟨a1, a2, a3, a4⟩ := h1
    have hf : f ∈ J.flds := by
      obtain ⟨y, hy, e⟩ := List.any_eq_true.mp a2
      rw [Nat.eq_of_beq_eq_true e, ← K0.sJ]; exact hy
    exact .val (snd_fld C (K0.sy a1) hf a3 (chkE_ok K0 a c .And [x.1] a4 hN C).pe) fun _ => rfl
  | .ix a i, c, op, e, h, hN, W, X, C => by
    unfold chkE at h
    obtain ⟨x, e1, h1⟩ := opB_ok h
    obtain ⟨e0, rfl, e1⟩ := one_ok e1
    obtain ⟨p, rfl⟩ := asSub_ok e1
    simp only [Bool.and_eq_true] at h1
    obtain ⟨a1, a2, a3⟩ := h1
    exact .val (snd_ix C a1 (chkE_ok K0 a c .And [x.1] a2 hN C).pe (chkE_ok K0 i c .And [x.2] a3 hN C).pe) fun _ => rfl
  | .sl a lo hi, c, op, e, h, hN, W, X, C => by
    unfold chkE at h
    obtain ⟨x, e1, h1⟩ := opB_ok h
    obtain ⟨e0, rfl, e1⟩ := one_ok e1
    obtain ⟨p, q, rfl⟩ := asSlice_ok e1
    simp only [Bool.and_eq_true] at h1
    obtain ⟨a1, a2, a3⟩ := h1
    have part : ∀ {o : Option Expr} {ds : List E}, Es T W X G (callN G n) ds (optL o) → PO X o (DO T W fun fr s => partR (evEs G (callN G n) ds fr s)) := by
      intro o ds q
      cases o with
      | none => cases q; exact snd_po0
      | some e =>
        cases q with
        | cons h1 t => cases t; exact snd_po1 h1
    exact .val (snd_sl C (chkE_ok K0 a c .And [x.1] a1 hN C).pe (part (chkEs_ok K0 lo c _ a2 hN C)) (part (chkEs_ok K0 hi c _ a3 hN C))) fun _ => rfl
  | .bi b es, c, op, e, h, hN, W, X, C => by
    unfold chkE at h
    obtain ⟨x, e1, h1⟩ := opB_ok h
    obtain ⟨e0, rfl, e1⟩ := one_ok e1
    obtain ⟨p, q, rfl⟩ := asCallN_ok e1
    obtain ⟨nm, xs, kws⟩ := x
    simp only [Bool.and_eq_true] at h1
    obtain ⟨a1, a2, a3, a4, a5, a6⟩ := h1
    have a1 := strEq_ok a1
    subst a1
    have a3 : kws = [] := List.isEmpty_iff.mp a3
    subst a3
    cases xs with
    | nil => cases a4
    | cons y ys => exact .val (snd_bi C (glb_ok C a2) (by rw [C.mg]; exact K0.blt b) a5 ((chkEs_ok K0 es c _ a6 hN C).pa a5)) fun _ => rfl
  | .call f es ks vs, c, op, e, h, hN, W, X, C => by
    unfold chkE at h
    obtain ⟨x, e1, h1⟩ := opB_ok h
    obtain ⟨e0, rfl, e1⟩ := one_ok e1
    obtain ⟨p, q, rfl⟩ := asCallN_ok e1
    obtain ⟨nm, xs, kws⟩ := x
    simp only [Bool.and_eq_true] at h1
    obtain ⟨a1, a2, a3, a4, a5, a6, a7⟩ := h1
    rw [K0.sG] at a2
    rw [K0.sJ] at a3
    obtain ⟨d, ed, a2⟩ := opB_ok a2
    obtain ⟨di, edi, a3⟩ := opB_ok a3
    obtain ⟨g, eg, a3⟩ := opB_ok a3
    obtain ⟨kn, k1, k2, k3⟩ := kw_ok K0 a6
    have q1 := chkEs_ok K0 es c _ a5 hN C
    have q2 := chkEs_ok K0 vs c _ a7 hN C
    exact .val (snd_call C ed (by simpa using a2) edi eg (K0.sy a3) (glb_ok C a1) (K0.db a3) a4 k1 k2 q1.len (by have := q2.len; simpa using this) (q1.pa a4) q2.pk (by rw [k3]; have := q2.len; simpa using this)) fun _ => rfl
  | .new k es ks vs, c, op, e, h, hN, W, X, C => by
    unfold chkE at h
    obtain ⟨x, e1, h1⟩ := opB_ok h
    obtain ⟨e0, rfl, e1⟩ := one_ok e1
    obtain ⟨p, q, rfl⟩ := asCallN_ok e1
    obtain ⟨nm, xs, kws⟩ := x
    simp only [Bool.and_eq_true] at h1
    obtain ⟨a1, a2, a3, a4, a5, a6, a7⟩ := h1
    rw [K0.sG] at a3
    obtain ⟨kc, ekc⟩ := Option.isSome_iff_exists.mp a3
    obtain ⟨kn, k1, k2, k3⟩ := kw_ok K0 a6
    have q1 := chkEs_ok K0 es c _ a5 hN C
    have q2 := chkEs_ok K0 vs c _ a7 hN C
    exact .val (snd_new C ekc (K0.sy a2) (glb_ok C a1) (K0.db a2) a4 k1 k2 q1.len (by have := q2.len; simpa using this) (q1.pa a4) q2.pk (by rw [k3]; have := q2.len; simpa using this)) fun _ => rfl
  | .meth a m es, c, op, e, h, hN, W, X, C => by
    unfold chkE at h
    obtain ⟨x, e1, h1⟩ := opB_ok h
    obtain ⟨e0, rfl, e1⟩ := one_ok e1
    have e1 := asCallM_ok e1
    subst e1
    simp only [Bool.and_eq_true] at h1
    obtain ⟨a1, a2, a3, a4, a5, a6, a7⟩ := h1
    have q1 := chkEs_ok K0 es c _ a7 hN C
    have hl : (x.2.2.1.endLine == x.2.2.2.2.line) = true := by rw [Nat.eq_of_beq_eq_true a5]; simp
    exact .val (snd_meth C (K0.sy a1) a2 a3 (Nat.le_of_ble_eq_true a4) hl q1.len (chkE_ok K0 a c .And [x.1] a6 hN C).pe (q1.pa a3)) fun _ => rfl
  | .scall d f es, c, op, e, h, hN, W, X, C => by unfold chkE at h; cases h
  | .isi a k, c, op, e, h, hN, W, X, C => by
    unfold chkE at h
    obtain ⟨x, e1, h1⟩ := opB_ok h
    obtain ⟨e0, rfl, e1⟩ := one_ok e1
    obtain ⟨p, q, rfl⟩ := asCallN_ok e1
    obtain ⟨nm, xs, kws⟩ := x
    simp only [Bool.and_eq_true] at h1
    obtain ⟨a1, a2, a3, a4⟩ := h1
    have a1 := strEq_ok a1
    have a1 : nm = ("isinstance" : Str) := a1
    subst a1
    have a3 : kws = [] := List.isEmpty_iff.mp a3
    subst a3
    obtain ⟨y, ey, a4⟩ := opB_ok a4
    simp only [Bool.and_eq_true] at a4
    obtain ⟨b1, b2, b3, b4, b5⟩ := a4
    have : ∃ pp, xs = [y.1, .Name y.2 pp] := by
      unfold twoN at ey
      split at ey <;> cases ey
      exact ⟨_, rfl⟩
    obtain ⟨pp, rfl⟩ := this
    rw [K0.sG] at b4
    obtain ⟨kc, ekc⟩ := Option.isSome_iff_exists.mp b4
    exact .val (snd_isi C ekc (K0.sy b3) (glb_ok C b2) (K0.db b3) (glb_ok C a2) (by rw [C.mg]; exact K0.isi) b1 (chkE_ok K0 a c .And [y.1] b5 hN C).pe) fun _ => rfl
  | .lc os t wb its q x, c, op, e, h, hN, W, X, C => by
    unfold chkE at h
    obtain ⟨p, e1, h1⟩ := opB_ok h
    obtain ⟨e0, rfl, e1⟩ := one_ok e1
    obtain ⟨pp, rfl⟩ := asLc_ok e1
    simp only [Bool.and_eq_true] at h1
    obtain ⟨a1, a2, a3, a4, a5, a6⟩ := h1
    obtain ⟨hk, ok⟩ := blk_ok C a1
    obtain ⟨pi, hs⟩ := iter_ok K0 C (fun xs hx => chkEs_ok K0 its c xs hx hN C) a3
    have hsub : ∀ j ∈ slotsT t, j ∈ (ownOf c os).map (·.2) := fun j hj => by
      rw [own_map]
      obtain ⟨y, hy, e⟩ := List.any_eq_true.mp (List.all_eq_true.mp a2 j hj)
      rw [Nat.eq_of_beq_eq_true e]; exact hy
    have B : Blk X p.2.2.2.2 (ownOf c os) p.2.1 p.2.2.2.1 [(p.1, x)] t q T G (callN G n) := {
      ok := ok
      tg_ := fun s H Ca cl fp => chkTg_ok (blk_cq C hk) t _ a4
      ifs_ := fun s H Ca cl fp => by
        have Cb := blk_cq (Ca := Ca) (cl := cl) (fp := fp) (s := s) (H := H) C hk
        split at a6
        · have : q = .lit (.bl true) := by
            unfold isYes at a6
            split at a6
            · rfl
            · cases a6
          subst this
          rename_i ef
          rw [ef]
          exact snd_ifs0
        · rename_i f fs ef
          simp only [Bool.and_eq_true] at a6
          have : fs = [] := List.isEmpty_iff.mp a6.1
          subst this
          rw [ef]
          exact pts_one ((chkE_ok K0 q ⟨c.N, p.2.2.2.2⟩ .And [f] a6.2.2 hN Cb).pt a6.2.1)
      elt_ := fun z hz s H Ca cl fp => by
        simp at hz
        subst hz
        exact (chkE_ok K0 x ⟨c.N, p.2.2.2.2⟩ .And [p.1] a5 hN (blk_cq C hk)).pe }
    have := snd_lc (pos := pp) C hsub pi B hs
    rw [own_map] at this
    exact .val this fun _ => rfl
  | .dc tk os t wb its k x, c, op, e, h, hN, W, X, C => by
    unfold chkE at h
    obtain ⟨p, e1, h1⟩ := opB_ok h
    obtain ⟨e0, rfl, e1⟩ := one_ok e1
    obtain ⟨pp, rfl⟩ := asDc_ok e1
    simp only [Bool.and_eq_true] at h1
    obtain ⟨a1, a2, a3, a4, a5, a6⟩ := h1
    obtain ⟨hk, ok⟩ := blk_ok C a1
    obtain ⟨pi, hs⟩ := iter_ok K0 C (fun xs hx => chkEs_ok K0 its c xs hx hN C) a3
    have hsub : ∀ j ∈ slotsT t, j ∈ (ownOf c os).map (·.2) := fun j hj => by
      rw [own_map]
      obtain ⟨y, hy, e⟩ := List.any_eq_true.mp (List.all_eq_true.mp a2 j hj)
      rw [Nat.eq_of_beq_eq_true e]; exact hy
    have B : Blk X p.2.2.2.2 (ownOf c os) p.2.2.1 [] [(p.1, k), (p.2.1, x)] t (.lit (.bl true)) T G (callN G n) := {
      ok := ok
      tg_ := fun s H Ca cl fp => chkTg_ok (blk_cq C hk) t _ a4
      ifs_ := fun s H Ca cl fp => snd_ifs0
      elt_ := fun z hz s H Ca cl fp => by
        simp at hz
        rcases hz with hz | hz
        · subst hz; exact (chkE_ok K0 k ⟨c.N, p.2.2.2.2⟩ .And [p.1] a5 hN (blk_cq C hk)).pe
        · subst hz; exact (chkE_ok K0 x ⟨c.N, p.2.2.2.2⟩ .And [p.2.1] a6 hN (blk_cq C hk)).pe }
    have := snd_dc (pos := pp) (tk := tk) C hsub pi B hs
    rw [own_map] at this
    exact .val this fun _ => rfl
theorem chkEs_ok (K0 : CkOk T G J kpp) : ∀ (ds : List E) (c : CC) (es : List Expr), chkEs kpp c ds es = true → (∀ x ∈ c.N, x ∈ T.syms) → ∀ {W : WX} {X : Cx}, Cq T G J Ly n c W X → Es T W X G (callN G n) ds es
  | [], c, [], h, hN, W, X, C => .nil
  | [], c, _ :: _, h, hN, W, X, C => by unfold chkEs at h; cases h
  | _ :: _, c, [], h, hN, W, X, C => by unfold chkEs at h; cases h
  | d :: ds, c, e :: es, h, hN, W, X, C => by
    unfold chkEs at h
    rw [Bool.and_eq_true] at h
    exact .cons (chkE_ok K0 d c .And [e] h.1 hN C).pe (chkEs_ok K0 ds c es h.2 hN C)
end
end
end PD
end Sec19
section Sec20
set_option Elab.async false
set_option linter.all false
set_option maxRecDepth 100000
set_option maxHeartbeats 4000000
/-! PD19: the check of statements. -/
namespace PD
open PySem PySem.Spec PyProof.Rows L2

def notComp : Expr → Bool
  | .ListComp _ _ _ _ => false
  | .SetComp _ _ _ _ => false
  | .DictComp _ _ _ _ _ => false
  | _ => true
def notTup : Expr → Bool
  | .Tuple _ _ _ => false
  | .List _ _ => false
  | _ => true
/-- x = a comprehension on one line, x no name of the block -/
def swapB (c : CC) (x : Str) (p : Pos) (e : Expr) : Bool := match e with
  | .ListComp _ _ sc q => (match lookupS c.sc.names x with | some .local => true | _ => false) && (Nat.beq p.line q.line && !sc.names.any fun y => strEq y.1 x && (match y.2 with | .local => true | .cell => true | _ => false))
  | .DictComp _ _ _ sc q => (match lookupS c.sc.names x with | some .local => true | _ => false) && (Nat.beq p.line q.line && !sc.names.any fun y => strEq y.1 x && (match y.2 with | .local => true | .cell => true | _ => false))
  | _ => false
/-- a name that a block captures -/
def cellB (c : CC) (x : Str) : Bool := match lookupS c.sc.names x with
  | some .cell => true
  | _ => false
def isLc : E → Bool
  | .lc _ _ _ _ _ _ => true
  | .dc true _ _ _ _ _ _ => true
  | _ => false
def sAsg : Stmt → Option (Expr × Expr) | .Assign [t] e _ => some (t, e) | _ => none
def sExpr : Stmt → Option Expr | .Expr e _ => some e | _ => none
def sRet : Stmt → Option Expr | .Return (some e) _ => some e | _ => none
def sRetN : Stmt → Option Unit | .Return none _ => some () | _ => none
def sPass : Stmt → Option Unit | .Pass _ => some () | _ => none
def sIf : Stmt → Option (Expr × List Stmt × List Stmt) | .If e a b _ => some (e, a, b) | _ => none
def sFor : Stmt → Option (Expr × Expr × List Stmt) | .For t i b [] _ => some (t, i, b) | _ => none
def sWhile : Stmt → Option (Expr × List Stmt) | .While e b [] _ => some (e, b) | _ => none
def sAug : Stmt → Option (Expr × Operator × Expr) | .AugAssign t o e _ => some (t, o, e) | _ => none
theorem sAsg_ok {s : Stmt} {a} (h : sAsg s = some a) : ∃ p, s = .Assign [a.1] a.2 p := by unfold sAsg at h; split at h <;> cases h; exact ⟨_, rfl⟩
theorem sExpr_ok {s : Stmt} {a} (h : sExpr s = some a) : ∃ p, s = .Expr a p := by unfold sExpr at h; split at h <;> cases h; exact ⟨_, rfl⟩
theorem sRet_ok {s : Stmt} {a} (h : sRet s = some a) : ∃ p, s = .Return (some a) p := by unfold sRet at h; split at h <;> cases h; exact ⟨_, rfl⟩
theorem sRetN_ok {s : Stmt} {a} (h : sRetN s = some a) : ∃ p, s = .Return none p := by unfold sRetN at h; split at h <;> cases h; exact ⟨_, rfl⟩
theorem sPass_ok {s : Stmt} {a} (h : sPass s = some a) : ∃ p, s = .Pass p := by unfold sPass at h; split at h <;> cases h; exact ⟨_, rfl⟩
theorem sIf_ok {s : Stmt} {a} (h : sIf s = some a) : ∃ p, s = .If a.1 a.2.1 a.2.2 p := by unfold sIf at h; split at h <;> cases h; exact ⟨_, rfl⟩
theorem sFor_ok {s : Stmt} {a} (h : sFor s = some a) : ∃ p, s = .For a.1 a.2.1 a.2.2 [] p := by unfold sFor at h; split at h <;> cases h; exact ⟨_, rfl⟩
theorem sWhile_ok {s : Stmt} {a} (h : sWhile s = some a) : ∃ p, s = .While a.1 a.2 [] p := by unfold sWhile at h; split at h <;> cases h; exact ⟨_, rfl⟩
theorem sAug_ok {s : Stmt} {a} (h : sAug s = some a) : ∃ p, s = .AugAssign a.1 a.2.1 a.2.2 p := by unfold sAug at h; split at h <;> cases h; exact ⟨_, rfl⟩
def nmPos : Expr → Option (Str × Pos) | .Name x p => some (x, p) | _ => none
theorem nmPos_ok {e : Expr} {a} (h : nmPos e = some a) : e = .Name a.1 a.2 := by cases e <;> simp [nmPos] at h; subst h; rfl

mutual
def chkS (kpp : CK) (c : CC) : PD.St → Stmt → Bool
  | .no, _ => true
  | .raise_ _ _, _ => true
  | .par _ _, _ => false
  | .pass, s => (sPass s).isSome
  | .expr d, s => opB (sExpr s) fun e => notComp e && chkE kpp c .And d [e]
  | .asg t d, s => opB (sAsg s) fun p => match isLc d with
    | true => opB (nmPos p.1) fun x => (swapB c x.1 x.2 p.2 || cellB c x.1) && (chkTg c t p.1 && chkE kpp c .And d [p.2])
    | false => notStar p.1 && (notComp p.2 && ((notTup p.1 || notTup p.2) && (chkTg c t p.1 && chkE kpp c .And d [p.2])))
  | .asgF a f d, s => opB (sAsg s) fun p => opB (asAttr p.1) fun q => kpp.sy f q.2 && (kpp.J.flds.any (Nat.beq f) && (chkE kpp c .And a [q.1] && chkE kpp c .And d [p.2]))
  | .asgS a i d, s => opB (sAsg s) fun p => opB (asSub p.1) fun q => noSl q.2 && (chkE kpp c .And a [q.1] && (chkE kpp c .And i [q.2] && chkE kpp c .And d [p.2]))
  | .augN i o d, s => opB (sAug s) fun p => opB (asName p.1) fun x => isLoc c i x && (decide (p.2.1 = bo o) && chkE kpp c .And d [p.2.2])
  | .augS a i o d, s => opB (sAug s) fun p => opB (asSub p.1) fun q => noSl q.2 && (decide (p.2.1 = bo o) && (chkE kpp c .And a [q.1] && (chkE kpp c .And i [q.2] && chkE kpp c .And d [p.2.2])))
  | .ret d, s => opB (sRet s) fun e => chkE kpp c .And d [e]
  | .retN, s => (sRetN s).isSome
  | .if_ d a b, s => opB (sIf s) fun p => notIte d && (chkE kpp c .And d [p.1] && (chkSs kpp c a p.2.1 && chkSs kpp c b p.2.2))
  | .for_ t wb its b, s => opB (sFor s) fun p => iterOf c wb p.1 p.2.1 (fun xs => chkEs kpp c its xs) && (chkTg c t p.1 && chkSs kpp c b p.2.2)
  | .while_ d b, s => opB (sWhile s) fun p => notIte d && (chkE kpp c .And d [p.1] && chkSs kpp c b p.2)
def chkSs (kpp : CK) (c : CC) : List PD.St → List Stmt → Bool
  | [], [] => true
  | t :: ts, s :: ss => chkS kpp c t s && chkSs kpp c ts ss
  | _, _ => false
end

theorem sw_no {e : Expr} {o : Option Expr} {l : Nat} {env : Env} (h : notComp e = true) : swapsWith e o l env = pure false := by
  cases e <;> first | rfl | (cases h; done)
theorem sw_attr {e o : Expr} {x : Str} {p : Pos} {l : Nat} {env : Env} : swapsWith e (some (.Attribute o x p)) l env = pure false := by cases e <;> rfl
theorem sw_sub {e o i : Expr} {p : Pos} {l : Nat} {env : Env} : swapsWith e (some (.Subscript o i p)) l env = pure false := by cases e <;> rfl
theorem ss_no {t e : Expr} {env : Env} (h : (notTup t || notTup e) = true) : swappedStores [t] e env = pure none := by
  unfold swappedStores
  cases t <;> first | rfl | (cases e <;> first | rfl | (cases h; done))
theorem sw_of {names : List (Str × NameKind)} {x : Str} (h : (!names.any fun y => strEq y.1 x && (match y.2 with | .local => true | .cell => true | _ => false)) = true) : (names.any fun (n, k) => n == x && (k == .local || k == .cell)) = false := by
  have h : (names.any fun y => strEq y.1 x && (match y.2 with | .local => true | .cell => true | _ => false)) = false := by simpa using h
  rw [List.any_eq_false] at h ⊢
  rintro ⟨n, k⟩ hy
  have := h _ hy
  dsimp only at this ⊢
  intro z
  apply this
  simp only [Bool.and_eq_true, Bool.or_eq_true] at z ⊢
  refine ⟨by rw [eq_of_beq z.1]; exact strEq_refl, ?_⟩
  rcases z.2 with z | z <;> rw [eq_of_beq z]
section
variable {T : Tab} {G : Pg} {J : Inf} {Ly : Lay} {n : Nat} {c : CC} {W : WX} {X : Cx} {kpp : CK}
theorem swap_ok (C : Cq T G J Ly n c W X) {x : Str} {p : Pos} {e : Expr} {l : Nat} (h : swapB c x p e = true) : X.env.scope.names.lookup x = some .local ∧ swapsWith e (some (.Name x p)) l X.env = pure true := by
  have loc : ∀ {b : Bool}, (match lookupS c.sc.names x with | some .local => true | _ => false) = true → X.env.scope.names.lookup x = some .local := by
    intro b h
    split at h
    · rename_i q; rw [lookupS_eq] at q; exact C.kn.lo x q
    · cases h
  have hb : X.env.blockKind = .function := by unfold Env.blockKind; rw [C.kn.kind]; rfl
  unfold swapB at h
  split at h
  · simp only [Bool.and_eq_true] at h
    have l1 := loc (b := true) h.1
    refine ⟨l1, ?_⟩
    have ky : X.env.kindOf x = some .local := l1
    have ha := sw_of h.2.2
    have hl := Nat.eq_of_beq_eq_true h.2.1
    unfold swapsWith
    simp only [hb, ky, ha, Expr.pos, hl]
    simp
  · simp only [Bool.and_eq_true] at h
    have l1 := loc (b := true) h.1
    refine ⟨l1, ?_⟩
    have ky : X.env.kindOf x = some .local := l1
    have ha := sw_of h.2.2
    have hl := Nat.eq_of_beq_eq_true h.2.1
    unfold swapsWith
    simp only [hb, ky, ha, Expr.pos, hl]
    simp
  · cases h
theorem cell_no (C : Cq T G J Ly n c W X) {x : Str} {p : Pos} {e : Expr} {l : Nat} (h : cellB c x = true) : swapsWith e (some (.Name x p)) l X.env = pure false := by
  unfold cellB at h
  split at h
  · rename_i q
    rw [lookupS_eq] at q
    have ky : X.env.kindOf x = some .cell := (C.kn.ce x q).1
    have hcl : (NameKind.cell == NameKind.local) = false := by decide
    have hcs : (some NameKind.cell == some NameKind.local) = false := by decide
    cases e <;> first | rfl | (unfold swapsWith; simp [ky, hcl, hcs])
  · cases h
mutual
theorem chkS_ok (K0 : CkOk T G J kpp) : ∀ (t : PD.St) (s : Stmt), chkS kpp c t s = true → (∀ x ∈ c.N, x ∈ T.syms) → ∀ {W : WX} {X : Cx}, Cq T G J Ly n c W X → PS X s (DS T W (evS G (callN G n) t))
  | .no, s, h, hN, W, X, C => snd_no
  | .raise_ _ _, s, h, hN, W, X, C => ⟨fun pins s σ H D I ⟨ρ, S, fr, sm, r, h⟩ => by unfold evS at h; exact h.elim⟩
  | .par _ _, s, h, hN, W, X, C => by unfold chkS at h; cases h
  | .pass, s, h, hN, W, X, C => by
    unfold chkS at h
    obtain ⟨u, hu⟩ := Option.isSome_iff_exists.mp h
    obtain ⟨p, rfl⟩ := sPass_ok hu
    exact snd_pass
  | .expr d, s, h, hN, W, X, C => by
    unfold chkS at h
    obtain ⟨e, e1, h1⟩ := opB_ok h
    obtain ⟨p, rfl⟩ := sExpr_ok e1
    rw [Bool.and_eq_true] at h1
    exact snd_expr (chkE_ok K0 d c .And [e] h1.2 hN C).pe (sw_no h1.1)
  | .asg t d, s, h, hN, W, X, C => by
    unfold chkS at h
    obtain ⟨q, e1, h1⟩ := opB_ok h
    obtain ⟨p, rfl⟩ := sAsg_ok e1
    split at h1
    · rename_i hl
      obtain ⟨x, ex, h2⟩ := opB_ok h1
      have ex := nmPos_ok ex
      simp only [Bool.and_eq_true] at h2
      obtain ⟨a1, a2, a3⟩ := h2
      obtain ⟨tg, v⟩ := q
      have ex : tg = .Name x.1 x.2 := ex
      subst ex
      rw [Bool.or_eq_true] at a1
      rcases a1 with a1 | a1
      rotate_left
      · exact snd_asg (chkE_ok K0 d c .And [v] a3 hN C).pe (chkTg_ok C t (.Name x.1 x.2) a2) rfl (by show swapsWith v (some (.Name x.1 x.2)) p.line X.env = pure false; exact cell_no C a1) (ss_no (by show (true || notTup v) = true; rfl))
      obtain ⟨b1, b2⟩ := swap_ok (l := p.line) C a1
      -- the target is a name
      have ht : ∃ i, t = .nm i ∧ isLoc c i x.1 = true := by
        cases t with
        | nm i =>
          unfold chkTg at a2
          obtain ⟨y, ey, a2⟩ := opB_ok a2
          cases ey
          exact ⟨i, rfl, a2⟩
        | tp cs => unfold chkTg at a2; obtain ⟨y, ey, _⟩ := opB_ok a2; cases ey
      obtain ⟨i, rfl, ti⟩ := ht
      obtain ⟨q1, _, q2, q3⟩ := isLoc_ok C ti
      -- the value is a comprehension
      cases d <;> first | (cases hl; done) | skip
      · rename_i os t wb its cc ee
        unfold chkE at a3
        obtain ⟨pp, e1, hh⟩ := opB_ok a3
        obtain ⟨e0, e2, e1⟩ := one_ok e1
        cases e2
        obtain ⟨pq, rfl⟩ := asLc_ok e1
        simp only [Bool.and_eq_true] at hh
        obtain ⟨a1, a2, a3, a4, a5, a6⟩ := hh
        obtain ⟨hk, ok⟩ := blk_ok C a1
        obtain ⟨pi, hs⟩ := iter_ok K0 C (fun xs hx => chkEs_ok K0 its c xs hx hN C) a3
        have hsub : ∀ j ∈ slotsT t, j ∈ (ownOf c os).map (·.2) := fun j hj => by
          rw [own_map]
          obtain ⟨y, hy, e⟩ := List.any_eq_true.mp (List.all_eq_true.mp a2 j hj)
          rw [Nat.eq_of_beq_eq_true e]; exact hy
        have B : Blk X pp.2.2.2.2 (ownOf c os) pp.2.1 pp.2.2.2.1 [(pp.1, ee)] t cc T G (callN G n) := {
          ok := ok
          tg_ := fun s H Ca cl fp => chkTg_ok (blk_cq C hk) t _ a4
          ifs_ := fun s H Ca cl fp => by
            have Cb := blk_cq (Ca := Ca) (cl := cl) (fp := fp) (s := s) (H := H) C hk
            split at a6
            · have : cc = .lit (.bl true) := by
                unfold isYes at a6
                split at a6
                · rfl
                · cases a6
              subst this
              rename_i ef
              rw [ef]
              exact snd_ifs0
            · rename_i f fs ef
              simp only [Bool.and_eq_true] at a6
              have : fs = [] := List.isEmpty_iff.mp a6.1
              subst this
              rw [ef]
              exact pts_one ((chkE_ok K0 cc ⟨c.N, pp.2.2.2.2⟩ .And [f] a6.2.2 hN Cb).pt a6.2.1)
          elt_ := fun z hz s H Ca cl fp => by
            simp at hz
            subst hz
            exact (chkE_ok K0 ee ⟨c.N, pp.2.2.2.2⟩ .And [pp.1] a5 hN (blk_cq C hk)).pe }
        have := snd_setLc (i := i) (spos := p) C hsub q1 b1 b2 pi B hs
        rw [own_map] at this
        exact this
      · rename_i tk os t wb its k ee
        cases tk with
        | false => cases hl
        | true =>
        unfold chkE at a3
        obtain ⟨pp, e1, hh⟩ := opB_ok a3
        obtain ⟨e0, e2, e1⟩ := one_ok e1
        cases e2
        obtain ⟨pq, rfl⟩ := asDc_ok e1
        simp only [Bool.and_eq_true] at hh
        obtain ⟨a1, a2, a3, a4, a5, a6⟩ := hh
        obtain ⟨hk, ok⟩ := blk_ok C a1
        obtain ⟨pi, hs⟩ := iter_ok K0 C (fun xs hx => chkEs_ok K0 its c xs hx hN C) a3
        have hsub : ∀ j ∈ slotsT t, j ∈ (ownOf c os).map (·.2) := fun j hj => by
          rw [own_map]
          obtain ⟨y, hy, e⟩ := List.any_eq_true.mp (List.all_eq_true.mp a2 j hj)
          rw [Nat.eq_of_beq_eq_true e]; exact hy
        have B : Blk X pp.2.2.2.2 (ownOf c os) pp.2.2.1 [] [(pp.1, k), (pp.2.1, ee)] t (.lit (.bl true)) T G (callN G n) := {
          ok := ok
          tg_ := fun s H Ca cl fp => chkTg_ok (blk_cq C hk) t _ a4
          ifs_ := fun s H Ca cl fp => snd_ifs0
          elt_ := fun z hz s H Ca cl fp => by
            simp at hz
            rcases hz with hz | hz
            · subst hz; exact (chkE_ok K0 k ⟨c.N, pp.2.2.2.2⟩ .And [pp.1] a5 hN (blk_cq C hk)).pe
            · subst hz; exact (chkE_ok K0 ee ⟨c.N, pp.2.2.2.2⟩ .And [pp.2.1] a6 hN (blk_cq C hk)).pe }
        have := snd_setDc (i := i) (spos := p) C hsub q1 b1 b2 pi B hs
        rw [own_map] at this
        exact this
    · simp only [Bool.and_eq_true] at h1
      obtain ⟨a1, a2, a3, a4, a5⟩ := h1
      exact snd_asg (chkE_ok K0 d c .And [q.2] a5 hN C).pe (chkTg_ok C t q.1 a4) a1 (sw_no a2) (ss_no a3)
  | .asgF a f d, s, h, hN, W, X, C => by
    unfold chkS at h
    obtain ⟨q, e1, h1⟩ := opB_ok h
    obtain ⟨p, rfl⟩ := sAsg_ok e1
    obtain ⟨y, ey, h2⟩ := opB_ok h1
    obtain ⟨pp, ey⟩ := asAttr_ok ey
    obtain ⟨tg, v⟩ := q
    have ey : tg = .Attribute y.1 y.2 pp := ey
    subst ey
    simp only [Bool.and_eq_true] at h2
    obtain ⟨a1, a2, a3, a4⟩ := h2
    have hf : f ∈ J.flds := by
      obtain ⟨y, hy, e⟩ := List.any_eq_true.mp a2
      rw [Nat.eq_of_beq_eq_true e, ← K0.sJ]; exact hy
    exact snd_asgF C (K0.sy a1) hf (chkE_ok K0 a c .And [y.1] a3 hN C).pe (chkE_ok K0 d c .And [v] a4 hN C).pe sw_attr
  | .asgS a i d, s, h, hN, W, X, C => by
    unfold chkS at h
    obtain ⟨q, e1, h1⟩ := opB_ok h
    obtain ⟨p, rfl⟩ := sAsg_ok e1
    obtain ⟨y, ey, h2⟩ := opB_ok h1
    obtain ⟨pp, ey⟩ := asSub_ok ey
    obtain ⟨tg, v⟩ := q
    have ey : tg = .Subscript y.1 y.2 pp := ey
    subst ey
    simp only [Bool.and_eq_true] at h2
    obtain ⟨a1, a2, a3, a4⟩ := h2
    have p1 := (chkE_ok K0 a c .And [y.1] a2 hN C).pe
    have p2 := (chkE_ok K0 i c .And [y.2] a3 hN C).pe
    have p3 := (chkE_ok K0 d c .And [v] a4 hN C).pe
    have hw : swappedStores [Expr.Subscript y.1 y.2 pp] v X.env = pure none := ss_no (t := .Subscript y.1 y.2 pp) (e := v) (by show (true || notTup v) = true; rfl)
    exact snd_asgS C p1 p2 p3 a1 (by show swapsWith v (some (.Subscript y.1 y.2 pp)) p.line X.env = pure false; exact sw_sub) hw
  | .augN i o d, s, h, hN, W, X, C => by
    unfold chkS at h
    obtain ⟨q, e1, h1⟩ := opB_ok h
    obtain ⟨p, rfl⟩ := sAug_ok e1
    obtain ⟨y, ey, h2⟩ := opB_ok h1
    obtain ⟨pp, ey⟩ := asName_ok ey
    obtain ⟨tg, oo, v⟩ := q
    have ey : tg = .Name y pp := ey
    subst ey
    simp only [Bool.and_eq_true] at h2
    obtain ⟨a1, a2, a3⟩ := h2
    obtain ⟨q1, _, q2, q3⟩ := isLoc_ok C a1
    have a2 : oo = bo o := of_decide_eq_true a2
    subst a2
    exact snd_augN C.nd q1 q2 q3 (chkE_ok K0 d c .And [v] a3 hN C).pe
  | .augS a i o d, s, h, hN, W, X, C => by
    unfold chkS at h
    obtain ⟨q, e1, h1⟩ := opB_ok h
    obtain ⟨p, rfl⟩ := sAug_ok e1
    obtain ⟨y, ey, h2⟩ := opB_ok h1
    obtain ⟨pp, ey⟩ := asSub_ok ey
    obtain ⟨tg, oo, v⟩ := q
    have ey : tg = .Subscript y.1 y.2 pp := ey
    subst ey
    simp only [Bool.and_eq_true] at h2
    obtain ⟨a1, a2, a3, a4, a5⟩ := h2
    have a2 : oo = bo o := of_decide_eq_true a2
    subst a2
    exact snd_augS C (chkE_ok K0 a c .And [y.1] a3 hN C).pe (chkE_ok K0 i c .And [y.2] a4 hN C).pe (chkE_ok K0 d c .And [v] a5 hN C).pe a1
  | .ret d, s, h, hN, W, X, C => by
    unfold chkS at h
    obtain ⟨e, e1, h1⟩ := opB_ok h
    obtain ⟨p, rfl⟩ := sRet_ok e1
    exact snd_ret (chkE_ok K0 d c .And [e] h1 hN C).pe
  | .retN, s, h, hN, W, X, C => by
    unfold chkS at h
    obtain ⟨u, hu⟩ := Option.isSome_iff_exists.mp h
    obtain ⟨p, rfl⟩ := sRetN_ok hu
    exact snd_retN
  | .if_ d a b, s, h, hN, W, X, C => by
    unfold chkS at h
    obtain ⟨q, e1, h1⟩ := opB_ok h
    obtain ⟨p, rfl⟩ := sIf_ok e1
    simp only [Bool.and_eq_true] at h1
    obtain ⟨a1, a2, a3, a4⟩ := h1
    exact snd_if ((chkE_ok K0 d c .And [q.1] a2 hN C).pt a1) (chkSs_ok K0 a q.2.1 a3 hN C) (chkSs_ok K0 b q.2.2 a4 hN C)
  | .for_ t wb its b, s, h, hN, W, X, C => by
    unfold chkS at h
    obtain ⟨q, e1, h1⟩ := opB_ok h
    obtain ⟨p, rfl⟩ := sFor_ok e1
    simp only [Bool.and_eq_true] at h1
    obtain ⟨a1, a2, a3⟩ := h1
    obtain ⟨pi, hs⟩ := iter_ok K0 C (fun xs hx => chkEs_ok K0 its c xs hx hN C) a1
    exact snd_for C pi (chkTg_ok C t q.1 a2) (chkSs_ok K0 b q.2.2 a3 hN C) hs
  | .while_ d b, s, h, hN, W, X, C => by
    unfold chkS at h
    obtain ⟨q, e1, h1⟩ := opB_ok h
    obtain ⟨p, rfl⟩ := sWhile_ok e1
    simp only [Bool.and_eq_true] at h1
    obtain ⟨a1, a2, a3⟩ := h1
    exact snd_while C ((chkE_ok K0 d c .And [q.1] a2 hN C).pt a1) (chkSs_ok K0 b q.2 a3 hN C)
theorem chkSs_ok (K0 : CkOk T G J kpp) : ∀ (ts : List PD.St) (ss : List Stmt), chkSs kpp c ts ss = true → (∀ x ∈ c.N, x ∈ T.syms) → ∀ {W : WX} {X : Cx}, Cq T G J Ly n c W X → PSs X ss (DS T W (evSs G (callN G n) ts))
  | [], [], h, hN, W, X, C => snd_snil
  | [], _ :: _, h, hN, W, X, C => by unfold chkSs at h; cases h
  | _ :: _, [], h, hN, W, X, C => by unfold chkSs at h; cases h
  | t :: ts, s :: ss, h, hN, W, X, C => by
    unfold chkSs at h
    rw [Bool.and_eq_true] at h
    exact snd_scons (chkS_ok K0 t s h.1 hN C) (chkSs_ok K0 ts ss h.2 hN C)
end
end
end PD
end Sec20
section Sec21
set_option Elab.async false
set_option linter.all false
set_option maxRecDepth 100000
set_option maxHeartbeats 4000000
/-! PD20: defs keep their promises, level by level. -/
namespace PD
open PySem PySem.Spec PyProof.Rows L2
section
variable {T : Tab} {G : Pg} {J : Inf} {Ly : Lay} {n : Nat} {kpp : CK} {P : Program} {w : World} {base : Heap}
theorem start_fr {ρ : List Addr} {H : Hp} {ds : List D} {vs : List V} {N : List Str} {np nn : Nat} (r : RDs T ρ H ds vs) (h1 : np = ds.length) (h2 : nn = N.length) : FR T ρ H (start np nn ds) (L2.start N vs) := by
  subst h1 h2
  have hl := r.length
  refine ⟨by unfold start L2.start; simp [hl], fun i d h => ?_⟩
  unfold start at h
  unfold L2.start
  by_cases hi : i < ds.length
  · rw [List.getElem?_append_left (by simpa using hi), List.getElem?_map] at h
    cases e : ds[i]? with
    | none => rw [e] at h; cases h
    | some d0 =>
      rw [e] at h
      cases h
      obtain ⟨v, q1, q2⟩ := r.get e
      exact ⟨v, by rw [List.getElem?_append_left (by rw [List.length_map, ← hl]; exact hi), List.getElem?_map, q1]; rfl, q2⟩
  · rw [List.getElem?_append_right (by simpa using hi), List.getElem?_replicate] at h
    split at h <;> cases h
theorem sp_len {f : Nat} {d : Df} {vs : List V} {H : Hp} {Q : VK} {E' : XK} (ed : nth G.defs f = some d) (h : spD T G (n + 1) f vs H Q E') : vs.length = d.prm.length := by
  obtain ⟨ρ, S, ds, d', ed', sm, rs, h⟩ := h
  unfold callN at h
  rw [ed] at h
  dsimp only at h
  split at h
  · rename_i hl
    rw [← rs.length]
    exact Nat.eq_of_beq_eq_true hl
  · exact h.elim
theorem sp_body {f : Nat} {d : Df} {vs : List V} {H : Hp} {Q : VK} {E' : XK} {N : List Str} (ed : nth G.defs f = some d) (hn : d.nn = N.length) (h : spD T G (n + 1) f vs H Q E') :
    DS T (fun c d _ H' => E' c d H') (evSs G (callN G n) d.body) { nx := fun _ H' => Q .non H', rt := Q } (L2.start N vs) H := by
  obtain ⟨ρ, S, ds, d', ed', sm, rs, h⟩ := h
  unfold callN at h
  rw [ed] at h
  dsimp only at h
  split at h
  · rename_i hl
    have hl := Nat.eq_of_beq_eq_true hl
    refine ⟨ρ, S, start d.prm.length d.nn ds, sm, start_fr rs hl.symm hn, ?_⟩
    unfold endD at h
    cases e : evSs G (callN G n) d.body (start d.prm.length d.nn ds) S with
    | nx fr s1 => rw [e] at h; exact fun ρ' H' σ' e2 s2 _ => h ρ' H' e2 s2 .non .non
    | rt v s1 => rw [e] at h; exact fun ρ' H' v e2 s2 r => h ρ' H' e2 s2 v r
    | ex c fs fr s1 => rw [e] at h; exact fun ρ' H' cv dx σ' e2 s2 _ x => h ρ' H' cv dx e2 s2 x
    | no => rw [e] at h; exact h
  · exact h.elim
/-- facts that stand for the whole -/
structure Whole (T : Tab) (G : Pg) (J : Inf) (Ly : Lay) (kpp : CK) (w : World) : Prop where
  ck : CkOk T G J kpp
  st : Stat T G J Ly
  kd : ∀ a kvs, T.kd a kvs → ∀ k x d, T.syms[k]? = some x → lkD kvs (.str k) = some d → ∃ v, KDct T.K w a x v ∧ ∀ ρ H, RD T ρ H d v
/-- a def by its body -/
theorem fn_lvl (Wh : Whole T G J Ly kpp w) {f : Nat} {d : Df} {di : DI} {N : List Str} {name qual : Str} {params : Arguments} {body : List Stmt} {scope : Scope} {dvs : List V} {kws : List (Str × V)} (F : FunD T.K name qual params body scope dvs kws (Ly.fa f) (Ly.fd f)) (S : FnScope N di.ps scope)
    (hc : chkSs kpp ⟨N, scope⟩ d.body body = true) (ed : nth G.defs f = some d) (hn : d.nn = N.length) (hl : di.ps.length = d.prm.length) (hN : ∀ x ∈ N, x ∈ T.syms) (hf : Fns T G J Ly P w base n) :
    FnOk P w T.K T.mg base (L2.CX P w) (3 * n + 2 + 1) (Ly.fa f) (Ly.fd f) di.ps (spD T G (n + 1) f) := by
  refine F.ok S (fun vs H Q E h => by rw [hl]; exact sp_len ed h) fun cdv A outer s H vs Q E hr h => ?_
  have C : Cq T G J Ly n ⟨N, scope⟩ (fun c d _ H' => E c d H') (cxOf (L2.CX P w) P w T.K T.mg base N qual scope (Ly.fa f) cdv A outer s H E) := {
    st := Wh.st
    K := rfl
    mg := rfl
    N := rfl
    nd := S.nd
    kn := ⟨S.kind, fun _ e => e, fun _ e => ⟨e, rfl⟩, fun _ e => .inr e, fun _ e => e⟩
    calm := rfl
    room := hr.mono (by omega)
    tk := takes_of rfl rfl rfl rfl
    own := passes_of rfl
    fns := hf
    kd := Wh.kd }
  exact ⟨_, chkSs_ok Wh.ck d.body body hc hN C, sp_body ed hn h⟩

/-! ### with super() -/
theorem startF_eq {N : List Str} {vs : List V} (h : vs.length < N.length) : NdefX.startF N vs [none] = L2.start N vs := by
  unfold NdefX.startF L2.start
  congr 1
  obtain ⟨k, e⟩ : ∃ k, N.length - vs.length = k + 1 := ⟨N.length - vs.length - 1, by omega⟩
  rw [e]
  simp [List.replicate_succ]
theorem fn_sup (Wh : Whole T G J Ly kpp w) {f : Nat} {d : Df} {di : DI} {N : List Str} {name qual : Str} {params : Arguments} {scope : Scope} {dV kV doc pm ct oc : Value} {an od : Option Addr} {osl : Array (Option Value)} {cc cda : Addr} {dn k : Nat} {kd : Cl} {a0 : Str} {e : Expr} {es : List Expr} {eds : List E} {rest : List Stmt} {ts : List PD.St} {p0 p1 apos cpos spos : Pos}
    (lk : T.K.lookup (Ly.fa f) = some ⟨oc, od, .func (Ly.fd f), osl⟩)
    (hfd : Ly.fd f = PySem.W.fnX name qual params (.Expr (.Call (.Attribute (.Call (.Name "super" p0) [] [] p1) "__init__" apos) (e :: es) [] cpos) spos :: rest) scope [("__class__", cc)] dV kV doc pm an (.ref cda) ct)
    (hcd : PySem.W.codeIn T.K (.ref cda) qual = true) (S : NdefX.NScope N di.ps ["__class__"] scope) (hks : scope.names.lookup ("super" : Str) = some .globalImplicit) (ekd : lkN G.cls dn = some kd) (hn0 : N[0]? = some a0) (ha0 : a0 ∈ di.ps)
    (SF : ∀ X : Cx, X.K = T.K → X.mg = T.mg → SupF P X (Ly.fa f) cda cc (Ly.ca dn) (Ly.fa k) a0)
    (hes : (e :: es).all notStar = true) (hn1 : (e :: es).length < 29) (hline : (apos.endLine == cpos.line) = true) (hc1 : chkEs kpp ⟨N, scope⟩ eds (e :: es) = true) (hc2 : chkSs kpp ⟨N, scope⟩ ts rest = true) (hb : d.body = .expr (.scall dn k eds) :: ts)
    (ed : nth G.defs f = some d) (hn : d.nn = N.length) (hl : di.ps.length = d.prm.length) (hN : ∀ x ∈ N, x ∈ T.syms) (hf : Fns T G J Ly P w base n) :
    FnOk P w T.K T.mg base (L2.CX P w) (3 * n + 2 + 1) (Ly.fa f) (Ly.fd f) di.ps (spD T G (n + 1) f) := by
  refine ⟨fun vs H Q E h => by rw [hl]; exact sp_len ed h, fun A outer s H args us vs Q E hr e0 hbd r hsp => ?_⟩
  have hvl : vs.length = di.ps.length := by rw [hl]; exact sp_len ed hsp
  have KX : T.K.In s.heap := e0.mod.kin.keeps fun b o e => (e0.bs b o e).1
  have lim : s.heap.NoLimit := e0.mod.nolimit.keeps fun b o e => (e0.bs b o e).1
  let F : NdefX.NF := ⟨name, qual, params, .Expr (.Call (.Attribute (.Call (.Name "super" p0) [] [] p1) "__init__" apos) (e :: es) [] cpos) spos :: rest, scope, [("__class__", cc)], cda⟩
  have lt : vs.length < N.length := by
    have := congrArg List.length S.pre
    rw [List.length_take, List.length_append] at this
    simp at this
    omega
  have cells : NdefX.CellsAt [(("__class__" : Str), cc)] ["__class__"] [none] s.heap H := by
    have hcc : ∀ y c, [(("__class__" : Str), cc)].lookup y = some c → y = ("__class__" : Str) ∧ c = cc := fun y c h => by
      rw [List.lookup_cons] at h
      cases q : y == ("__class__" : Str) with
      | true => rw [q] at h; cases h; exact ⟨eq_of_beq q, rfl⟩
      | false => rw [q] at h; cases h
    obtain ⟨cl, cld, csl, hcell⟩ := (SF (NdefX.ncx (L2.CX P w) P w T.K T.mg base N F (Ly.fa f) A outer s H E) rfl rfl).cell
    have hb := e0.bs cc _ (e0.mod.kin _ _ hcell)
    refine ⟨rfl, fun y c h => ?_, fun x y c h1 h2 => by rw [(hcc _ _ h1).1, (hcc _ _ h2).1], fun i y h => ?_⟩
    · obtain ⟨_, rfl⟩ := hcc y c h
      exact ⟨hb.2, _, ⟨_, hb.1, rfl⟩⟩
    · cases i with
      | succ i => simp at h
      | zero =>
        simp at h
        subst h
        exact ⟨cc, by simp [List.lookup_cons], fun v h => by simp at h⟩
  have hloc : ∀ y ∈ di.ps.zip us, scope.names.lookup y.1 = some .local := fun ⟨a, v⟩ hy => S.par a (List.of_mem_zip hy).1
  have lk' := lk
  rw [hfd] at lk' hbd
  rw [show (Code.call (Value.ref (Ly.fa f)) args) = Code.call (Value.ref (Ly.fa f)) args from rfl]
  refine ks_codeAny_call_defAt (fd := PySem.W.fnX name qual params F.body scope [("__class__", cc)] dV kV doc pm an (.ref cda) ct) (body := F.body) (binds := di.ps.zip us) hr.depth (KX _ _ lk') rfl lim (PySem.W.codeRec_of KX hcd) rfl hbd S.nocell hloc (fun h₁ hns hk₁ => ?_) S.co S.gen S.kind
  have I : L2.Inv (NdefX.ncx (L2.CX P w) P w T.K T.mg base N F (Ly.fa f) A outer s H E) [] (NdefX.startF N vs [none]) H { s with heap := h₁, toks := s.toks + (di.ps.zip us).length } := NdefX.inv_startN (F := F) S hr.hd e0 hvl r cells hns hk₁
  rw [startF_eq lt] at I
  have C : Cq T G J Ly n ⟨N, scope⟩ (fun c d _ H' => E c d H') (NdefX.ncx (L2.CX P w) P w T.K T.mg base N F (Ly.fa f) A outer s H E) := {
    st := Wh.st
    K := rfl
    mg := rfl
    N := rfl
    nd := S.nd
    kn := ⟨S.kind, fun _ e => e, fun x e => absurd rfl (S.nocell _ (PySem.mem_of_lookup e)), fun _ e => .inr e, fun _ e => e⟩
    calm := rfl
    room := (hr.deeper _).mono (by omega)
    tk := takes_of rfl rfl rfl rfl
    own := passes_of rfl
    fns := hf
    kd := Wh.kd }
  have hbody := sp_body (N := N) ed hn hsp
  rw [hb] at hbody
  have h0 : DS T (fun c d _ H' => E c d H') (evS G (callN G n) (.expr (.scall dn k eds))) { nx := DS T (fun c d _ H' => E c d H') (evSs G (callN G n) ts) { nx := fun _ H' => Q .non H', rt := Q }, rt := Q } (L2.start N vs) H := by
    obtain ⟨ρ, S0, fr, sm, rf, h⟩ := hbody
    rw [show evSs G (callN G n) (.expr (.scall dn k eds) :: ts) fr S0 = (match evS G (callN G n) (.expr (.scall dn k eds)) fr S0 with
      | .nx fr' s' => evSs G (callN G n) ts fr' s'
      | x => x) by rw [evSs] <;> rfl] at h
    refine ⟨ρ, S0, fr, sm, rf, ?_⟩
    cases e1 : evS G (callN G n) (.expr (.scall dn k eds)) fr S0 with
    | nx fr' S' =>
      rw [e1] at h
      exact fun ρ' H' σ' e2 s2 r2 => ⟨ρ', S', fr', s2, r2, SPo.mono (x := evSs G (callN G n) ts fr' S') h e2⟩
    | rt d S' => rw [e1] at h; exact h
    | ex c fs fr S' => rw [e1] at h; exact h
    | no => rw [e1] at h; exact h
  have SE : SupE (NdefX.ncx (L2.CX P w) P w T.K T.mg base N F (Ly.fa f) A outer s H E) (Ly.fa f) cda cc a0 := ⟨rfl, rfl, by show [(("__class__" : Str), cc)].lookup ("__class__" : Str) = some cc; simp [List.lookup_cons], hks, S.frk _ (by simp), S.par a0 ha0, hn0⟩
  have q1 := sup_stmt C rfl ekd (SF _ rfl rfl) SE (body := F.body) (p0 := p0) (p1 := p1) (spos := spos) hes hn1 hline ((chkEs_ok (c := ⟨N, scope⟩) Wh.ck eds (e :: es) hc1 hN C).pa hes) I h0
  have q2 := chkSs_ok (c := ⟨N, scope⟩) Wh.ck ts rest hc2 hN C
  have all : _root_.PySem.wpAt (model P w) (A.deeper (NdefX.envF F (Ly.fa f) s.heap.objs.size)) (.func F.body (NdefX.envF F (Ly.fa f) s.heap.objs.size)) (execs F.body (NdefX.envF F (Ly.fa f) s.heap.objs.size)) (SP (NdefX.ncx (L2.CX P w) P w T.K T.mg base N F (Ly.fa f) A outer s H E) [] { nx := fun _ H' => Q .non H', rt := Q })
      (NdefX.ncx (L2.CX P w) P w T.K T.mg base N F (Ly.fa f) A outer s H E).xe { s with heap := h₁, toks := s.toks + (di.ps.zip us).length } := by
    show _root_.PySem.wpAt _ _ _ (execs (_ :: rest) _) _ _ _
    rw [execs_cons]
    refine _root_.PySem.wpAt_bind (_root_.PySem.wpAt_mono q1 (fun fl s' h => ?_) fun _ _ h => h)
    cases fl with
    | next =>
      obtain ⟨σ', H', I', q⟩ := h
      exact _root_.PySem.wpAt_of_wpAny (q2.run [] s' σ' H' _ I' q)
    | ret u => exact _root_.PySem.wpAt_of_wpAny (wpAny_pure h)
    | brk => exact _root_.PySem.wpAt_of_wpAny (wpAny_pure h)
    | cont => exact _root_.PySem.wpAt_of_wpAny (wpAny_pure h)
  refine _root_.PySem.wpAt_mono all (fun fl s' hs => ?_) fun e s' hs => hs
  cases fl with
  | ret u =>
    obtain ⟨v, σ', H', I', rv, q⟩ := hs
    exact ⟨v, H', I'.os, I'.bare, I'.base, I'.hok, rv, q⟩
  | next =>
    obtain ⟨σ', H', I', q⟩ := hs
    exact ⟨.non, H', I'.os, I'.bare, I'.base, I'.hok, rfl, q⟩
  | brk =>
    obtain ⟨_, _, _, q⟩ := hs
    exact False.elim q
  | cont =>
    obtain ⟨_, _, _, q⟩ := hs
    exact False.elim q
end
end PD
end Sec21
section Sec22
set_option Elab.async false
set_option linter.all false
set_option maxRecDepth 100000
set_option maxHeartbeats 4000000
/-! PD21: what the module's top has laid, looked at once. -/
namespace PD
open PySem PySem.Spec PyProof.Rows L2 He

/-! ### the objects that names reach -/
def refsP (o : Obj) : List Addr := refV o.cls ++ match o.data with
  | .seq its _ => its.toList.flatMap refV
  | .dict es _ => es.toList.flatMap fun e => refV e.key ++ refV e.val
  | .func fd => refV fd.code ++ (refV fd.defaults ++ (refV fd.kwdefaults ++ fd.closure.map (·.2)))
  | .cls cd => cd.ns :: cd.mro.flatMap refV
  | .fields vs => vs.toList.flatMap refV
  | .cell (some v) => refV v
  | _ => []
def newA (seen : List Addr) : List Addr → List Addr → List Addr
  | [], acc => acc
  | a :: r, acc => if seen.any (Nat.beq a) || acc.any (Nat.beq a) then newA seen r acc else newA seen r (a :: acc)
/-- level by level -/
def asP (g : Addr → Option Obj) : Nat → List Addr → List Addr → List Addr
  | 0, seen, _ => seen
  | n + 1, seen, front =>
    let nx := newA seen (front.flatMap fun a => match g a with
      | some o => refsP o
      | none => []) []
    asP g n (nx ++ seen) nx
def rootsP : List Addr := [mainGlobals, cStatics]

structure HD where
  kpp : CK
  /-- of a def: a global's name; or a class and its method, its property -/
  adr : List (Nat × Option Nat × Bool)
def HD.sy (h : HD) (k : Nat) : Str := (nth h.kpp.syms k).getD Str.empty
def fdAt (K : PySem.W.Frag) (a : Addr) : FuncData := match K.lookup a with
  | some ⟨_, _, .func fd, _⟩ => fd
  | _ => default
def HD.ca (h : HD) (K : PySem.W.Frag) (c : Nat) : Addr := ga K (h.sy c)
def prpA (K : PySem.W.Frag) (C : Addr) (m : Str) : Addr := match PySem.W.recIn K (ma K C m) "property" with
  | some (.ref g :: _) => g
  | _ => 0
def HD.fa (h : HD) (K : PySem.W.Frag) (f : Nat) : Addr := match nth h.adr f with
  | some (g, none, _) => ga K (h.sy g)
  | some (c, some m, false) => ma K (h.ca K c) (h.sy m)
  | some (c, some m, true) => prpA K (h.ca K c) (h.sy m)
  | none => 0
def HD.ly (h : HD) (K : PySem.W.Frag) : Lay := ⟨h.fa K, fun f => fdAt K (h.fa K f), h.ca K⟩

/-! ### constants -/
mutual
def conB (h : HD) (K : PySem.W.Frag) : D → Value → Bool
  | .non, u => (match u with | .none => true | _ => false)
  | .bl b, u => (match u with | .bool c => b == c | _ => false)
  | .int i, u => (match u with | .int j _ => decide (i = j) | _ => false)
  | .str k, u => (match u with | .str x _ => h.kpp.sy k x | _ => false)
  | .ctp ds, u => (match u with
    | .ref a => (match K.lookup a with
      | some ⟨.type c, _, .seq its _, _⟩ => decide (c = "tuple") && (Nat.ble its.size line && conBs h K ds its.toList)
      | _ => false)
    | _ => false)
  | _, _ => false
def conBs (h : HD) (K : PySem.W.Frag) : List D → List Value → Bool
  | [], [] => true
  | d :: ds, u :: us => conB h K d u && conBs h K ds us
  | _, _ => false
end
/-- a module's dict, its keys texts -/
def kdB (h : HD) (K : PySem.W.Frag) (a : Addr) (kvs : List (D × D)) : Bool := kvs.all fun p => match p.1 with
  | .str k => (match PySem.W.nsIn K a (h.sy k) with
    | some (some u) => flatD p.2 && conB h K p.2 u
    | _ => false)
  | _ => false
/-- keys and hashes -/
abbrev HV : Type := Option (List (Option Str × Int))
def hshO (K : PySem.W.Frag) (a : Addr) : HV := match K.lookup a with
  | some ⟨.type c, none, .dict es _, sl⟩ => if decide (c = "dict") && sl.isEmpty then some (es.toList.map fun e => ((match e.key with | .str x _ => some x | _ => none), e.hash)) else none
  | _ => none
def kdP (h : HD) (w : World) (K : PySem.W.Frag) (a : Addr) (kvs : List (D × D)) : Prop :=
  kdB h K a kvs = true ∧ hshO K a = some (kvs.map fun p => match p.1 with
    | .str k => (some (h.sy k), PyData.keyHash w.params (h.sy k))
    | _ => (none, 0))
def HD.tab (h : HD) (w : World) (K : PySem.W.Frag) (mg : Str → Option Value) (nd : h.kpp.syms.Nodup) (ok : ∀ x ∈ h.kpp.syms, PyData.strOk x = true) : Tab := ⟨K, mg, h.kpp.syms, nd, ok, kdP h w K⟩

/-! ### functions -/
abbrev FV : Type := Option (Str × Str × Arguments × FuncBody × Scope × Addr × List Str × Addr)
def fnP (K : PySem.W.Frag) (a : Addr) : FV := match K.lookup a with
  | some ⟨_, _, .func fd, _⟩ => some (fd.name, fd.qualname, fd.params, fd.body, fd.scope, fd.globals, fd.closure.map (·.1), fd.builtins)
  | _ => none
structure SD where
  f : Nat
  name : Str
  qual : Str
  params : Arguments
  body : List Stmt
  scope : Scope
  clo : List Str
  dfl : List D
  kwd : List (Nat × D)
def SD.val (d : SD) : FV := some (d.name, d.qual, d.params, .stmts d.body, d.scope, mainGlobals, d.clo, builtinsNs)
/-- a plain value as the layer has it -/
def toV : Value → V
  | .none => .non
  | .bool b => .bl b
  | .int i _ => .int i
  | .str x _ => .str x
  | .ref a => .ref a
  | _ => .non
def dflPB (h : HD) (K : PySem.W.Frag) (dV : Value) : List D → Bool
  | [] => (match dV with | .none => true | _ => false)
  | d :: ds => (match dV with
    | .ref T => (match K.lookup T with
      | some ⟨_, _, .seq its _, _⟩ => conBs h K (d :: ds) its.toList
      | _ => false)
    | _ => false)
def kwdPB (h : HD) (K : PySem.W.Frag) (kV : Value) (l : List (Nat × D)) : Bool := match l with
  | [] => true
  | q :: qs => (match kV with
    | .ref D => (q :: qs).all fun q => (match PySem.W.nsIn K D (h.sy q.1) with
      | some (some u) => conB h K q.2 u
      | _ => false)
    | _ => false)
/-- the keyword-only defaults -/
def kwsOf (h : HD) (K : PySem.W.Frag) (kV : Value) (l : List (Nat × D)) : List (Str × V) := l.map fun q => (h.sy q.1, match kV with
  | .ref D => (match PySem.W.nsIn K D (h.sy q.1) with
    | some (some u) => toV u
    | _ => .non)
  | _ => .non)
def dvsOf (K : PySem.W.Frag) (dV : Value) : List V := match dV with
  | .ref T => (match K.lookup T with
    | some ⟨_, _, .seq its _, _⟩ => its.toList.map toV
    | _ => [])
  | _ => []
def SD.okB (h : HD) (K : PySem.W.Frag) (d : SD) : Bool := let a := h.fa K d.f
  PySem.W.keepIn K (.ref a) && (PySem.W.isFn K (.ref a) && (PySem.W.fnIn K a && (match K.lookup a with
    | some ⟨_, _, .func fd, _⟩ => PySem.W.codeIn K fd.code d.qual && (dflPB h K fd.defaults d.dfl && kwdPB h K fd.kwdefaults d.kwd)
    | _ => false)))

/-! ### classes -/
def mtB (h : HD) (K : PySem.W.Frag) (C : Addr) (k : Cl) : Bool := k.meths.all fun p => He.eqO (PySem.W.findIn K (.ref C) (h.sy p.1)) (some (some (.ref (h.fa K p.2)))) && (PySem.W.isFn K (.ref (h.fa K p.2)) && PySem.W.keepIn K (.ref (h.fa K p.2)))
def prB (h : HD) (K : PySem.W.Frag) (C : Addr) (k : Cl) : Bool := k.props.all fun p =>
  He.eqO (PySem.W.findIn K (.ref C) (h.sy p.1)) (some (some (.ref (ma K C (h.sy p.1))))) && (He.eqO (PySem.W.specialIn K (.ref (ma K C (h.sy p.1))) "__get__") (some (some (.builtin "property.__get__"))) && (decide (PySem.W.takesIn K (.ref (ma K C (h.sy p.1))) = some true) &&
    (match PySem.W.recIn K (ma K C (h.sy p.1)) "property" with
      | some (.ref g :: _) => decide (g = h.fa K p.2)
      | _ => false)))
def noB (h : HD) (K : PySem.W.Frag) (C : Addr) (k : Cl) : Bool := h.kpp.J.flds.all fun f => (lkN k.props f).isSome || ((lkN k.meths f).isSome || He.eqO (PySem.W.findIn K (.ref C) (h.sy f)) (some none))
def mkB (h : HD) (K : PySem.W.Frag) (C : Addr) (k : Cl) : Bool := match k.init with
  | some f => PySem.W.makesIn K C && (He.eqO (PySem.W.findIn K (.ref C) "__init__") (some (some (.ref (h.fa K f)))) && PySem.W.isFn K (.ref (h.fa K f)))
  | none => true
def isB (h : HD) (K : PySem.W.Frag) (C : Addr) (k : Cl) : Bool := h.kpp.G.cls.all fun p => decide (PySem.W.kitOne K (.ref C) (.ref (h.ca K p.1)) = some (k.up.any (Nat.beq p.1)))
def clsPB (h : HD) (K : PySem.W.Frag) (c : Nat) (k : Cl) : Bool :=
  (Fa.glo (h.sy c)).ok K && ((Fa.keep (h.sy c)).ok K && ((Fa.cls (h.sy c)).ok K && (mtB h K (h.ca K c) k && (prB h K (h.ca K c) k && (noB h K (h.ca K c) k && (mkB h K (h.ca K c) k && (isB h K (h.ca K c) k &&
    (He.eqO (PySem.W.findIn K (.ref (h.ca K c)) "__class__") (some (some (.builtin "object.__class__"))) && decide (PySem.W.mroIn K (h.ca K c) (.type "object") = some true)))))))))
def BIs : List BI := [.len, .int, .abs, .min, .max, .sum, .list, .tuple, .range, .enum, .zip]
/-- of every class alike -/
def gloB (K : PySem.W.Frag) : Bool :=
  He.eqO (PySem.W.specialIn K (.builtin "object.__class__") "__get__") (some (some (.builtin "getset_descriptor.__get__"))) && (decide (PySem.W.takesIn K (.builtin "object.__class__") = some true) && (
  (BIs.all fun b => (Fa.free (biNm b)).ok K) && ((Fa.free "isinstance").ok K && (Fa.free "super").ok K)))
def consB (h : HD) (K : PySem.W.Frag) : List D → List Nat → Bool
  | d :: ds, g :: gs => (match PySem.W.nsIn K mainGlobals (h.sy g) with
    | some (some u) => (match d with
      | .kd kvs => (match u with | .ref a => kdB h K a kvs | _ => false)
      | d => conB h K d u)
    | _ => false) && consB h K ds gs
  | [], [] => true
  | _, _ => false
/-! ### super -/
def cdaOf (K : PySem.W.Frag) (a : Addr) : Addr := match (fdAt K a).code with
  | .ref c => c
  | _ => 0
def ccOf (K : PySem.W.Frag) (a : Addr) : Addr := match (fdAt K a).closure with
  | (_, c) :: _ => c
  | _ => 0
def supB (h : HD) (P : Program) (K : PySem.W.Frag) (a0 : Str) (f dn k : Nat) : Bool := let a := h.fa K f
  let D := h.ca K dn
  (match (fdAt K a).params.posonlyargs ++ (fdAt K a).params.args with | r :: _ => strEq r.arg a0 | _ => false) && (
  (match K.lookup (cdaOf K a) with
    | some ⟨_, _, .fields vs, _⟩ => (match (vs[2]? : Option Value) with | some (Value.str file _) => (P.main.file : Str) == file | _ => false)
    | _ => false) && (
  (match K.lookup (ccOf K a) with
    | some ⟨_, _, .cell (some (.ref d)), _⟩ => decide (d = D)
    | _ => false) && (
  decide (PySem.W.mroIn K D (.ref D) = some true) && (
  decide (PySem.W.nsIn K cStatics "thirdparty.any" = some none) && (
  (PySem.W.clsIn K D).isSome && (decide (PySem.W.ks_superIn K D D "__init__" = some (some (.ref (h.fa K k)))) && (decide (PySem.W.typeIn K (.ref (h.fa K k)) = some (.type "function")) && (PySem.W.fnIn K (h.fa K k) && (match (fdAt K a).code with | .ref _ => true | _ => false)))))))))
end PD
end Sec22
section Sec23
set_option Elab.async false
set_option linter.all false
set_option maxRecDepth 100000
set_option maxHeartbeats 4000000
/-! PD22: what such a look gives. -/
namespace PD
open PySem PySem.Spec PyProof.Rows L2 He

section
variable {h : HD} {K : PySem.W.Frag} {T : Tab}
theorem hsy_at {k : Nat} {x : Str} (e : h.kpp.syms[k]? = some x) : h.sy k = x := by
  unfold HD.sy; rw [nth_eq, e]; rfl
mutual
theorem conB_ok (hT : T.K = K) (hs : T.syms = h.kpp.syms) : ∀ {d : D} {u : Value}, conB h K d u = true → L2.RelV (toV u) u ∧ ∀ ρ H, RD T ρ H d (toV u)
  | .non, u, e => by unfold conB at e; cases u <;> first | (cases e; done) | exact ⟨rfl, fun _ _ => .non⟩
  | .bl b, u, e => by
    unfold conB at e
    cases u <;> first | (cases e; done) | skip
    have := eq_of_beq e; subst this; exact ⟨rfl, fun _ _ => .bl _⟩
  | .int i, u, e => by
    unfold conB at e
    cases u <;> first | (cases e; done) | skip
    have := of_decide_eq_true e; subst this; exact ⟨⟨_, rfl⟩, fun _ _ => .int _⟩
  | .str k, u, e => by
    unfold conB at e
    cases u <;> first | (cases e; done) | skip
    have q := sameS_ok e
    rw [nth_eq, ← hs] at q
    exact ⟨⟨_, rfl⟩, fun _ _ => .str q⟩
  | .ctp ds, u, e => by
    unfold conB at e
    cases u <;> first | (cases e; done) | skip
    rename_i a
    dsimp only at e
    split at e
    · rename_i c dd its n sl lk
      simp only [Bool.and_eq_true] at e
      obtain ⟨e1, e2, e3⟩ := e
      have e1 := of_decide_eq_true e1
      subst e1
      obtain ⟨r1, r2⟩ := conBs_ok hT hs e3
      exact ⟨rfl, fun ρ H => .ctp ⟨_, its, n, by rw [hT]; exact lk, rfl, rfl, line_le e2, r1⟩ (r2 ρ H)⟩
    · cases e
  | .tup _, u, e => by unfold conB at e; cases e
  | .ref _, u, e => by unfold conB at e; cases e
  | .glo _, u, e => by unfold conB at e; cases e
  | .rol _, u, e => by unfold conB at e; cases e
  | .kd _, u, e => by unfold conB at e; cases e
theorem conBs_ok (hT : T.K = K) (hs : T.syms = h.kpp.syms) : ∀ {ds : List D} {us : List Value}, conBs h K ds us = true → Vals (us.map toV) us ∧ ∀ ρ H, RDs T ρ H ds (us.map toV)
  | [], [], _ => ⟨.nil, fun _ _ => .nil⟩
  | [], _ :: _, e => by unfold conBs at e; cases e
  | _ :: _, [], e => by unfold conBs at e; cases e
  | d :: ds, u :: us, e => by
    unfold conBs at e
    rw [Bool.and_eq_true] at e
    obtain ⟨a1, a2⟩ := conB_ok hT hs e.1
    obtain ⟨b1, b2⟩ := conBs_ok hT hs e.2
    exact ⟨.cons a1 b1, fun ρ H => .cons (a2 ρ H) (b2 ρ H)⟩
end
theorem kd_ok {w : World} (hT : T.K = K) (hs : T.syms = h.kpp.syms) {a : Addr} {kvs : List (D × D)} (q : kdP h w K a kvs) {k : Nat} {x : Str} {d : D} (hx : T.syms[k]? = some x) (e : lkD kvs (.str k) = some d) :
    ∃ v, KDct K w a x v ∧ ∀ ρ H, RD T ρ H d v := by
  obtain ⟨q1, q2⟩ := q
  have hm : ∀ {l : List (D × D)}, lkD l (.str k) = some d → (.str k, d) ∈ l := by
    intro l
    induction l with
    | nil => intro z; unfold lkD at z; cases z
    | cons p r ih =>
      obtain ⟨kk, dd⟩ := p
      intro z
      unfold lkD at z
      split at z
      · rename_i hb
        cases z
        cases kk <;> first | (unfold D.beq at hb; cases hb; done) | skip
        unfold D.beq at hb
        rw [Nat.eq_of_beq_eq_true hb]
        exact List.mem_cons_self ..
      · exact List.mem_cons_of_mem _ (ih z)
  have c := List.all_eq_true.mp q1 _ (hm e)
  have hsy : h.sy k = x := hsy_at (h := h) (by rw [← hs]; exact hx)
  dsimp only at c
  rw [hsy] at c
  split at c
  · rename_i u eu
    rw [Bool.and_eq_true] at c
    obtain ⟨r1, r2⟩ := conB_ok hT hs c.2
    unfold hshO at q2
    split at q2
    · rename_i cc es n sl lk
      split at q2
      · rename_i hh
        rw [Bool.and_eq_true] at hh
        have e1 := of_decide_eq_true hh.1
        subst e1
        have e2 : sl = #[] := by
          have := hh.2
          rw [Array.isEmpty_iff] at this
          exact this
        subst e2
        have q3 := Option.some.inj q2
        refine ⟨toV u, ⟨es, n, u, lk, ?_, eu, r1⟩, r2⟩
        have key : ∀ {el : List DictEntry} {l : List (D × D)}, (l.all fun p => match p.1 with | .str k => (match PySem.W.nsIn K a (h.sy k) with | some (some u) => flatD p.2 && conB h K p.2 u | _ => false) | _ => false) = true →
            (el.map fun e => ((match e.key with | .str x _ => some x | _ => none), e.hash)) = (l.map fun p => match p.1 with | .str k => (some (h.sy k), PyData.keyHash w.params (h.sy k)) | _ => (none, 0)) → PySem.W.KeysLit w.params el := by
          intro el
          induction el with
          | nil => intro l _ _; exact True.intro
          | cons e0 er ih =>
            intro l ha hl
            cases l with
            | nil => cases hl
            | cons p r =>
              rw [List.all_cons, Bool.and_eq_true] at ha
              obtain ⟨pk, pd⟩ := p
              cases pk <;> first | (cases ha.1; done) | skip
              rename_i kk
              simp only [List.map_cons, List.cons.injEq] at hl
              obtain ⟨h1, h2⟩ := hl
              have h1 : ((match e0.key with | .str x _ => some x | _ => none), e0.hash) = (some (h.sy kk), PyData.keyHash w.params (h.sy kk)) := h1
              rw [Prod.mk.injEq] at h1
              refine ⟨?_, ih ha.2 h2⟩
              cases ek : e0.key with
              | str z t =>
                rw [ek] at h1
                have : z = h.sy kk := Option.some.inj h1.1
                exact ⟨z, t, rfl, by rw [h1.2, this]⟩
              | _ => rw [ek] at h1; cases h1.1
        exact key q1 q3
      · cases q2
    · cases q2
  · cases c

/-! ### functions -/
theorem dflP_ok (hT : T.K = K) (hs : T.syms = h.kpp.syms) {dV : Value} {ds : List D} (e : dflPB h K dV ds = true) : DflV K dV (dvsOf K dV) ∧ ∀ ρ H, RDs T ρ H ds (dvsOf K dV) := by
  cases ds with
  | nil =>
    unfold dflPB at e
    cases dV <;> first | (cases e; done) | skip
    exact ⟨.inl ⟨rfl, rfl⟩, fun _ _ => .nil⟩
  | cons d ds =>
    unfold dflPB at e
    cases dV <;> first | (cases e; done) | skip
    rename_i a
    dsimp only at e
    split at e
    · rename_i c dd its n sl lk
      obtain ⟨r1, r2⟩ := conBs_ok hT hs e
      have ed : dvsOf K (.ref a) = its.toList.map toV := by unfold dvsOf; dsimp only; rw [lk]
      rw [ed]
      refine ⟨.inr ⟨fun z => ?_, a, _, its.toList, n, rfl, lk, by simp, r1⟩, r2⟩
      have := r1.length
      rw [z] at this
      have l2 := (r2 [] (fun _ => none)).length
      rw [z] at l2
      cases l2
    · cases e
theorem kwdP_ok (hT : T.K = K) (hs : T.syms = h.kpp.syms) {kV : Value} {l : List (Nat × D)} (e : kwdPB h K kV l = true) : KwdV K kV (kwsOf h K kV l) ∧ ∀ (i : Nat) q, l[i]? = some q → ∃ v, (kwsOf h K kV l)[i]? = some (h.sy q.1, v) ∧ ∀ ρ H, RD T ρ H q.2 v := by
  cases l with
  | nil => exact ⟨.inl rfl, fun i q z => by simp at z⟩
  | cons p r =>
    unfold kwdPB at e
    cases kV <;> first | (cases e; done) | skip
    rename_i a
    have e : ((p :: r).all fun q => (match PySem.W.nsIn K a (h.sy q.1) with | some (some u) => conB h K q.2 u | _ => false)) = true := e
    rw [List.all_eq_true] at e
    refine ⟨.inr ⟨a, rfl, fun q hq => ?_⟩, fun i q z => ?_⟩
    · unfold kwsOf at hq
      obtain ⟨q0, h0, rfl⟩ := List.mem_map.mp hq
      have c := e q0 h0
      dsimp only
      split at c
      · rename_i u eu
        rw [eu]
        exact ⟨u, rfl, (conB_ok hT hs c).1⟩
      · cases c
    · have c := e q (List.mem_of_getElem? z)
      unfold kwsOf
      rw [List.getElem?_map, z]
      dsimp only [Option.map]
      split at c
      · rename_i u eu
        try rw [eu]
        exact ⟨_, rfl, (conB_ok hT hs c).2⟩
      · cases c
/-- the function object, as it was seen -/
theorem sd_at {d : SD} (e : fnP K (h.fa K d.f) = d.val) (c : d.okB h K = true) : ∃ (oc : Value) (od : Option Addr) (osl : Array (Option Value)), K.lookup (h.fa K d.f) = some ⟨oc, od, .func (fdAt K (h.fa K d.f)), osl⟩ ∧
    PySem.W.keepIn K (.ref (h.fa K d.f)) = true ∧ PySem.W.isFn K (.ref (h.fa K d.f)) = true ∧ PySem.W.fnIn K (h.fa K d.f) = true ∧
    PySem.W.codeIn K (fdAt K (h.fa K d.f)).code d.qual = true ∧ dflPB h K (fdAt K (h.fa K d.f)).defaults d.dfl = true ∧ kwdPB h K (fdAt K (h.fa K d.f)).kwdefaults d.kwd = true ∧
    ∃ cl : List (Str × Addr), cl.map (·.1) = d.clo ∧ fdAt K (h.fa K d.f) = PySem.W.fnX d.name d.qual d.params d.body d.scope cl (fdAt K (h.fa K d.f)).defaults (fdAt K (h.fa K d.f)).kwdefaults (fdAt K (h.fa K d.f)).doc (fdAt K (h.fa K d.f)).pyModule (fdAt K (h.fa K d.f)).annotations (fdAt K (h.fa K d.f)).code (fdAt K (h.fa K d.f)).closureTuple := by
  unfold SD.okB at c
  simp only [Bool.and_eq_true] at c
  obtain ⟨c1, c2, c3, c4⟩ := c
  unfold fnP at e
  cases q : K.lookup (h.fa K d.f) with
  | none => rw [q] at c4; cases c4
  | some o =>
    obtain ⟨oc, od, dt, osl⟩ := o
    rw [q] at c4 e
    cases dt <;> first | (cases c4; done) | skip
    rename_i fd
    have ef : fdAt K (h.fa K d.f) = fd := by unfold fdAt; rw [q]
    rw [ef]
    simp only [Bool.and_eq_true] at c4
    refine ⟨oc, od, osl, rfl, c1, c2, c3, c4.1, c4.2.1, c4.2.2, fd.closure, ?_, ?_⟩
    · have e2 : (some (fd.name, fd.qualname, fd.params, fd.body, fd.scope, fd.globals, fd.closure.map (·.1), fd.builtins) : FV) = some (d.name, d.qual, d.params, .stmts d.body, d.scope, mainGlobals, d.clo, builtinsNs) := e
      simp only [Option.some.injEq, Prod.mk.injEq] at e2
      exact e2.2.2.2.2.2.2.1
    · obtain ⟨n1, n2, n3, n4, n5, n6, n7, n8, n9, n10, n11, n12, n13, n14, n15⟩ := fd
      have e2 : (some (n1, n2, n3, n4, n5, n6, n7.map (·.1), n15) : FV) = some (d.name, d.qual, d.params, .stmts d.body, d.scope, mainGlobals, d.clo, builtinsNs) := e
      simp only [Option.some.injEq, Prod.mk.injEq] at e2
      obtain ⟨h1, h2, h3, h4, h5, h6, h7, h8⟩ := e2
      subst h1 h2 h3 h4 h5 h6 h8
      rfl
theorem sd_fun (hT : T.K = K) (hs : T.syms = h.kpp.syms) {d : SD} (e : fnP K (h.fa K d.f) = d.val) (c : d.okB h K = true) (hc : d.clo = []) :
    FunD K d.name d.qual d.params d.body d.scope (dvsOf K (fdAt K (h.fa K d.f)).defaults) (kwsOf h K (fdAt K (h.fa K d.f)).kwdefaults d.kwd) (h.fa K d.f) (fdAt K (h.fa K d.f)) := by
  obtain ⟨oc, od, osl, lk, c1, c2, c3, c4, c5, c6, cl, e1, e2⟩ := sd_at e c
  rw [hc] at e1
  have e1 : cl = [] := List.map_eq_nil_iff.mp e1
  subst e1
  refine ⟨⟨oc, od, _, _, _, _, _, _, _, osl, e2, lk, c4, (dflP_ok hT hs c5).1, (kwdP_ok hT hs c6).1⟩, c1⟩
end
end PD
end Sec23
section Sec24
set_option Elab.async false
set_option linter.all false
set_option maxRecDepth 100000
set_option maxHeartbeats 4000000
/-! PD23: all that must stand, from the look; the levels. -/
namespace PD
open PySem PySem.Spec PyProof.Rows L2 He

structure Inp where
  h : HD
  sds : List SD
  /-- defs with super(): the def, its class, what super finds -/
  sup : List (Nat × Nat × Nat)
  /-- dicts of the module -/
  dcs : List (Nat × List (D × D))
def Inp.G (I : Inp) : Pg := I.h.kpp.G
/-- a def that stands by its own name -/
def glB (I : Inp) (K : PySem.W.Frag) (f : Nat) : Bool := match nth I.h.adr f with
  | some (g, none, false) => (Fa.glo (I.h.sy g)).ok K
  | _ => true
def allB (I : Inp) (P : Program) (K : PySem.W.Frag) : Bool :=
  gloB K && ((I.G.cls.all fun p => clsPB I.h K p.1 p.2) && ((I.sds.all fun d => d.okB I.h K) && (consB I.h K I.G.cons I.h.kpp.cn && ((I.sup.all fun q => supB I.h P K "self" q.1 q.2.1 q.2.2) && I.sds.all fun d => glB I K d.f))))
abbrev AlP : Type := Bool × List FV × List HV
def obsP (I : Inp) (P : Program) (K : PySem.W.Frag) : AlP := (allB I P K, I.sds.map fun d => fnP K (I.h.fa K d.f), I.dcs.map fun p => hshO K (ga K (I.h.sy p.1)))
def valP (I : Inp) (w : World) : AlP := (true, I.sds.map SD.val, I.dcs.map fun p => some (p.2.map fun p => match p.1 with
  | .str k => (some (I.h.sy k), PyData.keyHash w.params (I.h.sy k))
  | _ => (none, 0)))
def obsPG (as : List Addr) (I : Inp) (P : Program) (g : Addr → Option Obj) : AlP := obsP I P (frG g as)
def hookP (as : List Addr) (I : Inp) (P : Program) : PySem.W.Hook where
  α := AlP
  obs := fun s => obsPG as I P s.heap.get?
  val := fun w => valP I w
  says := fun w h => ∃ K : PySem.W.Frag, K.In h ∧ obsP I P K = valP I w
  of := fun _ _ e => ⟨_, frG_in, e⟩
  keeps := fun _ _ _ ⟨K, hK, c⟩ k => ⟨K, PySem.W.Frag.In.keeps hK k, c⟩
theorem obsPG_eq {as : List Addr} {I : Inp} {P : Program} {g : Addr → Option Obj} {s : Shared} (h : ∀ a, g a = s.heap.get? a) : obsPG as I P g = (hookP as I P).obs s := by
  have e : g = s.heap.get? := funext h
  rw [e]; rfl

/-! ### closed conditions -/
def ltB (I : Inp) (k : Nat) : Bool := Nat.blt k I.h.kpp.syms.length
def nodupS : List Str → Bool
  | [] => true
  | x :: r => !memS r x && nodupS r
theorem nodupS_ok : ∀ {l : List Str}, nodupS l = true → l.Nodup
  | [], _ => List.nodup_nil
  | x :: r, h => by
    unfold nodupS at h
    rw [Bool.and_eq_true] at h
    refine List.nodup_cons.mpr ⟨memS_no ?_, nodupS_ok h.2⟩
    cases q : memS r x with
    | false => rfl
    | true => rw [q] at h; cases h.1
structure Closed (I : Inp) : Prop where
  nd : nodupS I.h.kpp.syms = true
  ok : (I.h.kpp.syms.all fun x => PyData.strOk x && !(strEq x "__debug__" || strEq x "__classdict__")) = true
  ids : (idTab.all fun p => sameS (nth I.h.kpp.syms (I.G.ids.getD p.1 0)) p.2) = true
  cls : (I.G.cls.all fun p => ltB I p.1 && ((p.2.meths.all fun q => ltB I q.1) && p.2.props.all fun q => ltB I q.1)) = true
  cn : (I.h.kpp.cn.all fun g => ltB I g) = true
  kds : ∀ (i : Nat) (kvs : List (D × D)) (g : Nat), nth I.G.cons i = some (.kd kvs) → nth I.h.kpp.cn i = some g → (g, kvs) ∈ I.dcs
theorem lkN_mem {α : Type} : ∀ {l : List (Nat × α)} {n : Nat} {v : α}, lkN l n = some v → (n, v) ∈ l
  | (k, x) :: r, n, v, h => by
    unfold lkN at h
    split at h
    · rename_i e
      cases h
      rw [← Nat.eq_of_beq_eq_true e]
      exact List.mem_cons_self ..
    · exact List.mem_cons_of_mem _ (lkN_mem h)
section
variable {I : Inp} {P : Program} {w : World} {K : PySem.W.Frag} {mg : Str → Option Value} {hp : Heap}
theorem Closed.nd' (C : Closed I) : I.h.kpp.syms.Nodup := nodupS_ok C.nd
theorem Closed.ok' (C : Closed I) : ∀ x ∈ I.h.kpp.syms, PyData.strOk x = true := fun x hx => by
  have := List.all_eq_true.mp C.ok x hx
  rw [Bool.and_eq_true] at this
  exact this.1
theorem Closed.at_ (C : Closed I) {k : Nat} (h : ltB I k = true) : I.h.kpp.syms[k]? = some (I.h.sy k) := by
  have hl : k < I.h.kpp.syms.length := Nat.le_of_ble_eq_true h
  unfold HD.sy
  rw [nth_eq, List.getElem?_eq_getElem hl]
  rfl
abbrev Inp.T (I : Inp) (C : Closed I) (w : World) (K : PySem.W.Frag) (mg : Str → Option Value) : Tab := I.h.tab w K mg C.nd' C.ok'
abbrev Inp.J (I : Inp) : Inf := I.h.kpp.J
theorem consB_at : ∀ {ds : List D} {gs : List Nat}, consB I.h K ds gs = true → ∀ (i : Nat) (d : D) (g : Nat), nth ds i = some d → nth gs i = some g → ∃ u, PySem.W.nsIn K mainGlobals (I.h.sy g) = some (some u) ∧ (match d with
      | .kd kvs => (match u with | .ref a => kdB I.h K a kvs | _ => false)
      | d => conB I.h K d u) = true
  | [], [], _, i, d, g, e, _ => by simp [nth] at e
  | [], _ :: _, h, _, _, _, _, _ => by unfold consB at h; cases h
  | _ :: _, [], h, _, _, _, _, _ => by unfold consB at h; cases h
  | d0 :: ds, g0 :: gs, h, i, d, g, e1, e2 => by
    unfold consB at h
    rw [Bool.and_eq_true] at h
    cases i with
    | zero =>
      simp only [nth, Option.some.injEq] at e1 e2
      subst e1 e2
      have c := h.1
      split at c
      · rename_i u eu
        refine ⟨u, eu, ?_⟩
        split at c
        · exact c
        · rename_i hk
          first
            | exact c
            | (split
               · rename_i kvs; exact absurd rfl (hk kvs)
               · exact c)
      · cases c
    | succ i =>
      simp only [nth] at e1 e2
      exact consB_at h.2 i d g e1 e2
theorem says_all (s : obsP I P K = valP I w) : allB I P K = true := congrArg (fun z : AlP => z.1) s
theorem says_fn (s : obsP I P K = valP I w) {d : SD} (hd : d ∈ I.sds) : fnP K (I.h.fa K d.f) = d.val := by
  have e : I.sds.map (fun d => fnP K (I.h.fa K d.f)) = I.sds.map SD.val := congrArg (fun z : AlP => z.2.1) s
  exact List.map_inj_left.mp e d hd
theorem says_kd (s : obsP I P K = valP I w) {g : Nat} {kvs : List (D × D)} (hd : (g, kvs) ∈ I.dcs) : hshO K (ga K (I.h.sy g)) = some (kvs.map fun p => match p.1 with
    | .str k => (some (I.h.sy k), PyData.keyHash w.params (I.h.sy k))
    | _ => (none, 0)) := by
  have e := congrArg (fun z : AlP => z.2.2) s
  have e : I.dcs.map (fun p => hshO K (ga K (I.h.sy p.1))) = I.dcs.map fun p => some (p.2.map fun p => match p.1 with
    | .str k => (some (I.h.sy k), PyData.keyHash w.params (I.h.sy k))
    | _ => (none, 0)) := e
  exact List.map_inj_left.mp e (g, kvs) hd
theorem mg_ok (KX : K.In hp) (Gm : hp.Ns mainGlobals mg) {x : Str} {r : Option Value} (e : PySem.W.nsIn K mainGlobals x = some r) : mg x = r := by
  cases r with
  | none => exact PySem.W.mg_none_of KX Gm e
  | some u => exact PySem.W.mg_of KX Gm e
theorem ck_ok (C : Closed I) (KX : K.In hp) (Gm : hp.Ns mainGlobals mg) (s : obsP I P K = valP I w) : CkOk (I.T C w K mg) I.G I.J I.h.kpp := by
  have a := says_all s
  unfold allB gloB at a
  simp only [Bool.and_eq_true] at a
  obtain ⟨⟨_, _, a3, a4, a5⟩, a6, a7, a8, a9⟩ := a
  refine ⟨rfl, rfl, rfl, fun x hx => ?_, fun k d g x e1 e2 e3 => ?_, fun b => ?_, mg_ok KX Gm (He.eqO_ok a4)⟩
  · have := List.all_eq_true.mp C.ok x hx
    rw [Bool.and_eq_true] at this
    have h2 := this.2
    have key : ∀ y : Str, strEq x y = false → (x == y) = false := fun y h => by
      cases q : x == y with
      | false => rfl
      | true => have := eq_of_beq q; subst this; rw [strEq_refl] at h; cases h
    cases q1 : strEq x "__debug__" with
    | true => rw [q1] at h2; cases h2
    | false =>
      cases q2 : strEq x "__classdict__" with
      | true => rw [q1, q2] at h2; cases h2
      | false => exact ⟨key _ q1, key _ q2⟩
  · obtain ⟨u, q1, q2⟩ := consB_at a8 k d g e1 e2
    have hx : I.h.sy g = x := hsy_at (h := I.h) e3
    rw [hx] at q1
    refine ⟨u, toV u, mg_ok KX Gm q1, ?_⟩
    split at q2
    · rename_i kvs
      split at q2
      · rename_i aa
        refine ⟨rfl, fun ρ H => .kd ⟨q2, ?_⟩⟩
        have hk := says_kd s (C.kds k kvs g e1 e2)
        have : ga K (I.h.sy g) = aa := by unfold ga; rw [hx, q1]
        rw [this] at hk
        exact hk
      · cases q2
    · exact conB_ok (T := I.T C w K mg) rfl rfl q2
  · have hb : b ∈ BIs := by cases b <;> simp [BIs]
    exact mg_ok KX Gm (He.eqO_ok (List.all_eq_true.mp a3 b hb))
theorem cls_ok2 (C : Closed I) (KX : K.In hp) (Gm : hp.Ns mainGlobals mg) (s : obsP I P K = valP I w) {c : Nat} {k : Cl} (ek : lkN I.G.cls c = some k) : ClF (I.T C w K mg) I.G I.J (I.h.ly K) c k := by
  have a := says_all s
  unfold allB at a
  simp only [Bool.and_eq_true] at a
  obtain ⟨a1, a2, _⟩ := a
  have m := lkN_mem ek
  have b := List.all_eq_true.mp a2 _ m
  have cc := List.all_eq_true.mp C.cls _ m
  simp only [Bool.and_eq_true] at cc
  obtain ⟨c1, c2, c3⟩ := cc
  unfold clsPB at b
  simp only [Bool.and_eq_true] at b
  obtain ⟨b1, b2, b3, b4, b5, b6, b7, b8, b9, b10⟩ := b
  unfold gloB at a1
  simp only [Bool.and_eq_true] at a1
  have hsc : I.h.kpp.syms[c]? = some (I.h.sy c) := C.at_ c1
  exact {
    mg := ⟨_, hsc, glo_ok KX Gm b1⟩
    kp := b2
    cls := cls_ok b3
    met := fun mm f e => by
      have mm' := lkN_mem e
      have z := List.all_eq_true.mp b4 _ mm'
      simp only [Bool.and_eq_true] at z
      exact ⟨_, C.at_ (List.all_eq_true.mp c2 _ mm'), ⟨He.eqO_ok z.1, z.2.1, z.2.2⟩⟩
    prp := fun mm f e => by
      have mm' := lkN_mem e
      have z := List.all_eq_true.mp b5 _ mm'
      simp only [Bool.and_eq_true] at z
      obtain ⟨z1, z2, z3, z4⟩ := z
      refine ⟨_, ma K (I.h.ca K c) (I.h.sy mm), C.at_ (List.all_eq_true.mp c3 _ mm'), ⟨He.eqO_ok z1, He.eqO_ok z2, of_decide_eq_true z3, ?_⟩⟩
      split at z4
      · rename_i g rest eg
        have hg : g = I.h.fa K f := of_decide_eq_true z4
        rw [hg] at eg
        exact ⟨rest, eg⟩
      · cases z4
    noa := fun f x hf hx e1 e2 => by
      have z := List.all_eq_true.mp b6 f hf
      rw [e1, e2] at z
      have z := He.eqO_ok (show He.eqO _ _ = true by simpa using z)
      rw [hsy_at (h := I.h) hx] at z
      exact z
    mkr := fun f e => by
      unfold mkB at b7
      rw [e] at b7
      simp only [Bool.and_eq_true] at b7
      exact ⟨b7.1, He.eqO_ok b7.2.1, b7.2.2, b2⟩
    isi := fun c' k' e => of_decide_eq_true (List.all_eq_true.mp b8 _ (lkN_mem e))
    ha := He.eqO_ok b9
    hn := He.eqO_ok a1.1
    htk := of_decide_eq_true a1.2.1
    hm := of_decide_eq_true b10 }
/-- a def that may be called stands so -/
structure DefIn (I : Inp) (C : Closed I) (w : World) (K : PySem.W.Frag) (mg : Str → Option Value) (f : Nat) (d : Df) : Prop where
  ex : ∃ di sd, nth I.J.ds f = some di ∧ sd ∈ I.sds ∧ sd.f = f ∧ di.ps.length = d.prm.length ∧ (∀ g, di.gl = some g → nth I.h.adr f = some (g, none, false) ∧ ltB I g = true) ∧
    ∀ n ks, patO d.pats n ks = true → PatF (I.T C w K mg) I.G I.J (I.h.ly K) f d di n ks
theorem st_ok (C : Closed I) (KX : K.In hp) (Gm : hp.Ns mainGlobals mg) (s : obsP I P K = valP I w) (hd : ∀ f d, nth I.G.defs f = some d → d.pats ≠ [] → DefIn I C w K mg f d) : Stat (I.T C w K mg) I.G I.J (I.h.ly K) where
  def_ := fun f d e hp => by
    obtain ⟨di, sd, e1, e2, e3, e4, e5, e6⟩ := (hd f d e hp).ex
    subst e3
    have a := says_all s
    unfold allB at a
    simp only [Bool.and_eq_true] at a
    obtain ⟨oc, od, osl, lk, c1, c2, c3, c4⟩ := sd_at (says_fn s e2) (List.all_eq_true.mp a.2.2.1 sd e2)
    refine ⟨di, e1, ⟨e4, c1, c2, c3, fun g hg => ?_, e6⟩⟩
    obtain ⟨q1, q2⟩ := e5 g hg
    have q3 : (Fa.glo (I.h.sy g)).ok K = true := by
      have z := List.all_eq_true.mp a.2.2.2.2.2 sd e2
      unfold glB at z
      rw [q1] at z
      exact z
    refine ⟨_, C.at_ q2, ?_⟩
    have := glo_ok KX Gm q3
    show mg (I.h.sy g) = some (.ref (I.h.fa K sd.f))
    rw [this]
    unfold HD.fa
    rw [q1]
  cls := fun c k e => cls_ok2 C KX Gm s e
  ids := fun i x hm => by
    have := sameS_ok (List.all_eq_true.mp C.ids _ hm)
    rw [nth_eq] at this
    exact this
theorem whole_ok (C : Closed I) (KX : K.In hp) (Gm : hp.Ns mainGlobals mg) (s : obsP I P K = valP I w) (hd : ∀ f d, nth I.G.defs f = some d → d.pats ≠ [] → DefIn I C w K mg f d) : Whole (I.T C w K mg) I.G I.J (I.h.ly K) I.h.kpp w :=
  ⟨ck_ok C KX Gm s, st_ok C KX Gm s hd, fun a kvs q k x d hx e => kd_ok (T := I.T C w K mg) rfl rfl q hx e⟩
/-- every level -/
theorem fns_all {T : Tab} {G : Pg} {J : Inf} {Ly : Lay} {base : Heap} (h : ∀ n f d di, Fns T G J Ly P w base n → nth G.defs f = some d → d.pats ≠ [] → nth J.ds f = some di → FnOk P w T.K T.mg base (L2.CX P w) (3 * n + 2 + 1) (Ly.fa f) (Ly.fd f) di.ps (spD T G (n + 1) f)) : ∀ n, Fns T G J Ly P w base n
  | 0 => fun f d di _ _ _ => by
    have no : ∀ {vs H Q E}, spD T G 0 f vs H Q E → False := by
      rintro vs H Q E ⟨ρ, S, ds, d', _, sm, rs, h⟩
      exact h
    exact ⟨fun vs H Q E h => (no h).elim, fun A outer s H args us vs Q E _ _ _ _ h => (no h).elim⟩
  | n + 1 => fun f d di e hp ei => h n f d di (fns_all h n) e hp ei
end
end PD
end Sec24
section Sec25
set_option Elab.async false
set_option linter.all false
set_option maxRecDepth 100000
set_option maxHeartbeats 4000000
/-! PD24: every def by one check; the law. -/
namespace PD
open PySem PySem.Spec PyProof.Rows L2 He

def argsOf : Stmt → Arguments
  | .FunctionDef _ a _ _ _ _ _ _ _ _ => a
  | _ => ⟨[], [], none, [], [], none, []⟩
def bodyOf : Stmt → List Stmt
  | .FunctionDef _ _ b _ _ _ _ _ _ _ => b
  | _ => []
def scopeOf : Stmt → Scope
  | .FunctionDef _ _ _ _ _ _ s _ _ _ => s
  | _ => ⟨.module, [], false, false, []⟩
def clsBody : Stmt → List Stmt
  | .ClassDef _ _ _ b _ _ _ _ _ _ _ => b
  | _ => []
def stAt (P : Program) (i : Nat) (j : Option Nat) : Stmt := match j with
  | none => (nth P.main.body i).getD (.Pass ⟨0, 0, 0, 0⟩)
  | some j => (nth (clsBody ((nth P.main.body i).getD (.Pass ⟨0, 0, 0, 0⟩))) j).getD (.Pass ⟨0, 0, 0, 0⟩)
def kindB (s : Scope) : Bool := match s.kind with
  | .function => true
  | _ => false
def listS : List Str → List Str → Bool
  | [], [] => true
  | x :: xs, y :: ys => strEq x y && listS xs ys
  | _, _ => false
theorem listS_ok : ∀ {a b : List Str}, listS a b = true → a = b
  | [], [], _ => rfl
  | [], _ :: _, h => by cases h
  | _ :: _, [], h => by cases h
  | x :: xs, y :: ys, h => by
    have h : (strEq x y && listS xs ys) = true := h
    rw [Bool.and_eq_true] at h
    rw [strEq_ok h.1, listS_ok h.2]
def fscB (N ps : List Str) (sc : Scope) : Bool :=
  kindB sc && (!sc.isCoroutine && (!sc.isGenerator && (nodupS N && (listS (N.take ps.length) ps && ((ps.all fun x => match lookupS sc.names x with | some .local => true | some .cell => true | _ => false) && sc.names.all fun y => match y.2 with | .free => false | _ => true)))))
theorem kindB_ok {s : Scope} (h : kindB s = true) : s.kind = .function := by
  unfold kindB at h
  split at h
  · assumption
  · cases h
theorem fscB_ok {N ps : List Str} {sc : Scope} (h : fscB N ps sc = true) : FnScope N ps sc := by
  unfold fscB at h
  simp only [Bool.and_eq_true] at h
  obtain ⟨h1, h2, h3, h4, h5, h6, h7⟩ := h
  refine ⟨kindB_ok h1, by simpa using h2, by simpa using h3, nodupS_ok h4, listS_ok h5, fun x hx => ?_, fun y hy e => ?_⟩
  · have z := List.all_eq_true.mp h6 x hx
    split at z
    · rename_i q; rw [lookupS_eq] at q; exact .inl q
    · rename_i q; rw [lookupS_eq] at q; exact .inr q
    · cases z
  · have z := List.all_eq_true.mp h7 y hy
    rw [e] at z
    cases z
def nscPB (N ps : List Str) (sc : Scope) : Bool :=
  kindB sc && (!sc.isCoroutine && (!sc.isGenerator && (nodupS N && (listS (N.take (ps.length + 1)) (ps ++ [("__class__" : Str)]) && ((ps.all fun x => match lookupS sc.names x with | some .local => true | _ => false) && (sc.names.all fun y => match y.2 with | .cell => false | .free => strEq y.1 "__class__" | _ => true) &&
    (match lookupS sc.names "__class__" with | some .free => true | _ => false))))))
theorem nscPB_ok {N ps : List Str} {sc : Scope} (h : nscPB N ps sc = true) : NdefX.NScope N ps [("__class__" : Str)] sc := by
  unfold nscPB at h
  simp only [Bool.and_eq_true] at h
  obtain ⟨h1, h2, h3, h4, h5, ⟨h6, h7⟩, h8⟩ := h
  refine ⟨kindB_ok h1, by simpa using h2, by simpa using h3, nodupS_ok h4, listS_ok h5, fun x hx => ?_, fun y hy e => ?_, fun y hy e => ?_, fun x hx => ?_⟩
  · have z := List.all_eq_true.mp h6 x hx
    split at z
    · rename_i q; rw [lookupS_eq] at q; exact q
    · cases z
  · have z := List.all_eq_true.mp h7 y hy
    rw [e] at z
    cases z
  · have z := List.all_eq_true.mp h7 y hy
    rw [e] at z
    have := strEq_ok z
    rw [this]
    exact List.mem_singleton.mpr rfl
  · have : x = ("__class__" : Str) := List.mem_singleton.mp hx
    subst this
    split at h8
    · rename_i q; rw [lookupS_eq] at q; exact q
    · cases h8

/-! ### the body with super() in front -/
structure SupA where
  p0 : Pos
  p1 : Pos
  apos : Pos
  e : Expr
  es : List Expr
  cpos : Pos
  spos : Pos
  rest : List Stmt
def asSup : List Stmt → Option SupA
  | .Expr (.Call (.Attribute (.Call (.Name s p0) [] [] p1) m apos) (e :: es) [] cpos) spos :: rest => if strEq s "super" && strEq m "__init__" then some ⟨p0, p1, apos, e, es, cpos, spos, rest⟩ else none
  | _ => none
theorem asSup_ok {b : List Stmt} {a : SupA} (h : asSup b = some a) : b = .Expr (.Call (.Attribute (.Call (.Name "super" a.p0) [] [] a.p1) "__init__" a.apos) (a.e :: a.es) [] a.cpos) a.spos :: a.rest := by
  unfold asSup at h
  split at h
  · split at h
    · rename_i q
      rw [Bool.and_eq_true] at q
      have h1 := strEq_ok q.1
      have h2 := strEq_ok q.2
      subst h1 h2
      cases h
      rfl
    · cases h
  · cases h
def scA : List PD.St → Option (Nat × Nat × List E × List PD.St)
  | .expr (.scall d k es) :: ts => some (d, k, es, ts)
  | _ => none
theorem scA_ok {b : List PD.St} {a} (h : scA b = some a) : b = .expr (.scall a.1 a.2.1 a.2.2.1) :: a.2.2.2 := by
  unfold scA at h
  split at h <;> cases h
  rfl
def nmsOf (I : Inp) (xs : List Nat) : List Str := xs.map fun k => I.h.sy k
/-- a def's check -/
def defChk (I : Inp) (sd : SD) (nms : List Nat) : Bool := nms.all (ltB I) && opB (nth I.G.defs sd.f) fun d => opB (nth I.J.ds sd.f) fun di => Nat.beq d.nn nms.length && (Nat.beq di.ps.length d.prm.length && match sd.clo with
  | [] => fscB (nmsOf I nms) di.ps sd.scope && chkSs I.h.kpp ⟨nmsOf I nms, sd.scope⟩ d.body sd.body
  | _ => listS sd.clo [("__class__" : Str)] && (nscPB (nmsOf I nms) di.ps sd.scope && (opB (asSup sd.body) fun a => opB (scA d.body) fun q => (match lookupS sd.scope.names "super" with | some .globalImplicit => true | _ => false) && ((lkN I.G.cls q.1).isSome && (sameS (nth (nmsOf I nms) 0) "self" && (memS di.ps "self" && (
      ((I.sup.any fun z => Nat.beq z.1 sd.f && (Nat.beq z.2.1 q.1 && Nat.beq z.2.2 q.2.1)) && ((a.e :: a.es).all notStar && (Nat.blt (a.e :: a.es).length 29 && (Nat.beq a.apos.endLine a.cpos.line && (chkEs I.h.kpp ⟨nmsOf I nms, sd.scope⟩ q.2.2.1 (a.e :: a.es) && chkSs I.h.kpp ⟨nmsOf I nms, sd.scope⟩ q.2.2.2 a.rest))))))))))))
section
variable {I : Inp} {P : Program} {w : World} {K : PySem.W.Frag} {mg : Str → Option Value} {hp base : Heap}
theorem sup_ok (C : Closed I) (KX : K.In hp) (Gm : hp.Ns mainGlobals mg) (s : obsP I P K = valP I w) {f dn k : Nat} {fd : FuncData} (hz : (f, dn, k) ∈ I.sup) {oc : Value} {od : Option Addr} {osl : Array (Option Value)} (lk : K.lookup (I.h.fa K f) = some ⟨oc, od, .func (fdAt K (I.h.fa K f)), osl⟩)
    (htop : (P.main.scope.names.lookup ("super" : Str)).isSome = false) : ∀ X : Cx, X.K = K → X.mg = mg → SupF P X (I.h.fa K f) (cdaOf K (I.h.fa K f)) (ccOf K (I.h.fa K f)) (I.h.ca K dn) (I.h.fa K k) "self" := by
  intro X hK hM
  have a := says_all s
  unfold allB gloB at a
  simp only [Bool.and_eq_true] at a
  obtain ⟨⟨_, _, _, _, a5⟩, _, _, _, a9⟩ := a
  have b := List.all_eq_true.mp a9.1 _ hz
  unfold supB at b
  simp only [Bool.and_eq_true] at b
  obtain ⟨b1, b2, b3, b4, b5, b6, b7, b8, b9, b10⟩ := b
  rw [← hK] at b2 b3 b4 b5 b6 b7 b8 b9 lk
  rw [← hK]
  refine ⟨?_, ?_, ?_, of_decide_eq_true b4, ?_, htop, of_decide_eq_true b5, b6, of_decide_eq_true b7, of_decide_eq_true b8, b9⟩
  · split at b1
    · rename_i r rr er
      refine ⟨oc, od, _, osl, r, lk, ?_, strEq_ok b1⟩
      rw [hK, er]; rfl
    · cases b1
  · split at b2
    · rename_i c1 c2 vs c3 ec
      split at b2
      · rename_i file tf ef
        exact ⟨c1, c2, vs, c3, file, tf, ec, ef, b2⟩
      · cases b2
    · cases b2
  · split at b3
    · rename_i c1 c2 dd c3 ec
      have := of_decide_eq_true b3
      subst this
      exact ⟨_, _, _, ec⟩
    · cases b3
  · rw [hM]
    exact mg_ok KX Gm (He.eqO_ok a5)
theorem def_lvl (C : Closed I) (KX : K.In hp) (Gm : hp.Ns mainGlobals mg) (s : obsP I P K = valP I w) (Wh : Whole (I.T C w K mg) I.G I.J (I.h.ly K) I.h.kpp w) (htop : (P.main.scope.names.lookup ("super" : Str)).isSome = false)
    {sd : SD} {nms : List Nat} (hsd : sd ∈ I.sds) (hc : defChk I sd nms = true) {d : Df} {di : DI} (ed : nth I.G.defs sd.f = some d) (edi : nth I.J.ds sd.f = some di) {n : Nat} (hf : Fns (I.T C w K mg) I.G I.J (I.h.ly K) P w base n) :
    FnOk P w K mg base (L2.CX P w) (3 * n + 2 + 1) (I.h.fa K sd.f) (fdAt K (I.h.fa K sd.f)) di.ps (spD (I.T C w K mg) I.G (n + 1) sd.f) := by
  unfold defChk at hc
  rw [ed, edi] at hc
  simp only [opB, Bool.and_eq_true] at hc
  obtain ⟨hN, h1, h2, h3⟩ := hc
  have h1 : d.nn = (nmsOf I nms).length := by unfold nmsOf; rw [List.length_map]; exact Nat.eq_of_beq_eq_true h1
  have h2 := Nat.eq_of_beq_eq_true h2
  have hNs : ∀ x ∈ nmsOf I nms, x ∈ (I.T C w K mg).syms := fun x hx => by
    unfold nmsOf at hx
    obtain ⟨k, hk, rfl⟩ := List.mem_map.mp hx
    exact List.mem_of_getElem? (C.at_ (List.all_eq_true.mp hN k hk))
  have a := says_all s
  unfold allB at a
  simp only [Bool.and_eq_true] at a
  have ok := List.all_eq_true.mp a.2.2.1 sd hsd
  have fnp := says_fn s hsd
  split at h3
  · rename_i hclo
    rw [Bool.and_eq_true] at h3
    have F := sd_fun (T := I.T C w K mg) rfl rfl fnp ok hclo
    exact fn_lvl (Ly := I.h.ly K) (di := di) Wh F (fscB_ok h3.1) h3.2 ed h1 h2 hNs hf
  · simp only [Bool.and_eq_true] at h3
    obtain ⟨c1, c2, c3⟩ := h3
    have c1 := listS_ok c1
    obtain ⟨sa, ea, c3⟩ := opB_ok (show opB (asSup sd.body) _ = true from c3)
    obtain ⟨q, eq, c3⟩ := opB_ok (show opB (scA d.body) _ = true from c3)
    simp only [Bool.and_eq_true] at c3
    obtain ⟨d1, d2, d3, d4, d5, d6, d7, d8, d9, d10⟩ := c3
    have hbody := asSup_ok ea
    have hdb := scA_ok eq
    obtain ⟨kd, ekd⟩ := Option.isSome_iff_exists.mp d2
    obtain ⟨oc, od, osl, lk, k1, k2, k3, k4, k5, k6, cl, e1, e2⟩ := sd_at fnp ok
    have hz : (sd.f, q.1, q.2.1) ∈ I.sup := by
      obtain ⟨z, hz, ez⟩ := List.any_eq_true.mp d5
      simp only [Bool.and_eq_true] at ez
      obtain ⟨z1, z2, z3⟩ := z
      have y1 : z1 = sd.f := Nat.eq_of_beq_eq_true ez.1
      have y2 : z2 = q.1 := Nat.eq_of_beq_eq_true ez.2.1
      have y3 : z3 = q.2.1 := Nat.eq_of_beq_eq_true ez.2.2
      rw [← y1, ← y2, ← y3]
      exact hz
    have SFa := sup_ok (P := P) C KX Gm s (fd := default) hz lk htop
    have hcl : cl = [(("__class__" : Str), ccOf K (I.h.fa K sd.f))] := by
      rw [c1] at e1
      cases cl with
      | nil => cases e1
      | cons p r =>
        cases r with
        | cons _ _ => simp at e1
        | nil =>
          obtain ⟨x, c⟩ := p
          simp at e1
          subst e1
          have : ccOf K (I.h.fa K sd.f) = c := by unfold ccOf; rw [e2]
          rw [this]
    have hcda : (fdAt K (I.h.fa K sd.f)).code = .ref (cdaOf K (I.h.fa K sd.f)) := by
      have a := says_all s
      unfold allB at a
      simp only [Bool.and_eq_true] at a
      have b := List.all_eq_true.mp a.2.2.2.2.1 _ hz
      unfold supB at b
      simp only [Bool.and_eq_true] at b
      have b10 := b.2.2.2.2.2.2.2.2.2
      unfold cdaOf
      split at b10
      · rename_i c ec; rw [ec]
      · cases b10
    have hn0 : (nmsOf I nms)[0]? = some ("self" : Str) := by
      have := sameS_ok d3
      rw [nth_eq] at this
      exact this
    have hks : sd.scope.names.lookup ("super" : Str) = some .globalImplicit := by
      split at d1
      · rename_i z; rw [lookupS_eq] at z; exact z
      · cases d1
    rw [hcda] at k4
    have hln : (sa.apos.endLine == sa.cpos.line) = true := by rw [Nat.eq_of_beq_eq_true d8]; exact beq_self_eq_true _
    rw [hcl, hbody, hcda] at e2
    exact fn_sup (T := I.T C w K mg) (Ly := I.h.ly K) (di := di) (N := nmsOf I nms) (a0 := "self") Wh lk e2 k4 (nscPB_ok c2) hks ekd hn0 (memS_ok d4) SFa d6 (Nat.le_of_ble_eq_true d7) hln d9 d10 hdb ed h1 h2 hNs hf
/-! ### all -/
inductive AllN {α : Type} (Q : Nat → α → Prop) : Nat → List α → Prop
  | nil {i : Nat} : AllN Q i []
  | cons {i : Nat} {x : α} {r : List α} : Q i x → AllN Q (i + 1) r → AllN Q i (x :: r)
theorem AllN.at_ {α : Type} {Q : Nat → α → Prop} : ∀ {l : List α} {i : Nat}, AllN Q i l → ∀ f x, nth l f = some x → Q (i + f) x
  | _, _, .nil, f, x, e => by simp [nth] at e
  | _, _, .cons h t, 0, x, e => by simp [nth] at e; subst e; exact h
  | _, i, .cons h t, f + 1, x, e => by
    have := t.at_ f x (by simpa [nth] using e)
    rw [Nat.add_assoc, Nat.add_comm 1 f] at this
    exact this
/-- every def that may be called is checked -/
def covB (I : Inp) (nms : List (List Nat)) : Bool := allI nms I.sds && (cov I.G.defs 0)
where
  allI : List (List Nat) → List SD → Bool
    | n :: ns, d :: ds => defChk I d n && allI ns ds
    | [], [] => true
    | _, _ => false
  cov : List Df → Nat → Bool
    | [], _ => true
    | d :: ds, i => (d.pats.isEmpty || I.sds.any fun s => Nat.beq s.f i) && cov ds (i + 1)
theorem covB_at {nms : List (List Nat)} (h : covB I nms = true) {f : Nat} {d : Df} (e : nth I.G.defs f = some d) (hp : d.pats ≠ []) : ∃ sd ns, sd ∈ I.sds ∧ sd.f = f ∧ defChk I sd ns = true := by
  unfold covB at h
  rw [Bool.and_eq_true] at h
  obtain ⟨h1, h2⟩ := h
  have key : ∀ {l : List Df} {i f : Nat} {d : Df}, covB.cov I l i = true → nth l f = some d → d.pats ≠ [] → (I.sds.any fun s => Nat.beq s.f (i + f)) = true := by
    intro l
    induction l with
    | nil => intro i f d _ e; simp [nth] at e
    | cons x r ih =>
      intro i f d hc e hp
      unfold covB.cov at hc
      rw [Bool.and_eq_true] at hc
      cases f with
      | zero =>
        simp [nth] at e
        subst e
        rw [Bool.or_eq_true] at hc
        rcases hc.1 with z | z
        · exact absurd (List.isEmpty_iff.mp z) hp
        · exact z
      | succ f =>
        have := ih hc.2 (by simpa [nth] using e) hp
        rw [Nat.add_assoc, Nat.add_comm 1 f] at this
        exact this
  have q := key h2 e hp
  rw [Nat.zero_add] at q
  obtain ⟨sd, hsd, ef⟩ := List.any_eq_true.mp q
  have key2 : ∀ {ns : List (List Nat)} {l : List SD} {sd : SD}, covB.allI I ns l = true → sd ∈ l → ∃ n, defChk I sd n = true := by
    intro ns l
    induction l generalizing ns with
    | nil => intro sd _ hm; cases hm
    | cons x r ih =>
      intro sd hc hm
      cases ns with
      | nil => unfold covB.allI at hc; cases hc
      | cons n0 ns =>
        unfold covB.allI at hc
        rw [Bool.and_eq_true] at hc
        rcases List.mem_cons.mp hm with rfl | hm
        · exact ⟨n0, hc.1⟩
        · exact ih hc.2 hm
  obtain ⟨ns, hns⟩ := key2 h1 hsd
  exact ⟨sd, ns, hsd, Nat.eq_of_beq_eq_true ef, hns⟩
theorem fns_ok (C : Closed I) (KX : K.In hp) (Gm : hp.Ns mainGlobals mg) (s : obsP I P K = valP I w) (hd : ∀ f d, nth I.G.defs f = some d → d.pats ≠ [] → DefIn I C w K mg f d) {nms : List (List Nat)} (cov : covB I nms = true) (htop : (P.main.scope.names.lookup ("super" : Str)).isSome = false) (n : Nat) :
    Fns (I.T C w K mg) I.G I.J (I.h.ly K) P w base n :=
  fns_all (fun n f d di hf e hp ei => by
    obtain ⟨sd, ns, h1, h2, h3⟩ := covB_at cov e hp
    subst h2
    exact def_lvl C KX Gm s (whole_ok C KX Gm s hd) htop h1 h3 e ei hf) n
/-- the law's promise, from its deep meaning -/
def spLaw (I : Inp) (C : Closed I) (w : World) (K : PySem.W.Frag) (mg : Str → Option Value) (n lf : Nat) : Sp := spD (I.T C w K mg) I.G n lf
theorem law_sp (C : Closed I) {n lf : Nat} {d : Df} (ed : nth I.G.defs lf = some d) {m : Nat} (law : ∀ ns : List Int, ns.length ≤ m → ∃ S, callN I.G n lf [.rol (ns.map .int)] [] = .ok (.bl true) S) {H : Hp} {a : Addr} {ns : List Int} (hl : ns.length ≤ m) (ho : Only H) (hS : SqL K H a (ns.map V.int)) :
    spLaw I C w K mg n lf [.ref a] H (fun v _ => v = .bl true) fun _ _ _ => False := by
  obtain ⟨S, e⟩ := law ns hl
  have rs : ∀ ns : List Int, RDs (I.T C w K mg) [] H (ns.map D.int) (ns.map V.int) := by
    intro ns
    induction ns with
    | nil => exact .nil
    | cons i r ih => exact .cons (.int i) ih
  have sq : SqF K H a (ns.map V.int) := by
    rcases hS with (h | h) | h
    · exfalso
      rcases ho a with z | ⟨o, xs, z⟩
      · rw [z] at h; cases h
      · rw [z] at h; cases h
    · exact .inl h
    · exact .inr h
  refine ⟨[], [], [.rol (ns.map .int)], d, ed, ⟨rfl, List.nodup_nil, fun l o a h _ => by simp at h⟩, .cons (.rol sq (rs ns)) .nil, ?_⟩
  rw [e]
  intro ρ' H' e2 s2 v r
  cases r
  rfl
end
end PD
end Sec25
section Sec26
set_option Elab.async false
set_option linter.all false
set_option maxRecDepth 100000
set_option maxHeartbeats 4000000
/-! PD25: how calls bind; the law's end over the look. -/
namespace PD
open PySem PySem.Spec PyProof.Rows L2 He
/-! ### where each parameter's value comes from -/
inductive Frm where
  | p (i : Nat)
  | k (i : Nat)
  | d (i : Nat)
def pickO {α : Type} (us mv ws : List α) : Frm → Option α
  | .p i => us[i]?
  | .k i => ws[i]?
  | .d i => mv[i]?
def pick {α : Type} (us mv ws : List α) : List Frm → List α
  | [] => []
  | s :: r => match pickO us mv ws s with
    | some x => x :: pick us mv ws r
    | none => pick us mv ws r
theorem vals_none : ∀ {xs : List V} {us : List Value} {i : Nat}, Vals xs us → xs[i]? = none → us[i]? = none := fun {xs us i} r e => by
  have := r.length
  rw [List.getElem?_eq_none_iff] at e ⊢
  omega
theorem pick_vals {vs mz zs : List V} {us mv ws : List Value} (r1 : Vals vs us) (r2 : Vals mz mv) (r3 : Vals zs ws) : ∀ ss : List Frm, Vals (pick vs mz zs ss) (pick us mv ws ss)
  | [] => .nil
  | s :: r => by
    have ih := pick_vals r1 r2 r3 r
    have key : (pickO vs mz zs s = none ∧ pickO us mv ws s = none) ∨ ∃ x u, pickO vs mz zs s = some x ∧ pickO us mv ws s = some u ∧ RelV x u := by
      have one : ∀ {xs : List V} {us : List Value} (i : Nat), Vals xs us → (xs[i]? = none ∧ us[i]? = none) ∨ ∃ x u, xs[i]? = some x ∧ us[i]? = some u ∧ RelV x u := fun {xs us} i r => by
        cases e : xs[i]? with
        | none => exact .inl ⟨rfl, vals_none r e⟩
        | some x =>
          obtain ⟨u, h1, h2⟩ := Vals.get r e
          exact .inr ⟨x, u, rfl, h1, h2⟩
      cases s with
      | p i => exact one i r1
      | k i => exact one i r3
      | d i => exact one i r2
    unfold pick
    rcases key with ⟨e1, e2⟩ | ⟨x, u, e1, e2, e3⟩
    · rw [e1, e2]; exact ih
    · rw [e1, e2]; exact .cons e3 ih
theorem pick_rds {T : Tab} {ρ : List Addr} {H : Hp} {xs mx ys : List D} {vs mz zs : List V} (r1 : RDs T ρ H xs vs) (r2 : RDs T ρ H mx mz) (r3 : RDs T ρ H ys zs) : ∀ ss : List Frm, RDs T ρ H (pick xs mx ys ss) (pick vs mz zs ss)
  | [] => .nil
  | s :: r => by
    have ih := pick_rds r1 r2 r3 r
    have key : (pickO xs mx ys s = none ∧ pickO vs mz zs s = none) ∨ ∃ x u, pickO xs mx ys s = some x ∧ pickO vs mz zs s = some u ∧ RD T ρ H x u := by
      have one : ∀ {xs : List D} {us : List V} (i : Nat), RDs T ρ H xs us → (xs[i]? = none ∧ us[i]? = none) ∨ ∃ x u, xs[i]? = some x ∧ us[i]? = some u ∧ RD T ρ H x u := fun {xs us} i r => by
        cases e : xs[i]? with
        | none =>
          have := r.length
          rw [List.getElem?_eq_none_iff] at e
          exact .inl ⟨rfl, List.getElem?_eq_none_iff.mpr (by omega)⟩
        | some x =>
          obtain ⟨u, h1, h2⟩ := RDs.get r e
          exact .inr ⟨x, u, rfl, h1, h2⟩
      cases s with
      | p i => exact one i r1
      | k i => exact one i r3
      | d i => exact one i r2
    unfold pick
    rcases key with ⟨e1, e2⟩ | ⟨x, u, e1, e2, e3⟩
    · rw [e1, e2]; exact ih
    · rw [e1, e2]; exact .cons e3 ih
theorem dfl_none {h : HD} {K : PySem.W.Frag} {dV : Value} {ds : List D} (e : dflPB h K dV ds = true) (z : ds = []) : dV = .none := by
  subst z
  unfold dflPB at e
  cases dV <;> first | rfl | cases e
/-- what a call's binding is, of the parameters alone -/
def Bnd (params : Arguments) (ps : List Str) (n : Nat) (kn : List Str) (ss : List Frm) : Prop :=
  ∀ (nm ql : Str) (body : List Stmt) (scope : Scope) (cl : List (Str × Addr)) (kV doc pm : Value) (an : Option Addr) (cdv ct : Value) (us ws : List Value), us.length = n → ws.length = kn.length →
    bindArgs (PySem.W.fnX nm ql params body scope cl .none kV doc pm an cdv ct) ⟨us, kn.zip ws⟩ = pure (ps.zip (pick us [] ws ss))
def BndK (params : Arguments) (ps : List Str) (n : Nat) (kn mn : List Str) (ss : List Frm) : Prop :=
  ∀ (nm ql : Str) (body : List Stmt) (scope : Scope) (D : Addr) (doc pm : Value) (an : Option Addr) (cdv ct : Value) (us mv ws : List Value), us.length = n → mv.length = mn.length → ws.length = kn.length →
    KwChain D (mn.zip mv) (bindArgs (PySem.W.fnOf nm ql params body scope .none (.ref D) doc pm an cdv ct) ⟨us, kn.zip ws⟩) (ps.zip (pick us mv ws ss))
def BndD (prm : List (Nat × Option D)) (n : Nat) (ks : List Nat) (mx : List D) (ss : List Frm) : Prop := ∀ xs ys : List D, xs.length = n → ys.length = ks.length → bindA prm xs ks ys = some (pick xs mx ys ss)
/-- the names of symbols -/
def symsAt (I : Inp) : List Nat → List Str → Bool
  | [], [] => true
  | k :: ks, x :: xs => sameS (nth I.h.kpp.syms k) x && symsAt I ks xs
  | _, _ => false
theorem symsAt_ok {I : Inp} : ∀ {ks : List Nat} {xs : List Str}, symsAt I ks xs = true → xs.length = ks.length ∧ ∀ (i k : Nat), ks[i]? = some k → ∃ x : Str, I.h.kpp.syms[k]? = some x ∧ xs[i]? = some x
  | [], [], _ => ⟨rfl, fun i k e => by simp at e⟩
  | [], _ :: _, h => by cases h
  | _ :: _, [], h => by cases h
  | k :: ks, x :: xs, h => by
    have h : (sameS (nth I.h.kpp.syms k) x && symsAt I ks xs) = true := h
    rw [Bool.and_eq_true] at h
    obtain ⟨h1, h2⟩ := symsAt_ok h.2
    refine ⟨congrArg Nat.succ h1, fun i q e => ?_⟩
    cases i with
    | zero =>
      have e : some k = some q := e
      cases e
      have := sameS_ok h.1
      rw [nth_eq] at this
      exact ⟨x, this, rfl⟩
    | succ i => exact h2 i q (by simpa using e)
section
variable {I : Inp} {P : Program} {w : World} {K : PySem.W.Frag} {mg : Str → Option Value}
/-- no default is asked -/
theorem pat_c (C : Closed I) (s : obsP I P K = valP I w) {sd : SD} (hsd : sd ∈ I.sds) {d : Df} {di : DI} {n : Nat} {ks : List Nat} {kn : List Str} {ss : List Frm} (hdf : sd.dfl = []) (hk : symsAt I ks kn = true) (hb : Bnd sd.params di.ps n kn ss) (hd : BndD d.prm n ks [] ss) :
    PatF (I.T C w K mg) I.G I.J (I.h.ly K) sd.f d di n ks := by
  have a := says_all s
  unfold allB at a
  simp only [Bool.and_eq_true] at a
  obtain ⟨oc, od, osl, lk, k1, k2, k3, k4, k5, k6, cl, e1, e2⟩ := sd_at (says_fn s hsd) (List.all_eq_true.mp a.2.2.1 sd hsd)
  have hdV : (fdAt K (I.h.fa K sd.f)).defaults = .none := dfl_none k5 hdf
  obtain ⟨q1, q2⟩ := symsAt_ok hk
  refine ⟨kn, fun us ws => pick us [] ws ss, fun us ws => pick us [] ws ss, q2, q1, ⟨fun s us ws _ l1 l2 => ?_, fun r1 r2 => pick_vals r1 .nil r2 ss⟩, fun ρ H xs vs ys zs as l1 l2 r1 r2 e => ?_⟩
  · refine .of_eq ?_
    show bindArgs (fdAt K (I.h.fa K sd.f)) _ = _
    rw [e2, hdV]
    exact hb _ _ _ _ _ _ _ _ _ _ _ us ws l1 l2
  · rw [hd xs ys l1 l2] at e
    cases e
    exact pick_rds r1 .nil r2 ss
/-- keyword-only defaults fill up: ms where they stand in sd.kwd -/
theorem pat_k (C : Closed I) (s : obsP I P K = valP I w) {sd : SD} (hsd : sd ∈ I.sds) (hcl : sd.clo = []) {d : Df} {di : DI} {n : Nat} {ks : List Nat} {kn mn : List Str} {ss : List Frm} {ms : List (Nat × D)} (hdf : sd.dfl = []) (hms : ∀ q ∈ ms, q ∈ sd.kwd) (hkd : sd.kwd ≠ []) (hmn : ms.map (fun q => I.h.sy q.1) = mn) (hk : symsAt I ks kn = true)
    (hb : BndK sd.params di.ps n kn mn ss) (hd : BndD d.prm n ks (ms.map (·.2)) ss) : PatF (I.T C w K mg) I.G I.J (I.h.ly K) sd.f d di n ks := by
  have a := says_all s
  unfold allB at a
  simp only [Bool.and_eq_true] at a
  have ok := List.all_eq_true.mp a.2.2.1 sd hsd
  have F := sd_fun (T := I.T C w K mg) rfl rfl (says_fn s hsd) ok hcl
  obtain ⟨oc, od, osl, lk, k1, k2, k3, k4, k5, k6, cl, e1, e2⟩ := sd_at (says_fn s hsd) ok
  have hdv : dvsOf K (fdAt K (I.h.fa K sd.f)).defaults = [] := by
    rw [dfl_none k5 hdf]; rfl
  rw [show dvsOf (I.T C w K mg).K (fdAt (I.T C w K mg).K (I.h.fa (I.T C w K mg).K sd.f)).defaults = [] from hdv] at F
  obtain ⟨q1, q2⟩ := symsAt_ok hk
  obtain ⟨z1, z2⟩ := kwdP_ok (T := I.T C w K mg) rfl rfl k6
  have hv : ∀ ms : List (Nat × D), (∀ q ∈ ms, q ∈ sd.kwd) → ∃ mz : List (Str × V), (∀ q ∈ mz, q ∈ kwsOf I.h K (fdAt K (I.h.fa K sd.f)).kwdefaults sd.kwd) ∧ mz.map (·.1) = ms.map (fun q => I.h.sy q.1) ∧ ∀ ρ H, RDs (I.T C w K mg) ρ H (ms.map (·.2)) (mz.map (·.2)) := by
    intro ms
    induction ms with
    | nil => exact fun _ => ⟨[], (fun q h => by cases h), rfl, fun _ _ => .nil⟩
    | cons m r ih =>
      intro h
      obtain ⟨mz, h1, h2, h3⟩ := ih fun q hq => h q (List.mem_cons_of_mem _ hq)
      obtain ⟨i, hi⟩ := List.getElem?_of_mem (h m (List.mem_cons_self ..))
      obtain ⟨v, ev, rv⟩ := z2 i m hi
      refine ⟨(I.h.sy m.1, v) :: mz, fun q hq => ?_, ?_, fun ρ H => .cons (rv ρ H) (h3 ρ H)⟩
      · rcases List.mem_cons.mp hq with rfl | hq
        · exact List.mem_of_getElem? ev
        · exact h1 q hq
      · show _ :: _ = _ :: _
        rw [h2]
  obtain ⟨mz, h1, h2, h3⟩ := hv ms hms
  have hne : kwsOf (I.h) K (fdAt K (I.h.fa K sd.f)).kwdefaults sd.kwd ≠ [] := fun z => by
    unfold kwsOf at z
    exact hkd (List.map_eq_nil_iff.mp z)
  obtain ⟨mv, kb⟩ := F.kbinds0 (ps := di.ps) n kn mz (fun us mv ws => pick us mv ws ss) hne h1 (fun r1 r2 r3 => pick_vals r1 r2 r3 ss) (fun D doc pm an cdv ct us mv ws l1 l2 l3 => by
    rw [h2, hmn]
    refine hb _ _ _ _ D doc pm an cdv ct us mv ws l1 ?_ l3
    rw [l2, ← hmn, List.length_map]
    have := congrArg List.length h2
    rw [List.length_map, List.length_map] at this
    exact this)
  refine ⟨kn, _, _, q2, q1, kb, fun ρ H xs vs ys zs as l1 l2 r1 r2 e => ?_⟩
  rw [hd xs ys l1 l2] at e
  cases e
  exact pick_rds r1 (h3 ρ H) r2 ss
end
/-! ### what is closed of the defs -/
def clB (I : Inp) : List Df → Nat → Bool
  | [], _ => true
  | d :: ds, i => (d.pats.isEmpty || (match nth I.J.ds i with
    | some di => Nat.beq di.ps.length d.prm.length && (match di.gl with
      | none => true
      | some g => (match nth I.h.adr i with
        | some (g', none, false) => Nat.beq g g' && ltB I g
        | _ => false))
    | none => false)) && clB I ds (i + 1)
/-- a def's calls bind: by the pattern -/
def PatsOk (I : Inp) (P : Program) (i : Nat) (d : Df) : Prop := ∀ di, nth I.J.ds i = some di → ∀ (C : Closed I) (w : World) (K : PySem.W.Frag) (mg : Str → Option Value), obsP I P K = valP I w → ∀ n ks, patO d.pats n ks = true → PatF (I.T C w K mg) I.G I.J (I.h.ly K) i d di n ks
theorem clB_at {I : Inp} : ∀ {l : List Df} {i f : Nat} {d : Df}, clB I l i = true → nth l f = some d → d.pats ≠ [] → ∃ di, nth I.J.ds (i + f) = some di ∧ di.ps.length = d.prm.length ∧ ∀ g, di.gl = some g → nth I.h.adr (i + f) = some (g, none, false) ∧ ltB I g = true
  | [], i, f, d, _, e, _ => by simp [nth] at e
  | x :: r, i, 0, d, h, e, hp => by
    simp [nth] at e
    subst e
    unfold clB at h
    rw [Bool.and_eq_true, Bool.or_eq_true] at h
    rcases h.1 with z | z
    · exact absurd (List.isEmpty_iff.mp z) hp
    · split at z
      · rename_i di edi
        rw [Bool.and_eq_true] at z
        refine ⟨di, edi, Nat.eq_of_beq_eq_true z.1, fun g hg => ?_⟩
        have z2 := z.2
        rw [hg] at z2
        dsimp only at z2
        split at z2
        · rename_i g' eg
          rw [Bool.and_eq_true] at z2
          have := Nat.eq_of_beq_eq_true z2.1
          subst this
          exact ⟨eg, z2.2⟩
        · cases z2
      · cases z
  | x :: r, i, f + 1, d, h, e, hp => by
    unfold clB at h
    rw [Bool.and_eq_true] at h
    have := clB_at h.2 (show nth r f = some d by simpa [nth] using e) hp
    rw [Nat.add_assoc, Nat.add_comm 1 f] at this
    exact this
theorem defIn_all {I : Inp} {P : Program} (C : Closed I) {nms : List (List Nat)} (cov : covB I nms = true) (hcl : clB I I.G.defs 0 = true) (hp : AllN (PatsOk I P) 0 I.G.defs) {w : World} {K : PySem.W.Frag} {mg : Str → Option Value} (s : obsP I P K = valP I w) :
    ∀ f d, nth I.G.defs f = some d → d.pats ≠ [] → DefIn I C w K mg f d := fun f d e hn => by
  obtain ⟨di, h1, h2, h3⟩ := clB_at hcl e hn
  rw [Nat.zero_add] at h1 h3
  obtain ⟨sd, ns, q1, q2, q3⟩ := covB_at cov e hn
  have pp := hp.at_ f d e
  rw [Nat.zero_add] at pp
  exact ⟨di, sd, h1, q1, q2, h2, h3, pp di h1 C w K mg s⟩
theorem cx_no {P : Program} {w : World} {H : Hp} {s s' : Shared} {e : Value} (c : L2.CX P w [] H s (fun _ _ _ => False) e s') : False := by
  obtain ⟨_, _, _, _, _, _, _, _, _, _, _, _, z⟩ := c
  exact z
/-- a law, its promise over every base -/
theorem walkE {l : PySem.W.OpenLaw} {n k : Nat} {q : Program} {loose : List Str} {XP : (Str → Option Value) → Heap → Prop} {YP : World → Heap → Prop} {d : DefRec} {x : Str}
    (hn : l.most = some n) (hn2 : n ≤ sizeLine) (hdf : d.params.defaults = []) (hr : Room k callerA)
    (F : ∀ (w : World) (mg : Str → Option Value) (fa : Addr) (h : Heap), YP w h → h.Ns mainGlobals mg → mg d.name = some (.ref fa) →
      ∃ (K : PySem.W.Frag) (fd : FuncData) (sp : Sp), K.In h ∧ (∀ (s : Shared) (u : Value), BindsTo s fd ⟨[u], []⟩ [(x, u)]) ∧
        (∀ (H : Hp) (a : Addr) (ns : List Int), ns.length ≤ n → Only H → SqL K H a (ns.map V.int) → sp [.ref a] H (fun v _ => v = .bl true) fun _ _ _ => False) ∧
        ∀ base : Heap, FnOk l.prog w K mg base (L2.CX l.prog w) k fa fd [x] sp) :
    PySem.W.WalkO q loose XP YP l.row.toRowW d [] (fun f vs => PySem.call f vs) := by
  refine Att.attach_call hn hdf fun w s₀ s₁ mg mb fa o pm cd doc a vs ns G Y ho hd hcd hmg hobj hints hlen hg => ?_
  obtain ⟨K, fd, sp, KX, hb, hsp, hF⟩ := F w mg fa _ Y G.T.g hmg
  exact law_call KX G.T.g G.T.b G.T.builtins G.T.nolimit hg hobj hints (Nat.le_trans hlen hn2) hr (fun base _ _ => hF base) hb (fun H hO hS => hsp H a ns hlen hO hS) fun H e s' c => cx_no c
/-- the law's end: I the look, lf the law's def, N how deep its calls go -/
theorem law_pd {l : PySem.W.OpenLaw} {I : Inp} (C : Closed I) {n N lf : Nat} {M : List Addr} {q : Program} {loose : List Str} {XP : (Str → Option Value) → Heap → Prop} {d : DefRec} {df : Df} {di : DI} {x : Str} {g : Nat} {nms : List (List Nat)} {sd : SD}
    (cov : covB I nms = true) (hcl : clB I I.G.defs 0 = true) (hp : AllN (PatsOk I l.prog) 0 I.G.defs)
    (htop : (l.prog.main.scope.names.lookup ("super" : Str)).isSome = false)
    (hn : l.most = some n) (hn2 : n ≤ sizeLine) (hdf : d.params.defaults = []) (hr : Room (3 * (N + 1)) callerA)
    (ed : nth I.G.defs lf = some df) (hpt : df.pats ≠ []) (edi : nth I.J.ds lf = some di) (hps : di.ps = [x]) (hgl : di.gl = some g) (hx : I.h.sy g = d.name)
    (hsd : sd ∈ I.sds) (hsf : sd.f = lf) (hdfl : sd.dfl = [])
    (hb : Bnd sd.params di.ps 1 [] [.p 0])
    (law : ∀ ns : List Int, ns.length ≤ n → ∃ S, callN I.G (N + 1) lf [.rol (ns.map .int)] [] = .ok (.bl true) S) :
    PySem.W.WalkO q loose XP (hookP M I l.prog).says l.row.toRowW d [] (fun f vs => PySem.call f vs) := by
  subst hsf
  refine walkE (k := 3 * (N + 1)) (x := x) hn hn2 hdf hr fun w mg fa h Y Gm hmg => ?_
  obtain ⟨K, KX, s⟩ := Y
  have DI := defIn_all (mg := mg) C cov hcl hp s
  have a := says_all s
  unfold allB at a
  simp only [Bool.and_eq_true] at a
  have ok := List.all_eq_true.mp a.2.2.1 sd hsd
  obtain ⟨oc, od, osl, lk, k1, k2, k3, k4, k5, k6, cl, e1, e2⟩ := sd_at (says_fn s hsd) ok
  have hfa : fa = I.h.fa K sd.f := by
    obtain ⟨di', q1, q2, q3⟩ := clB_at hcl ed hpt
    rw [Nat.zero_add, edi] at q1
    cases q1
    obtain ⟨q3, q4⟩ := q3 g hgl
    rw [Nat.zero_add] at q3
    have z := List.all_eq_true.mp a.2.2.2.2.2 sd hsd
    unfold glB at z
    rw [q3] at z
    have z2 := glo_ok KX Gm z
    rw [hx, hmg] at z2
    cases z2
    unfold HD.fa
    rw [q3]
    show ga K d.name = ga K (I.h.sy g)
    rw [hx]
  subst hfa
  refine ⟨K, fdAt K (I.h.fa K sd.f), spLaw I C w K mg (N + 1) sd.f, KX, fun s u => ?_, fun H a ns hl ho hS => law_sp C ed law hl ho hS, fun base => ?_⟩
  · have hdV : (fdAt K (I.h.fa K sd.f)).defaults = .none := dfl_none k5 hdfl
    rw [e2, hdV]
    have := hb sd.name sd.qual sd.body sd.scope cl (fdAt K (I.h.fa K sd.f)).kwdefaults (fdAt K (I.h.fa K sd.f)).doc (fdAt K (I.h.fa K sd.f)).pyModule (fdAt K (I.h.fa K sd.f)).annotations (fdAt K (I.h.fa K sd.f)).code (fdAt K (I.h.fa K sd.f)).closureTuple [u] [] rfl rfl
    rw [hps] at this
    exact .of_eq this
  · have := fns_ok (base := base) C KX Gm s DI cov htop (N + 1) sd.f df di ed hpt edi
    rw [hps] at this
    exact this
end PD
end Sec26
section Sec27
set_option Elab.async false
set_option linter.all false
set_option maxRecDepth 100000
set_option maxHeartbeats 4000000
/-! PD26: small helpers of the printed texts. -/
namespace PD
open PySem PySem.Spec PyProof.Rows L2 He
def dcsOf : List D → List Nat → List (Nat × List (D × D))
  | d :: ds, g :: gs => match d with
    | .kd kvs => (g, kvs) :: dcsOf ds gs
    | _ => dcsOf ds gs
  | _, _ => []
theorem dcsOf_mem : ∀ {ds : List D} {gs : List Nat} {i : Nat} {kvs : List (D × D)} {g : Nat}, nth ds i = some (.kd kvs) → nth gs i = some g → (g, kvs) ∈ dcsOf ds gs
  | [], _, i, _, _, h, _ => by simp [nth] at h
  | _ :: _, [], i, _, _, _, h => by simp [nth] at h
  | d :: ds, g0 :: gs, 0, kvs, g, h1, h2 => by
    simp only [nth, Option.some.injEq] at h1 h2
    subst h1 h2
    exact List.mem_cons_self ..
  | d :: ds, g0 :: gs, i + 1, kvs, g, h1, h2 => by
    simp only [nth] at h1 h2
    have ih := dcsOf_mem h1 h2
    unfold dcsOf
    cases d <;> first | exact ih | exact List.mem_cons_of_mem _ ih
theorem andT {a b : Bool} (h1 : a = true) (h2 : b = true) : (a && b) = true := by rw [h1, h2]; rfl
/-- the look in two halves -/
def allA (I : Inp) (K : PySem.W.Frag) : Bool := gloB K && (I.G.cls.all fun p => clsPB I.h K p.1 p.2)
def allO (I : Inp) (K : PySem.W.Frag) : Bool := I.sds.all fun d => d.okB I.h K
def allR (I : Inp) (P : Program) (K : PySem.W.Frag) : Bool := consB I.h K I.G.cons I.h.kpp.cn && ((I.sup.all fun q => supB I.h P K "self" q.1 q.2.1 q.2.2) && I.sds.all fun d => glB I K d.f)
theorem allB_eq (I : Inp) (P : Program) (K : PySem.W.Frag) : allB I P K = (allA I K && (allO I K && allR I P K)) := (Bool.and_assoc ..).symm
theorem obs_of {I : Inp} {P : Program} {K : PySem.W.Frag} {v : AlP} (h : v.1 = true) (h1 : (allA I K, (obsP I P K).2) = (true, v.2)) (h2 : (allO I K, allR I P K) = (true, true)) : obsP I P K = v := by
  obtain ⟨a, b⟩ := Prod.mk.inj h1
  obtain ⟨c, d⟩ := Prod.mk.inj h2
  refine Prod.ext ?_ b
  show allB I P K = v.1
  rw [allB_eq, a, c, d, h]; rfl
/-- pattern by pattern -/
def PatsL (I : Inp) (P : Program) (i : Nat) (d : Df) (l : List (Nat × List Nat)) : Prop := ∀ n ks, patO l n ks = true → ∀ di, nth I.J.ds i = some di → ∀ (C : Closed I) (w : World) (K : PySem.W.Frag) (mg : Str → Option Value), obsP I P K = valP I w → PatF (I.T C w K mg) I.G I.J (I.h.ly K) i d di n ks
theorem pats_nil {I : Inp} {P : Program} {i : Nat} {d : Df} : PatsL I P i d [] := fun n ks h => by cases h
theorem pats_cons {I : Inp} {P : Program} {i : Nat} {d : Df} {n : Nat} {ks : List Nat} {r : List (Nat × List Nat)} (h : ∀ di, nth I.J.ds i = some di → ∀ (C : Closed I) (w : World) (K : PySem.W.Frag) (mg : Str → Option Value), obsP I P K = valP I w → PatF (I.T C w K mg) I.G I.J (I.h.ly K) i d di n ks) (t : PatsL I P i d r) :
    PatsL I P i d ((n, ks) :: r) := fun n' ks' e => by
  have e : (((Nat.beq n n' && natsB ks ks') || patO r n' ks') = true) := e
  rw [Bool.or_eq_true, Bool.and_eq_true] at e
  rcases e with ⟨e1, e2⟩ | e
  · have := Nat.eq_of_beq_eq_true e1
    have := natsB_ok e2
    subst n' ks'
    exact h
  · exact t n' ks' e
theorem pats_of {I : Inp} {P : Program} {i : Nat} {d : Df} (h : PatsL I P i d d.pats) : PatsOk I P i d := fun di e C w K mg s n ks hp => h n ks hp di e C w K mg s
theorem pats_no {I : Inp} {P : Program} {i : Nat} {d : Df} (h : d.pats = []) : PatsOk I P i d := fun di e C w K mg s n ks hp => by rw [h] at hp; cases hp
end PD
end Sec27
set_option Elab.async false
set_option linter.all false
set_option maxRecDepth 100000
set_option maxHeartbeats 4000000
/-! EV1: an evaluator of the machine's trees over the heap as a tree; by calls, sound for Runs. -/
noncomputable section Sec28
namespace EV
open PySem PySem.W PyProof.Rows HandSHeadRun
section
variable (den : Code → Sem Fin) (P : Program) (w : World) (n0 : Nat)
/-- may be written: new objects, the module's names, the statics -/
def okW (a : Addr) : Bool := Nat.ble n0 a || (Nat.beq a mainNs || Nat.beq a cStatics)
def ev : Nat → Ctx → Pos → SharedT → Sem Fin → Option (Result × Pos × SharedT)
  | 0, _, _, _, _ => none
  | m + 1, Γ, p, s, t => match t with
    | .pure f => (match f with
      | .done f => some (.ok f, p, s)
      | .again c => (match c.quiet with
        | true => ev m (Γ.goto c) p s (den c)
        | false => none))
    | .raise e => some (.error e, p, s)
    | .rule _ k => ev m Γ p s (k ())
    | .at p' k => ev m Γ p' s (k ())
    | .load a _ k => (match Nat.blt a s.n with
      | true => (match s.tree.get a with
        | some o => (match alive o with
          | some o' => ev m Γ p s (k o')
          | none => none)
        | none => none)
      | false => none)
    | .update a _ f k => (match okW n0 a with
      | true => (match Nat.blt a s.n with
        | true => (match s.tree.get a with
          | some o => (match alive o with
            | some _ => frS { s with tree := s.tree.set a f } fun s => ev m Γ p s (k ())
            | none => none)
          | none => none)
        | false => none)
      | false => none)
    | .loadIfAlive a k => (match Nat.blt a s.n with
      | true => (match s.tree.get a with
        | some o => ev m Γ p s (k (alive o))
        | none => none)
      | false => ev m Γ p s (k none))
    | .point _ k => ev m Γ p s (k ())
    | .alloc o k => (match ((s.tree.ins s.n o).get s.n).isSome with
      | true => frS { s with tree := s.tree.ins s.n o, n := s.n + 1 } fun s' => ev m Γ p s' (k s.n)
      | false => none)
    | .fresh k => frS { s with toks := s.toks + 1 } fun s' => ev m Γ p s' (k s.toks)
    | .ask k => ev m Γ p s (k ⟨P, w.params⟩)
    | .handled own k => ev m Γ p s (k (match own with | true => Γ.own | false => Γ.handled))
    | .stack k => ev m Γ p s (k ((Γ.code, p) :: Γ.below))
    | .thread k => ev m Γ p s (k 0)
    | .call c h _ _ k => (match ev m (Γ.enter c h p) p s (den c) with
      | some (r, _, s') => ev m Γ p s' (k r)
      | none => none)
    | _ => none
end
def Kept (n0 : Nat) (s s' : SharedT) : Prop := s.n ≤ s'.n ∧ s'.life = s.life ∧ s'.gens = s.gens ∧ s'.drawn = s.drawn ∧ s'.os = s.os ∧
  ∀ b o, b < n0 → b ≠ mainNs → b ≠ cStatics → s.abs.heap.get? b = some o → s'.abs.heap.get? b = some o
theorem Kept.refl {n0 : Nat} (s : SharedT) : Kept n0 s s := ⟨Nat.le_refl _, rfl, rfl, rfl, rfl, fun _ _ _ _ _ h => h⟩
theorem Kept.trans {n0 : Nat} {a b c : SharedT} (h : Kept n0 a b) (k : Kept n0 b c) : Kept n0 a c :=
  ⟨Nat.le_trans h.1 k.1, k.2.1.trans h.2.1, k.2.2.1.trans h.2.2.1, k.2.2.2.1.trans h.2.2.2.1, k.2.2.2.2.1.trans h.2.2.2.2.1, fun b o h1 h2 h3 h4 => k.2.2.2.2.2 b o h1 h2 h3 (h.2.2.2.2.2 b o h1 h2 h3 h4)⟩
theorem ev_ok {den : Code → Sem Fin} {P : Program} {w : World} {n0 : Nat} : ∀ {m : Nat} {Γ : Ctx} {p : Pos} {s : SharedT} {t : Sem Fin} {r : Result} {p' : Pos} {s' : SharedT}, ev den P w n0 m Γ p s t = some (r, p', s') →
    Runs ⟨den, P, w⟩ Γ p t [] s.abs (.ret r) s'.abs ∧ Kept n0 s s'
  | 0, _, _, _, _, _, _, _, h => by cases h
  | m + 1, Γ, p, s, t, r, p', s', h => by
    cases t with
    | pure f =>
      cases f with
      | done f => simp only [ev] at h; cases h; exact ⟨.done, Kept.refl _⟩
      | again c =>
        simp only [ev] at h
        split at h
        · rename_i q
          obtain ⟨a, b⟩ := ev_ok h
          exact ⟨.again q a, b⟩
        · cases h
    | raise e => simp only [ev] at h; cases h; exact ⟨.raise, Kept.refl _⟩
    | rule tag k => simp only [ev] at h; obtain ⟨a, b⟩ := ev_ok h; exact ⟨.rule a, b⟩
    | «at» p2 k => simp only [ev] at h; obtain ⟨a, b⟩ := ev_ok h; exact ⟨.at a, b⟩
    | point l k => simp only [ev] at h; obtain ⟨a, b⟩ := ev_ok h; exact ⟨.point a, b⟩
    | ask k => simp only [ev] at h; obtain ⟨a, b⟩ := ev_ok h; exact ⟨.ask a, b⟩
    | stack k => simp only [ev] at h; obtain ⟨a, b⟩ := ev_ok h; exact ⟨.stack a, b⟩
    | thread k => simp only [ev] at h; obtain ⟨a, b⟩ := ev_ok h; exact ⟨.thread a, b⟩
    | handled own k =>
      simp only [ev] at h
      obtain ⟨a, b⟩ := ev_ok h
      refine ⟨.handled ?_, b⟩
      cases own <;> exact a
    | fresh k =>
      simp only [ev, frS_eq] at h
      obtain ⟨a, b⟩ := ev_ok h
      exact ⟨.fresh a, b⟩
    | load a q k =>
      simp only [ev] at h
      cases e : Nat.blt a s.n with
      | false => rw [e] at h; cases h
      | true =>
        rw [e] at h
        cases g : s.tree.get a with
        | none => rw [g] at h; cases h
        | some o =>
          rw [g] at h
          cases al : alive o with
          | none => simp only [al] at h; cases h
          | some o' =>
            simp only [al] at h
            obtain ⟨x, y⟩ := ev_ok h
            exact ⟨.load ((abs_get (Nat.le_of_ble_eq_true e) g).trans al) x, y⟩
    | loadIfAlive a k =>
      simp only [ev] at h
      cases e : Nat.blt a s.n with
      | false =>
        rw [e] at h
        obtain ⟨x, y⟩ := ev_ok h
        have lt : ¬ a < s.n := fun q => by rw [show Nat.blt a s.n = true from Nat.ble_eq_true_of_le q] at e; cases e
        refine ⟨.loadIfAlive ?_, y⟩
        rw [show s.abs.heap.get? a = none from abs_get_none lt]
        exact x
      | true =>
        rw [e] at h
        cases g : s.tree.get a with
        | none => rw [g] at h; cases h
        | some o =>
          rw [g] at h
          obtain ⟨x, y⟩ := ev_ok h
          refine ⟨.loadIfAlive ?_, y⟩
          rw [show s.abs.heap.get? a = alive o from abs_get (Nat.le_of_ble_eq_true e) g]
          exact x
    | alloc o k =>
      simp only [ev] at h
      cases e : ((s.tree.ins s.n o).get s.n).isSome with
      | false => rw [e] at h; cases h
      | true =>
        rw [e] at h
        simp only [frS_eq] at h
        obtain ⟨x, y⟩ := ev_ok h
        have eh : absHeap (s.tree.ins s.n o) (s.n + 1) s.life = (absHeap s.tree s.n s.life).push o := absHeap_ins e
        refine ⟨.alloc ?_, Kept.trans (b := { s with tree := s.tree.ins s.n o, n := s.n + 1 }) ⟨Nat.le_succ _, rfl, rfl, rfl, rfl, fun b ob h1 h2 h3 h4 => ?_⟩ y⟩
        · rw [show s.abs.heap.objs.size = s.n from absHeap_size _ _ _]
          have e2 : ({ s.abs with heap := s.abs.heap.push o } : Shared) = SharedT.abs { s with tree := s.tree.ins s.n o, n := s.n + 1 } := by
            show (⟨_, _, _, _, _⟩ : Shared) = ⟨_, _, _, _, _⟩
            rw [eh]; rfl
          rw [e2]; exact x
        · show (absHeap (s.tree.ins s.n o) (s.n + 1) s.life).get? b = some ob
          rw [eh]
          exact Heap.get?_push_of_some o h4
    | update a q f k =>
      simp only [ev] at h
      cases ok : okW n0 a with
      | false => rw [ok] at h; cases h
      | true =>
        rw [ok] at h
        cases e : Nat.blt a s.n with
        | false => rw [e] at h; cases h
        | true =>
          rw [e] at h
          cases g : s.tree.get a with
          | none => rw [g] at h; cases h
          | some o =>
            rw [g] at h
            cases al : alive o with
            | none => simp only [al] at h; cases h
            | some o' =>
              simp only [al, frS_eq] at h
              obtain ⟨x, y⟩ := ev_ok h
              have eh : absHeap (s.tree.set a f) s.n s.life = (absHeap s.tree s.n s.life).update a f := absHeap_set g
              have e2 : ({ s.abs with heap := s.abs.heap.update a f } : Shared) = SharedT.abs { s with tree := s.tree.set a f } := by
                show (⟨_, _, _, _, _⟩ : Shared) = ⟨_, _, _, _, _⟩
                rw [eh]; rfl
              refine ⟨.update ?_ (by rw [e2]; exact x), Kept.trans (b := { s with tree := s.tree.set a f }) ⟨Nat.le_refl _, rfl, rfl, rfl, rfl, fun b ob h1 h2 h3 h4 => ?_⟩ y⟩
              · rw [show s.abs.heap.get? a = some o' from (abs_get (Nat.le_of_ble_eq_true e) g).trans al]; rfl
              · show (absHeap (s.tree.set a f) s.n s.life).get? b = some ob
                rw [eh]
                have : b ≠ a := by
                  rintro rfl
                  unfold okW at ok
                  rw [Bool.or_eq_true, Bool.or_eq_true] at ok
                  rcases ok with z | z | z
                  · exact absurd h1 (Nat.not_lt.mpr (Nat.le_of_ble_eq_true z))
                  · exact h2 (Nat.eq_of_beq_eq_true z)
                  · exact h3 (Nat.eq_of_beq_eq_true z)
                exact (Heap.get?_update_ne _ _ _ _ this).trans h4
    | call c hh g l k =>
      simp only [ev] at h
      cases e : ev den P w n0 m (Γ.enter c hh p) p s (den c) with
      | none => rw [e] at h; cases h
      | some x =>
        obtain ⟨r1, p1, s1⟩ := x
        rw [e] at h
        obtain ⟨x1, y1⟩ := ev_ok e
        obtain ⟨x2, y2⟩ := ev_ok h
        exact ⟨.call x1 x2, y1.trans y2⟩
    | _ => simp only [ev] at h; cases h
end EV
end Sec28
set_option Elab.async false
set_option linter.all false
set_option maxRecDepth 100000
set_option maxHeartbeats 4000000
/-! EV2: the same for trees of any kind, sound for wp. -/
noncomputable section Sec29
namespace EV
open PySem PySem.W PyProof.Rows HandSHeadRun
section
variable (den : Code → Sem Fin) (P : Program) (w : World) (n0 : Nat)
def evA {α : Type} (Γ : Ctx) : Nat → Pos → SharedT → Sem α → Option (Except Value α × Pos × SharedT)
  | 0, _, _, _ => none
  | m + 1, p, s, t => match t with
    | .pure a => some (.ok a, p, s)
    | .raise e => some (.error e, p, s)
    | .rule _ k => evA Γ m p s (k ())
    | .at p' k => evA Γ m p' s (k ())
    | .load a _ k => (match Nat.blt a s.n with
      | true => (match s.tree.get a with
        | some o => (match alive o with
          | some o' => evA Γ m p s (k o')
          | none => none)
        | none => none)
      | false => none)
    | .update a _ f k => (match okW n0 a with
      | true => (match Nat.blt a s.n with
        | true => (match s.tree.get a with
          | some o => (match alive o with
            | some _ => frS { s with tree := s.tree.set a f } fun s => evA Γ m p s (k ())
            | none => none)
          | none => none)
        | false => none)
      | false => none)
    | .loadIfAlive a k => (match Nat.blt a s.n with
      | true => (match s.tree.get a with
        | some o => evA Γ m p s (k (alive o))
        | none => none)
      | false => evA Γ m p s (k none))
    | .point _ k => evA Γ m p s (k ())
    | .alloc o k => (match ((s.tree.ins s.n o).get s.n).isSome with
      | true => frS { s with tree := s.tree.ins s.n o, n := s.n + 1 } fun s' => evA Γ m p s' (k s.n)
      | false => none)
    | .fresh k => frS { s with toks := s.toks + 1 } fun s' => evA Γ m p s' (k s.toks)
    | .ask k => evA Γ m p s (k ⟨P, w.params⟩)
    | .handled own k => evA Γ m p s (k (match own with | true => Γ.own | false => Γ.handled))
    | .stack k => evA Γ m p s (k ((Γ.code, p) :: Γ.below))
    | .thread k => evA Γ m p s (k 0)
    | .call c h _ _ k => (match ev den P w n0 m (Γ.enter c h p) p s (den c) with
      | some (r, _, s') => evA Γ m p s' (k r)
      | none => none)
    | _ => none
end
theorem evA_ok {α : Type} {den : Code → Sem Fin} {P : Program} {w : World} {n0 : Nat} : ∀ {m : Nat} {Γ : Ctx} {p : Pos} {s : SharedT} {t : Sem α} {r : Except Value α} {p' : Pos} {s' : SharedT}, evA den P w n0 Γ m p s t = some (r, p', s') →
    (∀ (Q : α → Pos → Shared → Prop) (E : Value → Pos → Shared → Prop), (match r with | .ok a => Q a p' s'.abs | .error e => E e p' s'.abs) → Sem.wp ⟨den, P, w⟩ Γ t Q E p s.abs) ∧ Kept n0 s s'
  | 0, _, _, _, _, _, _, _, h => by cases h
  | m + 1, Γ, p, s, t, r, p', s', h => by
    cases t with
    | pure a => simp only [evA] at h; cases h; exact ⟨fun Q E h => h, Kept.refl _⟩
    | raise e => simp only [evA] at h; cases h; exact ⟨fun Q E h => h, Kept.refl _⟩
    | rule tag k => simp only [evA] at h; obtain ⟨a, b⟩ := evA_ok h; exact ⟨fun Q E z => a Q E z, b⟩
    | «at» p2 k => simp only [evA] at h; obtain ⟨a, b⟩ := evA_ok h; exact ⟨fun Q E z => a Q E z, b⟩
    | point l k => simp only [evA] at h; obtain ⟨a, b⟩ := evA_ok h; exact ⟨fun Q E z => a Q E z, b⟩
    | ask k => simp only [evA] at h; obtain ⟨a, b⟩ := evA_ok h; exact ⟨fun Q E z => a Q E z, b⟩
    | stack k => simp only [evA] at h; obtain ⟨a, b⟩ := evA_ok h; exact ⟨fun Q E z => a Q E z, b⟩
    | thread k => simp only [evA] at h; obtain ⟨a, b⟩ := evA_ok h; exact ⟨fun Q E z => a Q E z, b⟩
    | handled own k =>
      simp only [evA] at h
      obtain ⟨a, b⟩ := evA_ok h
      refine ⟨fun Q E z => ?_, b⟩
      cases own <;> exact a Q E z
    | fresh k =>
      simp only [evA, frS_eq] at h
      obtain ⟨a, b⟩ := evA_ok h
      exact ⟨fun Q E z => a Q E z, b⟩
    | load a q k =>
      simp only [evA] at h
      cases e : Nat.blt a s.n with
      | false => rw [e] at h; cases h
      | true =>
        rw [e] at h
        cases g : s.tree.get a with
        | none => rw [g] at h; cases h
        | some o =>
          rw [g] at h
          cases al : alive o with
          | none => simp only [al] at h; cases h
          | some o' =>
            simp only [al] at h
            obtain ⟨x, y⟩ := evA_ok h
            exact ⟨fun Q E z => ⟨_, (abs_get (Nat.le_of_ble_eq_true e) g).trans al, x Q E z⟩, y⟩
    | loadIfAlive a k =>
      simp only [evA] at h
      cases e : Nat.blt a s.n with
      | false =>
        rw [e] at h
        obtain ⟨x, y⟩ := evA_ok h
        have lt : ¬ a < s.n := fun q => by rw [show Nat.blt a s.n = true from Nat.ble_eq_true_of_le q] at e; cases e
        refine ⟨fun Q E z => ?_, y⟩
        show Sem.wp _ Γ (k (s.abs.heap.get? a)) Q E p s.abs
        rw [show s.abs.heap.get? a = none from abs_get_none lt]
        exact x Q E z
      | true =>
        rw [e] at h
        cases g : s.tree.get a with
        | none => rw [g] at h; cases h
        | some o =>
          rw [g] at h
          obtain ⟨x, y⟩ := evA_ok h
          refine ⟨fun Q E z => ?_, y⟩
          show Sem.wp _ Γ (k (s.abs.heap.get? a)) Q E p s.abs
          rw [show s.abs.heap.get? a = alive o from abs_get (Nat.le_of_ble_eq_true e) g]
          exact x Q E z
    | alloc o k =>
      simp only [evA] at h
      cases e : ((s.tree.ins s.n o).get s.n).isSome with
      | false => rw [e] at h; cases h
      | true =>
        rw [e] at h
        simp only [frS_eq] at h
        obtain ⟨x, y⟩ := evA_ok h
        have eh : absHeap (s.tree.ins s.n o) (s.n + 1) s.life = (absHeap s.tree s.n s.life).push o := absHeap_ins e
        refine ⟨fun Q E z => ?_, Kept.trans (b := { s with tree := s.tree.ins s.n o, n := s.n + 1 }) ⟨Nat.le_succ _, rfl, rfl, rfl, rfl, fun b ob h1 h2 h3 h4 => ?_⟩ y⟩
        · show Sem.wp _ Γ (k s.abs.heap.objs.size) Q E p { s.abs with heap := s.abs.heap.push o }
          rw [show s.abs.heap.objs.size = s.n from absHeap_size _ _ _]
          have e2 : ({ s.abs with heap := s.abs.heap.push o } : Shared) = SharedT.abs { s with tree := s.tree.ins s.n o, n := s.n + 1 } := by
            show (⟨_, _, _, _, _⟩ : Shared) = ⟨_, _, _, _, _⟩
            rw [eh]; rfl
          rw [e2]; exact x Q E z
        · show (absHeap (s.tree.ins s.n o) (s.n + 1) s.life).get? b = some ob
          rw [eh]
          exact Heap.get?_push_of_some o h4
    | update a q f k =>
      simp only [evA] at h
      cases ok : okW n0 a with
      | false => rw [ok] at h; cases h
      | true =>
        rw [ok] at h
        cases e : Nat.blt a s.n with
        | false => rw [e] at h; cases h
        | true =>
          rw [e] at h
          cases g : s.tree.get a with
          | none => rw [g] at h; cases h
          | some o =>
            rw [g] at h
            cases al : alive o with
            | none => simp only [al] at h; cases h
            | some o' =>
              simp only [al, frS_eq] at h
              obtain ⟨x, y⟩ := evA_ok h
              have eh : absHeap (s.tree.set a f) s.n s.life = (absHeap s.tree s.n s.life).update a f := absHeap_set g
              have e2 : ({ s.abs with heap := s.abs.heap.update a f } : Shared) = SharedT.abs { s with tree := s.tree.set a f } := by
                show (⟨_, _, _, _, _⟩ : Shared) = ⟨_, _, _, _, _⟩
                rw [eh]; rfl
              refine ⟨fun Q E z => ⟨?_, (by rw [e2]; exact x Q E z)⟩, Kept.trans (b := { s with tree := s.tree.set a f }) ⟨Nat.le_refl _, rfl, rfl, rfl, rfl, fun b ob h1 h2 h3 h4 => ?_⟩ y⟩
              · rw [show s.abs.heap.get? a = some o' from (abs_get (Nat.le_of_ble_eq_true e) g).trans al]; rfl
              · show (absHeap (s.tree.set a f) s.n s.life).get? b = some ob
                rw [eh]
                have : b ≠ a := by
                  rintro rfl
                  unfold okW at ok
                  rw [Bool.or_eq_true, Bool.or_eq_true] at ok
                  rcases ok with z | z | z
                  · exact absurd h1 (Nat.not_lt.mpr (Nat.le_of_ble_eq_true z))
                  · exact h2 (Nat.eq_of_beq_eq_true z)
                  · exact h3 (Nat.eq_of_beq_eq_true z)
                exact (Heap.get?_update_ne _ _ _ _ this).trans h4
    | call c hh g l k =>
      simp only [evA] at h
      cases e : ev den P w n0 m (Γ.enter c hh p) p s (den c) with
      | none => rw [e] at h; cases h
      | some x =>
        obtain ⟨r1, p1, s1⟩ := x
        rw [e] at h
        obtain ⟨x1, y1⟩ := ev_ok e
        obtain ⟨x2, y2⟩ := evA_ok h
        exact ⟨fun Q E z => ⟨r1, _, x1, x2 Q E z⟩, y1.trans y2⟩
    | _ => simp only [evA] at h; cases h
end EV
end Sec29
section Sec30
set_option Elab.async false
set_option linter.all false
set_option maxRecDepth 100000
set_option maxHeartbeats 4000000
/-! EV3: a dict display of new tuple keys, its end told exactly. -/
namespace EV
open PySem PySem.W PyProof.Rows
section
variable {prog : Program} {w : World} {K : Type} [DecidableEq K] {knd : HeapKind prog w K} {A : Around} {E : Value → Shared → Prop}
def putE (d : Addr) (h : Heap) (e : DictEntry) : Heap := h.update d (Obj.mapDictKeys (·.push e))
theorem set_new {s : Shared} {d a : Addr} {xs : List (K × Addr × Value)} {k : K} {v : Value} {Q : Unit → Shared → Prop} (hu : knd.room A) (hk : knd.is s.heap k a) (hm : s.heap.DictOfH knd d xs) (hx : k ∉ xs.map (·.1)) (hz : xs.length ≤ sizeLine)
    (h : (putE d s.heap ⟨knd.hash k, .ref a, v⟩).DictOfH knd d (xs ++ [(k, a, v)]) → Q () { s with heap := putE d s.heap ⟨knd.hash k, .ref a, v⟩, toks := s.toks + knd.draws k }) : wpAny (model prog w) A (dictSet d (.ref a) v) Q E s := by
  obtain ⟨o, es, ep, ho, hc, hd, he, his, hn⟩ := hm
  unfold dictSet
  refine wpAny_holding (wpAny_bind (knd.pyHash hu hk ?_))
  unfold dictSetHashed
  refine wpAny_holding (wpAny_bind (wpAny_dictFind_heap (s := { s with toks := s.toks + knd.draws k }) hu hk ho hd he his hn (fun _ => ?_) fun j p hj => ?_))
  · refine wpAny_bind (wpAny_rule (wpAny_updateDictKeys (hz := by have e := size_of_entries he; omega) (s := { s with toks := s.toks + knd.draws k }) ho hd (h ?_)))
    refine ⟨_, _, ep + 1, Heap.get?_update_self _ ho (Obj.isFreed_of_dict (Obj.data_mapDictKeys hd _)), hc.mapDictKeys _, Obj.data_mapDictKeys hd _, ?_, ?_, ?_⟩
    · simp [he, entryOfKey]
    · intro x hx
      rcases List.mem_append.mp hx with z | z
      · exact knd.keeps (his x z) ho hd (Heap.SameBut.update ..)
      · rw [List.mem_singleton] at z
        subst z
        exact knd.keeps hk ho hd (Heap.SameBut.update ..)
    · rw [List.map_append, List.nodup_append]
      refine ⟨hn, by simp, fun x hx1 y hy e => ?_⟩
      simp only [List.map_cons, List.map_nil, List.mem_singleton] at hy
      exact hx (hy ▸ e ▸ hx1)
  · exact absurd (List.mem_map.mpr ⟨(k, p), List.mem_of_getElem? hj, rfl⟩) hx
def endOf (d : Addr) (knd : HeapKind prog w K) (h : Heap) (ps : List (K × Addr × Value)) : Heap := ps.foldl (fun h x => putE d h ⟨knd.hash x.1, .ref x.2.1, x.2.2⟩) h
def tokOf (knd : HeapKind prog w K) (t : Nat) (ps : List (K × Addr × Value)) : Nat := ps.foldl (fun t x => t + knd.draws x.1) t
theorem store_all {d : Addr} (hu : knd.room A) : ∀ (ps acc : List (K × Addr × Value)) (s : Shared) (Q : PUnit → Shared → Prop), (∀ x ∈ ps, knd.is s.heap x.1 x.2.1) → s.heap.DictOfH knd d acc → ((acc ++ ps).map (·.1)).Nodup → acc.length + ps.length ≤ sizeLine →
    Q PUnit.unit { s with heap := endOf d knd s.heap ps, toks := tokOf knd s.toks ps } →
    wpAny (model prog w) A (forIn (ps.map fun x => (Value.ref x.2.1, x.2.2)) PUnit.unit fun (x : Value × Value) (_ : PUnit) => (do dictSet d x.1 x.2; pure (ForInStep.yield PUnit.unit) : Sem (ForInStep PUnit))) Q E s
  | [], acc, s, Q, _, _, _, _, h => by
    rw [List.map_nil, List.forIn_nil]
    exact wpAny_pure h
  | x :: ps, acc, s, Q, hi, hm, hn, hz, h => by
    rw [List.map_cons, List.forIn_cons]
    obtain ⟨k, a, v⟩ := x
    have hkn : k ∉ acc.map (·.1) := fun z => by
      rw [List.map_append, List.nodup_append] at hn
      exact hn.2.2 k z k (by simp) rfl
    refine wpAny_bind (wpAny_bind (set_new hu (hi _ (List.mem_cons_self ..)) hm hkn (by simp at hz; omega) fun hm1 => wpAny_pure ?_))
    refine store_all hu ps (acc ++ [(k, a, v)]) _ Q (fun y hy => ?_) hm1 (by rw [List.append_assoc]; exact hn) (by simp at hz ⊢; omega) h
    obtain ⟨o, es, ep, ho, hc, hd, he, his, hn2⟩ := hm
    exact knd.keeps (hi y (List.mem_cons_of_mem _ hy)) ho hd (Heap.SameBut.update ..)
end
end EV
end Sec30
set_option Elab.async false
set_option linter.all false
set_option maxRecDepth 100000
set_option maxHeartbeats 4000000
/-! EV4: a module's top with one dict of tuple keys. -/
noncomputable section Sec31
namespace EV
open PySem PySem.W PyProof.Rows HandSHeadRun
def asPairs : List (Option (Sem Value) × Sem Value) → Option (List (Sem Value × Sem Value))
  | [] => some []
  | (some k, v) :: r => match asPairs r with
    | some ps => some ((k, v) :: ps)
    | none => none
  | (none, _) :: _ => none
theorem asPairs_ok : ∀ {l : List (Option (Sem Value) × Sem Value)} {ps : List (Sem Value × Sem Value)}, asPairs l = some ps → l = ps.map fun p => (some p.1, p.2)
  | [], _, h => by cases h; rfl
  | (some k, v) :: r, _, h => by
    unfold asPairs at h
    split at h
    · rename_i ps e
      cases h
      rw [asPairs_ok e]; rfl
    · cases h
  | (none, _) :: _, _, h => by cases h
/-- a tuple's texts -/
def txts : List Value → Option (List Str)
  | [] => some []
  | .str x _ :: r => match txts r with
    | some xs => some (x :: xs)
    | none => none
  | _ :: _ => none
theorem txts_ok {P : Program} {w : World} : ∀ {l : List Value} {xs : List Str}, txts l = some xs → ItemsAre (strKind P w) xs l
  | [], _, h => by cases h; exact .nil
  | v :: r, xs, h => by
    cases v <;> first | (cases h; done) | skip
    rename_i x t
    unfold txts at h
    split at h
    · rename_i ys e
      cases h
      refine .cons ?_ (txts_ok e)
      show Value.isStrOf x (.str x t) = true
      simp [Value.isStrOf]
    · cases h
def keyAt (s : SharedT) (a : Addr) : Option (List Str) := match Nat.blt a s.n with
  | true => match s.tree.get a with
    | some o => match alive o with
      | some o => match o with
        | ⟨.type c, _, .seq its _, _⟩ => if c = "tuple" then txts its.toList else none
        | _ => none
      | none => none
    | none => none
  | false => none
theorem keyAt_ok {P : Program} {w : World} {s : SharedT} {a : Addr} {ks : List Str} (h : keyAt s a = some ks) : (tupleKind (strKind P w)).is s.abs.heap ks a := by
  unfold keyAt at h
  split at h
  · rename_i e
    split at h
    · rename_i o g
      split at h
      · rename_i o' al
        split at h
        · rename_i c od its n sl
          split at h
          · rename_i hc
            subst hc
            exact ⟨_, its, n, (abs_get (Nat.le_of_ble_eq_true e) g).trans al, rfl, rfl, txts_ok h⟩
          · cases h
        · cases h
      · cases h
    · cases h
  · cases h
def keysAt (s : SharedT) : List (Value × Value) → Option (List (List Str × Addr × Value))
  | [] => some []
  | (.ref a, v) :: r => match keyAt s a, keysAt s r with
    | some ks, some ps => some ((ks, a, v) :: ps)
    | _, _ => none
  | _ :: _ => none
theorem keysAt_ok {P : Program} {w : World} {s : SharedT} : ∀ {l : List (Value × Value)} {ps : List (List Str × Addr × Value)}, keysAt s l = some ps → l = ps.map (fun x => (Value.ref x.2.1, x.2.2)) ∧ ∀ x ∈ ps, (tupleKind (strKind P w)).is s.abs.heap x.1 x.2.1
  | [], _, h => by cases h; exact ⟨rfl, fun x h => by cases h⟩
  | (k, v) :: r, _, h => by
    cases k <;> first | (cases h; done) | skip
    rename_i a
    unfold keysAt at h
    split at h
    · rename_i ks ps e1 e2
      cases h
      obtain ⟨q1, q2⟩ := keysAt_ok (P := P) (w := w) e2
      refine ⟨by rw [q1]; rfl, fun x hx => ?_⟩
      rcases List.mem_cons.mp hx with rfl | hx
      · exact keyAt_ok e1
      · exact q2 x hx
    · cases h
end EV
end Sec31
set_option Elab.async false
set_option linter.all false
set_option maxRecDepth 100000
set_option maxHeartbeats 4000000
/-! EV5: the top, in three stages. -/
noncomputable section Sec32
namespace EV
open PySem PySem.W PyProof.Rows HandSHeadRun
structure Cut where
  A : List Stmt
  t : Expr
  keys : List (Option Expr)
  vals : List Expr
  dp : Pos
  ap : Pos
  B : List Stmt
def Cut.S (c : Cut) : Stmt := .Assign [c.t] (.Dict c.keys c.vals c.dp) c.ap
def cut (l : List Stmt) (i : Nat) : Option Cut := match l.drop i with
  | .Assign [t] (.Dict keys vals dp) ap :: B => some ⟨l.take i, t, keys, vals, dp, ap, B⟩
  | _ => none
theorem cut_ok {l : List Stmt} {i : Nat} {c : Cut} (h : cut l i = some c) : l = c.A ++ c.S :: c.B := by
  unfold cut at h
  split at h
  · rename_i t keys vals dp ap B e
    cases h
    show l = l.take i ++ .Assign [t] (.Dict keys vals dp) ap :: B
    rw [← e, List.take_append_drop]
  · cases h
def zipP (c : Cut) (env : Env) : List (Option (Sem Value) × Sem Value) := (evalEachOpt c.keys env).zip ((evalEach c.vals env).map fun v => do let x ← v; standAt c.dp; pure x)
/-- ahead of the store, in the body's code -/
def tPre (c : Cut) (stmts : List Stmt) (env : Env) (pairs : List (Sem Value × Sem Value)) : Sem (Addr × List (Value × Value)) := do
  blockStart stmts env
  match ← execs c.A env with
  | .next => do
    standAt c.ap
    if ← swapsWithSole [c.t] (.Dict c.keys c.vals c.dp) c.ap.line env then unsupported ""
    else do
      standAt c.dp
      let d ← alloc { cls := .type "dict", data := .dict #[] }
      let vs ← evalPairs pairs
      pure (d, vs)
  | _ => unsupported ""
/-- behind it -/
def tPost (c : Cut) (env : Env) (d : Addr) : Sem Flow := do
  let f ← assignStores env (.ref d) (← swappedStores [c.t] (.Dict c.keys c.vals c.dp) env) ((assignEach [c.t] env).map (·.2))
  match f with
  | .next => execs c.B env
  | f => pure f
section
variable {M : Model} {Γ : Ctx} {E : Value → Pos → Shared → Prop}
theorem wp_execs_app {env : Env} {R : List Stmt} {Q : Flow → Pos → Shared → Prop} : ∀ {A : List Stmt} {p : Pos} {s : Shared}, Sem.wp M Γ (execs A env) (fun f p' s' => match f with | .next => Sem.wp M Γ (execs R env) Q E p' s' | f => Q f p' s') E p s → Sem.wp M Γ (execs (A ++ R) env) Q E p s
  | [], p, s, h => h
  | x :: A, p, s, h => by
    rw [List.cons_append, execs_cons, Sem.wp_bind']
    rw [execs_cons, Sem.wp_bind'] at h
    refine Sem.wp_mono _ _ _ (fun f p' s' z => ?_) (fun _ _ _ z => z) _ _ h
    cases f with
    | next => exact wp_execs_app z
    | _ => exact z
/-- the display, its pairs told -/
theorem wp_disp {P : Program} {w : World} {Γ : Ctx} {env : Env} {c : Cut} {pairs : List (Sem Value × Sem Value)} (hp : asPairs (zipP c env) = some pairs) (h0 : pairs ≠ []) (hl : pairs.length ≤ 15) {Q : Value → Pos → Shared → Prop} {p : Pos} {s : Shared}
    (h : Sem.wp (model P w) Γ (do standAt c.dp; let d ← alloc { cls := .type "dict", data := .dict #[] }; let vs ← evalPairs pairs; pure (d, vs) : Sem (Addr × List (Value × Value))) (fun x p' s' => Sem.wp (model P w) Γ (forIn x.2 PUnit.unit fun (y : Value × Value) (_ : PUnit) => (do dictSet x.1 y.1 y.2; pure (ForInStep.yield PUnit.unit) : Sem (ForInStep PUnit))) (fun _ p'' s'' => Q (.ref x.1) p'' s'') (fun _ _ _ => False) p' s') (fun _ _ _ => False) p s) :
    Sem.wp (model P w) Γ (eval (.Dict c.keys c.vals c.dp) env) Q (fun _ _ _ => False) p s := by
  rw [arm_eval_Dict, show (evalEachOpt c.keys env).zip ((evalEach c.vals env).map fun v => do let x ← v; standAt c.dp; pure x) = pairs.map fun q => (some q.1, q.2) from asPairs_ok hp, dictDisplay_pairs pairs h0 (by omega)]
  simp only [Sem.wp_bind'] at h ⊢
  refine Sem.wp_mono _ _ _ (fun _ p1 s1 h => ?_) (fun _ _ _ z => z) _ _ h
  unfold subDict
  simp only [Sem.wp_bind', Sem.wp_holding, if_pos hl] at h ⊢
  refine Sem.wp_mono _ _ _ (fun d p2 s2 h => ?_) (fun _ _ _ z => z) _ _ h
  refine Sem.wp_mono _ _ _ (fun vs p3 s3 h => ?_) (fun _ _ _ z => z) _ _ h
  exact Sem.wp_mono _ _ _ (fun _ _ _ z => z) (fun _ _ _ z => z) _ _ h
end
end EV
end Sec32
set_option Elab.async false
set_option linter.all false
set_option maxRecDepth 100000
set_option maxHeartbeats 4000000
/-! EV6: the body's code, from its three stages. -/
noncomputable section Sec33
namespace EV
open PySem PySem.W PyProof.Rows HandSHeadRun
theorem wp_mid {P : Program} {w : World} {Γ : Ctx} {env : Env} {c : Cut} {stmts : List Stmt} {pairs : List (Sem Value × Sem Value)} (hc : stmts = c.A ++ c.S :: c.B) (hp : asPairs (zipP c env) = some pairs) (h0 : pairs ≠ []) (hl : pairs.length ≤ 15)
    {Q : Flow → Pos → Shared → Prop} {p : Pos} {s : Shared}
    (h : Sem.wp (model P w) Γ (tPre c stmts env pairs) (fun x p' s' => Sem.wp (model P w) Γ (forIn x.2 PUnit.unit fun (y : Value × Value) (_ : PUnit) => (do dictSet x.1 y.1 y.2; pure (ForInStep.yield PUnit.unit) : Sem (ForInStep PUnit)))
      (fun _ p'' s'' => Sem.wp (model P w) Γ (tPost c env x.1) Q (fun _ _ _ => False) p'' s'') (fun _ _ _ => False) p' s') (fun _ _ _ => False) p s) :
    Sem.wp (model P w) Γ (blockStart stmts env) (fun _ p' s' => Sem.wp (model P w) Γ (execs stmts env) Q (fun _ _ _ => False) p' s') (fun _ _ _ => False) p s := by
  unfold tPre at h
  rw [Sem.wp_bind'] at h
  refine Sem.wp_mono _ _ _ (fun _ p1 s1 h => ?_) (fun _ _ _ z => z) _ _ h
  rw [hc]
  refine wp_execs_app ?_
  rw [Sem.wp_bind'] at h
  refine Sem.wp_mono _ _ _ (fun f p2 s2 h => ?_) (fun _ _ _ z => z) _ _ h
  cases f with
  | next =>
    dsimp only at h ⊢
    rw [execs_cons, Sem.wp_bind']
    unfold Cut.S
    rw [arm_exec_Assign, Sem.wp_bind']
    rw [Sem.wp_bind'] at h
    refine Sem.wp_mono _ _ _ (fun _ p3 s3 h => ?_) (fun _ _ _ z => z) _ _ h
    rw [Sem.wp_bind'] at h ⊢
    refine Sem.wp_mono _ _ _ (fun b p4 s4 h => ?_) (fun _ _ _ z => z) _ _ h
    cases b with
    | true => exact absurd h id
    | false =>
      have h' : Sem.wp (model P w) Γ (do standAt c.dp; let d ← alloc { cls := .type "dict", data := .dict #[] }; let vs ← evalPairs pairs; pure (d, vs) : Sem (Addr × List (Value × Value))) _ (fun _ _ _ => False) p4 s4 := h
      show Sem.wp (model P w) Γ (do let v ← eval (.Dict c.keys c.vals c.dp) env; assignStores env v (← swappedStores [c.t] (.Dict c.keys c.vals c.dp) env) ((assignEach [c.t] env).map (·.2))) _ _ p4 s4
      rw [Sem.wp_bind']
      refine wp_disp hp h0 hl (Sem.wp_mono _ _ _ (fun x p5 s5 h => ?_) (fun _ _ _ z => z) _ _ h')
      refine Sem.wp_mono _ _ _ (fun _ p6 s6 h => ?_) (fun _ _ _ z => z) _ _ h
      unfold tPost at h
      simp only [Sem.wp_bind'] at h ⊢
      exact h
  | _ => exact absurd h id
/-- the store in the tree -/
def storeT (s : SharedT) (d : Addr) : List DictEntry → Option SharedT
  | [] => some s
  | e :: r => match s.tree.get d with
    | some o => storeT { s with tree := s.tree.set d (Obj.mapDictKeys (·.push e)) } d r
    | none => none
def entO (P : Program) (w : World) (x : List Str × Addr × Value) : DictEntry := ⟨(tupleKind (strKind P w)).hash x.1, .ref x.2.1, x.2.2⟩
theorem storeT_ok {P : Program} {w : World} {d : Addr} : ∀ {ps : List (List Str × Addr × Value)} {s s' : SharedT}, storeT s d (ps.map (entO P w)) = some s' → s'.abs = { s.abs with heap := endOf d (tupleKind (strKind P w)) s.abs.heap ps } ∧ s'.n = s.n ∧ s'.life = s.life ∧ s'.gens = s.gens ∧ s'.drawn = s.drawn ∧ s'.os = s.os ∧ s'.toks = s.toks
  | [], s, s', h => by cases h; exact ⟨rfl, rfl, rfl, rfl, rfl, rfl, rfl⟩
  | x :: ps, s, s', h => by
    rw [List.map_cons] at h
    unfold storeT at h
    split at h
    · rename_i o g
      obtain ⟨q1, q2, q3, q4, q5, q6, q7⟩ := storeT_ok h
      refine ⟨?_, q2, q3, q4, q5, q6, q7⟩
      rw [q1]
      have eh : (absHeap (s.tree.set d (Obj.mapDictKeys (·.push (entO P w x)))) s.n s.life) = (absHeap s.tree s.n s.life).update d (Obj.mapDictKeys (·.push (entO P w x))) := absHeap_set g
      show (⟨_, _, _, _, _⟩ : Shared) = ⟨_, _, _, _, _⟩
      have : (SharedT.abs { s with tree := s.tree.set d (Obj.mapDictKeys (·.push (entO P w x))) }).heap = putE d s.abs.heap (entO P w x) := eh
      rw [this]
      rfl
    · cases h
end EV
end Sec33
set_option Elab.async false
set_option linter.all false
set_option maxRecDepth 100000
set_option maxHeartbeats 4000000
/-! EV7: the whole top, computed. -/
noncomputable section Sec34
namespace EV
open PySem PySem.W PyProof.Rows HandSHeadRun
abbrev Γ0 : Ctx := ⟨.builtin "claim.caller" {}, none, none, [], none⟩
def tOpen (P : Program) : Sem (Value × Addr) := do
  let code ← moduleCode P.main
  let frame ← newBodyFrame code mainNs mainNs
  pure (code, frame)
def envT (P : Program) (x : Value × Addr) : Env := { scope := P.main.scope, locals := mainNs, globals := mainNs, cells := [], code := x.1, frame := some x.2 }
def nodupK : List (List Str) → Bool
  | [] => true
  | x :: r => !r.contains x && nodupK r
theorem nodupK_ok : ∀ {l : List (List Str)}, nodupK l = true → l.Nodup
  | [], _ => List.nodup_nil
  | x :: r, h => by
    unfold nodupK at h
    rw [Bool.and_eq_true] at h
    refine List.nodup_cons.mpr ⟨fun z => ?_, nodupK_ok h.2⟩
    have := List.contains_iff_mem.mpr z
    rw [this] at h
    cases h.1
def newD (s : SharedT) (d : Addr) : Bool := match Nat.blt d s.n with
  | true => match s.tree.get d with
    | some ⟨.type c, none, .dict es _, sl⟩ => decide (c = "dict") && (es.isEmpty && sl.isEmpty)
    | _ => false
  | false => false
theorem newD_ok {P : Program} {w : World} {s : SharedT} {d : Addr} (h : newD s d = true) : s.abs.heap.DictOfH (tupleKind (strKind P w)) d [] := by
  unfold newD at h
  split at h
  · rename_i e
    split at h
    · rename_i c es ep sl g
      simp only [Bool.and_eq_true, decide_eq_true_eq, Array.isEmpty_iff] at h
      obtain ⟨rfl, rfl, rfl⟩ := h
      exact ⟨_, _, ep, (abs_get (Nat.le_of_ble_eq_true e) g).trans rfl, ⟨rfl, rfl, rfl⟩, rfl, rfl, fun x hx => (by cases hx), List.nodup_nil⟩
    · cases h
  · cases h
/-- the end of the top -/
def topE (den : Code → Sem Fin) (P : Program) (w : World) (N i : Nat) (p : Pos) (s0 : SharedT) : Option SharedT :=
  match evA den P w s0.n Γ0 N default s0 (tOpen P) with
  | some (.ok x, p1, s1) => match cut (behindTheImports P) i with
    | some c => match asPairs (zipP c (envT P x)) with
      | some pairs => match Nat.blt 0 pairs.length && (Nat.ble pairs.length 15 && Nat.blt (Γ0.enter (.body (behindTheImports P) (envT P x)) none p1).units cLine) with
        | true => match evA den P w s0.n (Γ0.enter (.body (behindTheImports P) (envT P x)) none p1) N p1 s1 (tPre c (behindTheImports P) (envT P x) pairs) with
          | some (.ok y, _, s2) => match keysAt s2 y.2 with
            | some ps => match nodupK (ps.map (·.1)) && (newD s2 y.1 && (Nat.ble s0.n y.1 && Nat.ble ps.length 1000)) with
              | true => match storeT s2 y.1 (ps.map (entO P w)) with
                | some s3 => frS { s3 with toks := tokOf (tupleKind (strKind P w)) s3.toks ps } fun s3 => match evA den P w s0.n (Γ0.enter (.body (behindTheImports P) (envT P x)) none p1) N p s3 (tPost c (envT P x) y.1) with
                  | some (.ok .next, _, s4) => some s4
                  | _ => none
                | none => none
              | false => none
            | none => none
          | _ => none
        | false => none
      | none => none
    | none => none
  | _ => none
end EV
end Sec34
set_option Elab.async false
set_option linter.all false
set_option maxRecDepth 100000
set_option maxHeartbeats 4000000
/-! EV7b: topE is sound. -/
noncomputable section Sec35
namespace EV
open PySem PySem.W PyProof.Rows HandSHeadRun
def arA (Γ : Ctx) : Around := ⟨Γ.handled, frameCount Γ.below + Γ.code.weight, none, none, Γ.units⟩
theorem arA_in (Γ : Ctx) : Γ.In (arA Γ) := ⟨rfl, Nat.le_refl _, (fun l h => by cases h), (fun g h => by cases h), Nat.le_refl _⟩
theorem storeT_kept {n0 : Nat} {d : Addr} (hd : n0 ≤ d) : ∀ {es : List DictEntry} {s s' : SharedT}, storeT s d es = some s' → Kept n0 s s'
  | [], s, s', h => by cases h; exact Kept.refl _
  | e :: r, s, s', h => by
    unfold storeT at h
    split at h
    · rename_i o g
      refine Kept.trans (b := { s with tree := s.tree.set d (Obj.mapDictKeys (·.push e)) }) ⟨Nat.le_refl _, rfl, rfl, rfl, rfl, fun b ob h1 h2 h3 h4 => ?_⟩ (storeT_kept hd h)
      show (absHeap (s.tree.set d _) s.n s.life).get? b = some ob
      rw [absHeap_set g]
      exact (Heap.get?_update_ne _ _ _ _ (show b ≠ d from fun z => by subst z; exact absurd h1 (Nat.not_lt.mpr hd))).trans h4
    · cases h
theorem topE_ok {P : Program} {w : World} {N i : Nat} {s0 : SharedT} {Φ : SharedT → Prop} (h : ∀ p, ∃ s4, topE (denote table) P w N i p s0 = some s4 ∧ Φ s4) :
    Sem.wp (model P w) Γ0 (topStub P).cur (fun fin _ s' => fin = .done (.ret .none) ∧ ∃ s4, s' = s4.abs ∧ Φ s4 ∧ Kept s0.n s0 s4) (fun _ _ _ => False) default s0.abs := by
  have h0 := h default
  unfold topE at h h0
  cases e1 : evA (denote table) P w s0.n Γ0 N default s0 (tOpen P) with
  | none => rw [e1] at h0; obtain ⟨_, z, _⟩ := h0; cases z
  | some r1 =>
    obtain ⟨x, p1, s1⟩ := r1
    cases x with
    | error _ => rw [e1] at h0; obtain ⟨_, z, _⟩ := h0; cases z
    | ok x =>
      simp only [e1] at h h0
      cases e2 : cut (behindTheImports P) i with
      | none => simp only [e2] at h0; obtain ⟨_, z, _⟩ := h0; cases z
      | some c =>
        simp only [e2] at h h0
        cases e3 : asPairs (zipP c (envT P x)) with
        | none => simp only [e3] at h0; obtain ⟨_, z, _⟩ := h0; cases z
        | some pairs =>
          simp only [e3] at h h0
          cases e4 : Nat.blt 0 pairs.length && (Nat.ble pairs.length 15 && Nat.blt (Γ0.enter (.body (behindTheImports P) (envT P x)) none p1).units cLine) with
          | false => simp only [e4] at h0; obtain ⟨_, z, _⟩ := h0; cases z
          | true =>
            simp only [e4] at h h0
            cases e5 : evA (denote table) P w s0.n (Γ0.enter (.body (behindTheImports P) (envT P x)) none p1) N p1 s1 (tPre c (behindTheImports P) (envT P x) pairs) with
            | none => simp only [e5] at h0; obtain ⟨_, z, _⟩ := h0; cases z
            | some r2 =>
              obtain ⟨y, p2, s2⟩ := r2
              cases y with
              | error _ => simp only [e5] at h0; obtain ⟨_, z, _⟩ := h0; cases z
              | ok y =>
                simp only [e5] at h h0
                cases e6 : keysAt s2 y.2 with
                | none => simp only [e6] at h0; obtain ⟨_, z, _⟩ := h0; cases z
                | some ps =>
                  simp only [e6] at h h0
                  cases e7 : nodupK (ps.map (·.1)) && (newD s2 y.1 && (Nat.ble s0.n y.1 && Nat.ble ps.length 1000)) with
                  | false => simp only [e7] at h0; obtain ⟨_, z, _⟩ := h0; cases z
                  | true =>
                    simp only [e7] at h h0
                    cases e8 : storeT s2 y.1 (ps.map (entO P w)) with
                    | none => simp only [e8] at h0; obtain ⟨_, z, _⟩ := h0; cases z
                    | some s3 =>
                      simp only [e8, frS_eq] at h
                      simp only [Bool.and_eq_true] at e4 e7
                      obtain ⟨u1, u2, u3⟩ := e4
                      obtain ⟨v1, v2, v3, v4⟩ := e7
                      obtain ⟨k1, k2⟩ := keysAt_ok (P := P) (w := w) e6
                      obtain ⟨t1, t2, t3, t4, t5, t6, t7⟩ := storeT_ok e8
                      have a1 := evA_ok e1
                      have a2 := evA_ok e5
                      have key : Sem.wp (model P w) Γ0 (run (.body (behindTheImports P) (envT P x)) >>= fun _ => (ret .none : Sem Fin)) (fun fin _ s' => fin = .done (.ret .none) ∧ ∃ s4, s' = s4.abs ∧ Φ s4 ∧ Kept s0.n s0 s4) (fun _ _ _ => False) p1 s1.abs := by
                        rw [Sem.wp_bind']
                        unfold run
                        rw [Sem.wp]
                        rw [wpCode_iff_wp]
                        show Sem.wp (model P w) _ (do blockStart (behindTheImports P) (envT P x); return Fin.done (← (execs (behindTheImports P) (envT P x)).onRaise (leaving (envT P x)))) _ _ p1 s1.abs
                        rw [Sem.wp_bind']
                        have mid := wp_mid (P := P) (w := w) (Γ := Γ0.enter (.body (behindTheImports P) (envT P x)) none p1) (env := envT P x) (cut_ok e2) e3 (fun z => by subst z; cases u1) (Nat.le_of_ble_eq_true u2) (Q := fun f _ s' => f = .next ∧ ∃ s4, s' = s4.abs ∧ Φ s4 ∧ Kept s0.n s0 s4) (p := p1) (s := s1.abs) (a2.1 _ _ (by
                          have hps : ps.length ≤ 1000 := Nat.le_of_ble_eq_true v4
                          have st := store_all (prog := P) (w := w) (knd := tupleKind (strKind P w)) (A := arA (Γ0.enter (.body (behindTheImports P) (envT P x)) none p1)) (E := fun _ _ => False) (d := y.1) (Nat.le_of_ble_eq_true u3) ps [] s2.abs
                            (fun _ s' => ∀ p', Sem.wp (model P w) (Γ0.enter (.body (behindTheImports P) (envT P x)) none p1) (tPost c (envT P x) y.1) (fun f _ s' => f = .next ∧ ∃ s4, s' = s4.abs ∧ Φ s4 ∧ Kept s0.n s0 s4) (fun _ _ _ => False) p' s') k2 (newD_ok v2) (by simpa using nodupK_ok v1) (by rw [sizeLine_eq]; simp; omega) (fun p' => ?_)
                          · dsimp only
                            rw [k1]
                            exact Sem.wp_mono _ _ _ (fun _ p'' s'' z => z p'') (fun _ _ _ z => z) _ _ (st _ _ (arA_in _))
                          · have hh := h p'
                            have ea : ({ s2.abs with heap := endOf y.1 (tupleKind (strKind P w)) s2.abs.heap ps, toks := tokOf (tupleKind (strKind P w)) s2.abs.toks ps } : Shared) = SharedT.abs { s3 with toks := tokOf (tupleKind (strKind P w)) s3.toks ps } := by
                              have q1 : (SharedT.abs { s3 with toks := tokOf (tupleKind (strKind P w)) s3.toks ps } : Shared) = { s3.abs with toks := tokOf (tupleKind (strKind P w)) s3.toks ps } := rfl
                              rw [q1, t1, t7]
                              rfl
                            rw [ea]
                            cases e9 : evA (denote table) P w s0.n (Γ0.enter (.body (behindTheImports P) (envT P x)) none p1) N p' { s3 with toks := tokOf (tupleKind (strKind P w)) s3.toks ps } (tPost c (envT P x) y.1) with
                            | none => rw [e9] at hh; obtain ⟨_, z, _⟩ := hh; cases z
                            | some r3 =>
                              obtain ⟨f, p9, s9⟩ := r3
                              rw [e9] at hh
                              cases f with
                              | error _ => obtain ⟨_, z, _⟩ := hh; cases z
                              | ok f =>
                                cases f <;> first | (obtain ⟨_, z, _⟩ := hh; cases z; done) | skip
                                obtain ⟨s4, z, hΦ⟩ := hh
                                cases z
                                have a3 := evA_ok e9
                                refine a3.1 _ _ ⟨rfl, _, rfl, hΦ, ?_⟩
                                have kt : Kept s0.n s3 { s3 with toks := tokOf (tupleKind (strKind P w)) s3.toks ps } := ⟨Nat.le_refl _, rfl, rfl, rfl, rfl, fun _ _ _ _ _ z => z⟩
                                exact ((((a1.2.trans a2.2).trans (storeT_kept (Nat.le_of_ble_eq_true v3) e8)).trans kt).trans a3.2)))
                        refine Sem.wp_mono _ _ _ (fun _ p2' s2' q => ?_) (fun _ _ _ z => z.elim) _ _ mid
                        rw [Sem.wp_bind', Sem.wp_onRaise]
                        refine Sem.wp_mono _ _ _ (fun f p3 s3' q => ?_) (fun _ _ _ z => z.elim) _ _ q
                        obtain ⟨rfl, q⟩ := q
                        exact ⟨rfl, q⟩
                      have z := a1.1 (fun y p s => Sem.wp (model P w) Γ0 (run (.body (behindTheImports P) (envT P y)) >>= fun _ => (ret .none : Sem Fin)) (fun fin _ s' => fin = .done (.ret .none) ∧ ∃ s4, s' = s4.abs ∧ Φ s4 ∧ Kept s0.n s0 s4) (fun _ _ _ => False) p s) (fun _ _ _ => False) key
                      unfold tOpen at z
                      unfold topStub
                      simp only [Sem.wp_bind', Sem.wp_pure'] at z ⊢
                      exact z
end EV
end Sec35
set_option Elab.async false
set_option linter.all false
set_option maxRecDepth 100000
set_option maxHeartbeats 4000000
/-! EV8: the top has run. -/
noncomputable section Sec36
namespace EV
open PySem PySem.W PyProof.Rows HandSHeadRun
theorem done_through {den : Code → Sem Fin} {P : Program} {w : World} {s s' : Shared} {t : Thread} {f : Flow} (h : step den P w s t = .halt (.done f) s') : through t = true := by
  obtain ⟨heap, gens, drawn, toks, os⟩ := s
  obtain ⟨cur, code, pos, stack⟩ := t
  cases cur <;> simp only [step, finish] at h <;> (repeat' split at h) <;> first | (cases h; done) | rfl | (simp_all [through])
theorem run_stop {den : Code → Sem Fin} {P : Program} {w : World} {f : Flow} : ∀ {n : Nat} {s s' : Shared} {t : Thread}, runN den P w n s t = .halted (.done f) s' → ∃ m t1, m < n ∧ runN den P w m s t = .running s' t1 ∧ through t1 = true
  | 0, _, _, _, h => by cases h
  | n + 1, s, s', t, h => by
    unfold runN at h
    cases e : step den P w s t with
    | halt o s1 =>
      rw [e] at h
      cases h
      obtain rfl := step_halt_same den P w s s' t _ e
      exact ⟨0, t, Nat.succ_pos _, rfl, done_through e⟩
    | go s1 t1 =>
      rw [e] at h
      obtain ⟨m, t2, q1, q2, q3⟩ := run_stop h
      exact ⟨m + 1, t2, by omega, by unfold runN; rw [e]; exact q2, q3⟩
theorem run_next {den : Code → Sem Fin} {P : Program} {w : World} {o : Outcome} {s2 s3 : Shared} {t2 : Thread} : ∀ {k : Nat} {s : Shared} {t : Thread}, runN den P w k s t = .running s2 t2 → step den P w s2 t2 = .halt o s3 → runN den P w (k + 1) s t = .halted o s3
  | 0, s, t, h, z => by
    cases h
    simp only [runN, z]
  | k + 1, s, t, h, z => by
    unfold runN at h
    cases e : step den P w s t with
    | halt o s1 => rw [e] at h; cases h
    | go s1 t1 =>
      rw [e] at h
      have := run_next h z
      unfold runN
      rw [e]
      exact this
theorem top_run {P : Program} {w : World} {t : Sem Fin} {s0 : Shared} {Ψ : Shared → Prop} (hz : s0.asleep) (hg : ∀ s, Ψ s → s.gens = #[])
    (h : Sem.wp (model P w) Γ0 t (fun fin _ s' => fin = .done (.ret .none) ∧ Ψ s') (fun _ _ _ => False) default s0) :
    ∃ n t1 s1, schedN (denote table) P w n (.single s0 ⟨t, .builtin "claim.caller" {}, default, []⟩) = .running (.single s1 t1) ∧ through t1 = true ∧ Ψ s1 := by
  have h' : Sem.wp (model P w) ⟨.builtin "claim.caller" {}, none, none, [], none⟩ t (Sem.finPost (model P w) ⟨.builtin "claim.caller" {}, none, none, [], none⟩ fun r s' => (r = .ok (.ret .none) ∧ Ψ s') ∧ leftWithCleanup s'.gens = false) (fun e _ s' => ((Except.error e : Result) = .ok (.ret .none) ∧ Ψ s') ∧ leftWithCleanup s'.gens = false) default s0 :=
    Sem.wp_mono _ _ _ (fun fin _ s' q => by obtain ⟨rfl, q⟩ := q; exact ⟨⟨rfl, q⟩, by rw [hg _ q]; simp [leftWithCleanup]⟩) (fun _ _ _ z => z.elim) _ _ h
  obtain ⟨n, r, s', hn, rfl, hΨ⟩ := (wp_iff_halts (M := model P w) t (fun r s' => r = .ok (.ret .none) ∧ Ψ s') default s0).mp h'
  obtain ⟨s'', hr, hf, hc⟩ := runNI_real (denote table) P w hn rfl
  have e : s'' = s' := by
    have g := hg s' hΨ
    obtain ⟨h1, g1, d1, t1, o1⟩ := s'
    obtain ⟨h2, g2, d2, t2, o2⟩ := s''
    have g : g1 = #[] := g
    subst g
    simp only [Shared.forget, Shared.mk.injEq] at hf
    obtain ⟨q1, q2, q3, q4, q5⟩ := hf
    have : g2 = #[] := by simpa using q2
    subst this q1 q3 q4 q5
    rfl
  subst e
  obtain ⟨m, t1, q1, q2, q3⟩ := run_stop hr
  refine ⟨m, t1, s'', ?_, q3, hΨ⟩
  rw [schedN_prefix (denote table) P w m s0 _ hz fun k s2 t2 hk hrun => ⟨hc k s2 t2 hrun, fun z => ?_⟩, q2]
  · rfl
  · have a : runN (denote table) P w (k + 1) s0 ⟨t, .builtin "claim.caller" {}, default, []⟩ = .halted (.unsupported "lifetime:generator-with-cleanup-left-suspended") s2 := run_next hrun z
    have b := runN_mono (denote table) P w (k + 1) n _ _ _ _ a
    have c := runN_mono (denote table) P w n (k + 1) _ _ _ _ hr
    rw [Nat.add_comm, b] at c
    cases c
end EV
end Sec36
set_option Elab.async false
set_option linter.all false
set_option maxRecDepth 100000
set_option maxHeartbeats 4000000
/-! EV9: what stands behind the top. -/
noncomputable section Sec37
namespace EV
open PySem PySem.W PySem.Calls PyProof.Rows HandSHeadRun
/-- all that a law's call may use of the top's end -/
def Stands (p q : Program) (loose : List Str) (XP : (Str → Option Value) → Heap → Prop) (Z : Shared → Prop) (w : World) : Prop :=
  (∃ s, AfterRun (opening p) w s) ∧ ∀ s, AfterRun (opening p) w s → ∃ s0, fenceModules? p s = some s0 ∧ s0.gens = #[] ∧ ∃ s1, TopRan p w s0 s1 ∧ s1.asleep ∧ s1.gens = #[] ∧ s1.heap.isNs mainGlobals = true ∧
    Ground q loose [] XP w s1 (s1.heap.nsMap mainGlobals) (s1.heap.nsMap builtinsNs) s1.heap ∧ Z s1
/-- the run, computed: from the boot -/
def topB (den : Code → Sem Fin) (P : Program) (w : World) (N i : Nat) (p : Pos) (os : OsState) : Option SharedT := match putAll (boot_heap w.params).objs.toList .nil 0 with
  | some (t, n) => frNat n fun n => topE den P w N i p (bootT w os (t, n))
  | none => none
theorem stands_of {p q : Program} {loose : List Str} {XP : (Str → Option Value) → Heap → Prop} {Xt : Shared → Bool} {α : Type} {Yf : Shared → α} {Ya : World → α} {N i : Nat}
    (e : opening p = plainProg p.main.scope.names) (f : ∀ s, fenceModules? p s = some s) (hX : ∀ s, Xt s = true → XP (s.heap.nsMap mainGlobals) s.heap) (hch : chainsOk q = true) (w : World)
    (run : ∀ (os : OsState) (ps : Pos), (topB (denote treeTable) p w N i ps os).map (fun s => (looksF p (boot_heap w.params) s.abs, openSeen q loose (importedModules p.main.body) Xt true s.abs, Yf s.abs)) = some (true, openGood q loose, Ya w)) :
    Stands p q loose XP (fun s => Yf s = Ya w ∧ Xt s = true) w := by
  obtain ⟨s0, h2, a'⟩ := Option.map_eq_some_iff.mp (boot_open (N := 600) e rfl f w)
  obtain ⟨s, h4, h5⟩ := Option.bind_eq_some_iff.mp (show (importEnds treeTable (opening p) w 600 (start (opening p)).1 (start (opening p)).2).bind (fenceModules? p) = some s0 from h2)
  rw [← table_eq_tree] at h4
  have A := AfterImport.of_importEnds h4
  refine ⟨⟨s, A⟩, fun s' hs' => ?_⟩
  obtain rfl : s' = s := AfterImport.unique hs' A
  have z : s0.asleep := Shared.asleep_of_life (fence_lifeW h5) A.life
  obtain ⟨hh, gg, dd, kk, os⟩ := s0
  obtain ⟨rfl, rfl, rfl, rfl⟩ : hh = boot_heap w.params ∧ gg = Array.mk [] ∧ dd = boot_drawn ∧ kk = boot_toks := by simpa using a'
  refine ⟨_, h5, rfl, ?_⟩
  have r0 := run os
  unfold topB at r0
  cases e1 : putAll (boot_heap w.params).objs.toList .nil 0 with
  | none => rw [e1] at r0; cases r0 default
  | some tn =>
    obtain ⟨t, n⟩ := tn
    rw [e1] at r0
    simp only [frNat_eq] at r0
    have eh := putAll_heap e1
    have en : (boot_heap w.params).objs.size = n := by rw [← eh]; exact absHeap_size t n _
    have eb : (bootT w os (t, n)).abs = ⟨boot_heap w.params, #[], boot_drawn, boot_toks, os⟩ := by
      show (⟨absHeap t n (boot_heap w.params).life, #[], boot_drawn, boot_toks, os⟩ : Shared) = _
      rw [eh]
    rw [← table_eq_tree] at r0
    have ok := topE_ok (P := p) (w := w) (N := N) (i := i) (s0 := bootT w os (t, n)) (Φ := fun s4 => (looksF p (boot_heap w.params) s4.abs, openSeen q loose (importedModules p.main.body) Xt true s4.abs, Yf s4.abs) = (true, openGood q loose, Ya w)) fun ps => by
      obtain ⟨s4, q1, q2⟩ := Option.map_eq_some_iff.mp (r0 ps)
      exact ⟨s4, q1, q2⟩
    rw [eb] at ok
    obtain ⟨m, t1, s1, c1, c2, s4, rfl, c3, c4⟩ := top_run z (fun s1 => by rintro ⟨s4, rfl, _, k⟩; exact k.2.2.1) ok
    obtain ⟨l1, l23⟩ := Prod.mk.inj c3
    obtain ⟨l2, l3⟩ := Prod.mk.inj l23
    obtain ⟨k1, k2, k3, k4, k5, k6⟩ := c4
    unfold looksF at l1
    simp only [Bool.and_eq_true] at l1
    obtain ⟨⟨⟨hs, hnb⟩, hgd⟩, hlk⟩ := l1
    obtain ⟨G, g0, g1, g2, g3, g4, g5⟩ := ground_of_open (w := w) hX hch l2
    have hxt : Xt s4.abs = true := by
      have e3 : (_ && _) = true := congrArg (fun x => x.2.2.1) l2
      simp only [Bool.and_eq_true] at e3
      exact e3.1.2
    have hlife : s4.abs.heap.life = (boot_heap w.params).life := k2
    refine ⟨s4.abs, ⟨⟨m, t1, c1, c2⟩, hlife, Shared.rest_eq (show s4.os = os from k5), fun b o hb hn => ?_, g2, statics_of_ok hs, g3, g4, g5, gens_of_done hgd, names_of_bound hnb, laid_of_kept hlk⟩, Shared.asleep_of_life hlife z, k3, g1, G, l3, hxt⟩
    have hb2 : (bootT w os (t, n)).abs.heap.get? b = some o := by rw [eb]; exact hb
    refine k6 b o ?_ (fun q => hn (.inl q)) (fun q => hn (.inr (.inl q))) hb2
    show b < n
    rw [← en]
    exact Heap.lt_size hb
end EV
end Sec37
set_option Elab.async false
set_option linter.all false
set_option maxRecDepth 100000
set_option maxHeartbeats 4000000
/-! EV10: a law from what stands. -/
noncomputable section Sec38
namespace EV
open PySem PySem.W PySem.Calls PyProof.Rows HandSHeadRun
theorem law_stands {r : OpenRow} {q : Program} {loose : List Str} {XP : (Str → Option Value) → Heap → Prop} {Z : World → Shared → Prop} {YP : World → Heap → Prop} {d : DefRec} {kwd : List (Str × Expr)}
    (st : ∀ w, Stands r.prog q loose XP (Z w) w) (hZ : ∀ w s, Z w s → YP w s.heap ∧ RecFacts r.records s.heap) (hYk : ∀ w h h', YP w h → (∀ b o, h.get? b = some o → h'.get? b = some o) → YP w h') (hXk : ∀ mg h h', XP mg h → (∀ b o, h.get? b = some o → h'.get? b = some o) → XP mg h')
    (hdef : defOf q r.name = some (d, kwd)) (hp : r.prog.theDef r.name = some (d.params, d.body, d.scope)) (hk : kwWritten? d.params.kwonlyargs d.params.kw_defaults = some kwd) (hwr : (!r.writes || r.records.isEmpty) = true)
    (k1 : r.wellSaid = true) (ok : (chainsOk q && opensWell r.prog && (frees r.toRowW && r.within.isEmpty)) = true) (hb : r.prog.bare) (hw : r.toRowW.promised)
    (call : WalkO q loose XP YP r.toRowW d kwd fun f vs => PySem.call f vs) : r.Holds := by
  rw [Bool.and_eq_true, Bool.and_eq_true, Bool.and_eq_true] at ok
  obtain ⟨⟨hch, o1⟩, k5, k6⟩ := ok
  obtain ⟨hsame, hu, ha, hap, hm⟩ := frees_parts k5
  refine ⟨k1, hw, ⟨⟨hb, o1, by show r.toRowW.makers.map _ = []; rw [hm]; rfl⟩, hw.witness, fun w => ⟨(st w).1, fun s' hs' => ?_⟩⟩⟩
  obtain ⟨s0, hf, hg0, s, hT, hz, hgens, hg, G0, zz⟩ := (st w).2 s' hs'
  obtain ⟨y, RF⟩ := hZ w s zz
  have hpin : ∀ n ∈ [r.name], isTheDefsW r.prog s.heap n := fun n hn => by
    rw [List.mem_singleton.mp hn]
    exact pinned_of_view hg G0 hdef hp hk
  refine ⟨s0, hf, hg0, s, hT, ?_, RF.1, RF.2.1, ?_⟩
  · intro n hn
    exact hpin n (by split at hn <;> simp_all)
  have G : Ground q loose r.records XP w s _ _ s.heap := RF.ground G0
  refine ClaimW.callFrom_of_specG (c := r.toRowW.claim) hz hgens fun args hpre hlay ord hord => ?_
  obtain ⟨⟨vs, s1⟩, hlaid⟩ := Option.isSome_iff_exists.mp (layAllW_isSome (P := w.params) (ord := ord) G.has args r.toRowW.args s (pre_splitW hpre).1)
  have keeps := layAllW_keeps _ _ _ hlaid
  have hal := layAllW_rest _ _ _ hlaid
  obtain ⟨as, hrd, hin, hold⟩ := reads_layAllW hord _ _ _ hlaid hlay s1.heap (fun _ _ e => e)
  have L : Laid r.records w s s1 args vs as := ⟨⟨ord, hord, hlaid⟩, hrd, hin, hold, keeps, hal.1.trans hgens, hal.2.2.1⟩
  have G1 := G.keeps hXk keeps
  obtain ⟨a, o, pm, cd, doc, dV, kV, h1, h2, h3, h4, h5⟩ := G1.fn hdef
  have h := call w s s1 _ _ G1 (hYk _ _ _ y keeps) a o pm cd doc dV kV h2 h3 h4 h5 (defOf_name hdef ▸ h1) L.gens args vs as hpre hlay L.reads L.well (L.low G.low)
  have hi := ident_freeW hu ha hap
  have hwi : r.toRowW.claim.within = [] := List.isEmpty_iff.mp k6
  have fin : ∀ {rr s''}, GoodWG r.toRowW.claim (classAt s.heap) (ExcName.means s.heap) args s1 rr s'' → _ := fun g => g.laid (c := r.toRowW.claim) hsame hwi hi L
  refine ⟨vs, s1, hlaid, ?_⟩
  refine wpAny_bind (wpAny_nsGet G1.T.g ?_)
  rw [h1]
  refine wpAny_bind (wpAny_mono h (fun v s'' g => wpAny_pure ⟨_, rfl, ?_⟩) fun e s'' g => ?_)
  · have z := fin g
    exact ⟨z.1, z.2.1, z.2.2, fun qq => ⟨namesKept_of hT hg _ keeps g.2.1.old, noTable hwr qq⟩⟩
  · have z := fin g
    exact ⟨z.1, z.2.1, z.2.2, fun qq => ⟨namesKept_of hT hg _ keeps g.2.1.old, noTable hwr qq⟩⟩
end EV
end Sec38
set_option Elab.async false
set_option linter.all false
set_option maxRecDepth 100000
set_option maxHeartbeats 4000000
/-! EV11: the head. -/
noncomputable section Sec39
namespace EV
open PySem PySem.W PySem.Calls PyProof.Rows HandSHeadRun
def RunB (r : OpenRow) (q : Program) (H : Hook) (ob : SharedT → H.α) (N i : Nat) (loose : List PySem.Str) (w : World) : Prop :=
  ∀ (os : OsState) (ps : Pos), (topB (denQ tabQ) r.prog w N i ps os).map (fun s => (looksF r.prog (boot_heap w.params) s.abs, seenQ q loose (importedModules r.prog.main.body) (fun s => xlAt q [] s && recOk r.toRowW.records s) s.abs, ob s)) = some (true, openGood q loose, H.val w)
def RunB1 (r : OpenRow) (q : Program) (N i : Nat) (loose : List PySem.Str) (w : World) : Prop :=
  ∀ (os : OsState) (ps : Pos), (topB (denQ tabQ) r.prog w N i ps os).map (fun s => (looksF r.prog (boot_heap w.params) s.abs, seenQ q loose (importedModules r.prog.main.body) (fun s => xlAt q [] s && recOk r.toRowW.records s) s.abs)) = some (true, openGood q loose)
def RunB2 (r : OpenRow) (H : Hook) (ob : SharedT → H.α) (N i : Nat) (w : World) : Prop :=
  ∀ (os : OsState) (ps : Pos), (topB (denQ tabQ) r.prog w N i ps os).map (fun s => ob s) = some (H.val w)
theorem runB_of {r : OpenRow} {q : Program} {H : Hook} {ob : SharedT → H.α} {N i : Nat} {loose : List PySem.Str} {w : World} (h : RunB1 r q N i loose w) (k : RunB2 r H ob N i w) : RunB r q H ob N i loose w := fun os ps => by
  obtain ⟨s, e1, e2⟩ := Option.map_eq_some_iff.mp (h os ps)
  obtain ⟨s', e3, e4⟩ := Option.map_eq_some_iff.mp (k os ps)
  rw [e1] at e3
  cases e3
  rw [e1]
  obtain ⟨a, b⟩ := Prod.mk.inj e2
  exact congrArg some (Prod.ext a (Prod.ext b e4))
def RunB3 {α : Type} (r : OpenRow) (f : SharedT → α) (v : World → α) (N i : Nat) (w : World) : Prop :=
  ∀ (os : OsState) (ps : Pos), (topB (denQ tabQ) r.prog w N i ps os).map (fun s => f s) = some (v w)
theorem runB2_of {r : OpenRow} {H : Hook} {ob : SharedT → H.α} {N i : Nat} {w : World} {α β : Type} {f : SharedT → α} {g : SharedT → β} {a : World → α} {b : World → β} (c : ∀ s, f s = a w → g s = b w → ob s = H.val w) (h : RunB3 r f a N i w) (k : RunB3 r g b N i w) : RunB2 r H ob N i w := fun os ps => by
  obtain ⟨s, e1, e2⟩ := Option.map_eq_some_iff.mp (h os ps)
  obtain ⟨s', e3, e4⟩ := Option.map_eq_some_iff.mp (k os ps)
  rw [e1] at e3
  cases e3
  rw [e1]
  exact congrArg some (c s e2 e4)
theorem runB3_and {α β : Type} {r : OpenRow} {f : SharedT → α} {g : SharedT → β} {a : World → α} {b : World → β} {N i : Nat} {w : World} (h : RunB3 r f a N i w) (k : RunB3 r g b N i w) : RunB3 r (fun s => (f s, g s)) (fun w => (a w, b w)) N i w := fun os ps => by
  obtain ⟨s, e1, e2⟩ := Option.map_eq_some_iff.mp (h os ps)
  obtain ⟨s', e3, e4⟩ := Option.map_eq_some_iff.mp (k os ps)
  rw [e1] at e3
  cases e3
  rw [e1]
  exact congrArg some (Prod.ext e2 e4)
theorem head_ev {r : OpenRow} {q : Program} {H : Hook} {ob : SharedT → H.α} {N i : Nat} {loose : List PySem.Str} {d : DefRec} {kwd : List (PySem.Str × PySem.Expr)} (ho : ∀ s : SharedT, ob s = H.obs s.abs)
    (e : opening r.prog = plainProg r.prog.main.scope.names) (f : ∀ s, fenceModules? r.prog s = some s) (run : ∀ w, RunB r q H ob N i loose w)
    (hdef : defOf q r.name = some (d, kwd)) (hp : r.prog.theDef r.name = some (d.params, d.body, d.scope)) (hk : kwWritten? d.params.kwonlyargs d.params.kw_defaults = some kwd)
    (hwr : (!r.writes || r.records.isEmpty) = true) (k1 : r.wellSaid = true) (ok : (chainsOk q && opensWell r.prog && (frees r.toRowW && r.within.isEmpty)) = true) (hb : r.prog.bare) (hw : r.toRowW.promised)
    (call : WalkO q loose (XL q []) H.says r.toRowW d kwd fun f vs => PySem.call f vs) : r.Holds := by
  have hch : chainsOk q = true := by
    rw [Bool.and_eq_true, Bool.and_eq_true] at ok
    exact ok.1.1
  refine law_stands (Z := fun w s => H.obs s = H.val w ∧ (xlAt q [] s && recOk r.toRowW.records s) = true) (fun w => stands_of (N := N) (i := i) e f (fun s z => xl_of s (Bool.and_eq_true_iff.mp z).1) hch w fun os ps => ?_) (fun w s z => ⟨H.of _ _ z.1, recFacts_of (Bool.and_eq_true_iff.mp z.2).2⟩) H.keeps XL.keeps hdef hp hk hwr k1 ok hb hw call
  have z := run w os ps
  have eo : ob = fun s => H.obs s.abs := funext ho
  rw [eo] at z
  rw [denQ_eq, tabQ_eq]
  simp only [seenQ_eq]
  exact z
end EV
end Sec39
section Sec40
set_option Elab.async false
set_option linter.all false
set_option maxRecDepth 100000
set_option maxHeartbeats 0
namespace K50
open PD PySem
abbrev P : Program := PySem.Challenge.pw_travelmarks_k50_whole_result_shown_exact
/-- reached_from -/
def d8 : Df := { nn := 8, prm := [(87, none), (88, none), (89, none)], pats := [(3, [])], body := [.asg (.nm 3) (.lc [7] (.nm 7) (some .range) [(.var 0)] (.lit (.bl true)) (.cmp .in_ (.var 7) (.var 2))), .for_ (.nm 4) (some .range) [(.var 0)] [.for_ (.tp [(.nm 5), (.nm 6)]) none [(.var 1)] [.if_ (.ix (.var 3) (.var 5)) [.asgS (.var 3) (.var 6) (.lit (.bl true))] []]], .ret (.var 3)] }
def j8 : DI := { gl := some 142, ps := [(⟨#[115, 105, 122, 101]⟩ : PySem.Str), (⟨#[99, 104, 97, 110, 110, 101, 108, 115]⟩ : PySem.Str), (⟨#[115, 116, 97, 114, 116, 115]⟩ : PySem.Str)] }
def n8 : List Nat := [87, 88, 89, 143, 144, 42, 43, 86]
/-- without_inputs -/
def d9 : Df := { nn := 5, prm := [(87, none), (88, none)], pats := [(2, [])], body := [.asg (.nm 2) (.lc [3] (.nm 3) none [(.var 1)] (.lit (.bl true)) (.ix (.var 3) (.lit (.int 1)))), .ret (.lc [4] (.nm 4) (some .range) [(.var 0)] (.cmp .nin (.var 4) (.var 2)) (.var 4))] }
def j9 : DI := { gl := some 145, ps := [(⟨#[115, 105, 122, 101]⟩ : PySem.Str), (⟨#[99, 104, 97, 110, 110, 101, 108, 115]⟩ : PySem.Str)] }
def n9 : List Nat := [87, 88, 146, 147, 86]
/-- check_channels -/
def d10 : Df := { nn := 6, prm := [(87, none), (88, none)], pats := [(2, [])], body := [.for_ (.tp [(.nm 2), (.nm 3)]) (some .enum) [(.var 1)] [.if_ (.or_ (.not_ (.chain .le .lt (.lit (.int 0)) (.ix (.var 3) (.lit (.int 0))) (.var 0))) (.not_ (.chain .le .lt (.lit (.int 0)) (.ix (.var 3) (.lit (.int 1))) (.var 0)))) [.no] []], .asg (.nm 4) (.call 8 [(.var 0), (.var 1), (.call 9 [(.var 0), (.var 1)] [] [])] [] []), .for_ (.nm 5) (some .range) [(.var 0)] [.if_ (.not_ (.ix (.var 4) (.var 5))) [.no] []]] }
def j10 : DI := { gl := some 148, ps := [(⟨#[115, 105, 122, 101]⟩ : PySem.Str), (⟨#[99, 104, 97, 110, 110, 101, 108, 115]⟩ : PySem.Str)] }
def n10 : List Nat := [87, 88, 14, 147, 143, 86]
/-- Graph.__init__ -/
def d11 : Df := { nn := 5, prm := [(82, none), (87, none), (88, none)], pats := [(3, [])], body := [.if_ (.or_ (.cmp .lt (.var 1) (.lit (.int 1))) (.cmp .gt (.var 1) (.con 0))) [.no] [], .if_ (.cmp .gt (.bi .len [(.var 2)]) (.con 1)) [.no] [], .asg (.nm 3) (.bi .tuple [(.lc [4] (.nm 4) none [(.var 2)] (.lit (.bl true)) (.tup [(.ix (.var 4) (.lit (.int 0))), (.ix (.var 4) (.lit (.int 1)))]))]), .expr (.call 10 [(.var 1), (.var 3)] [] []), .asgF (.var 0) 87 (.var 1), .asgF (.var 0) 88 (.var 3)] }
def j11 : DI := { gl := none, ps := [(⟨#[115, 101, 108, 102]⟩ : PySem.Str), (⟨#[115, 105, 122, 101]⟩ : PySem.Str), (⟨#[99, 104, 97, 110, 110, 101, 108, 115]⟩ : PySem.Str)] }
def n11 : List Nat := [82, 87, 88, 149, 147]
/-- Rules.__init__ -/
def d24 : Df := { nn := 7, prm := [(82, none), (90, none), (23, none)], pats := [(3, [])], body := [.asg (.nm 3) (.dnew false), .for_ (.tp [(.nm 4), (.tp [(.nm 5), (.nm 6)])]) (some .enum) [(.var 1)] [.if_ (.cmp .nin (.ix (.var 2) (.var 4)) (.var 6)) [.no] [], .asgS (.var 3) (.var 5) (.ix (.var 2) (.var 4))], .asgF (.var 0) 90 (.var 1), .asgF (.var 0) 91 (.var 3)] }
def j24 : DI := { gl := none, ps := [(⟨#[115, 101, 108, 102]⟩ : PySem.Str), (⟨#[99, 104, 111, 105, 99, 101, 115]⟩ : PySem.Str), (⟨#[118, 97, 108, 117, 101, 115]⟩ : PySem.Str)] }
def n24 : List Nat := [82, 90, 23, 91, 150, 81, 151]
/-- Rules.__getitem__ -/
def d25 : Df := { nn := 2, prm := [(82, none), (81, none)], pats := [(2, [])], body := [.if_ (.cmp .nin (.var 1) (.fld (.var 0) 91)) [.no] [], .ret (.ix (.fld (.var 0) 91) (.var 1))] }
def j25 : DI := { gl := none, ps := [(⟨#[115, 101, 108, 102]⟩ : PySem.Str), (⟨#[107, 101, 121]⟩ : PySem.Str)] }
def n25 : List Nat := [82, 81]
/-- Book.__init__ -/
def d31 : Df := { nn := 9, prm := [(82, none), (28, some (.str 30)), (31, some (.str 30)), (32, some (.str 33)), (35, some (.str 37)), (38, some (.str 39)), (40, some (.str 41)), (45, some (.str 47))], pats := [(1, [28, 31, 32, 35, 38, 40, 45])], body := [.expr (.scall 92 24 [(.con 2), (.tup [(.var 1), (.var 2), (.var 3), (.var 4), (.var 5), (.var 6), (.var 7)])])] }
def j31 : DI := { gl := none, ps := [(⟨#[115, 101, 108, 102]⟩ : PySem.Str), (⟨#[115, 97, 118, 101]⟩ : PySem.Str), (⟨#[115, 101, 110, 100]⟩ : PySem.Str), (⟨#[112, 108, 97, 99, 101]⟩ : PySem.Str), (⟨#[101, 97, 114, 108, 121]⟩ : PySem.Str), (⟨#[108, 97, 116, 101]⟩ : PySem.Str), (⟨#[112, 97, 115, 115, 101, 100]⟩ : PySem.Str), (⟨#[114, 105, 110, 103, 115]⟩ : PySem.Str)] }
def n31 : List Nat := [82, 28, 31, 32, 35, 38, 40, 45, 152]
/-- Outlet.__init__ -/
def d36 : Df := { nn := 8, prm := [(82, none), (48, some (.str 50)), (51, some (.str 52)), (54, some (.str 56)), (57, some (.str 58)), (59, some (.str 60)), (62, some (.str 63))], pats := [(1, [48, 51, 54, 57, 59, 62])], body := [.expr (.scall 93 24 [(.con 3), (.tup [(.var 1), (.var 2), (.var 3), (.var 4), (.var 5), (.var 6)])])] }
def j36 : DI := { gl := none, ps := [(⟨#[115, 101, 108, 102]⟩ : PySem.Str), (⟨#[115, 104, 111, 119]⟩ : PySem.Str), (⟨#[109, 101, 109, 111, 114, 121]⟩ : PySem.Str), (⟨#[97, 103, 97, 105, 110]⟩ : PySem.Str), (⟨#[115, 116, 114, 97, 121, 115]⟩ : PySem.Str), (⟨#[114, 101, 112, 101, 97, 116]⟩ : PySem.Str), (⟨#[108, 97, 112, 115, 101]⟩ : PySem.Str)] }
def n36 : List Nat := [82, 48, 51, 54, 57, 59, 62, 152]
/-- moment -/
def d37 : Df := { nn := 1, prm := [(83, none)], pats := [(1, [])], body := [.if_ (.cmp .eq (.var 0) (.lit (.str 29))) [.ret (.lit (.int 1))] [], .ret (.lit (.int 2))] }
def j37 : DI := { gl := some 153, ps := [(⟨#[118, 97, 108, 117, 101]⟩ : PySem.Str)] }
def n37 : List Nat := [83]
/-- after_make -/
def d38 : Df := { nn := 11, prm := [(94, none), (95, none)], pats := [(2, [])], body := [.asg (.tp [(.nm 2), (.nm 3), (.nm 4), (.nm 5), (.nm 6), (.nm 7), (.nm 8), (.nm 9), (.nm 10)]) (.var 1), .if_ (.cmp .ne (.var 5) (.lit (.int 0))) [.ret (.lit .non)] [], .asg (.nm 8) (.bi .int [(.cmp .lt (.var 3) (.call 37 [(.ix (.var 0) (.lit (.str 28)))] [] []))]), .asg (.nm 5) (.lit (.int 3)), .if_ (.cmp .lt (.var 3) (.call 37 [(.ix (.var 0) (.lit (.str 31)))] [] [])) [.asg (.nm 5) (.lit (.int 1))] [], .ret (.tup [(.var 2), (.var 3), (.var 4), (.var 5), (.var 6), (.var 7), (.var 8), (.var 9), (.var 10)])] }
def j38 : DI := { gl := some 154, ps := [(⟨#[98, 111, 111, 107]⟩ : PySem.Str), (⟨#[115, 116, 97, 110, 100, 105, 110, 103]⟩ : PySem.Str)] }
def n38 : List Nat := [94, 95, 99, 42, 155, 32, 43, 156, 157, 158, 53]
/-- after_sender -/
def d39 : Df := { nn := 14, prm := [(94, none), (95, none), (96, none)], pats := [(3, [])], body := [.asg (.tp [(.nm 3), (.nm 4), (.nm 5), (.nm 6), (.nm 7), (.nm 8), (.nm 9), (.nm 10), (.nm 11)]) (.var 1), .if_ (.cmp .ne (.var 4) (.ix (.con 6) (.var 2))) [.ret (.lit .non)] [], .asg (.nm 12) (.ix (.con 7) (.var 2)), .asg (.nm 13) (.call 37 [(.ix (.var 0) (.lit (.str 31)))] [] []), .if_ (.and_ (.cmp .lt (.var 4) (.var 13)) (.cmp .ge (.var 12) (.var 13))) [.asg (.nm 5) (.lit (.int 1)), .if_ (.and_ (.cmp .eq (.var 6) (.lit (.int 1))) (.and_ (.cmp .eq (.var 8) (.lit (.int 0))) (.cmp .eq (.ix (.var 0) (.lit (.str 32))) (.lit (.str 34))))) [.asg (.nm 6) (.lit (.int 2)), .if_ (.cmp .in_ (.ix (.var 0) (.lit (.str 40))) (.tup [(.lit (.str 42)), (.lit (.str 44))])) [.asg (.nm 11) (.bin .add (.var 11) (.lit (.int 1)))] []] []] [], .ret (.tup [(.var 3), (.var 12), (.var 5), (.var 6), (.var 7), (.var 8), (.var 9), (.var 10), (.var 11)])] }
def j39 : DI := { gl := some 159, ps := [(⟨#[98, 111, 111, 107]⟩ : PySem.Str), (⟨#[115, 116, 97, 110, 100, 105, 110, 103]⟩ : PySem.Str), (⟨#[101, 118, 101, 110, 116]⟩ : PySem.Str)] }
def n39 : List Nat := [94, 95, 96, 99, 42, 155, 32, 43, 156, 157, 158, 53, 143, 160]
/-- after_take -/
def d40 : Df := { nn := 11, prm := [(94, none), (95, none)], pats := [(2, [])], body := [.asg (.tp [(.nm 2), (.nm 3), (.nm 4), (.nm 5), (.nm 6), (.nm 7), (.nm 8), (.nm 9), (.nm 10)]) (.var 1), .if_ (.or_ (.cmp .eq (.var 7) (.lit (.int 1))) (.cmp .eq (.var 5) (.lit (.int 0)))) [.ret (.lit .non)] [], .if_ (.and_ (.cmp .gt (.var 5) (.lit (.int 1))) (.cmp .lt (.var 4) (.lit (.int 2)))) [.ret (.lit .non)] [], .if_ (.and_ (.cmp .gt (.var 5) (.lit (.int 1))) (.and_ (.cmp .lt (.var 6) (.lit (.int 2))) (.cmp .eq (.ix (.var 0) (.lit (.str 35))) (.lit (.str 37))))) [.ret (.lit .non)] [], .if_ (.cmp .lt (.var 6) (.call 37 [(.ix (.var 0) (.lit (.str 28)))] [] [])) [.asg (.nm 9) (.lit (.int 1))] [.if_ (.and_ (.cmp .lt (.var 4) (.lit (.int 2))) (.cmp .eq (.ix (.var 0) (.lit (.str 38))) (.lit (.str 39)))) [.asg (.nm 10) (.bin .add (.var 10) (.lit (.int 1)))] []], .ret (.tup [(.var 2), (.var 3), (.var 4), (.var 5), (.var 6), (.lit (.int 1)), (.var 8), (.var 9), (.var 10)])] }
def j40 : DI := { gl := some 161, ps := [(⟨#[98, 111, 111, 107]⟩ : PySem.Str), (⟨#[115, 116, 97, 110, 100, 105, 110, 103]⟩ : PySem.Str)] }
def n40 : List Nat := [94, 95, 99, 42, 155, 32, 43, 156, 157, 158, 53]
/-- after_barrier -/
def d41 : Df := { nn := 12, prm := [(94, none), (95, none), (96, none)], pats := [(3, [])], body := [.asg (.tp [(.nm 3), (.nm 4), (.nm 5), (.nm 6), (.nm 7), (.nm 8), (.nm 9), (.nm 10), (.nm 11)]) (.var 1), .if_ (.or_ (.cmp .ne (.var 5) (.lit (.int 1))) (.and_ (.cmp .eq (.var 6) (.lit (.int 1))) (.cmp .eq (.var 8) (.lit (.int 0))))) [.ret (.lit .non)] [], .if_ (.and_ (.cmp .eq (.var 3) (.lit (.str 77))) (.cmp .eq (.var 7) (.lit (.int 2)))) [.ret (.lit .non)] [], .if_ (.and_ (.cmp .eq (.var 3) (.lit (.str 80))) (.and_ (.cmp .eq (.var 2) (.lit (.str 69))) (.cmp .ne (.var 7) (.lit (.int 0))))) [.ret (.lit .non)] [], .if_ (.and_ (.cmp .eq (.var 6) (.lit (.int 2))) (.cmp .in_ (.ix (.var 0) (.lit (.str 40))) (.tup [(.lit (.str 43)), (.lit (.str 44))]))) [.asg (.nm 11) (.bin .add (.var 11) (.lit (.int 1)))] [], .if_ (.cmp .eq (.var 2) (.lit (.str 69))) [.asg (.nm 7) (.lit (.int 2))] [.if_ (.cmp .eq (.var 7) (.lit (.int 0))) [.asg (.nm 7) (.lit (.int 1))] []], .ret (.tup [(.var 3), (.var 4), (.lit (.int 2)), (.var 6), (.var 7), (.var 8), (.var 9), (.var 10), (.var 11)])] }
def j41 : DI := { gl := some 162, ps := [(⟨#[98, 111, 111, 107]⟩ : PySem.Str), (⟨#[115, 116, 97, 110, 100, 105, 110, 103]⟩ : PySem.Str), (⟨#[101, 118, 101, 110, 116]⟩ : PySem.Str)] }
def n41 : List Nat := [94, 95, 96, 99, 42, 155, 32, 43, 156, 157, 158, 53]
/-- after_other -/
def d42 : Df := { nn := 13, prm := [(95, none), (96, none)], pats := [(2, [])], body := [.asg (.tp [(.nm 2), (.nm 3), (.nm 4), (.nm 5), (.nm 6), (.nm 7), (.nm 8), (.nm 9), (.nm 10)]) (.var 0), .asg (.nm 11) (.lit (.int 1)), .asg (.nm 12) (.cmp .eq (.var 6) (.lit (.int 0))), .if_ (.cmp .eq (.var 1) (.lit (.str 71))) [.asg (.nm 11) (.lit (.int 2)), .asg (.nm 12) (.cmp .lt (.var 6) (.lit (.int 2))), .if_ (.cmp .eq (.var 2) (.lit (.str 77))) [.asg (.nm 12) (.and_ (.cmp .eq (.var 6) (.lit (.int 1))) (.cmp .eq (.var 4) (.lit (.int 2))))] []] [], .if_ (.not_ (.var 12)) [.ret (.lit .non)] [], .ret (.tup [(.var 2), (.var 3), (.var 4), (.var 5), (.var 11), (.var 7), (.var 8), (.var 9), (.var 10)])] }
def j42 : DI := { gl := some 163, ps := [(⟨#[115, 116, 97, 110, 100, 105, 110, 103]⟩ : PySem.Str), (⟨#[101, 118, 101, 110, 116]⟩ : PySem.Str)] }
def n42 : List Nat := [95, 96, 99, 42, 155, 32, 43, 156, 157, 158, 53, 143, 164]
/-- after_failure -/
def d43 : Df := { nn := 8, prm := [(97, none), (95, none)], pats := [(2, [])], body := [.asg (.tp [(.nm 2), (.nm 3), (.nm 4), (.nm 5), (.nm 6)]) (.var 1), .if_ (.cmp .eq (.var 2) (.lit (.int 0))) [.ret (.lit .non)] [], .if_ (.cmp .lt (.var 2) (.lit (.int 3))) [.if_ (.and_ (.cmp .eq (.var 4) (.lit (.int 1))) (.cmp .eq (.ix (.var 0) (.lit (.str 57))) (.lit (.str 55)))) [.asg (.nm 5) (.lit (.int 1))] [], .if_ (.and_ (.cmp .eq (.var 4) (.lit (.int 1))) (.cmp .eq (.ix (.var 0) (.lit (.str 57))) (.lit (.str 56)))) [.asg (.nm 6) (.bi .min [(.lit (.int 2)), (.bin .add (.var 6) (.lit (.int 1)))])] [], .ret (.tup [(.lit (.int 0)), (.lit (.int 0)), (.lit (.int 0)), (.var 5), (.var 6)])] [], .asg (.nm 3) (.bi .int [(.and_ (.cmp .eq (.ix (.var 0) (.lit (.str 48))) (.lit (.str 49))) (.cmp .eq (.ix (.var 0) (.lit (.str 51))) (.lit (.str 53))))]), .if_ (.and_ (.cmp .eq (.ix (.var 0) (.lit (.str 54))) (.lit (.str 56))) (.cmp .ne (.ix (.var 0) (.lit (.str 48))) (.lit (.str 36)))) [.asg (.nm 7) (.or_ (.cmp .eq (.var 3) (.lit (.int 1))) (.or_ (.cmp .eq (.var 4) (.lit (.int 1))) (.and_ (.cmp .eq (.ix (.var 0) (.lit (.str 48))) (.lit (.str 50))) (.cmp .gt (.var 6) (.lit (.int 0)))))), .if_ (.and_ (.var 7) (.or_ (.cmp .eq (.ix (.var 0) (.lit (.str 59))) (.lit (.str 61))) (.cmp .eq (.var 6) (.lit (.int 0))))) [.asg (.nm 6) (.bi .min [(.lit (.int 2)), (.bin .add (.var 6) (.lit (.int 1)))])] [], .if_ (.var 7) [.asg (.nm 3) (.lit (.int 0)), .asg (.nm 4) (.lit (.int 0))] []] [], .ret (.tup [(.lit (.int 4)), (.var 3), (.var 4), (.var 5), (.var 6)])] }
def j43 : DI := { gl := some 165, ps := [(⟨#[111, 117, 116, 108, 101, 116]⟩ : PySem.Str), (⟨#[115, 116, 97, 110, 100, 105, 110, 103]⟩ : PySem.Str)] }
def n43 : List Nat := [97, 95, 166, 167, 168, 169, 170, 171]
/-- after_result -/
def d44 : Df := { nn := 8, prm := [(97, none), (95, none), (96, none)], pats := [(3, [])], body := [.asg (.tp [(.nm 3), (.nm 4), (.nm 5), (.nm 6), (.nm 7)]) (.var 1), .if_ (.cmp .eq (.var 2) (.lit (.str 73))) [.ret (.call 43 [(.var 0), (.var 1)] [] [])] [], .if_ (.cmp .eq (.var 2) (.lit (.str 62))) [.if_ (.or_ (.cmp .eq (.var 5) (.lit (.int 0))) (.cmp .eq (.ix (.var 0) (.lit (.str 62))) (.lit (.str 63)))) [.ret (.lit .non)] [], .ret (.tup [(.var 3), (.var 4), (.lit (.int 0)), (.var 6), (.var 7)])] [], .if_ (.cmp .ne (.var 3) (.ix (.disp [((.str 65), (.int 0)), ((.str 28), (.int 1)), ((.str 49), (.int 2)), ((.str 72), (.int 3))]) (.var 2))) [.ret (.lit .non)] [], .if_ (.and_ (.cmp .eq (.var 2) (.lit (.str 65))) (.cmp .eq (.ix (.var 0) (.lit (.str 48))) (.lit (.str 36)))) [.asg (.nm 7) (.bi .min [(.lit (.int 2)), (.bin .add (.var 7) (.lit (.int 1)))])] [.if_ (.cmp .eq (.var 2) (.lit (.str 65))) [.asg (.nm 4) (.lit (.int 1))] []], .if_ (.and_ (.cmp .eq (.var 2) (.lit (.str 28))) (.cmp .eq (.ix (.var 0) (.lit (.str 48))) (.lit (.str 50)))) [.asg (.nm 4) (.lit (.int 0)), .asg (.nm 5) (.lit (.int 1))] [], .if_ (.and_ (.cmp .eq (.var 2) (.lit (.str 72))) (.or_ (.cmp .eq (.var 4) (.lit (.int 1))) (.cmp .eq (.var 5) (.lit (.int 1))))) [.asg (.nm 7) (.bi .min [(.lit (.int 2)), (.bin .add (.var 7) (.lit (.int 1)))]), .asg (.nm 4) (.lit (.int 0)), .asg (.nm 5) (.lit (.int 0))] [], .ret (.tup [(.bin .add (.var 3) (.lit (.int 1))), (.var 4), (.var 5), (.var 6), (.var 7)])] }
def j44 : DI := { gl := some 172, ps := [(⟨#[111, 117, 116, 108, 101, 116]⟩ : PySem.Str), (⟨#[115, 116, 97, 110, 100, 105, 110, 103]⟩ : PySem.Str), (⟨#[101, 118, 101, 110, 116]⟩ : PySem.Str)] }
def n44 : List Nat := [97, 95, 96, 166, 167, 168, 169, 170]
/-- after -/
def d45 : Df := { nn := 3, prm := [(98, none), (95, none), (96, none)], pats := [(3, [])], body := [.if_ (.isi (.var 0) 93) [.ret (.call 44 [(.var 0), (.var 1), (.var 2)] [] [])] [], .if_ (.cmp .eq (.var 2) (.lit (.str 65))) [.ret (.call 38 [(.var 0), (.var 1)] [] [])] [], .if_ (.cmp .in_ (.var 2) (.tup [(.lit (.str 29)), (.lit (.str 66)), (.lit (.str 44))])) [.ret (.call 39 [(.var 0), (.var 1), (.var 2)] [] [])] [], .if_ (.cmp .eq (.var 2) (.lit (.str 67))) [.ret (.call 40 [(.var 0), (.var 1)] [] [])] [], .if_ (.cmp .in_ (.var 2) (.tup [(.lit (.str 68)), (.lit (.str 69))])) [.ret (.call 41 [(.var 0), (.var 1), (.var 2)] [] [])] [], .ret (.call 42 [(.var 1), (.var 2)] [] [])] }
def j45 : DI := { gl := some 173, ps := [(⟨#[114, 117, 108, 101, 115]⟩ : PySem.Str), (⟨#[115, 116, 97, 110, 100, 105, 110, 103]⟩ : PySem.Str), (⟨#[101, 118, 101, 110, 116]⟩ : PySem.Str)] }
def n45 : List Nat := [98, 95, 96]
/-- events_of -/
def d46 : Df := { nn := 1, prm := [(98, none)], pats := [(1, [])], body := [.if_ (.isi (.var 0) 93) [.ret (.con 5)] [], .ret (.con 4)] }
def j46 : DI := { gl := some 174, ps := [(⟨#[114, 117, 108, 101, 115]⟩ : PySem.Str)] }
def n46 : List Nat := [98]
/-- start_of -/
def d47 : Df := { nn := 1, prm := [(99, none)], pats := [(1, [])], body := [.ret (.tup [(.var 0), (.lit (.int 0)), (.lit (.int 0)), (.lit (.int 0)), (.lit (.int 0)), (.lit (.int 0)), (.lit (.int 0)), (.lit (.int 0)), (.lit (.int 0))])] }
def j47 : DI := { gl := some 175, ps := [(⟨#[107, 105, 110, 100]⟩ : PySem.Str)] }
def n47 : List Nat := [99]
/-- starts_of -/
def d48 : Df := { nn := 1, prm := [(98, none)], pats := [(1, [])], body := [.if_ (.isi (.var 0) 93) [.ret (.lst [(.tup [(.lit (.int 0)), (.lit (.int 0)), (.lit (.int 0)), (.lit (.int 0)), (.lit (.int 0))])])] [], .if_ (.cmp .eq (.ix (.var 0) (.lit (.str 45))) (.lit (.str 47))) [.ret (.lst [(.call 47 [(.lit (.str 77))] [] []), (.call 47 [(.lit (.str 80))] [] [])])] [], .ret (.lst [(.call 47 [(.lit (.str 77))] [] [])])] }
def j48 : DI := { gl := some 176, ps := [(⟨#[114, 117, 108, 101, 115]⟩ : PySem.Str)] }
def n48 : List Nat := [98]
/-- standings -/
def d49 : Df := { nn := 7, prm := [(98, none)], pats := [(1, [])], body := [.asg (.nm 1) (.call 48 [(.var 0)] [] []), .asg (.nm 2) (.dc true [6] (.nm 6) none [(.var 1)] (.var 6) (.lit (.bl true))), .asg (.nm 3) (.lit (.int 0)), .while_ (.cmp .lt (.var 3) (.bi .len [(.var 1)])) [.for_ (.nm 4) none [(.call 46 [(.var 0)] [] [])] [.asg (.nm 5) (.call 45 [(.var 0), (.ix (.var 1) (.var 3)), (.var 4)] [] []), .if_ (.and_ (.cmp .isn (.var 5) (.lit .non)) (.cmp .nin (.var 5) (.var 2))) [.asgS (.var 2) (.var 5) (.lit (.bl true)), .expr (.meth (.var 1) 8 [(.var 5)])] []], .augN 3 .add (.lit (.int 1))], .ret (.bi .tuple [(.var 1)])] }
def j49 : DI := { gl := some 177, ps := [(⟨#[114, 117, 108, 101, 115]⟩ : PySem.Str)] }
def n49 : List Nat := [98, 101, 178, 150, 96, 179, 95]
/-- shows_result -/
def d50 : Df := { nn := 7, prm := [(95, none), (84, none)], pats := [(2, [])], body := [.asg (.tp [(.nm 2), (.nm 3), (.nm 4), (.nm 5), (.nm 6)]) (.var 0), .if_ (.cmp .eq (.var 1) (.lit (.str 52))) [.ret (.and_ (.cmp .eq (.var 2) (.lit (.int 4))) (.cmp .eq (.var 6) (.lit (.int 0))))] [], .if_ (.cmp .eq (.var 1) (.lit (.str 61))) [.ret (.or_ (.cmp .eq (.var 6) (.lit (.int 2))) (.and_ (.cmp .gt (.var 6) (.lit (.int 0))) (.cmp .eq (.var 2) (.lit (.int 0)))))] [], .if_ (.cmp .eq (.var 1) (.lit (.str 76))) [.ret (.cmp .eq (.var 5) (.lit (.int 1)))] [], .no] }
def j50 : DI := { gl := some 180, ps := [(⟨#[115, 116, 97, 110, 100, 105, 110, 103]⟩ : PySem.Str), (⟨#[102, 97, 117, 108, 116]⟩ : PySem.Str)] }
def n50 : List Nat := [95, 84, 166, 167, 168, 169, 170]
/-- shows -/
def d51 : Df := { nn := 14, prm := [(98, none), (95, none), (84, none)], pats := [(3, [])], body := [.if_ (.isi (.var 0) 93) [.ret (.call 50 [(.var 1), (.var 2)] [] [])] [], .asg (.tp [(.nm 3), (.nm 4), (.nm 5), (.nm 6), (.nm 7), (.nm 8), (.nm 9), (.nm 10), (.nm 11)]) (.var 1), .asg (.nm 12) (.and_ (.cmp .eq (.var 4) (.lit (.int 2))) (.and_ (.cmp .eq (.var 5) (.lit (.int 2))) (.cmp .eq (.var 7) (.lit (.int 2))))), .if_ (.cmp .eq (.var 2) (.lit (.str 52))) [.ret (.and_ (.var 12) (.cmp .lt (.bin .add (.var 10) (.var 11)) (.var 9)))] [], .if_ (.cmp .eq (.var 2) (.lit (.str 61))) [.ret (.and_ (.var 12) (.cmp .gt (.bin .add (.var 10) (.var 11)) (.var 9)))] [], .if_ (.cmp .eq (.var 2) (.lit (.str 75))) [.asg (.nm 13) (.and_ (.cmp .eq (.var 5) (.lit (.int 2))) (.and_ (.cmp .lt (.var 7) (.lit (.int 2))) (.and_ (.cmp .gt (.var 6) (.lit (.int 1))) (.cmp .eq (.var 8) (.lit (.int 0)))))), .ret (.and_ (.var 13) (.cmp .eq (.ix (.var 0) (.lit (.str 35))) (.lit (.str 37))))] [], .if_ (.cmp .eq (.var 2) (.lit (.str 53))) [.ret (.cmp .gt (.var 11) (.lit (.int 0)))] [], .no] }
def j51 : DI := { gl := some 181, ps := [(⟨#[114, 117, 108, 101, 115]⟩ : PySem.Str), (⟨#[115, 116, 97, 110, 100, 105, 110, 103]⟩ : PySem.Str), (⟨#[102, 97, 117, 108, 116]⟩ : PySem.Str)] }
def n51 : List Nat := [98, 95, 84, 99, 42, 155, 32, 43, 156, 157, 158, 53, 49, 182]
/-- Verdict.__init__ -/
def d52 : Df := { nn := 9, prm := [(82, none), (84, none), (100, none), (101, some (.ctp [])), (102, some .non), (85, some .non), (103, some (.ctp [])), (104, some (.ctp [])), (105, some (.str 106))], pats := [(3, [103]), (3, [102, 85, 103, 104, 105]), (3, [102, 85, 104]), (3, [101]), (3, [])], body := [.asgF (.var 0) 84 (.var 1), .asgF (.var 0) 100 (.var 2), .asgF (.var 0) 101 (.var 3), .asgF (.var 0) 102 (.var 4), .asgF (.var 0) 85 (.var 5), .asgF (.var 0) 103 (.var 6), .asgF (.var 0) 104 (.var 7), .asgF (.var 0) 105 (.var 8)] }
def j52 : DI := { gl := none, ps := [(⟨#[115, 101, 108, 102]⟩ : PySem.Str), (⟨#[102, 97, 117, 108, 116]⟩ : PySem.Str), (⟨#[107, 101, 112, 116]⟩ : PySem.Str), (⟨#[116, 97, 98, 108, 101]⟩ : PySem.Str), (⟨#[103, 114, 97, 112, 104]⟩ : PySem.Str), (⟨#[99, 104, 97, 110, 110, 101, 108]⟩ : PySem.Str), (⟨#[101, 118, 101, 110, 116, 115]⟩ : PySem.Str), (⟨#[115, 116, 101, 112, 115]⟩ : PySem.Str), (⟨#[99, 97, 117, 115, 101]⟩ : PySem.Str)] }
def n52 : List Nat := [82, 84, 100, 101, 102, 85, 103, 104, 105]
/-- shortest -/
def d53 : Df := { nn := 12, prm := [(98, none), (89, none), (107, none), (84, none)], pats := [(4, [])], body := [.asg (.nm 4) (.bi .list [(.var 1)]), .asg (.nm 5) (.dc true [11] (.nm 11) none [(.var 1)] (.var 11) (.tup [])), .asg (.nm 6) (.lit (.int 0)), .while_ (.cmp .lt (.var 6) (.bi .len [(.var 4)])) [.asg (.nm 7) (.ix (.var 4) (.var 6)), .if_ (.call 51 [(.var 0), (.var 7), (.var 3)] [] []) [.ret (.tup [(.ix (.var 5) (.var 7)), (.var 7)])] [], .for_ (.tp [(.nm 8), (.nm 9)]) none [(.var 2)] [.asg (.nm 10) (.lit .non), .if_ (.or_ (.cmp .eq (.bi .len [(.var 9)]) (.lit (.int 0))) (.cmp .in_ (.ix (.var 7) (.lit (.int 4))) (.var 9))) [.asg (.nm 10) (.call 45 [(.var 0), (.var 7), (.var 8)] [] [])] [], .if_ (.and_ (.cmp .isn (.var 10) (.lit .non)) (.cmp .nin (.var 10) (.var 5))) [.asgS (.var 5) (.var 10) (.bin .add (.ix (.var 5) (.var 7)) (.tup [(.var 8)])), .expr (.meth (.var 4) 8 [(.var 10)])] []], .augN 6 .add (.lit (.int 1))], .ret (.lit .non)] }
def j53 : DI := { gl := some 183, ps := [(⟨#[114, 117, 108, 101, 115]⟩ : PySem.Str), (⟨#[115, 116, 97, 114, 116, 115]⟩ : PySem.Str), (⟨#[109, 111, 118, 101, 115]⟩ : PySem.Str), (⟨#[102, 97, 117, 108, 116]⟩ : PySem.Str)] }
def n53 : List Nat := [98, 89, 107, 84, 184, 185, 150, 95, 96, 151, 179, 186]
/-- cause_of -/
def d54 : Df := { nn := 3, prm := [(95, none), (84, none)], pats := [(2, [])], body := [.asg (.nm 2) (.ix (.var 0) (.lit (.int 3))), .if_ (.cmp .eq (.var 1) (.lit (.str 52))) [.ret (.ix (.disp [((.int 1), (.str 108)), ((.int 2), (.str 109)), ((.int 3), (.str 110))]) (.var 2))] [], .if_ (.cmp .ne (.var 1) (.lit (.str 61))) [.ret (.lit (.str 106))] [], .if_ (.and_ (.cmp .eq (.ix (.var 0) (.lit (.int 6))) (.lit (.int 0))) (.cmp .lt (.var 2) (.lit (.int 3)))) [.ret (.lit (.str 111))] [], .if_ (.or_ (.cmp .eq (.ix (.var 0) (.lit (.int 6))) (.lit (.int 0))) (.cmp .eq (.ix (.var 0) (.lit (.int 7))) (.lit (.int 1)))) [.ret (.lit (.str 112))] [], .ret (.lit (.str 113))] }
def j54 : DI := { gl := some 187, ps := [(⟨#[115, 116, 97, 110, 100, 105, 110, 103]⟩ : PySem.Str), (⟨#[102, 97, 117, 108, 116]⟩ : PySem.Str)] }
def n54 : List Nat := [95, 84, 32]
/-- steps_of -/
def d55 : Df := { nn := 9, prm := [(114, none), (103, none), (115, none)], pats := [(3, [])], body := [.asg (.nm 3) (.tup []), .for_ (.nm 4) none [(.var 1)] [.for_ (.tp [(.nm 5), (.nm 6), (.nm 7)]) none [(.ix (.var 0) (.lit (.int 4)))] [.if_ (.and_ (.cmp .eq (.var 5) (.var 4)) (.cmp .gt (.bi .len [(.var 6)]) (.lit (.int 0)))) [.asg (.nm 8) (.lit (.int 1)), .if_ (.cmp .in_ (.var 4) (.tup [(.lit (.str 65)), (.lit (.str 67))])) [.asg (.nm 8) (.var 2)] [], .asg (.nm 3) (.bin .add (.var 3) (.bin .mul (.var 7) (.var 8)))] []]], .ret (.var 3)] }
def j55 : DI := { gl := some 188, ps := [(⟨#[115, 104, 97, 112, 101]⟩ : PySem.Str), (⟨#[101, 118, 101, 110, 116, 115]⟩ : PySem.Str), (⟨#[109, 97, 110, 121]⟩ : PySem.Str)] }
def n55 : List Nat := [114, 103, 115, 104, 96, 189, 151, 190, 191]
/-- fitting_shapes -/
def d56 : Df := { nn := 2, prm := [(94, none)], pats := [(1, [])], body := [.ret (.lc [1] (.nm 1) none [(.con 10)] (.or_ (.cmp .eq (.ix (.var 1) (.lit (.int 3))) (.lit (.str 77))) (.cmp .eq (.ix (.var 0) (.lit (.str 45))) (.lit (.str 47)))) (.var 1))] }
def j56 : DI := { gl := some 192, ps := [(⟨#[98, 111, 111, 107]⟩ : PySem.Str)] }
def n56 : List Nat := [94, 114]
/-- judge_stuck -/
def d57 : Df := { nn := 2, prm := [(94, none)], pats := [(1, [])], body := [.if_ (.or_ (.cmp .eq (.ix (.var 0) (.lit (.str 45))) (.lit (.str 47))) (.cmp .eq (.ix (.var 0) (.lit (.str 31))) (.lit (.str 29)))) [.ret (.new 116 [(.lit (.str 74)), (.lit (.bl true))] [] [])] [], .asg (.nm 1) (.new 117 [(.lit (.int 2)), (.lst [(.tup [(.lit (.int 0)), (.lit (.int 1))]), (.tup [(.lit (.int 1)), (.lit (.int 1))])])] [] []), .ret (.new 116 [(.lit (.str 74)), (.lit (.bl false))] [102, 85, 104] [(.var 1), (.lit (.int 1)), (.tup [(.tup [(.lit (.str 79)), (.lit (.int 0))]), (.tup [(.lit (.str 67)), (.lit (.int 0))])])])] }
def j57 : DI := { gl := some 193, ps := [(⟨#[98, 111, 111, 107]⟩ : PySem.Str)] }
def n57 : List Nat := [94, 102]
/-- kept_by -/
def d58 : Df := { nn := 4, prm := [(101, none), (98, none), (84, none)], pats := [(3, [])], body := [.if_ (.cmp .eq (.var 2) (.lit (.str 74))) [.ret (.fld (.call 57 [(.var 1)] [] []) 100)] [], .ret (.cmp .nin (.lit (.bl true)) (.lc [3] (.nm 3) none [(.var 0)] (.lit (.bl true)) (.call 51 [(.var 1), (.var 3), (.var 2)] [] [])))] }
def j58 : DI := { gl := some 194, ps := [(⟨#[116, 97, 98, 108, 101]⟩ : PySem.Str), (⟨#[114, 117, 108, 101, 115]⟩ : PySem.Str), (⟨#[102, 97, 117, 108, 116]⟩ : PySem.Str)] }
def n58 : List Nat := [101, 98, 84, 95]
/-- judge_outlet -/
def d59 : Df := { nn := 6, prm := [(97, none), (84, none)], pats := [(2, [])], body := [.asg (.nm 2) (.call 49 [(.var 0)] [] []), .if_ (.call 58 [(.var 2), (.var 0), (.var 1)] [] []) [.ret (.new 116 [(.var 1), (.lit (.bl true))] [101] [(.var 2)])] [], .asg (.nm 3) (.lc [5] (.nm 5) none [(.call 46 [(.var 0)] [] [])] (.lit (.bl true)) (.tup [(.var 5), (.tup [])])), .asg (.nm 4) (.call 53 [(.var 0), (.call 48 [(.var 0)] [] []), (.var 3), (.var 1)] [] []), .ret (.new 116 [(.var 1), (.lit (.bl false))] [103] [(.ix (.var 4) (.lit (.int 0)))])] }
def j59 : DI := { gl := some 195, ps := [(⟨#[111, 117, 116, 108, 101, 116]⟩ : PySem.Str), (⟨#[102, 97, 117, 108, 116]⟩ : PySem.Str)] }
def n59 : List Nat := [97, 84, 101, 107, 179, 96]
/-- shape_found -/
def d60 : Df := { nn := 6, prm := [(94, none), (84, none)], pats := [(2, [])], body := [.for_ (.nm 2) none [(.call 56 [(.var 0)] [] [])] [.asg (.nm 3) (.lc [5] (.nm 5) none [(.ix (.var 2) (.lit (.int 4)))] (.lit (.bl true)) (.tup [(.ix (.var 5) (.lit (.int 0))), (.ix (.var 5) (.lit (.int 1)))])), .asg (.nm 4) (.call 53 [(.var 0), (.lst [(.call 47 [(.ix (.var 2) (.lit (.int 3)))] [] [])]), (.var 3), (.var 1)] [] []), .if_ (.cmp .isn (.var 4) (.lit .non)) [.ret (.tup [(.var 2), (.ix (.var 4) (.lit (.int 0))), (.ix (.var 4) (.lit (.int 1)))])] []], .ret (.lit .non)] }
def j60 : DI := { gl := some 196, ps := [(⟨#[98, 111, 111, 107]⟩ : PySem.Str), (⟨#[102, 97, 117, 108, 116]⟩ : PySem.Str)] }
def n60 : List Nat := [94, 84, 114, 107, 179, 197]
/-- check_fault -/
def d61 : Df := { nn := 2, prm := [(84, none), (118, none)], pats := [(2, [])], body := [.if_ (.cmp .nin (.var 0) (.var 1)) [.no] []] }
def j61 : DI := { gl := some 198, ps := [(⟨#[102, 97, 117, 108, 116]⟩ : PySem.Str), (⟨#[102, 97, 117, 108, 116, 115]⟩ : PySem.Str)] }
def n61 : List Nat := [84, 118]
/-- judge -/
def d62 : Df := { nn := 6, prm := [(98, none), (84, none)], pats := [(2, [])], body := [.if_ (.isi (.var 0) 93) [.expr (.call 61 [(.var 1), (.con 9)] [] []), .ret (.call 59 [(.var 0), (.var 1)] [] [])] [], .expr (.call 61 [(.var 1), (.con 8)] [] []), .if_ (.cmp .eq (.var 1) (.lit (.str 74))) [.ret (.call 57 [(.var 0)] [] [])] [], .asg (.nm 2) (.call 49 [(.var 0)] [] []), .if_ (.call 58 [(.var 2), (.var 0), (.var 1)] [] []) [.ret (.new 116 [(.var 1), (.lit (.bl true))] [101] [(.var 2)])] [], .asg (.tp [(.nm 3), (.nm 4), (.nm 5)]) (.call 60 [(.var 0), (.var 1)] [] []), .ret (.new 116 [(.var 1), (.lit (.bl false))] [102, 85, 103, 104, 105] [(.new 117 [(.ix (.var 3) (.lit (.int 0))), (.ix (.var 3) (.lit (.int 1)))] [] []), (.ix (.var 3) (.lit (.int 2))), (.var 4), (.call 55 [(.var 3), (.var 4), (.lit (.int 1))] [] []), (.call 54 [(.var 5), (.var 1)] [] [])])] }
def j62 : DI := { gl := some 199, ps := [(⟨#[114, 117, 108, 101, 115]⟩ : PySem.Str), (⟨#[102, 97, 117, 108, 116]⟩ : PySem.Str)] }
def n62 : List Nat := [98, 84, 101, 114, 103, 95]
/-- _law_cell -/
def d63 : Df := { nn := 2, prm := [(119, none), (120, none)], pats := [(2, [])], body := [.if_ (.cmp .lt (.var 1) (.bi .len [(.var 0)])) [.ret (.bi .int [(.ix (.var 0) (.var 1))])] [], .ret (.lit (.int 0))] }
def j63 : DI := { gl := some 200, ps := [(⟨#[95, 108, 97, 119, 95, 115, 99, 114, 105, 112, 116]⟩ : PySem.Str), (⟨#[95, 108, 97, 119, 95, 107]⟩ : PySem.Str)] }
def n63 : List Nat := [119, 120]
/-- _law_mod -/
def d64 : Df := { nn := 3, prm := [(119, none), (120, none), (121, none)], pats := [(3, [])], body := [.if_ (.cmp .lt (.var 1) (.bi .len [(.var 0)])) [.ret (.bin .mod (.bi .int [(.ix (.var 0) (.var 1))]) (.var 2))] [], .ret (.lit (.int 0))] }
def j64 : DI := { gl := some 201, ps := [(⟨#[95, 108, 97, 119, 95, 115, 99, 114, 105, 112, 116]⟩ : PySem.Str), (⟨#[95, 108, 97, 119, 95, 107]⟩ : PySem.Str), (⟨#[95, 108, 97, 119, 95, 109, 97, 110, 121]⟩ : PySem.Str)] }
def n64 : List Nat := [119, 120, 121]
/-- _law_row -/
def d65 : Df := { nn := 6, prm := [(122, none), (121, none)], pats := [(2, [])], body := [.asg (.nm 2) (.lst []), .asg (.nm 3) (.bi .abs [(.var 0)]), .for_ (.nm 4) (some .range) [(.var 1)] [.if_ (.and_ (.cmp .ge (.bi .abs [(.var 0)]) (.bin .pow (.lit (.int 10)) (.lit (.int 18)))) (.cmp .gt (.var 3) (.lit (.int 0)))) [.expr (.meth (.var 2) 8 [(.bin .mod (.bi .int [(.var 3)]) (.lit (.int 2520)))]), .asg (.nm 3) (.bin .fdiv (.var 3) (.lit (.int 2520)))] [.asg (.nm 5) (.bin .mod (.bi .int [(.bin .add (.bin .mul (.bi .abs [(.var 0)]) (.lit (.int 48271))) (.bin .mul (.bin .add (.var 4) (.lit (.int 1))) (.lit (.int 69621))))]) (.lit (.int 2147483629))), .expr (.meth (.var 2) 8 [(.bin .mod (.bin .mod (.bi .int [(.bin .add (.bin .mul (.var 5) (.var 5)) (.bin .mul (.bin .add (.var 4) (.lit (.int 3))) (.lit (.int 40692))))]) (.lit (.int 1000003))) (.lit (.int 2520)))])]], .ret (.var 2)] }
def j65 : DI := { gl := some 202, ps := [(⟨#[95, 108, 97, 119, 95, 99, 101, 108, 108, 95, 104, 101, 114, 101]⟩ : PySem.Str), (⟨#[95, 108, 97, 119, 95, 109, 97, 110, 121]⟩ : PySem.Str)] }
def n65 : List Nat := [122, 121, 203, 204, 120, 205]
/-- _law_choices -/
def d66 : Df := { nn := 2, prm := [(123, none)], pats := [(1, [])], body := [.if_ (.cmp .eq (.var 0) (.lit (.int 0))) [.asg (.nm 1) (.lst [(.tup [(.lit (.str 28)), (.lst [(.lit (.str 29)), (.lit (.str 30))])]), (.tup [(.lit (.str 31)), (.lst [(.lit (.str 29)), (.lit (.str 30))])]), (.tup [(.lit (.str 32)), (.lst [(.lit (.str 33)), (.lit (.str 34))])])]), .asg (.nm 1) (.bin .add (.var 1) (.lst [(.tup [(.lit (.str 35)), (.lst [(.lit (.str 36)), (.lit (.str 37))])]), (.tup [(.lit (.str 38)), (.lst [(.lit (.str 36)), (.lit (.str 39))])])])), .ret (.bin .add (.var 1) (.lst [(.tup [(.lit (.str 40)), (.lst [(.lit (.str 41)), (.lit (.str 42)), (.lit (.str 43)), (.lit (.str 44))])]), (.tup [(.lit (.str 45)), (.lst [(.lit (.str 46)), (.lit (.str 47))])])]))] [], .asg (.nm 1) (.lst [(.tup [(.lit (.str 48)), (.lst [(.lit (.str 36)), (.lit (.str 49)), (.lit (.str 50))])]), (.tup [(.lit (.str 51)), (.lst [(.lit (.str 52)), (.lit (.str 53))])]), (.tup [(.lit (.str 54)), (.lst [(.lit (.str 55)), (.lit (.str 56))])])]), .asg (.nm 1) (.bin .add (.var 1) (.lst [(.tup [(.lit (.str 57)), (.lst [(.lit (.str 55)), (.lit (.str 58)), (.lit (.str 56))])]), (.tup [(.lit (.str 59)), (.lst [(.lit (.str 60)), (.lit (.str 61))])])])), .ret (.bin .add (.var 1) (.lst [(.tup [(.lit (.str 62)), (.lst [(.lit (.str 63)), (.lit (.str 64))])])]))] }
def j66 : DI := { gl := some 206, ps := [(⟨#[95, 108, 97, 119, 95, 119, 104, 105, 99, 104]⟩ : PySem.Str)] }
def n66 : List Nat := [123, 207]
/-- _law_values -/
def d67 : Df := { nn := 5, prm := [(123, none), (122, none)], pats := [(2, [])], body := [.asg (.nm 2) (.call 66 [(.var 0)] [] []), .asg (.nm 3) (.call 65 [(.var 1), (.bi .len [(.var 2)])] [] []), .ret (.lc [4] (.nm 4) (some .range) [(.bi .len [(.var 2)])] (.lit (.bl true)) (.ix (.ix (.ix (.var 2) (.var 4)) (.lit (.int 1))) (.bin .mod (.bi .int [(.ix (.var 3) (.var 4))]) (.bi .len [(.ix (.ix (.var 2) (.var 4)) (.lit (.int 1)))]))))] }
def j67 : DI := { gl := some 208, ps := [(⟨#[95, 108, 97, 119, 95, 119, 104, 105, 99, 104]⟩ : PySem.Str), (⟨#[95, 108, 97, 119, 95, 99, 101, 108, 108, 95, 104, 101, 114, 101]⟩ : PySem.Str)] }
def n67 : List Nat := [123, 122, 209, 203, 120]
/-- _law_rules -/
def d68 : Df := { nn := 2, prm := [(123, none), (124, none)], pats := [(2, [])], body := [.if_ (.cmp .eq (.var 0) (.lit (.int 0))) [.ret (.new 92 [] [28, 31, 32, 35, 38, 40, 45] [(.ix (.var 1) (.lit (.int 0))), (.ix (.var 1) (.lit (.int 1))), (.ix (.var 1) (.lit (.int 2))), (.ix (.var 1) (.lit (.int 3))), (.ix (.var 1) (.lit (.int 4))), (.ix (.var 1) (.lit (.int 5))), (.ix (.var 1) (.lit (.int 6)))])] [], .ret (.new 93 [] [48, 51, 54, 57, 59, 62] [(.ix (.var 1) (.lit (.int 0))), (.ix (.var 1) (.lit (.int 1))), (.ix (.var 1) (.lit (.int 2))), (.ix (.var 1) (.lit (.int 3))), (.ix (.var 1) (.lit (.int 4))), (.ix (.var 1) (.lit (.int 5)))])] }
def j68 : DI := { gl := some 210, ps := [(⟨#[95, 108, 97, 119, 95, 119, 104, 105, 99, 104]⟩ : PySem.Str), (⟨#[95, 108, 97, 119, 95, 118]⟩ : PySem.Str)] }
def n68 : List Nat := [123, 124]
/-- _law_right -/
def d69 : Df := { nn := 1, prm := [(124, none)], pats := [(1, [])], body := [.if_ (.or_ (.cmp .ne (.ix (.var 0) (.lit (.int 2))) (.lit (.str 56))) (.cmp .ne (.ix (.var 0) (.lit (.int 4))) (.lit (.str 60)))) [.ret (.lit (.bl false))] [], .if_ (.cmp .eq (.ix (.var 0) (.lit (.int 0))) (.lit (.str 49))) [.ret (.cmp .eq (.ix (.var 0) (.lit (.int 1))) (.lit (.str 53)))] [], .ret (.and_ (.cmp .eq (.ix (.var 0) (.lit (.int 0))) (.lit (.str 50))) (.and_ (.cmp .ne (.ix (.var 0) (.lit (.int 3))) (.lit (.str 56))) (.cmp .eq (.ix (.var 0) (.lit (.int 5))) (.lit (.str 63)))))] }
def j69 : DI := { gl := some 211, ps := [(⟨#[95, 108, 97, 119, 95, 118]⟩ : PySem.Str)] }
def n69 : List Nat := [124]
/-- _law_settled -/
def d70 : Df := { nn := 5, prm := [(125, none), (126, none)], pats := [(2, [])], body := [.for_ (.nm 2) (some .range) [(.lit (.int 6))] [.for_ (.nm 3) none [(.lst [(.lit (.str 65)), (.lit (.str 28)), (.lit (.str 49)), (.lit (.str 72))])] [.asg (.nm 4) (.call 45 [(.var 0), (.var 1), (.var 3)] [] []), .if_ (.cmp .isn (.var 4) (.lit .non)) [.asg (.nm 1) (.var 4)] []]], .ret (.and_ (.cmp .eq (.ix (.var 1) (.lit (.int 0))) (.lit (.int 4))) (.cmp .eq (.ix (.var 1) (.lit (.int 4))) (.lit (.int 1))))] }
def j70 : DI := { gl := some 212, ps := [(⟨#[95, 108, 97, 119, 95, 111, 117, 116, 108, 101, 116]⟩ : PySem.Str), (⟨#[95, 108, 97, 119, 95, 115, 116, 97, 110, 100, 105, 110, 103]⟩ : PySem.Str)] }
def n70 : List Nat := [125, 126, 213, 214, 215]
/-- law -/
def d71 : Df := { nn := 11, prm := [(119, none)], pats := [(1, [])], body := [.asg (.nm 1) (.call 67 [(.lit (.int 1)), (.call 63 [(.var 0), (.lit (.int 0))] [] [])] [] []), .asg (.nm 2) (.call 65 [(.call 63 [(.var 0), (.lit (.int 1))] [] []), (.lit (.int 6))] [] []), .if_ (.cmp .eq (.bin .mod (.bi .int [(.ix (.var 2) (.lit (.int 0)))]) (.lit (.int 2))) (.lit (.int 1))) [.asg (.nm 1) (.lst [(.lit (.str 49)), (.lit (.str 53)), (.lit (.str 56)), (.ix (.var 1) (.lit (.int 3))), (.lit (.str 60)), (.ix (.var 1) (.lit (.int 5)))]), .if_ (.cmp .eq (.bin .mod (.bi .int [(.ix (.var 2) (.lit (.int 1)))]) (.lit (.int 2))) (.lit (.int 1))) [.asg (.nm 1) (.lst [(.lit (.str 50)), (.ix (.lst [(.lit (.str 52)), (.lit (.str 53))]) (.bin .mod (.bi .int [(.ix (.var 2) (.lit (.int 2)))]) (.lit (.int 2)))), (.lit (.str 56)), (.lit (.str 58)), (.lit (.str 60)), (.lit (.str 63))]), .asgS (.var 1) (.lit (.int 3)) (.ix (.lst [(.lit (.str 55)), (.lit (.str 58))]) (.bin .mod (.bi .int [(.ix (.var 2) (.lit (.int 3)))]) (.lit (.int 2))))] []] [], .asg (.nm 3) (.call 68 [(.lit (.int 1)), (.var 1)] [] []), .asg (.nm 4) (.and_ (.fld (.call 62 [(.var 3), (.lit (.str 52))] [] []) 100) (.fld (.call 62 [(.var 3), (.lit (.str 61))] [] []) 100)), .if_ (.cmp .ne (.var 4) (.call 69 [(.var 1)] [] [])) [.ret (.lit (.bl false))] [], .asg (.nm 5) (.tup [(.lit (.int 0)), (.lit (.int 0)), (.lit (.int 0)), (.lit (.int 0)), (.lit (.int 0))]), .asg (.nm 6) (.bin .add (.call 65 [(.call 63 [(.var 0), (.lit (.int 2))] [] []), (.call 64 [(.var 0), (.lit (.int 3)), (.lit (.int 61))] [] [])] [] []) (.lc [10] (.nm 10) none [(.sl (.var 0) [(.lit (.int 5))] [(.lit (.int 63))])] (.lit (.bl true)) (.bin .mod (.bi .int [(.var 10)]) (.lit (.int 2520))))), .for_ (.nm 7) none [(.var 6)] [.asg (.nm 8) (.lst []), .for_ (.nm 9) none [(.lst [(.lit (.str 65)), (.lit (.str 28)), (.lit (.str 49)), (.lit (.str 72)), (.lit (.str 73)), (.lit (.str 62))])] [.if_ (.cmp .isn (.call 45 [(.var 3), (.var 5), (.var 9)] [] []) (.lit .non)) [.expr (.meth (.var 8) 8 [(.var 9)])] []], .if_ (.cmp .gt (.bi .len [(.var 8)]) (.lit (.int 0))) [.asg (.nm 5) (.call 45 [(.var 3), (.var 5), (.ix (.var 8) (.bin .mod (.bi .int [(.var 7)]) (.bi .len [(.var 8)])))] [] [])] [], .if_ (.and_ (.var 4) (.or_ (.cmp .gt (.ix (.var 5) (.lit (.int 4))) (.lit (.int 1))) (.and_ (.cmp .eq (.ix (.var 5) (.lit (.int 0))) (.lit (.int 0))) (.cmp .gt (.ix (.var 5) (.lit (.int 4))) (.lit (.int 0)))))) [.ret (.lit (.bl false))] [], .if_ (.and_ (.var 4) (.and_ (.cmp .eq (.ix (.var 5) (.lit (.int 0))) (.lit (.int 4))) (.cmp .ne (.ix (.var 5) (.lit (.int 4))) (.lit (.int 1))))) [.ret (.lit (.bl false))] [], .if_ (.and_ (.var 4) (.not_ (.call 70 [(.var 3), (.var 5)] [] []))) [.ret (.lit (.bl false))] []], .ret (.cmp .eq (.bi .len [(.var 5)]) (.lit (.int 5)))] }
def j71 : DI := { gl := some 216, ps := [(⟨#[95, 108, 97, 119, 95, 115, 99, 114, 105, 112, 116]⟩ : PySem.Str)] }
def n71 : List Nat := [119, 124, 203, 125, 217, 126, 218, 219, 220, 214, 122]
def syms : List PySem.Str := [(⟨#[95, 95, 103, 101, 116, 105, 116, 101, 109, 95, 95]⟩ : PySem.Str),
  (⟨#[95, 95, 115, 101, 116, 105, 116, 101, 109, 95, 95]⟩ : PySem.Str),
  (⟨#[95, 95, 105, 116, 101, 114, 95, 95]⟩ : PySem.Str),
  (⟨#[95, 95, 99, 111, 110, 116, 97, 105, 110, 115, 95, 95]⟩ : PySem.Str),
  (⟨#[95, 95, 101, 113, 95, 95]⟩ : PySem.Str),
  (⟨#[95, 95, 108, 101, 95, 95]⟩ : PySem.Str),
  (⟨#[95, 95, 99, 97, 108, 108, 95, 95]⟩ : PySem.Str),
  (⟨#[95, 95, 105, 110, 105, 116, 95, 95]⟩ : PySem.Str),
  (⟨#[97, 112, 112, 101, 110, 100]⟩ : PySem.Str),
  (⟨#[112, 111, 112]⟩ : PySem.Str),
  (⟨#[105, 110, 115, 101, 114, 116]⟩ : PySem.Str),
  (⟨#[101, 120, 116, 101, 110, 100]⟩ : PySem.Str),
  (⟨#[99, 108, 101, 97, 114]⟩ : PySem.Str),
  (⟨#[114, 101, 109, 111, 118, 101]⟩ : PySem.Str),
  (⟨#[105, 110, 100, 101, 120]⟩ : PySem.Str),
  (⟨#[99, 111, 117, 110, 116]⟩ : PySem.Str),
  (⟨#[103, 101, 116]⟩ : PySem.Str),
  (⟨#[105, 116, 101, 109, 115]⟩ : PySem.Str),
  (⟨#[95, 95, 97, 100, 100, 95, 95]⟩ : PySem.Str),
  (⟨#[95, 95, 105, 97, 100, 100, 95, 95]⟩ : PySem.Str),
  (⟨#[95, 95, 101, 110, 116, 101, 114, 95, 95]⟩ : PySem.Str),
  (⟨#[95, 95, 101, 120, 105, 116, 95, 95]⟩ : PySem.Str),
  (⟨#[107, 101, 121, 115]⟩ : PySem.Str),
  (⟨#[118, 97, 108, 117, 101, 115]⟩ : PySem.Str),
  (⟨#[106, 111, 105, 110]⟩ : PySem.Str),
  (⟨#[115, 112, 108, 105, 116]⟩ : PySem.Str),
  (⟨#[101, 110, 99, 111, 100, 101]⟩ : PySem.Str),
  (⟨#[100, 101, 99, 111, 100, 101]⟩ : PySem.Str),
  (⟨#[115, 97, 118, 101]⟩ : PySem.Str),
  (⟨#[102, 105, 114, 115, 116]⟩ : PySem.Str),
  (⟨#[114, 101, 97, 100, 121]⟩ : PySem.Str),
  (⟨#[115, 101, 110, 100]⟩ : PySem.Str),
  (⟨#[112, 108, 97, 99, 101]⟩ : PySem.Str),
  (⟨#[98, 101, 104, 105, 110, 100]⟩ : PySem.Str),
  (⟨#[112, 97, 115, 116]⟩ : PySem.Str),
  (⟨#[101, 97, 114, 108, 121]⟩ : PySem.Str),
  (⟨#[114, 101, 97, 100]⟩ : PySem.Str),
  (⟨#[104, 111, 108, 100]⟩ : PySem.Str),
  (⟨#[108, 97, 116, 101]⟩ : PySem.Str),
  (⟨#[108, 111, 103]⟩ : PySem.Str),
  (⟨#[112, 97, 115, 115, 101, 100]⟩ : PySem.Str),
  (⟨#[110, 111, 110, 101]⟩ : PySem.Str),
  (⟨#[115, 101, 110, 100, 101, 114]⟩ : PySem.Str),
  (⟨#[114, 101, 99, 101, 105, 118, 101, 114]⟩ : PySem.Str),
  (⟨#[98, 111, 116, 104]⟩ : PySem.Str),
  (⟨#[114, 105, 110, 103, 115]⟩ : PySem.Str),
  (⟨#[97, 119, 97, 105, 116]⟩ : PySem.Str),
  (⟨#[102, 114, 101, 101]⟩ : PySem.Str),
  (⟨#[115, 104, 111, 119]⟩ : PySem.Str),
  (⟨#[119, 104, 111, 108, 101]⟩ : PySem.Str),
  (⟨#[112, 114, 101, 112, 97, 114, 101]⟩ : PySem.Str),
  (⟨#[109, 101, 109, 111, 114, 121]⟩ : PySem.Str),
  (⟨#[108, 111, 115, 116]⟩ : PySem.Str),
  (⟨#[115, 97, 118, 101, 100]⟩ : PySem.Str),
  (⟨#[97, 103, 97, 105, 110]⟩ : PySem.Str),
  (⟨#[108, 101, 97, 118, 101]⟩ : PySem.Str),
  (⟨#[99, 111, 109, 109, 105, 116]⟩ : PySem.Str),
  (⟨#[115, 116, 114, 97, 121, 115]⟩ : PySem.Str),
  (⟨#[100, 114, 111, 112]⟩ : PySem.Str),
  (⟨#[114, 101, 112, 101, 97, 116]⟩ : PySem.Str),
  (⟨#[115, 97, 109, 101]⟩ : PySem.Str),
  (⟨#[116, 119, 105, 99, 101]⟩ : PySem.Str),
  (⟨#[108, 97, 112, 115, 101]⟩ : PySem.Str),
  (⟨#[110, 101, 118, 101, 114]⟩ : PySem.Str),
  (⟨#[109, 97, 121]⟩ : PySem.Str),
  (⟨#[109, 97, 107, 101]⟩ : PySem.Str),
  (⟨#[108, 97, 115, 116]⟩ : PySem.Str),
  (⟨#[116, 97, 107, 101]⟩ : PySem.Str),
  (⟨#[98, 114, 105, 110, 103]⟩ : PySem.Str),
  (⟨#[99, 108, 111, 115, 101]⟩ : PySem.Str),
  (⟨#[111, 116, 104, 101, 114]⟩ : PySem.Str),
  (⟨#[102, 105, 108, 108]⟩ : PySem.Str),
  (⟨#[116, 101, 108, 108]⟩ : PySem.Str),
  (⟨#[102, 97, 105, 108]⟩ : PySem.Str),
  (⟨#[115, 116, 117, 99, 107]⟩ : PySem.Str),
  (⟨#[104, 101, 108, 100]⟩ : PySem.Str),
  (⟨#[108, 101, 102, 116]⟩ : PySem.Str),
  (⟨#[108, 105, 110, 101]⟩ : PySem.Str),
  (⟨#[105, 116, 101, 109]⟩ : PySem.Str),
  (⟨#[97, 115, 107]⟩ : PySem.Str),
  (⟨#[114, 105, 110, 103]⟩ : PySem.Str),
  (⟨#[107, 101, 121]⟩ : PySem.Str),
  (⟨#[115, 101, 108, 102]⟩ : PySem.Str),
  (⟨#[118, 97, 108, 117, 101]⟩ : PySem.Str),
  (⟨#[102, 97, 117, 108, 116]⟩ : PySem.Str),
  (⟨#[99, 104, 97, 110, 110, 101, 108]⟩ : PySem.Str),
  (⟨#[111, 112, 101, 114, 97, 116, 111, 114]⟩ : PySem.Str),
  (⟨#[115, 105, 122, 101]⟩ : PySem.Str),
  (⟨#[99, 104, 97, 110, 110, 101, 108, 115]⟩ : PySem.Str),
  (⟨#[115, 116, 97, 114, 116, 115]⟩ : PySem.Str),
  (⟨#[99, 104, 111, 105, 99, 101, 115]⟩ : PySem.Str),
  (⟨#[101, 110, 116, 114, 105, 101, 115]⟩ : PySem.Str),
  (⟨#[66, 111, 111, 107]⟩ : PySem.Str),
  (⟨#[79, 117, 116, 108, 101, 116]⟩ : PySem.Str),
  (⟨#[98, 111, 111, 107]⟩ : PySem.Str),
  (⟨#[115, 116, 97, 110, 100, 105, 110, 103]⟩ : PySem.Str),
  (⟨#[101, 118, 101, 110, 116]⟩ : PySem.Str),
  (⟨#[111, 117, 116, 108, 101, 116]⟩ : PySem.Str),
  (⟨#[114, 117, 108, 101, 115]⟩ : PySem.Str),
  (⟨#[107, 105, 110, 100]⟩ : PySem.Str),
  (⟨#[107, 101, 112, 116]⟩ : PySem.Str),
  (⟨#[116, 97, 98, 108, 101]⟩ : PySem.Str),
  (⟨#[103, 114, 97, 112, 104]⟩ : PySem.Str),
  (⟨#[101, 118, 101, 110, 116, 115]⟩ : PySem.Str),
  (⟨#[115, 116, 101, 112, 115]⟩ : PySem.Str),
  (⟨#[99, 97, 117, 115, 101]⟩ : PySem.Str),
  (⟨#[]⟩ : PySem.Str),
  (⟨#[109, 111, 118, 101, 115]⟩ : PySem.Str),
  (⟨#[110, 111, 116, 32, 108, 111, 103, 103, 101, 100]⟩ : PySem.Str),
  (⟨#[112, 97, 115, 115, 101, 100, 32, 111, 118, 101, 114]⟩ : PySem.Str),
  (⟨#[115, 101, 110, 116, 32, 116, 111, 111, 32, 115, 111, 111, 110]⟩ : PySem.Str),
  (⟨#[115, 101, 110, 116, 32, 116, 111, 111, 32, 108, 97, 116, 101]⟩ : PySem.Str),
  (⟨#[114, 101, 97, 100, 32, 97, 104, 101, 97, 100]⟩ : PySem.Str),
  (⟨#[115, 97, 118, 101, 100, 32, 116, 119, 105, 99, 101]⟩ : PySem.Str),
  (⟨#[115, 104, 97, 112, 101]⟩ : PySem.Str),
  (⟨#[109, 97, 110, 121]⟩ : PySem.Str),
  (⟨#[86, 101, 114, 100, 105, 99, 116]⟩ : PySem.Str),
  (⟨#[71, 114, 97, 112, 104]⟩ : PySem.Str),
  (⟨#[102, 97, 117, 108, 116, 115]⟩ : PySem.Str),
  (⟨#[95, 108, 97, 119, 95, 115, 99, 114, 105, 112, 116]⟩ : PySem.Str),
  (⟨#[95, 108, 97, 119, 95, 107]⟩ : PySem.Str),
  (⟨#[95, 108, 97, 119, 95, 109, 97, 110, 121]⟩ : PySem.Str),
  (⟨#[95, 108, 97, 119, 95, 99, 101, 108, 108, 95, 104, 101, 114, 101]⟩ : PySem.Str),
  (⟨#[95, 108, 97, 119, 95, 119, 104, 105, 99, 104]⟩ : PySem.Str),
  (⟨#[95, 108, 97, 119, 95, 118]⟩ : PySem.Str),
  (⟨#[95, 108, 97, 119, 95, 111, 117, 116, 108, 101, 116]⟩ : PySem.Str),
  (⟨#[95, 108, 97, 119, 95, 115, 116, 97, 110, 100, 105, 110, 103]⟩ : PySem.Str),
  (⟨#[77, 97, 114, 107, 69, 114, 114, 111, 114]⟩ : PySem.Str),
  (⟨#[78, 111, 69, 110, 116, 114, 121]⟩ : PySem.Str),
  (⟨#[78, 111, 86, 97, 108, 117, 101]⟩ : PySem.Str),
  (⟨#[78, 111, 70, 97, 117, 108, 116]⟩ : PySem.Str),
  (⟨#[66, 97, 100, 83, 105, 122, 101]⟩ : PySem.Str),
  (⟨#[78, 111, 67, 104, 97, 110, 110, 101, 108]⟩ : PySem.Str),
  (⟨#[78, 111, 79, 112, 101, 114, 97, 116, 111, 114]⟩ : PySem.Str),
  (⟨#[85, 110, 102, 101, 100]⟩ : PySem.Str),
  (⟨#[105, 110, 112, 117, 116, 115]⟩ : PySem.Str),
  (⟨#[111, 117, 116, 112, 117, 116, 115]⟩ : PySem.Str),
  (⟨#[115, 111, 117, 114, 99, 101, 115]⟩ : PySem.Str),
  (⟨#[115, 105, 110, 107, 115]⟩ : PySem.Str),
  (⟨#[82, 117, 108, 101, 115]⟩ : PySem.Str),
  (⟨#[95, 95, 115, 116, 114, 95, 95]⟩ : PySem.Str),
  (⟨#[97, 119, 97, 105, 116, 101, 100]⟩ : PySem.Str),
  (⟨#[114, 101, 97, 99, 104, 101, 100, 95, 102, 114, 111, 109]⟩ : PySem.Str),
  (⟨#[114, 101, 97, 99, 104, 101, 100]⟩ : PySem.Str),
  (⟨#[116, 117, 114, 110]⟩ : PySem.Str),
  (⟨#[119, 105, 116, 104, 111, 117, 116, 95, 105, 110, 112, 117, 116, 115]⟩ : PySem.Str),
  (⟨#[102, 101, 100]⟩ : PySem.Str),
  (⟨#[112, 97, 105, 114]⟩ : PySem.Str),
  (⟨#[99, 104, 101, 99, 107, 95, 99, 104, 97, 110, 110, 101, 108, 115]⟩ : PySem.Str),
  (⟨#[112, 97, 105, 114, 115]⟩ : PySem.Str),
  (⟨#[97, 116]⟩ : PySem.Str),
  (⟨#[97, 108, 108, 111, 119, 101, 100]⟩ : PySem.Str),
  (⟨#[95, 95, 99, 108, 97, 115, 115, 95, 95]⟩ : PySem.Str),
  (⟨#[109, 111, 109, 101, 110, 116]⟩ : PySem.Str),
  (⟨#[97, 102, 116, 101, 114, 95, 109, 97, 107, 101]⟩ : PySem.Str),
  (⟨#[98, 97, 114, 114, 105, 101, 114]⟩ : PySem.Str),
  (⟨#[116, 97, 107, 101, 110]⟩ : PySem.Str),
  (⟨#[100, 117, 101]⟩ : PySem.Str),
  (⟨#[99, 111, 117, 110, 116, 101, 100]⟩ : PySem.Str),
  (⟨#[97, 102, 116, 101, 114, 95, 115, 101, 110, 100, 101, 114]⟩ : PySem.Str),
  (⟨#[108, 105, 109, 105, 116]⟩ : PySem.Str),
  (⟨#[97, 102, 116, 101, 114, 95, 116, 97, 107, 101]⟩ : PySem.Str),
  (⟨#[97, 102, 116, 101, 114, 95, 98, 97, 114, 114, 105, 101, 114]⟩ : PySem.Str),
  (⟨#[97, 102, 116, 101, 114, 95, 111, 116, 104, 101, 114]⟩ : PySem.Str),
  (⟨#[112, 111, 115, 115, 105, 98, 108, 101]⟩ : PySem.Str),
  (⟨#[97, 102, 116, 101, 114, 95, 102, 97, 105, 108, 117, 114, 101]⟩ : PySem.Str),
  (⟨#[115, 116, 97, 103, 101]⟩ : PySem.Str),
  (⟨#[115, 116, 111, 114, 101, 100]⟩ : PySem.Str),
  (⟨#[112, 114, 101, 112, 97, 114, 101, 100]⟩ : PySem.Str),
  (⟨#[115, 116, 114, 97, 121]⟩ : PySem.Str),
  (⟨#[115, 104, 111, 119, 110]⟩ : PySem.Str),
  (⟨#[116, 104, 101, 114, 101]⟩ : PySem.Str),
  (⟨#[97, 102, 116, 101, 114, 95, 114, 101, 115, 117, 108, 116]⟩ : PySem.Str),
  (⟨#[97, 102, 116, 101, 114]⟩ : PySem.Str),
  (⟨#[101, 118, 101, 110, 116, 115, 95, 111, 102]⟩ : PySem.Str),
  (⟨#[115, 116, 97, 114, 116, 95, 111, 102]⟩ : PySem.Str),
  (⟨#[115, 116, 97, 114, 116, 115, 95, 111, 102]⟩ : PySem.Str),
  (⟨#[115, 116, 97, 110, 100, 105, 110, 103, 115]⟩ : PySem.Str),
  (⟨#[107, 110, 111, 119, 110]⟩ : PySem.Str),
  (⟨#[102, 111, 117, 110, 100]⟩ : PySem.Str),
  (⟨#[115, 104, 111, 119, 115, 95, 114, 101, 115, 117, 108, 116]⟩ : PySem.Str),
  (⟨#[115, 104, 111, 119, 115]⟩ : PySem.Str),
  (⟨#[119, 97, 105, 116, 115]⟩ : PySem.Str),
  (⟨#[115, 104, 111, 114, 116, 101, 115, 116]⟩ : PySem.Str),
  (⟨#[113, 117, 101, 117, 101]⟩ : PySem.Str),
  (⟨#[112, 97, 116, 104, 115]⟩ : PySem.Str),
  (⟨#[115, 116, 97, 114, 116]⟩ : PySem.Str),
  (⟨#[99, 97, 117, 115, 101, 95, 111, 102]⟩ : PySem.Str),
  (⟨#[115, 116, 101, 112, 115, 95, 111, 102]⟩ : PySem.Str),
  (⟨#[110, 97, 109, 101]⟩ : PySem.Str),
  (⟨#[103, 114, 111, 117, 112]⟩ : PySem.Str),
  (⟨#[116, 105, 109, 101, 115]⟩ : PySem.Str),
  (⟨#[102, 105, 116, 116, 105, 110, 103, 95, 115, 104, 97, 112, 101, 115]⟩ : PySem.Str),
  (⟨#[106, 117, 100, 103, 101, 95, 115, 116, 117, 99, 107]⟩ : PySem.Str),
  (⟨#[107, 101, 112, 116, 95, 98, 121]⟩ : PySem.Str),
  (⟨#[106, 117, 100, 103, 101, 95, 111, 117, 116, 108, 101, 116]⟩ : PySem.Str),
  (⟨#[115, 104, 97, 112, 101, 95, 102, 111, 117, 110, 100]⟩ : PySem.Str),
  (⟨#[109, 111, 118, 101]⟩ : PySem.Str),
  (⟨#[99, 104, 101, 99, 107, 95, 102, 97, 117, 108, 116]⟩ : PySem.Str),
  (⟨#[106, 117, 100, 103, 101]⟩ : PySem.Str),
  (⟨#[95, 108, 97, 119, 95, 99, 101, 108, 108]⟩ : PySem.Str),
  (⟨#[95, 108, 97, 119, 95, 109, 111, 100]⟩ : PySem.Str),
  (⟨#[95, 108, 97, 119, 95, 114, 111, 119]⟩ : PySem.Str),
  (⟨#[95, 108, 97, 119, 95, 114, 111, 119, 95, 104, 101, 114, 101]⟩ : PySem.Str),
  (⟨#[95, 108, 97, 119, 95, 114, 101, 115, 116]⟩ : PySem.Str),
  (⟨#[95, 108, 97, 119, 95, 109, 105, 120, 101, 100]⟩ : PySem.Str),
  (⟨#[95, 108, 97, 119, 95, 99, 104, 111, 105, 99, 101, 115]⟩ : PySem.Str),
  (⟨#[95, 108, 97, 119, 95, 112, 97, 105, 114, 115]⟩ : PySem.Str),
  (⟨#[95, 108, 97, 119, 95, 118, 97, 108, 117, 101, 115]⟩ : PySem.Str),
  (⟨#[95, 108, 97, 119, 95, 99, 104, 111, 105, 99, 101, 115, 95, 104, 101, 114, 101]⟩ : PySem.Str),
  (⟨#[95, 108, 97, 119, 95, 114, 117, 108, 101, 115]⟩ : PySem.Str),
  (⟨#[95, 108, 97, 119, 95, 114, 105, 103, 104, 116]⟩ : PySem.Str),
  (⟨#[95, 108, 97, 119, 95, 115, 101, 116, 116, 108, 101, 100]⟩ : PySem.Str),
  (⟨#[95, 108, 97, 119, 95, 116, 117, 114, 110]⟩ : PySem.Str),
  (⟨#[95, 108, 97, 119, 95, 101, 118, 101, 110, 116]⟩ : PySem.Str),
  (⟨#[95, 108, 97, 119, 95, 109, 111, 118, 101, 100]⟩ : PySem.Str),
  (⟨#[108, 97, 119]⟩ : PySem.Str),
  (⟨#[95, 108, 97, 119, 95, 114, 105, 103, 104, 116, 95, 104, 101, 114, 101]⟩ : PySem.Str),
  (⟨#[95, 108, 97, 119, 95, 110, 117, 109, 98, 101, 114, 115]⟩ : PySem.Str),
  (⟨#[95, 108, 97, 119, 95, 110, 117, 109, 98, 101, 114]⟩ : PySem.Str),
  (⟨#[95, 108, 97, 119, 95, 112, 111, 115, 115, 105, 98, 108, 101]⟩ : PySem.Str),
  (⟨#[77, 79, 83, 84, 95, 79, 80, 69, 82, 65, 84, 79, 82, 83]⟩ : PySem.Str),
  (⟨#[77, 79, 83, 84, 95, 67, 72, 65, 78, 78, 69, 76, 83]⟩ : PySem.Str),
  (⟨#[66, 79, 79, 75, 95, 67, 72, 79, 73, 67, 69, 83]⟩ : PySem.Str),
  (⟨#[79, 85, 84, 76, 69, 84, 95, 67, 72, 79, 73, 67, 69, 83]⟩ : PySem.Str),
  (⟨#[69, 86, 69, 78, 84, 83]⟩ : PySem.Str),
  (⟨#[82, 69, 83, 85, 76, 84, 95, 69, 86, 69, 78, 84, 83]⟩ : PySem.Str),
  (⟨#[83, 69, 78, 68, 69, 82, 95, 66, 69, 70, 79, 82, 69]⟩ : PySem.Str),
  (⟨#[83, 69, 78, 68, 69, 82, 95, 65, 70, 84, 69, 82]⟩ : PySem.Str),
  (⟨#[66, 79, 79, 75, 95, 70, 65, 85, 76, 84, 83]⟩ : PySem.Str),
  (⟨#[79, 85, 84, 76, 69, 84, 95, 70, 65, 85, 76, 84, 83]⟩ : PySem.Str),
  (⟨#[83, 72, 65, 80, 69, 83]⟩ : PySem.Str)]
def dx : Df := { nn := 0, prm := [], pats := [], body := [.no] }
def jx : DI := { gl := none, ps := [] }
def cons : List D := [(.int 5), (.int 8), (.ctp [(.ctp [(.str 28), (.ctp [(.str 29), (.str 30)])]), (.ctp [(.str 31), (.ctp [(.str 29), (.str 30)])]), (.ctp [(.str 32), (.ctp [(.str 33), (.str 34)])]), (.ctp [(.str 35), (.ctp [(.str 36), (.str 37)])]), (.ctp [(.str 38), (.ctp [(.str 36), (.str 39)])]), (.ctp [(.str 40), (.ctp [(.str 41), (.str 42), (.str 43), (.str 44)])]), (.ctp [(.str 45), (.ctp [(.str 46), (.str 47)])])]), (.ctp [(.ctp [(.str 48), (.ctp [(.str 36), (.str 49), (.str 50)])]), (.ctp [(.str 51), (.ctp [(.str 52), (.str 53)])]), (.ctp [(.str 54), (.ctp [(.str 55), (.str 56)])]), (.ctp [(.str 57), (.ctp [(.str 55), (.str 58), (.str 56)])]), (.ctp [(.str 59), (.ctp [(.str 60), (.str 61)])]), (.ctp [(.str 62), (.ctp [(.str 63), (.str 64)])])]), (.ctp [(.str 65), (.str 29), (.str 66), (.str 44), (.str 67), (.str 68), (.str 69), (.str 70), (.str 71)]), (.ctp [(.str 65), (.str 28), (.str 49), (.str 72), (.str 73), (.str 62)]), (.kd [((.str 29), (.int 0)), ((.str 66), (.int 1)), ((.str 44), (.int 0))]), (.kd [((.str 29), (.int 1)), ((.str 66), (.int 2)), ((.str 44), (.int 2))]), (.ctp [(.str 52), (.str 61), (.str 74), (.str 75), (.str 53)]), (.ctp [(.str 52), (.str 61), (.str 76)]), (.ctp [(.ctp [(.int 2), (.ctp [(.ctp [(.int 0), (.int 1)])]), (.int 0), (.str 77), (.ctp [(.ctp [(.str 65), (.ctp [(.int 0), (.int 1), (.int 2)]), (.ctp [(.ctp [(.str 78), (.int 0)])])]), (.ctp [(.str 44), (.ctp [(.int 0), (.int 1), (.int 2)]), (.ctp [(.ctp [(.str 79), (.int 0)])])]), (.ctp [(.str 67), (.ctp [(.int 0), (.int 1), (.int 2)]), (.ctp [(.ctp [(.str 67), (.int 0)])])]), (.ctp [(.str 69), (.ctp [(.int 0)]), (.ctp [(.ctp [(.str 67), (.int 0)])])])])]), (.ctp [(.int 3), (.ctp [(.ctp [(.int 0), (.int 1)]), (.ctp [(.int 2), (.int 1)])]), (.int 0), (.str 77), (.ctp [(.ctp [(.str 65), (.ctp [(.int 0), (.int 1), (.int 2)]), (.ctp [(.ctp [(.str 78), (.int 0)])])]), (.ctp [(.str 44), (.ctp [(.int 0), (.int 1), (.int 2)]), (.ctp [(.ctp [(.str 79), (.int 0)])])]), (.ctp [(.str 67), (.ctp [(.int 0), (.int 1), (.int 2)]), (.ctp [(.ctp [(.str 67), (.int 0)])])]), (.ctp [(.str 68), (.ctp [(.int 0)]), (.ctp [(.ctp [(.str 67), (.int 0)])])]), (.ctp [(.str 69), (.ctp [(.int 1)]), (.ctp [(.ctp [(.str 67), (.int 0)])])]), (.ctp [(.str 70), (.ctp [(.int 0)]), (.ctp [(.ctp [(.str 79), (.int 2)]), (.ctp [(.str 67), (.int 1)])])]), (.ctp [(.str 71), (.ctp [(.int 1)]), (.ctp [(.ctp [(.str 79), (.int 2)]), (.ctp [(.str 67), (.int 1)])])])])]), (.ctp [(.int 3), (.ctp [(.ctp [(.int 0), (.int 1)]), (.ctp [(.int 1), (.int 2)]), (.ctp [(.int 2), (.int 1)])]), (.int 2), (.str 80), (.ctp [(.ctp [(.str 65), (.ctp [(.int 0)]), (.ctp [(.ctp [(.str 78), (.int 0)]), (.ctp [(.str 67), (.int 0)]), (.ctp [(.str 67), (.int 1)])])]), (.ctp [(.str 44), (.ctp [(.int 2)]), (.ctp [(.ctp [(.str 67), (.int 1)])])]), (.ctp [(.str 67), (.ctp [(.int 2)]), (.ctp [(.ctp [(.str 67), (.int 2)])])]), (.ctp [(.str 68), (.ctp [(.int 2)]), (.ctp [(.ctp [(.str 67), (.int 2)])])]), (.ctp [(.str 71), (.ctp [(.int 0)]), (.ctp [(.ctp [(.str 79), (.int 0)]), (.ctp [(.str 67), (.int 0)])])])])]), (.ctp [(.int 4), (.ctp [(.ctp [(.int 0), (.int 1)]), (.ctp [(.int 2), (.int 0)]), (.ctp [(.int 3), (.int 0)])]), (.int 0), (.str 77), (.ctp [(.ctp [(.str 65), (.ctp [(.int 0), (.int 1), (.int 2)]), (.ctp [(.ctp [(.str 78), (.int 3)]), (.ctp [(.str 67), (.int 2)])])]), (.ctp [(.str 29), (.ctp [(.int 0), (.int 1), (.int 2)]), (.ctp [(.ctp [(.str 79), (.int 2)]), (.ctp [(.str 67), (.int 1)])])]), (.ctp [(.str 66), (.ctp [(.int 0), (.int 1), (.int 2)]), (.ctp [(.ctp [(.str 79), (.int 3)]), (.ctp [(.str 67), (.int 2)])])]), (.ctp [(.str 67), (.ctp [(.int 0), (.int 1), (.int 2)]), (.ctp [(.ctp [(.str 67), (.int 0)])])]), (.ctp [(.str 69), (.ctp [(.int 0)]), (.ctp [(.ctp [(.str 67), (.int 0)])])])])]), (.ctp [(.int 5), (.ctp [(.ctp [(.int 0), (.int 1)]), (.ctp [(.int 2), (.int 0)]), (.ctp [(.int 3), (.int 0)]), (.ctp [(.int 4), (.int 1)])]), (.int 0), (.str 77), (.ctp [(.ctp [(.str 65), (.ctp [(.int 0), (.int 1), (.int 2)]), (.ctp [(.ctp [(.str 78), (.int 3)]), (.ctp [(.str 67), (.int 2)])])]), (.ctp [(.str 29), (.ctp [(.int 0), (.int 1), (.int 2)]), (.ctp [(.ctp [(.str 79), (.int 2)]), (.ctp [(.str 67), (.int 1)])])]), (.ctp [(.str 66), (.ctp [(.int 0), (.int 1), (.int 2)]), (.ctp [(.ctp [(.str 79), (.int 3)]), (.ctp [(.str 67), (.int 2)])])]), (.ctp [(.str 67), (.ctp [(.int 0), (.int 1), (.int 2)]), (.ctp [(.ctp [(.str 67), (.int 0)])])]), (.ctp [(.str 68), (.ctp [(.int 0)]), (.ctp [(.ctp [(.str 67), (.int 0)])])]), (.ctp [(.str 69), (.ctp [(.int 1)]), (.ctp [(.ctp [(.str 67), (.int 0)])])]), (.ctp [(.str 70), (.ctp [(.int 0)]), (.ctp [(.ctp [(.str 79), (.int 4)]), (.ctp [(.str 67), (.int 3)])])]), (.ctp [(.str 71), (.ctp [(.int 1)]), (.ctp [(.ctp [(.str 79), (.int 4)]), (.ctp [(.str 67), (.int 3)])])])])])])]
def cls : List (Nat × Cl) := [
  (117, { name := 117, up := [117], init := (some 11), meths := [(7, 11)], props := [] }),
  (139, { name := 139, up := [139], init := (some 24), meths := [(7, 24), (0, 25)], props := [] }),
  (92, { name := 92, up := [92, 139], init := (some 31), meths := [(7, 31), (0, 25)], props := [] }),
  (93, { name := 93, up := [93, 139], init := (some 36), meths := [(7, 36), (0, 25)], props := [] }),
  (116, { name := 116, up := [116], init := (some 52), meths := [(7, 52)], props := [] })]
def G : Pg := { defs := [dx, dx, dx, dx, dx, dx, dx, dx, d8, d9, d10, d11, dx, dx, dx, dx, dx, dx, dx, dx, dx, dx, dx, dx, d24, d25, dx, dx, dx, dx, dx, d31, dx, dx, dx, dx, d36, d37, d38, d39, d40, d41, d42, d43, d44, d45, d46, d47, d48, d49, d50, d51, d52, d53, d54, d55, d56, d57, d58, d59, d60, d61, d62, d63, d64, d65, d66, d67, d68, d69, d70, d71], cls := cls, cons := cons, ids := [0, 1, 2, 3, 4, 5, 6, 7, 8, 9, 10, 11, 12, 13, 14, 15, 16, 17, 18, 19, 20, 21, 22, 23, 24, 25, 26, 27] }
def flds : List Nat := [105, 85, 88, 90, 15, 91, 103, 84, 102, 100, 81, 86, 87, 104, 101, 83]
def J : Inf := { ds := [jx, jx, jx, jx, jx, jx, jx, jx, j8, j9, j10, j11, jx, jx, jx, jx, jx, jx, jx, jx, jx, jx, jx, jx, j24, j25, jx, jx, jx, jx, jx, j31, jx, jx, jx, jx, j36, j37, j38, j39, j40, j41, j42, j43, j44, j45, j46, j47, j48, j49, j50, j51, j52, j53, j54, j55, j56, j57, j58, j59, j60, j61, j62, j63, j64, j65, j66, j67, j68, j69, j70, j71], flds := flds }
def cn : List Nat := [221, 222, 223, 224, 225, 226, 227, 228, 229, 230, 231]
def s8 : SD := ⟨8, (⟨#[114, 101, 97, 99, 104, 101, 100, 95, 102, 114, 111, 109]⟩ : PySem.Str), (⟨#[114, 101, 97, 99, 104, 101, 100, 95, 102, 114, 111, 109]⟩ : PySem.Str), argsOf (stAt P 13 none), bodyOf (stAt P 13 none), scopeOf (stAt P 13 none), [], [], []⟩
def s9 : SD := ⟨9, (⟨#[119, 105, 116, 104, 111, 117, 116, 95, 105, 110, 112, 117, 116, 115]⟩ : PySem.Str), (⟨#[119, 105, 116, 104, 111, 117, 116, 95, 105, 110, 112, 117, 116, 115]⟩ : PySem.Str), argsOf (stAt P 14 none), bodyOf (stAt P 14 none), scopeOf (stAt P 14 none), [], [], []⟩
def s10 : SD := ⟨10, (⟨#[99, 104, 101, 99, 107, 95, 99, 104, 97, 110, 110, 101, 108, 115]⟩ : PySem.Str), (⟨#[99, 104, 101, 99, 107, 95, 99, 104, 97, 110, 110, 101, 108, 115]⟩ : PySem.Str), argsOf (stAt P 15 none), bodyOf (stAt P 15 none), scopeOf (stAt P 15 none), [], [], []⟩
def s11 : SD := ⟨11, (⟨#[95, 95, 105, 110, 105, 116, 95, 95]⟩ : PySem.Str), (⟨#[71, 114, 97, 112, 104, 46, 95, 95, 105, 110, 105, 116, 95, 95]⟩ : PySem.Str), argsOf (stAt P 16 (some 0)), bodyOf (stAt P 16 (some 0)), scopeOf (stAt P 16 (some 0)), [], [], []⟩
def s24 : SD := ⟨24, (⟨#[95, 95, 105, 110, 105, 116, 95, 95]⟩ : PySem.Str), (⟨#[82, 117, 108, 101, 115, 46, 95, 95, 105, 110, 105, 116, 95, 95]⟩ : PySem.Str), argsOf (stAt P 24 (some 0)), bodyOf (stAt P 24 (some 0)), scopeOf (stAt P 24 (some 0)), [], [], []⟩
def s25 : SD := ⟨25, (⟨#[95, 95, 103, 101, 116, 105, 116, 101, 109, 95, 95]⟩ : PySem.Str), (⟨#[82, 117, 108, 101, 115, 46, 95, 95, 103, 101, 116, 105, 116, 101, 109, 95, 95]⟩ : PySem.Str), argsOf (stAt P 24 (some 1)), bodyOf (stAt P 24 (some 1)), scopeOf (stAt P 24 (some 1)), [], [], []⟩
def s31 : SD := ⟨31, (⟨#[95, 95, 105, 110, 105, 116, 95, 95]⟩ : PySem.Str), (⟨#[66, 111, 111, 107, 46, 95, 95, 105, 110, 105, 116, 95, 95]⟩ : PySem.Str), argsOf (stAt P 25 (some 0)), bodyOf (stAt P 25 (some 0)), scopeOf (stAt P 25 (some 0)), [("__class__" : Str)], [], [(28, (.str 30)), (31, (.str 30)), (32, (.str 33)), (35, (.str 37)), (38, (.str 39)), (40, (.str 41)), (45, (.str 47))]⟩
def s36 : SD := ⟨36, (⟨#[95, 95, 105, 110, 105, 116, 95, 95]⟩ : PySem.Str), (⟨#[79, 117, 116, 108, 101, 116, 46, 95, 95, 105, 110, 105, 116, 95, 95]⟩ : PySem.Str), argsOf (stAt P 26 (some 0)), bodyOf (stAt P 26 (some 0)), scopeOf (stAt P 26 (some 0)), [("__class__" : Str)], [], [(48, (.str 50)), (51, (.str 52)), (54, (.str 56)), (57, (.str 58)), (59, (.str 60)), (62, (.str 63))]⟩
def s37 : SD := ⟨37, (⟨#[109, 111, 109, 101, 110, 116]⟩ : PySem.Str), (⟨#[109, 111, 109, 101, 110, 116]⟩ : PySem.Str), argsOf (stAt P 32 none), bodyOf (stAt P 32 none), scopeOf (stAt P 32 none), [], [], []⟩
def s38 : SD := ⟨38, (⟨#[97, 102, 116, 101, 114, 95, 109, 97, 107, 101]⟩ : PySem.Str), (⟨#[97, 102, 116, 101, 114, 95, 109, 97, 107, 101]⟩ : PySem.Str), argsOf (stAt P 33 none), bodyOf (stAt P 33 none), scopeOf (stAt P 33 none), [], [], []⟩
def s39 : SD := ⟨39, (⟨#[97, 102, 116, 101, 114, 95, 115, 101, 110, 100, 101, 114]⟩ : PySem.Str), (⟨#[97, 102, 116, 101, 114, 95, 115, 101, 110, 100, 101, 114]⟩ : PySem.Str), argsOf (stAt P 34 none), bodyOf (stAt P 34 none), scopeOf (stAt P 34 none), [], [], []⟩
def s40 : SD := ⟨40, (⟨#[97, 102, 116, 101, 114, 95, 116, 97, 107, 101]⟩ : PySem.Str), (⟨#[97, 102, 116, 101, 114, 95, 116, 97, 107, 101]⟩ : PySem.Str), argsOf (stAt P 35 none), bodyOf (stAt P 35 none), scopeOf (stAt P 35 none), [], [], []⟩
def s41 : SD := ⟨41, (⟨#[97, 102, 116, 101, 114, 95, 98, 97, 114, 114, 105, 101, 114]⟩ : PySem.Str), (⟨#[97, 102, 116, 101, 114, 95, 98, 97, 114, 114, 105, 101, 114]⟩ : PySem.Str), argsOf (stAt P 36 none), bodyOf (stAt P 36 none), scopeOf (stAt P 36 none), [], [], []⟩
def s42 : SD := ⟨42, (⟨#[97, 102, 116, 101, 114, 95, 111, 116, 104, 101, 114]⟩ : PySem.Str), (⟨#[97, 102, 116, 101, 114, 95, 111, 116, 104, 101, 114]⟩ : PySem.Str), argsOf (stAt P 37 none), bodyOf (stAt P 37 none), scopeOf (stAt P 37 none), [], [], []⟩
def s43 : SD := ⟨43, (⟨#[97, 102, 116, 101, 114, 95, 102, 97, 105, 108, 117, 114, 101]⟩ : PySem.Str), (⟨#[97, 102, 116, 101, 114, 95, 102, 97, 105, 108, 117, 114, 101]⟩ : PySem.Str), argsOf (stAt P 38 none), bodyOf (stAt P 38 none), scopeOf (stAt P 38 none), [], [], []⟩
def s44 : SD := ⟨44, (⟨#[97, 102, 116, 101, 114, 95, 114, 101, 115, 117, 108, 116]⟩ : PySem.Str), (⟨#[97, 102, 116, 101, 114, 95, 114, 101, 115, 117, 108, 116]⟩ : PySem.Str), argsOf (stAt P 39 none), bodyOf (stAt P 39 none), scopeOf (stAt P 39 none), [], [], []⟩
def s45 : SD := ⟨45, (⟨#[97, 102, 116, 101, 114]⟩ : PySem.Str), (⟨#[97, 102, 116, 101, 114]⟩ : PySem.Str), argsOf (stAt P 40 none), bodyOf (stAt P 40 none), scopeOf (stAt P 40 none), [], [], []⟩
def s46 : SD := ⟨46, (⟨#[101, 118, 101, 110, 116, 115, 95, 111, 102]⟩ : PySem.Str), (⟨#[101, 118, 101, 110, 116, 115, 95, 111, 102]⟩ : PySem.Str), argsOf (stAt P 41 none), bodyOf (stAt P 41 none), scopeOf (stAt P 41 none), [], [], []⟩
def s47 : SD := ⟨47, (⟨#[115, 116, 97, 114, 116, 95, 111, 102]⟩ : PySem.Str), (⟨#[115, 116, 97, 114, 116, 95, 111, 102]⟩ : PySem.Str), argsOf (stAt P 42 none), bodyOf (stAt P 42 none), scopeOf (stAt P 42 none), [], [], []⟩
def s48 : SD := ⟨48, (⟨#[115, 116, 97, 114, 116, 115, 95, 111, 102]⟩ : PySem.Str), (⟨#[115, 116, 97, 114, 116, 115, 95, 111, 102]⟩ : PySem.Str), argsOf (stAt P 43 none), bodyOf (stAt P 43 none), scopeOf (stAt P 43 none), [], [], []⟩
def s49 : SD := ⟨49, (⟨#[115, 116, 97, 110, 100, 105, 110, 103, 115]⟩ : PySem.Str), (⟨#[115, 116, 97, 110, 100, 105, 110, 103, 115]⟩ : PySem.Str), argsOf (stAt P 44 none), bodyOf (stAt P 44 none), scopeOf (stAt P 44 none), [], [], []⟩
def s50 : SD := ⟨50, (⟨#[115, 104, 111, 119, 115, 95, 114, 101, 115, 117, 108, 116]⟩ : PySem.Str), (⟨#[115, 104, 111, 119, 115, 95, 114, 101, 115, 117, 108, 116]⟩ : PySem.Str), argsOf (stAt P 45 none), bodyOf (stAt P 45 none), scopeOf (stAt P 45 none), [], [], []⟩
def s51 : SD := ⟨51, (⟨#[115, 104, 111, 119, 115]⟩ : PySem.Str), (⟨#[115, 104, 111, 119, 115]⟩ : PySem.Str), argsOf (stAt P 46 none), bodyOf (stAt P 46 none), scopeOf (stAt P 46 none), [], [], []⟩
def s52 : SD := ⟨52, (⟨#[95, 95, 105, 110, 105, 116, 95, 95]⟩ : PySem.Str), (⟨#[86, 101, 114, 100, 105, 99, 116, 46, 95, 95, 105, 110, 105, 116, 95, 95]⟩ : PySem.Str), argsOf (stAt P 51 (some 0)), bodyOf (stAt P 51 (some 0)), scopeOf (stAt P 51 (some 0)), [], [], [(101, (.ctp [])), (102, .non), (85, .non), (103, (.ctp [])), (104, (.ctp [])), (105, (.str 106))]⟩
def s53 : SD := ⟨53, (⟨#[115, 104, 111, 114, 116, 101, 115, 116]⟩ : PySem.Str), (⟨#[115, 104, 111, 114, 116, 101, 115, 116]⟩ : PySem.Str), argsOf (stAt P 52 none), bodyOf (stAt P 52 none), scopeOf (stAt P 52 none), [], [], []⟩
def s54 : SD := ⟨54, (⟨#[99, 97, 117, 115, 101, 95, 111, 102]⟩ : PySem.Str), (⟨#[99, 97, 117, 115, 101, 95, 111, 102]⟩ : PySem.Str), argsOf (stAt P 53 none), bodyOf (stAt P 53 none), scopeOf (stAt P 53 none), [], [], []⟩
def s55 : SD := ⟨55, (⟨#[115, 116, 101, 112, 115, 95, 111, 102]⟩ : PySem.Str), (⟨#[115, 116, 101, 112, 115, 95, 111, 102]⟩ : PySem.Str), argsOf (stAt P 54 none), bodyOf (stAt P 54 none), scopeOf (stAt P 54 none), [], [], []⟩
def s56 : SD := ⟨56, (⟨#[102, 105, 116, 116, 105, 110, 103, 95, 115, 104, 97, 112, 101, 115]⟩ : PySem.Str), (⟨#[102, 105, 116, 116, 105, 110, 103, 95, 115, 104, 97, 112, 101, 115]⟩ : PySem.Str), argsOf (stAt P 55 none), bodyOf (stAt P 55 none), scopeOf (stAt P 55 none), [], [], []⟩
def s57 : SD := ⟨57, (⟨#[106, 117, 100, 103, 101, 95, 115, 116, 117, 99, 107]⟩ : PySem.Str), (⟨#[106, 117, 100, 103, 101, 95, 115, 116, 117, 99, 107]⟩ : PySem.Str), argsOf (stAt P 56 none), bodyOf (stAt P 56 none), scopeOf (stAt P 56 none), [], [], []⟩
def s58 : SD := ⟨58, (⟨#[107, 101, 112, 116, 95, 98, 121]⟩ : PySem.Str), (⟨#[107, 101, 112, 116, 95, 98, 121]⟩ : PySem.Str), argsOf (stAt P 57 none), bodyOf (stAt P 57 none), scopeOf (stAt P 57 none), [], [], []⟩
def s59 : SD := ⟨59, (⟨#[106, 117, 100, 103, 101, 95, 111, 117, 116, 108, 101, 116]⟩ : PySem.Str), (⟨#[106, 117, 100, 103, 101, 95, 111, 117, 116, 108, 101, 116]⟩ : PySem.Str), argsOf (stAt P 58 none), bodyOf (stAt P 58 none), scopeOf (stAt P 58 none), [], [], []⟩
def s60 : SD := ⟨60, (⟨#[115, 104, 97, 112, 101, 95, 102, 111, 117, 110, 100]⟩ : PySem.Str), (⟨#[115, 104, 97, 112, 101, 95, 102, 111, 117, 110, 100]⟩ : PySem.Str), argsOf (stAt P 59 none), bodyOf (stAt P 59 none), scopeOf (stAt P 59 none), [], [], []⟩
def s61 : SD := ⟨61, (⟨#[99, 104, 101, 99, 107, 95, 102, 97, 117, 108, 116]⟩ : PySem.Str), (⟨#[99, 104, 101, 99, 107, 95, 102, 97, 117, 108, 116]⟩ : PySem.Str), argsOf (stAt P 60 none), bodyOf (stAt P 60 none), scopeOf (stAt P 60 none), [], [], []⟩
def s62 : SD := ⟨62, (⟨#[106, 117, 100, 103, 101]⟩ : PySem.Str), (⟨#[106, 117, 100, 103, 101]⟩ : PySem.Str), argsOf (stAt P 61 none), bodyOf (stAt P 61 none), scopeOf (stAt P 61 none), [], [], []⟩
def s63 : SD := ⟨63, (⟨#[95, 108, 97, 119, 95, 99, 101, 108, 108]⟩ : PySem.Str), (⟨#[95, 108, 97, 119, 95, 99, 101, 108, 108]⟩ : PySem.Str), argsOf (stAt P 63 none), bodyOf (stAt P 63 none), scopeOf (stAt P 63 none), [], [], []⟩
def s64 : SD := ⟨64, (⟨#[95, 108, 97, 119, 95, 109, 111, 100]⟩ : PySem.Str), (⟨#[95, 108, 97, 119, 95, 109, 111, 100]⟩ : PySem.Str), argsOf (stAt P 64 none), bodyOf (stAt P 64 none), scopeOf (stAt P 64 none), [], [], []⟩
def s65 : SD := ⟨65, (⟨#[95, 108, 97, 119, 95, 114, 111, 119]⟩ : PySem.Str), (⟨#[95, 108, 97, 119, 95, 114, 111, 119]⟩ : PySem.Str), argsOf (stAt P 65 none), bodyOf (stAt P 65 none), scopeOf (stAt P 65 none), [], [], []⟩
def s66 : SD := ⟨66, (⟨#[95, 108, 97, 119, 95, 99, 104, 111, 105, 99, 101, 115]⟩ : PySem.Str), (⟨#[95, 108, 97, 119, 95, 99, 104, 111, 105, 99, 101, 115]⟩ : PySem.Str), argsOf (stAt P 66 none), bodyOf (stAt P 66 none), scopeOf (stAt P 66 none), [], [], []⟩
def s67 : SD := ⟨67, (⟨#[95, 108, 97, 119, 95, 118, 97, 108, 117, 101, 115]⟩ : PySem.Str), (⟨#[95, 108, 97, 119, 95, 118, 97, 108, 117, 101, 115]⟩ : PySem.Str), argsOf (stAt P 67 none), bodyOf (stAt P 67 none), scopeOf (stAt P 67 none), [], [], []⟩
def s68 : SD := ⟨68, (⟨#[95, 108, 97, 119, 95, 114, 117, 108, 101, 115]⟩ : PySem.Str), (⟨#[95, 108, 97, 119, 95, 114, 117, 108, 101, 115]⟩ : PySem.Str), argsOf (stAt P 68 none), bodyOf (stAt P 68 none), scopeOf (stAt P 68 none), [], [], []⟩
def s69 : SD := ⟨69, (⟨#[95, 108, 97, 119, 95, 114, 105, 103, 104, 116]⟩ : PySem.Str), (⟨#[95, 108, 97, 119, 95, 114, 105, 103, 104, 116]⟩ : PySem.Str), argsOf (stAt P 69 none), bodyOf (stAt P 69 none), scopeOf (stAt P 69 none), [], [], []⟩
def s70 : SD := ⟨70, (⟨#[95, 108, 97, 119, 95, 115, 101, 116, 116, 108, 101, 100]⟩ : PySem.Str), (⟨#[95, 108, 97, 119, 95, 115, 101, 116, 116, 108, 101, 100]⟩ : PySem.Str), argsOf (stAt P 70 none), bodyOf (stAt P 70 none), scopeOf (stAt P 70 none), [], [], []⟩
def s71 : SD := ⟨71, (⟨#[108, 97, 119]⟩ : PySem.Str), (⟨#[108, 97, 119]⟩ : PySem.Str), argsOf (stAt P 71 none), bodyOf (stAt P 71 none), scopeOf (stAt P 71 none), [], [], []⟩
def kpp : CK := { syms := syms, G := G, J := J, cn := cn }
def I : Inp := { h := ⟨kpp, [(0, none, false), (0, none, false), (0, none, false), (0, none, false), (0, none, false), (0, none, false), (0, none, false), (0, none, false), (142, none, false), (145, none, false), (148, none, false), (117, some 7, false), (0, none, false), (0, none, false), (0, none, false), (0, none, false), (0, none, false), (0, none, false), (0, none, false), (0, none, false), (0, none, false), (0, none, false), (0, none, false), (0, none, false), (139, some 7, false), (139, some 0, false), (0, none, false), (0, none, false), (0, none, false), (0, none, false), (0, none, false), (92, some 7, false), (0, none, false), (0, none, false), (0, none, false), (0, none, false), (93, some 7, false), (153, none, false), (154, none, false), (159, none, false), (161, none, false), (162, none, false), (163, none, false), (165, none, false), (172, none, false), (173, none, false), (174, none, false), (175, none, false), (176, none, false), (177, none, false), (180, none, false), (181, none, false), (116, some 7, false), (183, none, false), (187, none, false), (188, none, false), (192, none, false), (193, none, false), (194, none, false), (195, none, false), (196, none, false), (198, none, false), (199, none, false), (200, none, false), (201, none, false), (202, none, false), (206, none, false), (208, none, false), (210, none, false), (211, none, false), (212, none, false), (216, none, false)]⟩, sds := [s8, s9, s10, s11, s24, s25, s31, s36, s37, s38, s39, s40, s41, s42, s43, s44, s45, s46, s47, s48, s49, s50, s51, s52, s53, s54, s55, s56, s57, s58, s59, s60, s61, s62, s63, s64, s65, s66, s67, s68, s69, s70, s71], sup := [(31, 92, 24), (36, 93, 24)], dcs := dcsOf cons cn }
def nms : List (List Nat) := [n8, n9, n10, n11, n24, n25, n31, n36, n37, n38, n39, n40, n41, n42, n43, n44, n45, n46, n47, n48, n49, n50, n51, n52, n53, n54, n55, n56, n57, n58, n59, n60, n61, n62, n63, n64, n65, n66, n67, n68, n69, n70, n71]
theorem closed : Closed I := ⟨by decide +kernel, by decide +kernel, by decide +kernel, by decide +kernel, by decide +kernel, fun i kvs g h1 h2 => dcsOf_mem h1 h2⟩
theorem clb : clB I I.G.defs 0 = true := by decide +kernel
theorem c8 : defChk I s8 n8 = true := by decide +kernel
theorem c9 : defChk I s9 n9 = true := by decide +kernel
theorem c10 : defChk I s10 n10 = true := by decide +kernel
theorem c11 : defChk I s11 n11 = true := by decide +kernel
theorem c24 : defChk I s24 n24 = true := by decide +kernel
theorem c25 : defChk I s25 n25 = true := by decide +kernel
theorem c31 : defChk I s31 n31 = true := by decide +kernel
theorem c36 : defChk I s36 n36 = true := by decide +kernel
theorem c37 : defChk I s37 n37 = true := by decide +kernel
theorem c38 : defChk I s38 n38 = true := by decide +kernel
theorem c39 : defChk I s39 n39 = true := by decide +kernel
theorem c40 : defChk I s40 n40 = true := by decide +kernel
theorem c41 : defChk I s41 n41 = true := by decide +kernel
theorem c42 : defChk I s42 n42 = true := by decide +kernel
theorem c43 : defChk I s43 n43 = true := by decide +kernel
theorem c44 : defChk I s44 n44 = true := by decide +kernel
theorem c45 : defChk I s45 n45 = true := by decide +kernel
theorem c46 : defChk I s46 n46 = true := by decide +kernel
theorem c47 : defChk I s47 n47 = true := by decide +kernel
theorem c48 : defChk I s48 n48 = true := by decide +kernel
theorem c49 : defChk I s49 n49 = true := by decide +kernel
theorem c50 : defChk I s50 n50 = true := by decide +kernel
theorem c51 : defChk I s51 n51 = true := by decide +kernel
theorem c52 : defChk I s52 n52 = true := by decide +kernel
theorem c53 : defChk I s53 n53 = true := by decide +kernel
theorem c54 : defChk I s54 n54 = true := by decide +kernel
theorem c55 : defChk I s55 n55 = true := by decide +kernel
theorem c56 : defChk I s56 n56 = true := by decide +kernel
theorem c57 : defChk I s57 n57 = true := by decide +kernel
theorem c58 : defChk I s58 n58 = true := by decide +kernel
theorem c59 : defChk I s59 n59 = true := by decide +kernel
theorem c60 : defChk I s60 n60 = true := by decide +kernel
theorem c61 : defChk I s61 n61 = true := by decide +kernel
theorem c62 : defChk I s62 n62 = true := by decide +kernel
theorem c63 : defChk I s63 n63 = true := by decide +kernel
theorem c64 : defChk I s64 n64 = true := by decide +kernel
theorem c65 : defChk I s65 n65 = true := by decide +kernel
theorem c66 : defChk I s66 n66 = true := by decide +kernel
theorem c67 : defChk I s67 n67 = true := by decide +kernel
theorem c68 : defChk I s68 n68 = true := by decide +kernel
theorem c69 : defChk I s69 n69 = true := by decide +kernel
theorem c70 : defChk I s70 n70 = true := by decide +kernel
theorem c71 : defChk I s71 n71 = true := by decide +kernel
theorem cova : covB.allI I nms I.sds = true := (andT c8 (andT c9 (andT c10 (andT c11 (andT c24 (andT c25 (andT c31 (andT c36 (andT c37 (andT c38 (andT c39 (andT c40 (andT c41 (andT c42 (andT c43 (andT c44 (andT c45 (andT c46 (andT c47 (andT c48 (andT c49 (andT c50 (andT c51 (andT c52 (andT c53 (andT c54 (andT c55 (andT c56 (andT c57 (andT c58 (andT c59 (andT c60 (andT c61 (andT c62 (andT c63 (andT c64 (andT c65 (andT c66 (andT c67 (andT c68 (andT c69 (andT c70 (andT c71 rfl)))))))))))))))))))))))))))))))))))))))))))
theorem cov : covB I nms = true := andT cova (by decide +kernel)
theorem b8_0 : Bnd s8.params j8.ps 3 [] [.p 0, .p 1, .p 2] := fun _ _ _ _ _ _ _ _ _ _ _ us ws h1 h2 => match us, ws, h1, h2 with | [_, _, _], [], _, _ => by kernel_rfl
theorem e8_0 : BndD d8.prm 3 [] [] [.p 0, .p 1, .p 2] := fun us ws h1 h2 => match us, ws, h1, h2 with | [_, _, _], [], _, _ => rfl
theorem p8 : PatsOk I P 8 d8 := pats_of (pats_cons (fun di e C w K mg s => match di, e with | _, rfl => pat_c C s (List.mem_of_getElem? (i := 0) rfl) rfl (by decide +kernel) b8_0 e8_0) pats_nil)
theorem b9_0 : Bnd s9.params j9.ps 2 [] [.p 0, .p 1] := fun _ _ _ _ _ _ _ _ _ _ _ us ws h1 h2 => match us, ws, h1, h2 with | [_, _], [], _, _ => by kernel_rfl
theorem e9_0 : BndD d9.prm 2 [] [] [.p 0, .p 1] := fun us ws h1 h2 => match us, ws, h1, h2 with | [_, _], [], _, _ => rfl
theorem p9 : PatsOk I P 9 d9 := pats_of (pats_cons (fun di e C w K mg s => match di, e with | _, rfl => pat_c C s (List.mem_of_getElem? (i := 1) rfl) rfl (by decide +kernel) b9_0 e9_0) pats_nil)
theorem b10_0 : Bnd s10.params j10.ps 2 [] [.p 0, .p 1] := fun _ _ _ _ _ _ _ _ _ _ _ us ws h1 h2 => match us, ws, h1, h2 with | [_, _], [], _, _ => by kernel_rfl
theorem e10_0 : BndD d10.prm 2 [] [] [.p 0, .p 1] := fun us ws h1 h2 => match us, ws, h1, h2 with | [_, _], [], _, _ => rfl
theorem p10 : PatsOk I P 10 d10 := pats_of (pats_cons (fun di e C w K mg s => match di, e with | _, rfl => pat_c C s (List.mem_of_getElem? (i := 2) rfl) rfl (by decide +kernel) b10_0 e10_0) pats_nil)
theorem b11_0 : Bnd s11.params j11.ps 3 [] [.p 0, .p 1, .p 2] := fun _ _ _ _ _ _ _ _ _ _ _ us ws h1 h2 => match us, ws, h1, h2 with | [_, _, _], [], _, _ => by kernel_rfl
theorem e11_0 : BndD d11.prm 3 [] [] [.p 0, .p 1, .p 2] := fun us ws h1 h2 => match us, ws, h1, h2 with | [_, _, _], [], _, _ => rfl
theorem p11 : PatsOk I P 11 d11 := pats_of (pats_cons (fun di e C w K mg s => match di, e with | _, rfl => pat_c C s (List.mem_of_getElem? (i := 3) rfl) rfl (by decide +kernel) b11_0 e11_0) pats_nil)
theorem b24_0 : Bnd s24.params j24.ps 3 [] [.p 0, .p 1, .p 2] := fun _ _ _ _ _ _ _ _ _ _ _ us ws h1 h2 => match us, ws, h1, h2 with | [_, _, _], [], _, _ => by kernel_rfl
theorem e24_0 : BndD d24.prm 3 [] [] [.p 0, .p 1, .p 2] := fun us ws h1 h2 => match us, ws, h1, h2 with | [_, _, _], [], _, _ => rfl
theorem p24 : PatsOk I P 24 d24 := pats_of (pats_cons (fun di e C w K mg s => match di, e with | _, rfl => pat_c C s (List.mem_of_getElem? (i := 4) rfl) rfl (by decide +kernel) b24_0 e24_0) pats_nil)
theorem b25_0 : Bnd s25.params j25.ps 2 [] [.p 0, .p 1] := fun _ _ _ _ _ _ _ _ _ _ _ us ws h1 h2 => match us, ws, h1, h2 with | [_, _], [], _, _ => by kernel_rfl
theorem e25_0 : BndD d25.prm 2 [] [] [.p 0, .p 1] := fun us ws h1 h2 => match us, ws, h1, h2 with | [_, _], [], _, _ => rfl
theorem p25 : PatsOk I P 25 d25 := pats_of (pats_cons (fun di e C w K mg s => match di, e with | _, rfl => pat_c C s (List.mem_of_getElem? (i := 5) rfl) rfl (by decide +kernel) b25_0 e25_0) pats_nil)
theorem b31_0 : Bnd s31.params j31.ps 1 [(⟨#[115, 97, 118, 101]⟩ : PySem.Str), (⟨#[115, 101, 110, 100]⟩ : PySem.Str), (⟨#[112, 108, 97, 99, 101]⟩ : PySem.Str), (⟨#[101, 97, 114, 108, 121]⟩ : PySem.Str), (⟨#[108, 97, 116, 101]⟩ : PySem.Str), (⟨#[112, 97, 115, 115, 101, 100]⟩ : PySem.Str), (⟨#[114, 105, 110, 103, 115]⟩ : PySem.Str)] [.p 0, .k 0, .k 1, .k 2, .k 3, .k 4, .k 5, .k 6] := fun _ _ _ _ _ _ _ _ _ _ _ us ws h1 h2 => match us, ws, h1, h2 with | [_], [_, _, _, _, _, _, _], _, _ => by kernel_rfl
theorem e31_0 : BndD d31.prm 1 [28, 31, 32, 35, 38, 40, 45] [] [.p 0, .k 0, .k 1, .k 2, .k 3, .k 4, .k 5, .k 6] := fun us ws h1 h2 => match us, ws, h1, h2 with | [_], [_, _, _, _, _, _, _], _, _ => rfl
theorem p31 : PatsOk I P 31 d31 := pats_of (pats_cons (fun di e C w K mg s => match di, e with | _, rfl => pat_c C s (List.mem_of_getElem? (i := 6) rfl) rfl (by decide +kernel) b31_0 e31_0) pats_nil)
theorem b36_0 : Bnd s36.params j36.ps 1 [(⟨#[115, 104, 111, 119]⟩ : PySem.Str), (⟨#[109, 101, 109, 111, 114, 121]⟩ : PySem.Str), (⟨#[97, 103, 97, 105, 110]⟩ : PySem.Str), (⟨#[115, 116, 114, 97, 121, 115]⟩ : PySem.Str), (⟨#[114, 101, 112, 101, 97, 116]⟩ : PySem.Str), (⟨#[108, 97, 112, 115, 101]⟩ : PySem.Str)] [.p 0, .k 0, .k 1, .k 2, .k 3, .k 4, .k 5] := fun _ _ _ _ _ _ _ _ _ _ _ us ws h1 h2 => match us, ws, h1, h2 with | [_], [_, _, _, _, _, _], _, _ => by kernel_rfl
theorem e36_0 : BndD d36.prm 1 [48, 51, 54, 57, 59, 62] [] [.p 0, .k 0, .k 1, .k 2, .k 3, .k 4, .k 5] := fun us ws h1 h2 => match us, ws, h1, h2 with | [_], [_, _, _, _, _, _], _, _ => rfl
theorem p36 : PatsOk I P 36 d36 := pats_of (pats_cons (fun di e C w K mg s => match di, e with | _, rfl => pat_c C s (List.mem_of_getElem? (i := 7) rfl) rfl (by decide +kernel) b36_0 e36_0) pats_nil)
theorem b37_0 : Bnd s37.params j37.ps 1 [] [.p 0] := fun _ _ _ _ _ _ _ _ _ _ _ us ws h1 h2 => match us, ws, h1, h2 with | [_], [], _, _ => by kernel_rfl
theorem e37_0 : BndD d37.prm 1 [] [] [.p 0] := fun us ws h1 h2 => match us, ws, h1, h2 with | [_], [], _, _ => rfl
theorem p37 : PatsOk I P 37 d37 := pats_of (pats_cons (fun di e C w K mg s => match di, e with | _, rfl => pat_c C s (List.mem_of_getElem? (i := 8) rfl) rfl (by decide +kernel) b37_0 e37_0) pats_nil)
theorem b38_0 : Bnd s38.params j38.ps 2 [] [.p 0, .p 1] := fun _ _ _ _ _ _ _ _ _ _ _ us ws h1 h2 => match us, ws, h1, h2 with | [_, _], [], _, _ => by kernel_rfl
theorem e38_0 : BndD d38.prm 2 [] [] [.p 0, .p 1] := fun us ws h1 h2 => match us, ws, h1, h2 with | [_, _], [], _, _ => rfl
theorem p38 : PatsOk I P 38 d38 := pats_of (pats_cons (fun di e C w K mg s => match di, e with | _, rfl => pat_c C s (List.mem_of_getElem? (i := 9) rfl) rfl (by decide +kernel) b38_0 e38_0) pats_nil)
theorem b39_0 : Bnd s39.params j39.ps 3 [] [.p 0, .p 1, .p 2] := fun _ _ _ _ _ _ _ _ _ _ _ us ws h1 h2 => match us, ws, h1, h2 with | [_, _, _], [], _, _ => by kernel_rfl
theorem e39_0 : BndD d39.prm 3 [] [] [.p 0, .p 1, .p 2] := fun us ws h1 h2 => match us, ws, h1, h2 with | [_, _, _], [], _, _ => rfl
theorem p39 : PatsOk I P 39 d39 := pats_of (pats_cons (fun di e C w K mg s => match di, e with | _, rfl => pat_c C s (List.mem_of_getElem? (i := 10) rfl) rfl (by decide +kernel) b39_0 e39_0) pats_nil)
theorem b40_0 : Bnd s40.params j40.ps 2 [] [.p 0, .p 1] := fun _ _ _ _ _ _ _ _ _ _ _ us ws h1 h2 => match us, ws, h1, h2 with | [_, _], [], _, _ => by kernel_rfl
theorem e40_0 : BndD d40.prm 2 [] [] [.p 0, .p 1] := fun us ws h1 h2 => match us, ws, h1, h2 with | [_, _], [], _, _ => rfl
theorem p40 : PatsOk I P 40 d40 := pats_of (pats_cons (fun di e C w K mg s => match di, e with | _, rfl => pat_c C s (List.mem_of_getElem? (i := 11) rfl) rfl (by decide +kernel) b40_0 e40_0) pats_nil)
theorem b41_0 : Bnd s41.params j41.ps 3 [] [.p 0, .p 1, .p 2] := fun _ _ _ _ _ _ _ _ _ _ _ us ws h1 h2 => match us, ws, h1, h2 with | [_, _, _], [], _, _ => by kernel_rfl
theorem e41_0 : BndD d41.prm 3 [] [] [.p 0, .p 1, .p 2] := fun us ws h1 h2 => match us, ws, h1, h2 with | [_, _, _], [], _, _ => rfl
theorem p41 : PatsOk I P 41 d41 := pats_of (pats_cons (fun di e C w K mg s => match di, e with | _, rfl => pat_c C s (List.mem_of_getElem? (i := 12) rfl) rfl (by decide +kernel) b41_0 e41_0) pats_nil)
theorem b42_0 : Bnd s42.params j42.ps 2 [] [.p 0, .p 1] := fun _ _ _ _ _ _ _ _ _ _ _ us ws h1 h2 => match us, ws, h1, h2 with | [_, _], [], _, _ => by kernel_rfl
theorem e42_0 : BndD d42.prm 2 [] [] [.p 0, .p 1] := fun us ws h1 h2 => match us, ws, h1, h2 with | [_, _], [], _, _ => rfl
theorem p42 : PatsOk I P 42 d42 := pats_of (pats_cons (fun di e C w K mg s => match di, e with | _, rfl => pat_c C s (List.mem_of_getElem? (i := 13) rfl) rfl (by decide +kernel) b42_0 e42_0) pats_nil)
theorem b43_0 : Bnd s43.params j43.ps 2 [] [.p 0, .p 1] := fun _ _ _ _ _ _ _ _ _ _ _ us ws h1 h2 => match us, ws, h1, h2 with | [_, _], [], _, _ => by kernel_rfl
theorem e43_0 : BndD d43.prm 2 [] [] [.p 0, .p 1] := fun us ws h1 h2 => match us, ws, h1, h2 with | [_, _], [], _, _ => rfl
theorem p43 : PatsOk I P 43 d43 := pats_of (pats_cons (fun di e C w K mg s => match di, e with | _, rfl => pat_c C s (List.mem_of_getElem? (i := 14) rfl) rfl (by decide +kernel) b43_0 e43_0) pats_nil)
theorem b44_0 : Bnd s44.params j44.ps 3 [] [.p 0, .p 1, .p 2] := fun _ _ _ _ _ _ _ _ _ _ _ us ws h1 h2 => match us, ws, h1, h2 with | [_, _, _], [], _, _ => by kernel_rfl
theorem e44_0 : BndD d44.prm 3 [] [] [.p 0, .p 1, .p 2] := fun us ws h1 h2 => match us, ws, h1, h2 with | [_, _, _], [], _, _ => rfl
theorem p44 : PatsOk I P 44 d44 := pats_of (pats_cons (fun di e C w K mg s => match di, e with | _, rfl => pat_c C s (List.mem_of_getElem? (i := 15) rfl) rfl (by decide +kernel) b44_0 e44_0) pats_nil)
theorem b45_0 : Bnd s45.params j45.ps 3 [] [.p 0, .p 1, .p 2] := fun _ _ _ _ _ _ _ _ _ _ _ us ws h1 h2 => match us, ws, h1, h2 with | [_, _, _], [], _, _ => by kernel_rfl
theorem e45_0 : BndD d45.prm 3 [] [] [.p 0, .p 1, .p 2] := fun us ws h1 h2 => match us, ws, h1, h2 with | [_, _, _], [], _, _ => rfl
theorem p45 : PatsOk I P 45 d45 := pats_of (pats_cons (fun di e C w K mg s => match di, e with | _, rfl => pat_c C s (List.mem_of_getElem? (i := 16) rfl) rfl (by decide +kernel) b45_0 e45_0) pats_nil)
theorem b46_0 : Bnd s46.params j46.ps 1 [] [.p 0] := fun _ _ _ _ _ _ _ _ _ _ _ us ws h1 h2 => match us, ws, h1, h2 with | [_], [], _, _ => by kernel_rfl
theorem e46_0 : BndD d46.prm 1 [] [] [.p 0] := fun us ws h1 h2 => match us, ws, h1, h2 with | [_], [], _, _ => rfl
theorem p46 : PatsOk I P 46 d46 := pats_of (pats_cons (fun di e C w K mg s => match di, e with | _, rfl => pat_c C s (List.mem_of_getElem? (i := 17) rfl) rfl (by decide +kernel) b46_0 e46_0) pats_nil)
theorem b47_0 : Bnd s47.params j47.ps 1 [] [.p 0] := fun _ _ _ _ _ _ _ _ _ _ _ us ws h1 h2 => match us, ws, h1, h2 with | [_], [], _, _ => by kernel_rfl
theorem e47_0 : BndD d47.prm 1 [] [] [.p 0] := fun us ws h1 h2 => match us, ws, h1, h2 with | [_], [], _, _ => rfl
theorem p47 : PatsOk I P 47 d47 := pats_of (pats_cons (fun di e C w K mg s => match di, e with | _, rfl => pat_c C s (List.mem_of_getElem? (i := 18) rfl) rfl (by decide +kernel) b47_0 e47_0) pats_nil)
theorem b48_0 : Bnd s48.params j48.ps 1 [] [.p 0] := fun _ _ _ _ _ _ _ _ _ _ _ us ws h1 h2 => match us, ws, h1, h2 with | [_], [], _, _ => by kernel_rfl
theorem e48_0 : BndD d48.prm 1 [] [] [.p 0] := fun us ws h1 h2 => match us, ws, h1, h2 with | [_], [], _, _ => rfl
theorem p48 : PatsOk I P 48 d48 := pats_of (pats_cons (fun di e C w K mg s => match di, e with | _, rfl => pat_c C s (List.mem_of_getElem? (i := 19) rfl) rfl (by decide +kernel) b48_0 e48_0) pats_nil)
theorem b49_0 : Bnd s49.params j49.ps 1 [] [.p 0] := fun _ _ _ _ _ _ _ _ _ _ _ us ws h1 h2 => match us, ws, h1, h2 with | [_], [], _, _ => by kernel_rfl
theorem e49_0 : BndD d49.prm 1 [] [] [.p 0] := fun us ws h1 h2 => match us, ws, h1, h2 with | [_], [], _, _ => rfl
theorem p49 : PatsOk I P 49 d49 := pats_of (pats_cons (fun di e C w K mg s => match di, e with | _, rfl => pat_c C s (List.mem_of_getElem? (i := 20) rfl) rfl (by decide +kernel) b49_0 e49_0) pats_nil)
theorem b50_0 : Bnd s50.params j50.ps 2 [] [.p 0, .p 1] := fun _ _ _ _ _ _ _ _ _ _ _ us ws h1 h2 => match us, ws, h1, h2 with | [_, _], [], _, _ => by kernel_rfl
theorem e50_0 : BndD d50.prm 2 [] [] [.p 0, .p 1] := fun us ws h1 h2 => match us, ws, h1, h2 with | [_, _], [], _, _ => rfl
theorem p50 : PatsOk I P 50 d50 := pats_of (pats_cons (fun di e C w K mg s => match di, e with | _, rfl => pat_c C s (List.mem_of_getElem? (i := 21) rfl) rfl (by decide +kernel) b50_0 e50_0) pats_nil)
theorem b51_0 : Bnd s51.params j51.ps 3 [] [.p 0, .p 1, .p 2] := fun _ _ _ _ _ _ _ _ _ _ _ us ws h1 h2 => match us, ws, h1, h2 with | [_, _, _], [], _, _ => by kernel_rfl
theorem e51_0 : BndD d51.prm 3 [] [] [.p 0, .p 1, .p 2] := fun us ws h1 h2 => match us, ws, h1, h2 with | [_, _, _], [], _, _ => rfl
theorem p51 : PatsOk I P 51 d51 := pats_of (pats_cons (fun di e C w K mg s => match di, e with | _, rfl => pat_c C s (List.mem_of_getElem? (i := 22) rfl) rfl (by decide +kernel) b51_0 e51_0) pats_nil)
theorem b52_0 : BndK s52.params j52.ps 3 [(⟨#[101, 118, 101, 110, 116, 115]⟩ : PySem.Str)] [(⟨#[116, 97, 98, 108, 101]⟩ : PySem.Str), (⟨#[103, 114, 97, 112, 104]⟩ : PySem.Str), (⟨#[99, 104, 97, 110, 110, 101, 108]⟩ : PySem.Str), (⟨#[115, 116, 101, 112, 115]⟩ : PySem.Str), (⟨#[99, 97, 117, 115, 101]⟩ : PySem.Str)] [.p 0, .p 1, .p 2, .d 0, .d 1, .d 2, .k 0, .d 3, .d 4] := fun _ _ _ _ D _ _ _ _ _ us mv ws h1 h2 h3 => match us, mv, ws, h1, h2, h3 with | [_, _, _], [_, _, _, _, _], [_], _, _, _ => ⟨_, _, _, _, _, _, rfl, rfl, ⟨_, _, _, _, _, _, rfl, rfl, ⟨_, _, _, _, _, _, rfl, rfl, ⟨_, _, _, _, _, _, rfl, rfl, ⟨_, _, _, _, _, _, rfl, rfl, rfl⟩⟩⟩⟩⟩
theorem e52_0 : BndD d52.prm 3 [103] ([(101, (.ctp [])), (102, .non), (85, .non), (104, (.ctp [])), (105, (.str 106))] : List (Nat × D)).unzip.2 [.p 0, .p 1, .p 2, .d 0, .d 1, .d 2, .k 0, .d 3, .d 4] := fun us ws h1 h2 => match us, ws, h1, h2 with | [_, _, _], [_], _, _ => rfl
theorem b52_1 : BndK s52.params j52.ps 3 [(⟨#[103, 114, 97, 112, 104]⟩ : PySem.Str), (⟨#[99, 104, 97, 110, 110, 101, 108]⟩ : PySem.Str), (⟨#[101, 118, 101, 110, 116, 115]⟩ : PySem.Str), (⟨#[115, 116, 101, 112, 115]⟩ : PySem.Str), (⟨#[99, 97, 117, 115, 101]⟩ : PySem.Str)] [(⟨#[116, 97, 98, 108, 101]⟩ : PySem.Str)] [.p 0, .p 1, .p 2, .d 0, .k 0, .k 1, .k 2, .k 3, .k 4] := fun _ _ _ _ D _ _ _ _ _ us mv ws h1 h2 h3 => match us, mv, ws, h1, h2, h3 with | [_, _, _], [_], [_, _, _, _, _], _, _, _ => ⟨_, _, _, _, _, _, rfl, rfl, rfl⟩
theorem e52_1 : BndD d52.prm 3 [102, 85, 103, 104, 105] ([(101, (.ctp []))] : List (Nat × D)).unzip.2 [.p 0, .p 1, .p 2, .d 0, .k 0, .k 1, .k 2, .k 3, .k 4] := fun us ws h1 h2 => match us, ws, h1, h2 with | [_, _, _], [_, _, _, _, _], _, _ => rfl
theorem b52_2 : BndK s52.params j52.ps 3 [(⟨#[103, 114, 97, 112, 104]⟩ : PySem.Str), (⟨#[99, 104, 97, 110, 110, 101, 108]⟩ : PySem.Str), (⟨#[115, 116, 101, 112, 115]⟩ : PySem.Str)] [(⟨#[116, 97, 98, 108, 101]⟩ : PySem.Str), (⟨#[101, 118, 101, 110, 116, 115]⟩ : PySem.Str), (⟨#[99, 97, 117, 115, 101]⟩ : PySem.Str)] [.p 0, .p 1, .p 2, .d 0, .k 0, .k 1, .d 1, .k 2, .d 2] := fun _ _ _ _ D _ _ _ _ _ us mv ws h1 h2 h3 => match us, mv, ws, h1, h2, h3 with | [_, _, _], [_, _, _], [_, _, _], _, _, _ => ⟨_, _, _, _, _, _, rfl, rfl, ⟨_, _, _, _, _, _, rfl, rfl, ⟨_, _, _, _, _, _, rfl, rfl, rfl⟩⟩⟩
theorem e52_2 : BndD d52.prm 3 [102, 85, 104] ([(101, (.ctp [])), (103, (.ctp [])), (105, (.str 106))] : List (Nat × D)).unzip.2 [.p 0, .p 1, .p 2, .d 0, .k 0, .k 1, .d 1, .k 2, .d 2] := fun us ws h1 h2 => match us, ws, h1, h2 with | [_, _, _], [_, _, _], _, _ => rfl
theorem b52_3 : BndK s52.params j52.ps 3 [(⟨#[116, 97, 98, 108, 101]⟩ : PySem.Str)] [(⟨#[103, 114, 97, 112, 104]⟩ : PySem.Str), (⟨#[99, 104, 97, 110, 110, 101, 108]⟩ : PySem.Str), (⟨#[101, 118, 101, 110, 116, 115]⟩ : PySem.Str), (⟨#[115, 116, 101, 112, 115]⟩ : PySem.Str), (⟨#[99, 97, 117, 115, 101]⟩ : PySem.Str)] [.p 0, .p 1, .p 2, .k 0, .d 0, .d 1, .d 2, .d 3, .d 4] := fun _ _ _ _ D _ _ _ _ _ us mv ws h1 h2 h3 => match us, mv, ws, h1, h2, h3 with | [_, _, _], [_, _, _, _, _], [_], _, _, _ => ⟨_, _, _, _, _, _, rfl, rfl, ⟨_, _, _, _, _, _, rfl, rfl, ⟨_, _, _, _, _, _, rfl, rfl, ⟨_, _, _, _, _, _, rfl, rfl, ⟨_, _, _, _, _, _, rfl, rfl, rfl⟩⟩⟩⟩⟩
theorem e52_3 : BndD d52.prm 3 [101] ([(102, .non), (85, .non), (103, (.ctp [])), (104, (.ctp [])), (105, (.str 106))] : List (Nat × D)).unzip.2 [.p 0, .p 1, .p 2, .k 0, .d 0, .d 1, .d 2, .d 3, .d 4] := fun us ws h1 h2 => match us, ws, h1, h2 with | [_, _, _], [_], _, _ => rfl
theorem b52_4 : BndK s52.params j52.ps 3 [] [(⟨#[116, 97, 98, 108, 101]⟩ : PySem.Str), (⟨#[103, 114, 97, 112, 104]⟩ : PySem.Str), (⟨#[99, 104, 97, 110, 110, 101, 108]⟩ : PySem.Str), (⟨#[101, 118, 101, 110, 116, 115]⟩ : PySem.Str), (⟨#[115, 116, 101, 112, 115]⟩ : PySem.Str), (⟨#[99, 97, 117, 115, 101]⟩ : PySem.Str)] [.p 0, .p 1, .p 2, .d 0, .d 1, .d 2, .d 3, .d 4, .d 5] := fun _ _ _ _ D _ _ _ _ _ us mv ws h1 h2 h3 => match us, mv, ws, h1, h2, h3 with | [_, _, _], [_, _, _, _, _, _], [], _, _, _ => ⟨_, _, _, _, _, _, rfl, rfl, ⟨_, _, _, _, _, _, rfl, rfl, ⟨_, _, _, _, _, _, rfl, rfl, ⟨_, _, _, _, _, _, rfl, rfl, ⟨_, _, _, _, _, _, rfl, rfl, ⟨_, _, _, _, _, _, rfl, rfl, rfl⟩⟩⟩⟩⟩⟩
theorem e52_4 : BndD d52.prm 3 [] ([(101, (.ctp [])), (102, .non), (85, .non), (103, (.ctp [])), (104, (.ctp [])), (105, (.str 106))] : List (Nat × D)).unzip.2 [.p 0, .p 1, .p 2, .d 0, .d 1, .d 2, .d 3, .d 4, .d 5] := fun us ws h1 h2 => match us, ws, h1, h2 with | [_, _, _], [], _, _ => rfl
theorem p52 : PatsOk I P 52 d52 := pats_of (pats_cons (fun di e C w K mg s => match di, e with | _, rfl => pat_k C s (List.mem_of_getElem? (i := 23) rfl) rfl (ms := [(101, (.ctp [])), (102, .non), (85, .non), (104, (.ctp [])), (105, (.str 106))]) rfl (by simp [s52]) (by simp [s52]) (by decide +kernel) (by decide +kernel) b52_0 e52_0) (pats_cons (fun di e C w K mg s => match di, e with | _, rfl => pat_k C s (List.mem_of_getElem? (i := 23) rfl) rfl (ms := [(101, (.ctp []))]) rfl (by simp [s52]) (by simp [s52]) (by decide +kernel) (by decide +kernel) b52_1 e52_1) (pats_cons (fun di e C w K mg s => match di, e with | _, rfl => pat_k C s (List.mem_of_getElem? (i := 23) rfl) rfl (ms := [(101, (.ctp [])), (103, (.ctp [])), (105, (.str 106))]) rfl (by simp [s52]) (by simp [s52]) (by decide +kernel) (by decide +kernel) b52_2 e52_2) (pats_cons (fun di e C w K mg s => match di, e with | _, rfl => pat_k C s (List.mem_of_getElem? (i := 23) rfl) rfl (ms := [(102, .non), (85, .non), (103, (.ctp [])), (104, (.ctp [])), (105, (.str 106))]) rfl (by simp [s52]) (by simp [s52]) (by decide +kernel) (by decide +kernel) b52_3 e52_3) (pats_cons (fun di e C w K mg s => match di, e with | _, rfl => pat_k C s (List.mem_of_getElem? (i := 23) rfl) rfl (ms := [(101, (.ctp [])), (102, .non), (85, .non), (103, (.ctp [])), (104, (.ctp [])), (105, (.str 106))]) rfl (by simp [s52]) (by simp [s52]) (by decide +kernel) (by decide +kernel) b52_4 e52_4) pats_nil)))))
theorem b53_0 : Bnd s53.params j53.ps 4 [] [.p 0, .p 1, .p 2, .p 3] := fun _ _ _ _ _ _ _ _ _ _ _ us ws h1 h2 => match us, ws, h1, h2 with | [_, _, _, _], [], _, _ => by kernel_rfl
theorem e53_0 : BndD d53.prm 4 [] [] [.p 0, .p 1, .p 2, .p 3] := fun us ws h1 h2 => match us, ws, h1, h2 with | [_, _, _, _], [], _, _ => rfl
theorem p53 : PatsOk I P 53 d53 := pats_of (pats_cons (fun di e C w K mg s => match di, e with | _, rfl => pat_c C s (List.mem_of_getElem? (i := 24) rfl) rfl (by decide +kernel) b53_0 e53_0) pats_nil)
theorem b54_0 : Bnd s54.params j54.ps 2 [] [.p 0, .p 1] := fun _ _ _ _ _ _ _ _ _ _ _ us ws h1 h2 => match us, ws, h1, h2 with | [_, _], [], _, _ => by kernel_rfl
theorem e54_0 : BndD d54.prm 2 [] [] [.p 0, .p 1] := fun us ws h1 h2 => match us, ws, h1, h2 with | [_, _], [], _, _ => rfl
theorem p54 : PatsOk I P 54 d54 := pats_of (pats_cons (fun di e C w K mg s => match di, e with | _, rfl => pat_c C s (List.mem_of_getElem? (i := 25) rfl) rfl (by decide +kernel) b54_0 e54_0) pats_nil)
theorem b55_0 : Bnd s55.params j55.ps 3 [] [.p 0, .p 1, .p 2] := fun _ _ _ _ _ _ _ _ _ _ _ us ws h1 h2 => match us, ws, h1, h2 with | [_, _, _], [], _, _ => by kernel_rfl
theorem e55_0 : BndD d55.prm 3 [] [] [.p 0, .p 1, .p 2] := fun us ws h1 h2 => match us, ws, h1, h2 with | [_, _, _], [], _, _ => rfl
theorem p55 : PatsOk I P 55 d55 := pats_of (pats_cons (fun di e C w K mg s => match di, e with | _, rfl => pat_c C s (List.mem_of_getElem? (i := 26) rfl) rfl (by decide +kernel) b55_0 e55_0) pats_nil)
theorem b56_0 : Bnd s56.params j56.ps 1 [] [.p 0] := fun _ _ _ _ _ _ _ _ _ _ _ us ws h1 h2 => match us, ws, h1, h2 with | [_], [], _, _ => by kernel_rfl
theorem e56_0 : BndD d56.prm 1 [] [] [.p 0] := fun us ws h1 h2 => match us, ws, h1, h2 with | [_], [], _, _ => rfl
theorem p56 : PatsOk I P 56 d56 := pats_of (pats_cons (fun di e C w K mg s => match di, e with | _, rfl => pat_c C s (List.mem_of_getElem? (i := 27) rfl) rfl (by decide +kernel) b56_0 e56_0) pats_nil)
theorem b57_0 : Bnd s57.params j57.ps 1 [] [.p 0] := fun _ _ _ _ _ _ _ _ _ _ _ us ws h1 h2 => match us, ws, h1, h2 with | [_], [], _, _ => by kernel_rfl
theorem e57_0 : BndD d57.prm 1 [] [] [.p 0] := fun us ws h1 h2 => match us, ws, h1, h2 with | [_], [], _, _ => rfl
theorem p57 : PatsOk I P 57 d57 := pats_of (pats_cons (fun di e C w K mg s => match di, e with | _, rfl => pat_c C s (List.mem_of_getElem? (i := 28) rfl) rfl (by decide +kernel) b57_0 e57_0) pats_nil)
theorem b58_0 : Bnd s58.params j58.ps 3 [] [.p 0, .p 1, .p 2] := fun _ _ _ _ _ _ _ _ _ _ _ us ws h1 h2 => match us, ws, h1, h2 with | [_, _, _], [], _, _ => by kernel_rfl
theorem e58_0 : BndD d58.prm 3 [] [] [.p 0, .p 1, .p 2] := fun us ws h1 h2 => match us, ws, h1, h2 with | [_, _, _], [], _, _ => rfl
theorem p58 : PatsOk I P 58 d58 := pats_of (pats_cons (fun di e C w K mg s => match di, e with | _, rfl => pat_c C s (List.mem_of_getElem? (i := 29) rfl) rfl (by decide +kernel) b58_0 e58_0) pats_nil)
theorem b59_0 : Bnd s59.params j59.ps 2 [] [.p 0, .p 1] := fun _ _ _ _ _ _ _ _ _ _ _ us ws h1 h2 => match us, ws, h1, h2 with | [_, _], [], _, _ => by kernel_rfl
theorem e59_0 : BndD d59.prm 2 [] [] [.p 0, .p 1] := fun us ws h1 h2 => match us, ws, h1, h2 with | [_, _], [], _, _ => rfl
theorem p59 : PatsOk I P 59 d59 := pats_of (pats_cons (fun di e C w K mg s => match di, e with | _, rfl => pat_c C s (List.mem_of_getElem? (i := 30) rfl) rfl (by decide +kernel) b59_0 e59_0) pats_nil)
theorem b60_0 : Bnd s60.params j60.ps 2 [] [.p 0, .p 1] := fun _ _ _ _ _ _ _ _ _ _ _ us ws h1 h2 => match us, ws, h1, h2 with | [_, _], [], _, _ => by kernel_rfl
theorem e60_0 : BndD d60.prm 2 [] [] [.p 0, .p 1] := fun us ws h1 h2 => match us, ws, h1, h2 with | [_, _], [], _, _ => rfl
theorem p60 : PatsOk I P 60 d60 := pats_of (pats_cons (fun di e C w K mg s => match di, e with | _, rfl => pat_c C s (List.mem_of_getElem? (i := 31) rfl) rfl (by decide +kernel) b60_0 e60_0) pats_nil)
theorem b61_0 : Bnd s61.params j61.ps 2 [] [.p 0, .p 1] := fun _ _ _ _ _ _ _ _ _ _ _ us ws h1 h2 => match us, ws, h1, h2 with | [_, _], [], _, _ => by kernel_rfl
theorem e61_0 : BndD d61.prm 2 [] [] [.p 0, .p 1] := fun us ws h1 h2 => match us, ws, h1, h2 with | [_, _], [], _, _ => rfl
theorem p61 : PatsOk I P 61 d61 := pats_of (pats_cons (fun di e C w K mg s => match di, e with | _, rfl => pat_c C s (List.mem_of_getElem? (i := 32) rfl) rfl (by decide +kernel) b61_0 e61_0) pats_nil)
theorem b62_0 : Bnd s62.params j62.ps 2 [] [.p 0, .p 1] := fun _ _ _ _ _ _ _ _ _ _ _ us ws h1 h2 => match us, ws, h1, h2 with | [_, _], [], _, _ => by kernel_rfl
theorem e62_0 : BndD d62.prm 2 [] [] [.p 0, .p 1] := fun us ws h1 h2 => match us, ws, h1, h2 with | [_, _], [], _, _ => rfl
theorem p62 : PatsOk I P 62 d62 := pats_of (pats_cons (fun di e C w K mg s => match di, e with | _, rfl => pat_c C s (List.mem_of_getElem? (i := 33) rfl) rfl (by decide +kernel) b62_0 e62_0) pats_nil)
theorem b63_0 : Bnd s63.params j63.ps 2 [] [.p 0, .p 1] := fun _ _ _ _ _ _ _ _ _ _ _ us ws h1 h2 => match us, ws, h1, h2 with | [_, _], [], _, _ => by kernel_rfl
theorem e63_0 : BndD d63.prm 2 [] [] [.p 0, .p 1] := fun us ws h1 h2 => match us, ws, h1, h2 with | [_, _], [], _, _ => rfl
theorem p63 : PatsOk I P 63 d63 := pats_of (pats_cons (fun di e C w K mg s => match di, e with | _, rfl => pat_c C s (List.mem_of_getElem? (i := 34) rfl) rfl (by decide +kernel) b63_0 e63_0) pats_nil)
theorem b64_0 : Bnd s64.params j64.ps 3 [] [.p 0, .p 1, .p 2] := fun _ _ _ _ _ _ _ _ _ _ _ us ws h1 h2 => match us, ws, h1, h2 with | [_, _, _], [], _, _ => by kernel_rfl
theorem e64_0 : BndD d64.prm 3 [] [] [.p 0, .p 1, .p 2] := fun us ws h1 h2 => match us, ws, h1, h2 with | [_, _, _], [], _, _ => rfl
theorem p64 : PatsOk I P 64 d64 := pats_of (pats_cons (fun di e C w K mg s => match di, e with | _, rfl => pat_c C s (List.mem_of_getElem? (i := 35) rfl) rfl (by decide +kernel) b64_0 e64_0) pats_nil)
theorem b65_0 : Bnd s65.params j65.ps 2 [] [.p 0, .p 1] := fun _ _ _ _ _ _ _ _ _ _ _ us ws h1 h2 => match us, ws, h1, h2 with | [_, _], [], _, _ => by kernel_rfl
theorem e65_0 : BndD d65.prm 2 [] [] [.p 0, .p 1] := fun us ws h1 h2 => match us, ws, h1, h2 with | [_, _], [], _, _ => rfl
theorem p65 : PatsOk I P 65 d65 := pats_of (pats_cons (fun di e C w K mg s => match di, e with | _, rfl => pat_c C s (List.mem_of_getElem? (i := 36) rfl) rfl (by decide +kernel) b65_0 e65_0) pats_nil)
theorem b66_0 : Bnd s66.params j66.ps 1 [] [.p 0] := fun _ _ _ _ _ _ _ _ _ _ _ us ws h1 h2 => match us, ws, h1, h2 with | [_], [], _, _ => by kernel_rfl
theorem e66_0 : BndD d66.prm 1 [] [] [.p 0] := fun us ws h1 h2 => match us, ws, h1, h2 with | [_], [], _, _ => rfl
theorem p66 : PatsOk I P 66 d66 := pats_of (pats_cons (fun di e C w K mg s => match di, e with | _, rfl => pat_c C s (List.mem_of_getElem? (i := 37) rfl) rfl (by decide +kernel) b66_0 e66_0) pats_nil)
theorem b67_0 : Bnd s67.params j67.ps 2 [] [.p 0, .p 1] := fun _ _ _ _ _ _ _ _ _ _ _ us ws h1 h2 => match us, ws, h1, h2 with | [_, _], [], _, _ => by kernel_rfl
theorem e67_0 : BndD d67.prm 2 [] [] [.p 0, .p 1] := fun us ws h1 h2 => match us, ws, h1, h2 with | [_, _], [], _, _ => rfl
theorem p67 : PatsOk I P 67 d67 := pats_of (pats_cons (fun di e C w K mg s => match di, e with | _, rfl => pat_c C s (List.mem_of_getElem? (i := 38) rfl) rfl (by decide +kernel) b67_0 e67_0) pats_nil)
theorem b68_0 : Bnd s68.params j68.ps 2 [] [.p 0, .p 1] := fun _ _ _ _ _ _ _ _ _ _ _ us ws h1 h2 => match us, ws, h1, h2 with | [_, _], [], _, _ => by kernel_rfl
theorem e68_0 : BndD d68.prm 2 [] [] [.p 0, .p 1] := fun us ws h1 h2 => match us, ws, h1, h2 with | [_, _], [], _, _ => rfl
theorem p68 : PatsOk I P 68 d68 := pats_of (pats_cons (fun di e C w K mg s => match di, e with | _, rfl => pat_c C s (List.mem_of_getElem? (i := 39) rfl) rfl (by decide +kernel) b68_0 e68_0) pats_nil)
theorem b69_0 : Bnd s69.params j69.ps 1 [] [.p 0] := fun _ _ _ _ _ _ _ _ _ _ _ us ws h1 h2 => match us, ws, h1, h2 with | [_], [], _, _ => by kernel_rfl
theorem e69_0 : BndD d69.prm 1 [] [] [.p 0] := fun us ws h1 h2 => match us, ws, h1, h2 with | [_], [], _, _ => rfl
theorem p69 : PatsOk I P 69 d69 := pats_of (pats_cons (fun di e C w K mg s => match di, e with | _, rfl => pat_c C s (List.mem_of_getElem? (i := 40) rfl) rfl (by decide +kernel) b69_0 e69_0) pats_nil)
theorem b70_0 : Bnd s70.params j70.ps 2 [] [.p 0, .p 1] := fun _ _ _ _ _ _ _ _ _ _ _ us ws h1 h2 => match us, ws, h1, h2 with | [_, _], [], _, _ => by kernel_rfl
theorem e70_0 : BndD d70.prm 2 [] [] [.p 0, .p 1] := fun us ws h1 h2 => match us, ws, h1, h2 with | [_, _], [], _, _ => rfl
theorem p70 : PatsOk I P 70 d70 := pats_of (pats_cons (fun di e C w K mg s => match di, e with | _, rfl => pat_c C s (List.mem_of_getElem? (i := 41) rfl) rfl (by decide +kernel) b70_0 e70_0) pats_nil)
theorem b71_0 : Bnd s71.params j71.ps 1 [] [.p 0] := fun _ _ _ _ _ _ _ _ _ _ _ us ws h1 h2 => match us, ws, h1, h2 with | [_], [], _, _ => by kernel_rfl
theorem e71_0 : BndD d71.prm 1 [] [] [.p 0] := fun us ws h1 h2 => match us, ws, h1, h2 with | [_], [], _, _ => rfl
theorem p71 : PatsOk I P 71 d71 := pats_of (pats_cons (fun di e C w K mg s => match di, e with | _, rfl => pat_c C s (List.mem_of_getElem? (i := 42) rfl) rfl (by decide +kernel) b71_0 e71_0) pats_nil)
theorem pats : AllN (PatsOk I P) 0 I.G.defs := (.cons (pats_no rfl) (.cons (pats_no rfl) (.cons (pats_no rfl) (.cons (pats_no rfl) (.cons (pats_no rfl) (.cons (pats_no rfl) (.cons (pats_no rfl) (.cons (pats_no rfl) (.cons p8 (.cons p9 (.cons p10 (.cons p11 (.cons (pats_no rfl) (.cons (pats_no rfl) (.cons (pats_no rfl) (.cons (pats_no rfl) (.cons (pats_no rfl) (.cons (pats_no rfl) (.cons (pats_no rfl) (.cons (pats_no rfl) (.cons (pats_no rfl) (.cons (pats_no rfl) (.cons (pats_no rfl) (.cons (pats_no rfl) (.cons p24 (.cons p25 (.cons (pats_no rfl) (.cons (pats_no rfl) (.cons (pats_no rfl) (.cons (pats_no rfl) (.cons (pats_no rfl) (.cons p31 (.cons (pats_no rfl) (.cons (pats_no rfl) (.cons (pats_no rfl) (.cons (pats_no rfl) (.cons p36 (.cons p37 (.cons p38 (.cons p39 (.cons p40 (.cons p41 (.cons p42 (.cons p43 (.cons p44 (.cons p45 (.cons p46 (.cons p47 (.cons p48 (.cons p49 (.cons p50 (.cons p51 (.cons p52 (.cons p53 (.cons p54 (.cons p55 (.cons p56 (.cons p57 (.cons p58 (.cons p59 (.cons p60 (.cons p61 (.cons p62 (.cons p63 (.cons p64 (.cons p65 (.cons p66 (.cons p67 (.cons p68 (.cons p69 (.cons p70 (.cons p71 .nil))))))))))))))))))))))))))))))))))))))))))))))))))))))))))))))))))))))))
def lo0 : List Str := [(⟨#[95, 119, 97, 108, 108]⟩ : PySem.Str), (⟨#[77, 97, 114, 107, 69, 114, 114, 111, 114]⟩ : PySem.Str), (⟨#[78, 111, 69, 110, 116, 114, 121]⟩ : PySem.Str), (⟨#[78, 111, 86, 97, 108, 117, 101]⟩ : PySem.Str), (⟨#[78, 111, 70, 97, 117, 108, 116]⟩ : PySem.Str), (⟨#[66, 97, 100, 83, 105, 122, 101]⟩ : PySem.Str), (⟨#[78, 111, 67, 104, 97, 110, 110, 101, 108]⟩ : PySem.Str), (⟨#[78, 111, 79, 112, 101, 114, 97, 116, 111, 114]⟩ : PySem.Str), (⟨#[85, 110, 102, 101, 100]⟩ : PySem.Str), (⟨#[77, 79, 83, 84, 95, 79, 80, 69, 82, 65, 84, 79, 82, 83]⟩ : PySem.Str), (⟨#[77, 79, 83, 84, 95, 67, 72, 65, 78, 78, 69, 76, 83]⟩ : PySem.Str), (⟨#[114, 101, 97, 99, 104, 101, 100, 95, 102, 114, 111, 109]⟩ : PySem.Str), (⟨#[119, 105, 116, 104, 111, 117, 116, 95, 105, 110, 112, 117, 116, 115]⟩ : PySem.Str), (⟨#[99, 104, 101, 99, 107, 95, 99, 104, 97, 110, 110, 101, 108, 115]⟩ : PySem.Str), (⟨#[71, 114, 97, 112, 104]⟩ : PySem.Str), (⟨#[99, 104, 101, 99, 107, 95, 111, 112, 101, 114, 97, 116, 111, 114]⟩ : PySem.Str), (⟨#[66, 79, 79, 75, 95, 67, 72, 79, 73, 67, 69, 83]⟩ : PySem.Str), (⟨#[79, 85, 84, 76, 69, 84, 95, 67, 72, 79, 73, 67, 69, 83]⟩ : PySem.Str), (⟨#[83, 84, 69, 80, 83, 95, 68, 79, 87, 78]⟩ : PySem.Str), (⟨#[111, 110, 101, 95, 119, 101, 97, 107, 101, 114]⟩ : PySem.Str), (⟨#[97, 116, 95, 109, 111, 115, 116]⟩ : PySem.Str), (⟨#[82, 117, 108, 101, 115]⟩ : PySem.Str), (⟨#[66, 111, 111, 107]⟩ : PySem.Str), (⟨#[79, 117, 116, 108, 101, 116]⟩ : PySem.Str), (⟨#[69, 86, 69, 78, 84, 83]⟩ : PySem.Str), (⟨#[82, 69, 83, 85, 76, 84, 95, 69, 86, 69, 78, 84, 83]⟩ : PySem.Str), (⟨#[83, 69, 78, 68, 69, 82, 95, 66, 69, 70, 79, 82, 69]⟩ : PySem.Str), (⟨#[83, 69, 78, 68, 69, 82, 95, 65, 70, 84, 69, 82]⟩ : PySem.Str), (⟨#[109, 111, 109, 101, 110, 116]⟩ : PySem.Str), (⟨#[97, 102, 116, 101, 114, 95, 109, 97, 107, 101]⟩ : PySem.Str)]
def lo1 : List Str := [(⟨#[97, 102, 116, 101, 114, 95, 115, 101, 110, 100, 101, 114]⟩ : PySem.Str), (⟨#[97, 102, 116, 101, 114, 95, 116, 97, 107, 101]⟩ : PySem.Str), (⟨#[97, 102, 116, 101, 114, 95, 98, 97, 114, 114, 105, 101, 114]⟩ : PySem.Str), (⟨#[97, 102, 116, 101, 114, 95, 111, 116, 104, 101, 114]⟩ : PySem.Str), (⟨#[97, 102, 116, 101, 114, 95, 102, 97, 105, 108, 117, 114, 101]⟩ : PySem.Str), (⟨#[97, 102, 116, 101, 114, 95, 114, 101, 115, 117, 108, 116]⟩ : PySem.Str), (⟨#[97, 102, 116, 101, 114]⟩ : PySem.Str), (⟨#[101, 118, 101, 110, 116, 115, 95, 111, 102]⟩ : PySem.Str), (⟨#[115, 116, 97, 114, 116, 95, 111, 102]⟩ : PySem.Str), (⟨#[115, 116, 97, 114, 116, 115, 95, 111, 102]⟩ : PySem.Str), (⟨#[115, 116, 97, 110, 100, 105, 110, 103, 115]⟩ : PySem.Str), (⟨#[115, 104, 111, 119, 115, 95, 114, 101, 115, 117, 108, 116]⟩ : PySem.Str), (⟨#[115, 104, 111, 119, 115]⟩ : PySem.Str), (⟨#[66, 79, 79, 75, 95, 70, 65, 85, 76, 84, 83]⟩ : PySem.Str), (⟨#[79, 85, 84, 76, 69, 84, 95, 70, 65, 85, 76, 84, 83]⟩ : PySem.Str), (⟨#[83, 72, 65, 80, 69, 83]⟩ : PySem.Str), (⟨#[86, 101, 114, 100, 105, 99, 116]⟩ : PySem.Str), (⟨#[115, 104, 111, 114, 116, 101, 115, 116]⟩ : PySem.Str), (⟨#[99, 97, 117, 115, 101, 95, 111, 102]⟩ : PySem.Str), (⟨#[115, 116, 101, 112, 115, 95, 111, 102]⟩ : PySem.Str), (⟨#[102, 105, 116, 116, 105, 110, 103, 95, 115, 104, 97, 112, 101, 115]⟩ : PySem.Str), (⟨#[106, 117, 100, 103, 101, 95, 115, 116, 117, 99, 107]⟩ : PySem.Str), (⟨#[107, 101, 112, 116, 95, 98, 121]⟩ : PySem.Str), (⟨#[106, 117, 100, 103, 101, 95, 111, 117, 116, 108, 101, 116]⟩ : PySem.Str), (⟨#[115, 104, 97, 112, 101, 95, 102, 111, 117, 110, 100]⟩ : PySem.Str), (⟨#[99, 104, 101, 99, 107, 95, 102, 97, 117, 108, 116]⟩ : PySem.Str), (⟨#[106, 117, 100, 103, 101]⟩ : PySem.Str), (⟨#[95, 108, 97, 119, 95, 99, 101, 108, 108]⟩ : PySem.Str), (⟨#[95, 108, 97, 119, 95, 109, 111, 100]⟩ : PySem.Str), (⟨#[95, 108, 97, 119, 95, 114, 111, 119]⟩ : PySem.Str)]
def lo2 : List Str := [(⟨#[95, 108, 97, 119, 95, 99, 104, 111, 105, 99, 101, 115]⟩ : PySem.Str), (⟨#[95, 108, 97, 119, 95, 118, 97, 108, 117, 101, 115]⟩ : PySem.Str), (⟨#[95, 108, 97, 119, 95, 114, 117, 108, 101, 115]⟩ : PySem.Str), (⟨#[95, 108, 97, 119, 95, 114, 105, 103, 104, 116]⟩ : PySem.Str), (⟨#[95, 108, 97, 119, 95, 115, 101, 116, 116, 108, 101, 100]⟩ : PySem.Str)]
def loose : List Str := lo0 ++ lo1 ++ lo2
abbrev R : PySem.W.OpenRow := PySem.W.OpenLaw.row PySem.Challenge.rw_travelmarks_k50_whole_result_shown_exact
def as0 : List Nat := [2, 3, 6, 4, 21, 31, 51, 70, 89, 108, 127, 146, 165, 172, 177, 184, 256, 267, 282, 295, 296, 319, 326, 383, 444, 466, 469, 470, 471, 472, 479, 486, 493, 500, 507, 514, 521, 528, 535, 542, 549, 556, 561, 568, 575, 576, 577, 735, 756, 765, 772, 779, 784, 791, 796, 801, 806, 813, 820, 827, 834, 841, 848, 853, 860, 867, 874, 879, 878, 873, 866, 859, 852, 847, 840, 833, 826, 819, 812, 805, 800, 795, 790, 783, 778, 771, 764, 755, 597, 632, 661, 690, 734, 574, 567, 560, 555, 548, 541, 534, 527, 520, 513, 506, 499, 492, 485, 478, 465, 443, 382, 325, 318, 297, 298, 299, 300, 301, 302, 303, 304, 305, 306, 307, 308, 309, 310, 311, 312, 284, 286, 288, 290, 292, 294, 269, 271, 273, 275, 277, 279, 281, 266, 255, 183, 176, 171, 164, 145, 126, 107, 88, 69, 50, 30, 20, 15, 16, 17, 18, 19, 29, 32, 48, 49, 67, 68, 86, 87, 105, 106, 124, 125, 143, 144, 162, 163, 168, 169, 170, 173, 174, 175, 178, 179, 180, 181, 182, 196, 203, 210, 217, 224, 229, 234, 241, 246, 253, 254, 257, 258, 261, 262, 263, 264, 265, 280, 278, 276, 274, 272, 270, 268, 293, 291, 289, 287, 285, 283, 313, 314, 315, 316, 317, 320, 321, 322, 323, 324, 340, 347, 354, 361, 368, 375, 380, 381, 384, 385, 404, 413, 423, 433, 441, 442, 463, 464, 473, 474, 475, 476, 477, 480, 481, 482, 483, 484, 487, 488, 489, 490, 491, 494, 495, 496, 497, 498, 501, 502, 503, 504, 505, 508, 509, 510, 511, 512, 515, 516, 517, 518, 519, 522, 523, 524, 525, 526, 529, 530, 531, 532, 533, 536, 537, 538, 539, 540, 543, 544, 545, 546, 547, 550, 551, 552, 553, 554, 557, 558, 559, 562, 563, 564, 565, 566, 569, 570, 571, 572, 573, 695, 733, 665, 689, 636, 660, 600, 631, 579, 596, 753, 754, 757, 758, 761, 762, 763, 766, 767, 768, 769, 770, 773, 774, 775, 776, 777, 780, 781, 782, 785, 786, 787, 788, 789, 792, 793, 794, 797, 798, 799, 802, 803, 804, 807, 808, 809, 810, 811, 814, 815, 816, 817, 818, 821, 822, 823, 824, 825, 828, 829, 830, 831, 832, 835, 836, 837, 838, 839, 842, 843, 844, 845, 846, 849, 850, 851, 854, 855, 856, 857, 858, 861, 862, 863, 864, 865, 868, 869, 870, 871, 872, 875, 876, 877, 752, 746, 583, 587, 591, 595, 578, 604, 608, 612, 616, 620, 625, 630, 598, 599, 642, 646, 650, 654, 659, 633, 634, 635, 670, 675, 680, 684, 688, 662, 663, 664, 700, 705, 710, 714, 718, 722, 727, 732, 691, 692, 693, 694, 462, 455, 450, 440, 431, 421, 411, 403, 396, 391, 379, 374, 367, 360, 353, 346, 339, 252, 245, 240, 233, 228, 223, 216, 209, 202, 195, 161, 142, 123, 104, 85, 66, 47, 42, 43, 44, 45, 46, 61, 62, 63, 64, 65, 80, 81, 82, 83, 84, 99, 100, 101, 102, 103, 118, 119, 120, 121, 122, 137, 138, 139, 140, 141, 156, 157, 158, 159, 160, 192, 193, 194, 197, 198, 199, 200, 201, 204, 205, 206, 207, 208, 211, 212, 213, 214, 215, 218, 219, 220, 221, 222, 225, 226, 227, 230, 231, 232, 235, 236, 237, 238, 239, 242, 243, 244, 247, 248, 249, 250, 251, 334, 335, 336, 337, 338, 341, 342, 343, 344, 345, 348, 349, 350, 351, 352, 355, 356, 357, 358, 359, 362, 363, 364, 365, 366, 369, 370, 371, 372, 373, 376, 377, 378, 398, 399, 400, 401, 402, 410, 420, 430, 435, 436, 437, 438, 439, 457, 458, 459, 460, 461, 728, 731, 723, 726, 719, 721, 715, 717, 711, 713, 706, 709, 701, 704, 696, 699, 685, 687, 681, 683, 676, 679, 671, 674, 666, 669, 655, 658, 651, 653, 647, 649, 643, 645, 637, 641, 626, 629, 621, 624, 617, 619, 613, 615, 609, 611, 605, 607, 601, 603, 592, 594, 588, 590, 584, 586, 580, 582, 743, 744, 745, 747, 748, 749, 750, 751, 581, 585, 589, 593, 602, 606, 610, 614, 618, 622, 623, 627, 628, 638, 639, 640, 644, 648, 652, 656, 657, 667, 668, 672, 673, 677, 678, 682, 686, 697, 698, 702, 703, 707, 708, 712, 716, 720, 724, 725, 729, 730, 425, 426, 427, 428, 429, 415, 416, 417, 418, 419, 405, 406, 407, 408, 409]
abbrev hk : PySem.W.Hook := hookP as0 I P
def ob (s : PySem.W.SharedT) : AlP := obsPG as0 I P (HandSHeadRun.getT s)
theorem ob_eq (s : PySem.W.SharedT) : ob s = hk.obs s.abs := obsPG_eq (HandSHeadRun.getT_eq s)
theorem runF1 (w : World) : EV.RunB1 R (PySem.W.view R.prog [71]) 20000 21 loose (w.withFollow "special-get-raises" false) := by
  intro os ps
  kernel_rfl
theorem runT1 (w : World) : EV.RunB1 R (PySem.W.view R.prog [71]) 20000 21 loose (w.withFollow "special-get-raises" true) := by
  intro os ps
  kernel_rfl
abbrev kf (s : PySem.W.SharedT) : PySem.W.Frag := He.frG (HandSHeadRun.getT s) as0
theorem runF2 (w : World) : EV.RunB3 R (fun s => (allA I (kf s), (obsP I P (kf s)).2)) (fun w => (true, (hk.val w).2)) 20000 21 (w.withFollow "special-get-raises" false) := by
  intro os ps
  kernel_rfl
theorem runT2 (w : World) : EV.RunB3 R (fun s => (allA I (kf s), (obsP I P (kf s)).2)) (fun w => (true, (hk.val w).2)) 20000 21 (w.withFollow "special-get-raises" true) := by
  intro os ps
  kernel_rfl
theorem runF3 (w : World) : EV.RunB3 R (fun s => allR I P (kf s)) (fun _ => true) 20000 21 (w.withFollow "special-get-raises" false) := by
  intro os ps
  kernel_rfl
theorem runF4 (w : World) : EV.RunB3 R (fun s => allO I (kf s)) (fun _ => true) 20000 21 (w.withFollow "special-get-raises" false) := by
  intro os ps
  kernel_rfl
theorem runT4 (w : World) : EV.RunB3 R (fun s => allO I (kf s)) (fun _ => true) 20000 21 (w.withFollow "special-get-raises" true) := by
  intro os ps
  kernel_rfl
theorem runT3 (w : World) : EV.RunB3 R (fun s => allR I P (kf s)) (fun _ => true) 20000 21 (w.withFollow "special-get-raises" true) := by
  intro os ps
  kernel_rfl
theorem run (w : World) : EV.RunB R (PySem.W.view R.prog [71]) hk ob 20000 21 loose w := PySem.W.byRow2 "special-get-raises" (P := fun w => EV.RunB R (PySem.W.view R.prog [71]) hk ob 20000 21 loose w) (fun w => EV.runB_of (runF1 w) (EV.runB2_of (fun s h1 h2 => obs_of rfl h1 h2) (runF2 w) (EV.runB3_and (runF4 w) (runF3 w)))) (fun w => EV.runB_of (runT1 w) (EV.runB2_of (fun s h1 h2 => obs_of rfl h1 h2) (runT2 w) (EV.runB3_and (runT4 w) (runT3 w)))) w
end K50
open PySem PySem.W PySem.Calls PyProof.Rows PD
theorem k50_head (law : ∀ ns : List Int, ns.length ≤ 63 → ∃ S, callN K50.G (20 + 1) 71 [.rol (ns.map .int)] [] = .ok (.bl true) S) : PySem.Challenge.rw_travelmarks_k50_whole_result_shown_exact.Holds := by
  w_on; o_law
  refine EV.head_ev (r := OpenLaw.row PySem.Challenge.rw_travelmarks_k50_whole_result_shown_exact) (q := view (OpenLaw.row PySem.Challenge.rw_travelmarks_k50_whole_result_shown_exact).prog [71]) (H := K50.hk) (ob := K50.ob) (N := 20000) (i := 21) (loose := K50.loose) (d := HandSHeadRun.topDef (OpenLaw.row PySem.Challenge.rw_travelmarks_k50_whole_result_shown_exact).prog 71) (kwd := []) K50.ob_eq
    (by kernel_rfl) (fun s => by kernel_rfl) K50.run (by kernel_rfl) (by kernel_rfl) (by kernel_rfl) (by rfl) (by first | assumption | decide +kernel) (by decide +kernel) ⟨rfl, rfl, rfl, rfl, rfl, by decide +kernel⟩ ?hw ?hc
  case hw => w_witness2
  case hc => exact PD.law_pd (l := PySem.Challenge.rw_travelmarks_k50_whole_result_shown_exact) K50.closed (N := 20) (n := 63) (lf := 71) (df := K50.d71) (di := K50.j71) (sd := K50.s71) K50.cov K50.clb K50.pats (by kernel_rfl) rfl (by decide) (by kernel_rfl) ⟨rfl, by decide, by decide⟩ rfl (by decide) rfl rfl rfl (by kernel_rfl) (List.mem_of_getElem? (i := 42) rfl) rfl rfl K50.b71_0 law
end Sec40
section Sec41
set_option linter.all false
set_option maxRecDepth 100000
/-! LW0: what holds behind a run of the deep language, by what must hold ahead of it. -/
namespace PD
def W {α : Type} (x : R α) (Q : α → Sto → Prop) : Prop := match x with
  | .ok a s => Q a s
  | _ => False
def V (x : SR) (N : Fr → Sto → Prop) (T : D → Sto → Prop) : Prop := match x with
  | .nx fr s => N fr s
  | .rt d s => T d s
  | _ => False
theorem W_ok {α : Type} (a : α) (s : Sto) (Q : α → Sto → Prop) : W (.ok a s) Q ↔ Q a s := Iff.rfl
theorem W_no {α : Type} (Q : α → Sto → Prop) : W (.no : R α) Q ↔ False := Iff.rfl
theorem V_no (N : Fr → Sto → Prop) (T : D → Sto → Prop) : V .no N T ↔ False := Iff.rfl
theorem W_bind {α β : Type} (x : R α) (f : α → Sto → R β) (Q : β → Sto → Prop) : W (x.bind f) Q ↔ W x fun a s => W (f a s) Q := by cases x <;> exact Iff.rfl
theorem W_mono {α : Type} {x : R α} {Q Q' : α → Sto → Prop} (h : W x Q) (m : ∀ a s, Q a s → Q' a s) : W x Q' := by cases x <;> first | exact m _ _ h | exact h.elim
theorem W_get {α : Type} {x : R α} {Q : α → Sto → Prop} (h : W x Q) : ∃ a s, x = .ok a s ∧ Q a s := by cases x <;> first | exact ⟨_, _, rfl, h⟩ | exact h.elim
theorem W_eq {α : Type} {x : R α} {a : α} {s : Sto} {Q : α → Sto → Prop} (e : x = .ok a s) (h : Q a s) : W x Q := by rw [e]; exact h
theorem V_nx (fr : Fr) (s : Sto) (N : Fr → Sto → Prop) (T : D → Sto → Prop) : V (.nx fr s) N T ↔ N fr s := Iff.rfl
theorem V_rt (d : D) (s : Sto) (N : Fr → Sto → Prop) (T : D → Sto → Prop) : V (.rt d s) N T ↔ T d s := Iff.rfl
theorem V_of {α : Type} (x : R α) (fr : Fr) (f : α → Sto → SR) (N : Fr → Sto → Prop) (T : D → Sto → Prop) : V (SR.of x fr f) N T ↔ W x fun a s => V (f a s) N T := by cases x <;> exact Iff.rfl
theorem V_mono {x : SR} {N N' : Fr → Sto → Prop} {T T' : D → Sto → Prop} (h : V x N T) (m : ∀ a s, N a s → N' a s) (k : ∀ a s, T a s → T' a s) : V x N' T' := by cases x <;> first | exact m _ _ h | exact k _ _ h | exact h.elim
theorem W_end (x : SR) (Q : D → Sto → Prop) : W (endD x) Q ↔ V x (fun _ s => Q .non s) Q := by cases x <;> exact Iff.rfl
theorem V_nil (G : Pg) (c : Call) (fr : Fr) (s : Sto) (N : Fr → Sto → Prop) (T : D → Sto → Prop) : V (evSs G c [] fr s) N T ↔ N fr s := by simp [evSs, V]
theorem V_cons (G : Pg) (c : Call) (t : St) (ts : List St) (fr : Fr) (s : Sto) (N : Fr → Sto → Prop) (T : D → Sto → Prop) : V (evSs G c (t :: ts) fr s) N T ↔ V (evS G c t fr s) (fun fr s => V (evSs G c ts fr s) N T) T := by
  rw [evSs]; cases evS G c t fr s <;> exact Iff.rfl
/-- a test's two ways -/
def Br (d : D) (A B : Prop) : Prop := match d with
  | .bl true => A
  | .bl false => B
  | _ => False
theorem Br_bl (b : Bool) (A B : Prop) : Br (.bl b) A B ↔ (b = true → A) ∧ (b = false → B) := by cases b <;> simp [Br]
theorem Br_t (A B : Prop) : Br (.bl true) A B ↔ A := Iff.rfl
theorem Br_f (A B : Prop) : Br (.bl false) A B ↔ B := Iff.rfl
section
variable (G : Pg) (c : Call) (fr : Fr) (s : Sto) (Q : D → Sto → Prop) (N : Fr → Sto → Prop) (T : D → Sto → Prop)
theorem V_if (e : E) (a b : List St) : V (evS G c (.if_ e a b) fr s) N T ↔ W (evE G c e fr s) fun x s1 => Br x (V (evSs G c a fr s1) N T) (V (evSs G c b fr s1) N T) := by
  rw [evS]; cases h : evE G c e fr s with
  | ok x s1 => cases x with
    | bl b => cases b <;> exact Iff.rfl
    | _ => exact Iff.rfl
  | _ => exact Iff.rfl
theorem V_asg (t : CT) (e : E) : V (evS G c (.asg t e) fr s) N T ↔ W (evE G c e fr s) fun v s1 => ∃ fr', letT t v fr = some fr' ∧ N fr' s1 := by
  rw [evS, V_of]
  exact iff_of_eq (congrArg _ (funext fun v => funext fun s1 => by cases letT t v fr <;> simp [V]))
theorem V_ret (e : E) : V (evS G c (.ret e) fr s) N T ↔ W (evE G c e fr s) T := by rw [evS, V_of]; exact Iff.rfl
theorem V_retN : V (evS G c .retN fr s) N T ↔ T .non s := by rw [evS]; exact Iff.rfl
theorem V_pass : V (evS G c .pass fr s) N T ↔ N fr s := by rw [evS]; exact Iff.rfl
theorem V_expr (e : E) : V (evS G c (.expr e) fr s) N T ↔ W (evE G c e fr s) fun _ s1 => N fr s1 := by rw [evS, V_of]; exact Iff.rfl
theorem V_asgF (a : E) (f : Nat) (e : E) : V (evS G c (.asgF a f e) fr s) N T ↔ W (evE G c e fr s) fun v s1 => W (evE G c a fr s1) fun x s2 => W (setFD G c x f v s2) fun _ s3 => N fr s3 := by
  simp only [evS, V_of, V_nx]
theorem V_asgS (a i e : E) : V (evS G c (.asgS a i e) fr s) N T ↔ W (evE G c e fr s) fun v s1 => W (evE G c a fr s1) fun x s2 => W (evE G c i fr s2) fun y s3 => W (setSB x y v s3) fun _ s4 => N fr s4 := by
  simp only [evS, V_of, V_nx]
theorem V_augN (i : Nat) (o : BO) (e : E) : V (evS G c (.augN i o e) fr s) N T ↔ ∃ x, nthFr fr i = some x ∧ W (evE G c e fr s) fun y s1 => W (augD o x y s1) fun z s2 => N (fr.set i (some z)) s2 := by
  rw [evS]; cases nthFr fr i <;> simp [V_of, V_nx, V_no]
theorem V_for (t : CT) (wb : Option BI) (its : List E) (b : List St) : V (evS G c (.for_ t wb its b) fr s) N T ↔ W (evEs G c its fr s) fun vs s1 => V (forG (srcAt (walkG wb vs s1)) (fun d fr s => forT t (evSs G c b) d fr s) fuelL 0 fr s1) N T := by
  rw [evS, V_of]
theorem V_while (e : E) (b : List St) : V (evS G c (.while_ e b) fr s) N T ↔ V (whileD (evE G c e) (evSs G c b) fuelL fr s) N T := by rw [evS]
theorem W_nil (Q : List D → Sto → Prop) : W (evEs G c [] fr s) Q ↔ Q [] s := by rw [evEs]; exact Iff.rfl
theorem W_cons (e : E) (es : List E) (Q : List D → Sto → Prop) : W (evEs G c (e :: es) fr s) Q ↔ W (evE G c e fr s) fun v s1 => W (evEs G c es fr s1) fun vs s2 => Q (v :: vs) s2 := by
  simp only [evEs, W_bind, W_ok]
theorem W_var (i : Nat) : W (evE G c (.var i) fr s) Q ↔ ∃ d, nthFr fr i = some d ∧ Q d s := by rw [evE]; cases nthFr fr i <;> simp [W]
theorem W_lit (d : D) : W (evE G c (.lit d) fr s) Q ↔ Q d s := by rw [evE]; exact Iff.rfl
theorem W_con (k : Nat) : W (evE G c (.con k) fr s) Q ↔ ∃ d, nth G.cons k = some d ∧ Q d s := by rw [evE]; cases nth G.cons k <;> simp [W]
theorem W_tup (es : List E) : W (evE G c (.tup es) fr s) Q ↔ W (evEs G c es fr s) fun vs s1 => Nat.ble vs.length line = true ∧ Q (.tup vs) s1 := by
  rw [evE, W_bind]
  exact iff_of_eq (congrArg _ (funext fun v => funext fun s1 => by cases h : Nat.ble v.length line <;> simp [W]))
theorem W_lst (es : List E) : W (evE G c (.lst es) fr s) Q ↔ W (evEs G c es fr s) fun vs s1 => Nat.ble vs.length line = true ∧ Q (.ref s1.length) (s1 ++ [.lst vs]) := by
  rw [evE, W_bind]
  exact iff_of_eq (congrArg _ (funext fun v => funext fun s1 => by cases h : Nat.ble v.length line <;> simp [W, new1]))
theorem W_dnew (t : Bool) : W (evE G c (.dnew t) fr s) Q ↔ Q (.ref s.length) (s ++ [.dct t []]) := by rw [evE]; exact Iff.rfl
theorem W_disp (kvs : List (D × D)) : W (evE G c (.disp kvs) fr s) Q ↔ Q (.ref s.length) (s ++ [.dct false (mergeD [] kvs)]) := by rw [evE]; exact Iff.rfl
theorem W_bin (o : BO) (a b : E) : W (evE G c (.bin o a b) fr s) Q ↔ W (evE G c a fr s) fun x s1 => W (evE G c b fr s1) fun y s2 => W (binD o x y s2) Q := by simp only [evE, W_bind]
theorem W_cmp (o : CO) (a b : E) : W (evE G c (.cmp o a b) fr s) Q ↔ W (evE G c a fr s) fun x s1 => W (evE G c b fr s1) fun y s2 => W (cmpR o x y s2) Q := by simp only [evE, W_bind]
theorem W_neg (a : E) : W (evE G c (.neg a) fr s) Q ↔ W (evE G c a fr s) fun x s1 => ∃ i, x = .int i ∧ Q (.int (-i)) s1 := by
  rw [evE, W_bind]
  exact iff_of_eq (congrArg _ (funext fun v => funext fun s1 => by cases v <;> simp [W]))
theorem W_and (a b : E) : W (evE G c (.and_ a b) fr s) Q ↔ W (evE G c a fr s) fun x s1 => Br x (W (evE G c b fr s1) Q) (Q (.bl false) s1) := by
  rw [evE, W_bind]
  exact iff_of_eq (congrArg _ (funext fun v => funext fun s1 => by
    cases v with
    | bl b => cases b <;> simp [W, Br]
    | _ => simp [W, Br]))
theorem W_or (a b : E) : W (evE G c (.or_ a b) fr s) Q ↔ W (evE G c a fr s) fun x s1 => Br x (Q (.bl true) s1) (W (evE G c b fr s1) Q) := by
  rw [evE, W_bind]
  exact iff_of_eq (congrArg _ (funext fun v => funext fun s1 => by
    cases v with
    | bl b => cases b <;> simp [W, Br]
    | _ => simp [W, Br]))
theorem W_ite (e a b : E) : W (evE G c (.ite e a b) fr s) Q ↔ W (evE G c e fr s) fun x s1 => Br x (W (evE G c a fr s1) Q) (W (evE G c b fr s1) Q) := by
  rw [evE, W_bind]
  exact iff_of_eq (congrArg _ (funext fun v => funext fun s1 => by
    cases v with
    | bl b => cases b <;> simp [W, Br]
    | _ => simp [W, Br]))
theorem W_not (a : E) : W (evE G c (.not_ a) fr s) Q ↔ W (evE G c a fr s) fun x s1 => ∃ b, x = .bl b ∧ Q (.bl (!b)) s1 := by
  rw [evE, W_bind]
  exact iff_of_eq (congrArg _ (funext fun v => funext fun s1 => by cases v <;> simp [W]))
theorem W_chain (o o' : CO) (a b d : E) : W (evE G c (.chain o o' a b d) fr s) Q ↔ W (evE G c a fr s) fun x s1 => W (evE G c b fr s1) fun y s2 => W (cmpR o x y s2) fun z s3 => Br z (W (evE G c d fr s3) fun w s4 => W (cmpR o' y w s4) Q) (Q (.bl false) s3) := by
  simp only [evE, W_bind]
  refine iff_of_eq (congrArg _ (funext fun x => funext fun s1 => congrArg _ (funext fun y => funext fun s2 => congrArg _ (funext fun v => funext fun s3 => ?_))))
  cases v with
    | bl b => cases b <;> simp [W_ok, Br, W_bind]
    | _ => simp [W_no, Br]
theorem W_fld (a : E) (f : Nat) : W (evE G c (.fld a f) fr s) Q ↔ W (evE G c a fr s) fun x s1 => W (fldD G c x f s1) Q := by simp only [evE, W_bind]
theorem W_ix (a i : E) : W (evE G c (.ix a i) fr s) Q ↔ W (evE G c a fr s) fun x s1 => W (evE G c i fr s1) fun y s2 => W (ixD G c x y s2) Q := by simp only [evE, W_bind]
theorem W_bi (b : BI) (es : List E) : W (evE G c (.bi b es) fr s) Q ↔ W (evEs G c es fr s) fun vs s1 => W (biD b vs s1) Q := by simp only [evE, W_bind]
theorem W_call (f : Nat) (es : List E) (ks : List Nat) (vs : List E) : W (evE G c (.call f es ks vs) fr s) Q ↔ W (evEs G c es fr s) fun xs s1 => W (evEs G c vs fr s1) fun ys s2 => W (callA G c f xs ks ys s2) Q := by simp only [evE, W_bind]
theorem W_new (f : Nat) (es : List E) (ks : List Nat) (vs : List E) : W (evE G c (.new f es ks vs) fr s) Q ↔ W (evEs G c es fr s) fun xs s1 => W (evEs G c vs fr s1) fun ys s2 => W (newD G c f xs ks ys s2) Q := by simp only [evE, W_bind]
theorem W_meth (a : E) (m : Nat) (es : List E) : W (evE G c (.meth a m es) fr s) Q ↔ W (evE G c a fr s) fun x s1 => ∃ t, methD G x m s1 = some t ∧ W (evEs G c es fr s1) fun vs s2 => W (mtcD G c t x vs s2) Q := by
  simp only [evE, W_bind, methK]
  exact iff_of_eq (congrArg _ (funext fun x => funext fun s1 => by cases methD G x m s1 <;> simp [W_no, W_bind]))
theorem W_sl (a : E) (lo hi : List E) : W (evE G c (.sl a lo hi) fr s) Q ↔ W (evE G c a fr s) fun x s1 => W (partR (evEs G c lo fr s1)) fun l s2 => W (partR (evEs G c hi fr s2)) fun h s3 => W (slD x l h s3) Q := by simp only [evE, W_bind]
theorem W_isi (a : E) (k : Nat) : W (evE G c (.isi a k) fr s) Q ↔ W (evE G c a fr s) fun x s1 => W (isiD G x k s1) Q := by simp only [evE, W_bind]
theorem W_scall (d f : Nat) (es : List E) : W (evE G c (.scall d f es) fr s) Q ↔ ∃ l, nthFr fr 0 = some (.ref l) ∧ insOf s l d = true ∧ W (evEs G c es fr s) fun vs s1 => W (callA G c f (.ref l :: vs) [] [] s1) Q := by
  rw [evE]
  cases h : nthFr fr 0 with
  | none => simp [W_no]
  | some x => cases x with
    | ref l => cases h2 : insOf s l d <;> simp [W_no, W_bind, h2]
    | _ => simp [W]
theorem W_lc (own : List Nat) (t : CT) (wb : Option BI) (its : List E) (p e : E) : W (evE G c (.lc own t wb its p e) fr s) Q ↔ W (evEs G c its fr s) fun vs s1 =>
      W (compG (srcAt (walkG wb vs s1)) (fun d s => lcT own t (evE G c p) (evE G c e) fr d s) s1.length fuelL 0 (s1 ++ [.lst []])) fun _ s2 => Q (.ref s1.length) s2 := by simp only [evE, W_bind, W_ok]
theorem W_dc (tk : Bool) (own : List Nat) (t : CT) (wb : Option BI) (its : List E) (k e : E) : W (evE G c (.dc tk own t wb its k e) fr s) Q ↔ W (evEs G c its fr s) fun vs s1 =>
      W (dctG tk (srcAt (walkG wb vs s1)) (fun d s => dcT own t (evE G c k) (evE G c e) fr d s) s1.length fuelL 0 (s1 ++ [.dct tk []])) fun _ s2 => Q (.ref s1.length) s2 := by simp only [evE, W_bind, W_ok]
end
end PD
end Sec41
section Sec42
set_option linter.all false
set_option maxRecDepth 100000
/-! LW1: pure expressions, and steps over statements. -/
namespace PD
theorem nth_app {α : Type} {s : List α} {l : Nat} {o : α} (t : List α) (h : nth s l = some o) : nth (s ++ t) l = some o := by
  induction s generalizing l with
  | nil => cases l <;> cases h
  | cons x r ih => cases l with
    | zero => exact h
    | succ n => exact ih h
theorem nth_len {α : Type} (s : List α) (o : α) (t : List α) : nth (s ++ o :: t) s.length = some o := by
  induction s with
  | nil => rfl
  | cons x r ih => exact ih
theorem nth_lt {α : Type} {s : List α} {l : Nat} {o : α} (h : nth s l = some o) : l < s.length := by
  induction s generalizing l with
  | nil => cases l <;> cases h
  | cons x r ih => cases l with
    | zero => exact Nat.succ_pos _
    | succ n => exact Nat.succ_lt_succ (ih h)
theorem nth_set_eq {α : Type} {s : List α} {l : Nat} {o p : α} (h : nth s l = some o) : nth (s.set l p) l = some p := by
  induction s generalizing l with
  | nil => cases l <;> cases h
  | cons x r ih => cases l with
    | zero => rfl
    | succ n => exact ih h
theorem nth_set_ne {α : Type} {s : List α} {l k : Nat} {p : α} (h : l ≠ k) : nth (s.set l p) k = nth s k := by
  induction s generalizing l k with
  | nil => cases l <;> rfl
  | cons x r ih => cases l with
    | zero => cases k with
      | zero => exact (h rfl).elim
      | succ n => rfl
    | succ n => cases k with
      | zero => rfl
      | succ m => exact ih (fun e => h (congrArg _ e))
abbrev N' (n : Nat) : D := .int (Int.ofNat n)
section
variable {G : Pg} {c : Call} {fr : Fr} {s : Sto}
structure Pu (G : Pg) (c : Call) (fr : Fr) (s : Sto) (e : E) (d : D) : Prop where
  h : evE G c e fr s = .ok d s
structure Pus (G : Pg) (c : Call) (fr : Fr) (s : Sto) (e : List E) (d : List D) : Prop where
  h : evEs G c e fr s = .ok d s
theorem p_var {i : Nat} {d : D} (h : nthFr fr i = some d) : Pu G c fr s (.var i) d := ⟨by simp only [evE, h]⟩
theorem p_lit {d : D} : Pu G c fr s (.lit d) d := ⟨by simp only [evE]⟩
theorem p_con {k : Nat} {d : D} (h : nth G.cons k = some d) : Pu G c fr s (.con k) d := ⟨by simp only [evE, h]⟩
theorem p_and {a b : E} {p q : Bool} (h1 : Pu G c fr s a (.bl p)) (h2 : Pu G c fr s b (.bl q)) : Pu G c fr s (.and_ a b) (.bl (p && q)) := by
  constructor
  simp only [evE, h1.h, R.bind, h2.h]
  cases p <;> rfl
theorem p_or {a b : E} {p q : Bool} (h1 : Pu G c fr s a (.bl p)) (h2 : Pu G c fr s b (.bl q)) : Pu G c fr s (.or_ a b) (.bl (p || q)) := by
  constructor
  simp only [evE, h1.h, R.bind, h2.h]
  cases p <;> rfl
theorem p_not {a : E} {p : Bool} (h1 : Pu G c fr s a (.bl p)) : Pu G c fr s (.not_ a) (.bl (!p)) := by
  constructor
  simp only [evE, h1.h, R.bind]
theorem p_cmp {o : CO} {a b : E} {x y : D} {p : Bool} (h1 : Pu G c fr s a x) (h2 : Pu G c fr s b y) (h : cmpD o x y s = some p) : Pu G c fr s (.cmp o a b) (.bl p) := by
  constructor
  simp only [evE, h1.h, R.bind, h2.h, cmpR, h]
theorem p_bin {o : BO} {a b : E} {x y z : D} (h1 : Pu G c fr s a x) (h2 : Pu G c fr s b y) (h : binD o x y s = .ok z s) : Pu G c fr s (.bin o a b) z := by
  constructor
  simp only [evE, h1.h, R.bind, h2.h, h]
theorem p_tup {es : List E} {vs : List D} (h1 : Pus G c fr s es vs) (h : Nat.ble vs.length line = true) : Pu G c fr s (.tup es) (.tup vs) := by
  constructor
  simp only [evE, h1.h, R.bind, h, if_true]
theorem p_ix {a b : E} {x y z : D} (h1 : Pu G c fr s a x) (h2 : Pu G c fr s b y) (h : ixD G c x y s = .ok z s) : Pu G c fr s (.ix a b) z := by
  constructor
  simp only [evE, h1.h, R.bind, h2.h, h]
theorem p_fld {a : E} {f : Nat} {x z : D} (h1 : Pu G c fr s a x) (h : fldD G c x f s = .ok z s) : Pu G c fr s (.fld a f) z := by
  constructor
  simp only [evE, h1.h, R.bind, h]
theorem p_isi {a : E} {f : Nat} {x z : D} (h1 : Pu G c fr s a x) (h : isiD G x f s = .ok z s) : Pu G c fr s (.isi a f) z := by
  constructor
  simp only [evE, h1.h, R.bind, h]
theorem p_bi {b : BI} {es : List E} {vs : List D} {z : D} (h1 : Pus G c fr s es vs) (h : biD b vs s = .ok z s) : Pu G c fr s (.bi b es) z := by
  constructor
  simp only [evE, h1.h, R.bind, h]
theorem p_call {f : Nat} {es ws : List E} {ks : List Nat} {vs us : List D} {z : D} (h1 : Pus G c fr s es vs) (h2 : Pus G c fr s ws us) (h : callA G c f vs ks us s = .ok z s) : Pu G c fr s (.call f es ks ws) z := by
  constructor
  simp only [evE, h1.h, R.bind, h2.h, h]
theorem p_nil : Pus G c fr s [] [] := ⟨by simp only [evEs]⟩
theorem p_cons {e : E} {es : List E} {d : D} {ds : List D} (h1 : Pu G c fr s e d) (h2 : Pus G c fr s es ds) : Pus G c fr s (e :: es) (d :: ds) := by
  constructor
  simp only [evEs, h1.h, R.bind, h2.h]
/-! leaves -/
theorem dN (x y : Nat) : decide (Int.ofNat x = Int.ofNat y) = Nat.beq x y := by
  cases h : Nat.beq x y with
  | true => simp [Nat.eq_of_beq_eq_true h]
  | false => exact decide_eq_false fun e => Nat.ne_of_beq_eq_false h (Int.ofNat.inj e)
theorem dN_le (x y : Nat) : decide (Int.ofNat x ≤ Int.ofNat y) = Nat.ble x y := by
  cases h : Nat.ble x y with
  | true => simpa using Nat.le_of_ble_eq_true h
  | false => simp; exact Nat.not_le.mp fun e => by rw [Nat.ble_eq_true_of_le e] at h; cases h
theorem dN_lt (x y : Nat) : decide (Int.ofNat x < Int.ofNat y) = Nat.blt x y := by
  have := dN_le (x + 1) y
  rw [show Nat.blt x y = Nat.ble (x + 1) y from rfl, ← this]
  exact decide_eq_decide.mpr Iff.rfl
theorem c_eqN {x y : Nat} : cmpD .eq (N' x) (N' y) s = some (Nat.beq x y) := congrArg some (dN x y)
theorem c_neN {x y : Nat} : cmpD .ne (N' x) (N' y) s = some (!Nat.beq x y) := congrArg (fun b => some (!b)) (dN x y)
theorem c_ltN {x y : Nat} : cmpD .lt (N' x) (N' y) s = some (Nat.blt x y) := congrArg some (dN_lt x y)
theorem c_gtN {x y : Nat} : cmpD .gt (N' x) (N' y) s = some (Nat.blt y x) := congrArg some (dN_lt y x)
theorem c_leN {x y : Nat} : cmpD .le (N' x) (N' y) s = some (Nat.ble x y) := congrArg some (dN_le x y)
theorem c_geN {x y : Nat} : cmpD .ge (N' x) (N' y) s = some (Nat.ble y x) := congrArg some (dN_le y x)
theorem c_eqS {x y : Nat} : cmpD .eq (.str x) (.str y) s = some (Nat.beq x y) := rfl
theorem c_neS {x y : Nat} : cmpD .ne (.str x) (.str y) s = some (!Nat.beq x y) := rfl
theorem c_is {x : D} : cmpD .is_ x .non s = some (D.beq x .non) := by cases x <;> rfl
theorem c_isn {x : D} : cmpD .isn x .non s = some (!D.beq x .non) := by cases x <;> rfl
theorem c_isB {x y : Bool} : cmpD .is_ (.bl x) (.bl y) s = some (x == y) := rfl
theorem c_isnB {x y : Bool} : cmpD .isn (.bl x) (.bl y) s = some (!(x == y)) := rfl
theorem b_addN {x y : Nat} : binD .add (N' x) (N' y) s = .ok (N' (x + y)) s := rfl
theorem b_intB {p : Bool} : biD .int [.bl p] s = .ok (N' p.toNat) s := by cases p <;> rfl
theorem b_intN {x : Nat} : biD .int [N' x] s = .ok (N' x) s := rfl
theorem b_minN {x y : Nat} : biD .min [N' x, N' y] s = .ok (N' (Nat.min x y)) s := by
  show R.ok (D.int (if Int.ofNat y < Int.ofNat x then Int.ofNat y else Int.ofNat x)) s = _
  by_cases h : y < x
  · rw [if_pos (show Int.ofNat y < Int.ofNat x from Int.ofNat_lt.mpr h)]; exact congrArg (fun z => R.ok (N' z) s) (Nat.min_eq_right (Nat.le_of_lt h)).symm
  · rw [if_neg (show ¬ Int.ofNat y < Int.ofNat x from fun e => h (Int.ofNat_lt.mp e))]; exact congrArg (fun z => R.ok (N' z) s) (Nat.min_eq_left (Nat.le_of_not_lt h)).symm
theorem p_eqN {a b : E} {x y : Nat} (h1 : Pu G c fr s a (N' x)) (h2 : Pu G c fr s b (N' y)) : Pu G c fr s (.cmp .eq a b) (.bl (Nat.beq x y)) := p_cmp h1 h2 c_eqN
theorem p_neN {a b : E} {x y : Nat} (h1 : Pu G c fr s a (N' x)) (h2 : Pu G c fr s b (N' y)) : Pu G c fr s (.cmp .ne a b) (.bl (!Nat.beq x y)) := p_cmp h1 h2 c_neN
theorem p_ltN {a b : E} {x y : Nat} (h1 : Pu G c fr s a (N' x)) (h2 : Pu G c fr s b (N' y)) : Pu G c fr s (.cmp .lt a b) (.bl (Nat.blt x y)) := p_cmp h1 h2 c_ltN
theorem p_gtN {a b : E} {x y : Nat} (h1 : Pu G c fr s a (N' x)) (h2 : Pu G c fr s b (N' y)) : Pu G c fr s (.cmp .gt a b) (.bl (Nat.blt y x)) := p_cmp h1 h2 c_gtN
theorem p_leN {a b : E} {x y : Nat} (h1 : Pu G c fr s a (N' x)) (h2 : Pu G c fr s b (N' y)) : Pu G c fr s (.cmp .le a b) (.bl (Nat.ble x y)) := p_cmp h1 h2 c_leN
theorem p_geN {a b : E} {x y : Nat} (h1 : Pu G c fr s a (N' x)) (h2 : Pu G c fr s b (N' y)) : Pu G c fr s (.cmp .ge a b) (.bl (Nat.ble y x)) := p_cmp h1 h2 c_geN
theorem p_eqS {a b : E} {x y : Nat} (h1 : Pu G c fr s a (.str x)) (h2 : Pu G c fr s b (.str y)) : Pu G c fr s (.cmp .eq a b) (.bl (Nat.beq x y)) := p_cmp h1 h2 c_eqS
theorem p_neS {a b : E} {x y : Nat} (h1 : Pu G c fr s a (.str x)) (h2 : Pu G c fr s b (.str y)) : Pu G c fr s (.cmp .ne a b) (.bl (!Nat.beq x y)) := p_cmp h1 h2 c_neS
theorem p_isB {a b : E} {x y : Bool} (h1 : Pu G c fr s a (.bl x)) (h2 : Pu G c fr s b (.bl y)) : Pu G c fr s (.cmp .is_ a b) (.bl (x == y)) := p_cmp h1 h2 c_isB
theorem p_isnB {a b : E} {x y : Bool} (h1 : Pu G c fr s a (.bl x)) (h2 : Pu G c fr s b (.bl y)) : Pu G c fr s (.cmp .isn a b) (.bl (!(x == y))) := p_cmp h1 h2 c_isnB
theorem p_is {a : E} {x : D} (h1 : Pu G c fr s a x) : Pu G c fr s (.cmp .is_ a (.lit .non)) (.bl (D.beq x .non)) := p_cmp h1 p_lit c_is
theorem p_isn {a : E} {x : D} (h1 : Pu G c fr s a x) : Pu G c fr s (.cmp .isn a (.lit .non)) (.bl (!D.beq x .non)) := p_cmp h1 p_lit c_isn
theorem p_addN {a b : E} {x y : Nat} (h1 : Pu G c fr s a (N' x)) (h2 : Pu G c fr s b (N' y)) : Pu G c fr s (.bin .add a b) (N' (x + y)) := p_bin h1 h2 b_addN
theorem p_minN {a b : E} {x y : Nat} (h1 : Pu G c fr s a (N' x)) (h2 : Pu G c fr s b (N' y)) : Pu G c fr s (.bi .min [a, b]) (N' (Nat.min x y)) := p_bi (p_cons h1 (p_cons h2 p_nil)) b_minN
theorem p_intB {a : E} {p : Bool} (h1 : Pu G c fr s a (.bl p)) : Pu G c fr s (.bi .int [a]) (N' p.toNat) := p_bi (p_cons h1 p_nil) b_intB
theorem p_intN {a : E} {x : Nat} (h1 : Pu G c fr s a (N' x)) : Pu G c fr s (.bi .int [a]) (N' x) := p_bi (p_cons h1 p_nil) b_intN
theorem p_ixT {a b : E} {xs : List D} {i : Int} {d : D} (h1 : Pu G c fr s a (.tup xs)) (h2 : Pu G c fr s b (.int i)) (h : ixI xs i = some d) : Pu G c fr s (.ix a b) d := p_ix h1 h2 (by show (match ixI xs i with | some d => R.ok d s | none => .no) = _; rw [h])
theorem p_eqSl {a : E} {x k : Nat} (h1 : Pu G c fr s a (.str x)) : Pu G c fr s (.cmp .eq a (.lit (.str k))) (.bl (Nat.beq x k)) := p_eqS h1 p_lit
theorem p_neSl {a : E} {x k : Nat} (h1 : Pu G c fr s a (.str x)) : Pu G c fr s (.cmp .ne a (.lit (.str k))) (.bl (!Nat.beq x k)) := p_neS h1 p_lit
theorem p_ixR {a b : E} {l : Nat} {xs : List D} {i : Int} {d : D} (h1 : Pu G c fr s a (.ref l)) (hl : nth s l = some (.lst xs)) (h2 : Pu G c fr s b (.int i)) (h : ixI xs i = some d) : Pu G c fr s (.ix a b) d := p_ix h1 h2 (by simp only [ixD, hl, h])
theorem nb (x y : Nat) : Nat.beq x y = decide (x = y) := by
  cases h : Nat.beq x y with
  | true => simp [Nat.eq_of_beq_eq_true h]
  | false => simp [Nat.ne_of_beq_eq_false h]
/-! statements -/
variable {N : Fr → Sto → Prop} {T : D → Sto → Prop}
theorem evSs_app (a b : List St) (fr : Fr) (s : Sto) : evSs G c (a ++ b) fr s = (match evSs G c a fr s with | .nx fr' s' => evSs G c b fr' s' | x => x) := by
  induction a generalizing fr s with
  | nil => simp [evSs]
  | cons t ts ih =>
    simp only [List.cons_append, evSs]
    cases evS G c t fr s <;> simp [ih]
theorem V_app (a b : List St) : V (evSs G c (a ++ b) fr s) N T ↔ V (evSs G c a fr s) (fun fr s => V (evSs G c b fr s) N T) T := by
  rw [evSs_app]; cases evSs G c a fr s <;> exact Iff.rfl
/-- a block's run -/
structure VS (G : Pg) (c : Call) (ts : List St) (fr : Fr) (s : Sto) (N : Fr → Sto → Prop) (T : D → Sto → Prop) : Prop where
  h : V (evSs G c ts fr s) N T
theorem x_nil (h : N fr s) : VS G c [] fr s N T := ⟨(V_nil ..).2 h⟩
theorem x_if {e : E} {a b ts : List St} {p : Bool} (h : Pu G c fr s e (.bl p)) (t : p = true → VS G c (a ++ ts) fr s N T) (f : p = false → VS G c (b ++ ts) fr s N T) : VS G c (.if_ e a b :: ts) fr s N T := by
  constructor
  rw [V_cons, V_if, h.h, W_ok, Br_bl]
  exact ⟨fun q => (V_app a ts).1 (t q).h, fun q => (V_app b ts).1 (f q).h⟩
theorem x_ifS {e : E} {a b ts : List St} {p : Bool} {s1 : Sto} (h : evE G c e fr s = .ok (.bl p) s1) (t : p = true → VS G c (a ++ ts) fr s1 N T) (f : p = false → VS G c (b ++ ts) fr s1 N T) : VS G c (.if_ e a b :: ts) fr s N T := by
  constructor
  rw [V_cons, V_if, h, W_ok, Br_bl]
  exact ⟨fun q => (V_app a ts).1 (t q).h, fun q => (V_app b ts).1 (f q).h⟩
theorem eDisp {o : CO} {i j : Nat} {kvs : List (D × D)} {x y k : D} {p : Bool} (hi : nthFr fr i = some x) (hj : nthFr fr j = some k) (hk : keyOk false k = true) (hy : lkD (mergeD [] kvs) k = some y) (hp : cmpD o x y (s ++ [.dct false (mergeD [] kvs)]) = some p) :
    evE G c (.cmp o (.var i) (.ix (.disp kvs) (.var j))) fr s = .ok (.bl p) (s ++ [.dct false (mergeD [] kvs)]) := by
  simp only [evE, R.bind, hi, hj, new1, ixD, nth_len, hk, if_true, hy, cmpR, hp]
theorem x_ret {e : E} {ts : List St} {d : D} (h : Pu G c fr s e d) (t : T d s) : VS G c (.ret e :: ts) fr s N T := by
  constructor
  rw [V_cons, V_ret, h.h, W_ok]; exact t
theorem x_retW {e : E} {ts : List St} (h : W (evE G c e fr s) T) : VS G c (.ret e :: ts) fr s N T := by
  constructor
  rw [V_cons, V_ret]; exact h
theorem x_asg {t : CT} {e : E} {ts : List St} {d : D} {fr' : Fr} (h : Pu G c fr s e d) (l : letT t d fr = some fr') (k : VS G c ts fr' s N T) : VS G c (.asg t e :: ts) fr s N T := by
  constructor
  rw [V_cons, V_asg, h.h, W_ok]; exact ⟨fr', l, k.h⟩
theorem x_asgW {t : CT} {e : E} {ts : List St} (h : W (evE G c e fr s) fun d s1 => ∃ fr', letT t d fr = some fr' ∧ VS G c ts fr' s1 N T) : VS G c (.asg t e :: ts) fr s N T := by
  constructor
  rw [V_cons, V_asg]; exact W_mono h fun d s1 ⟨fr', l, k⟩ => ⟨fr', l, k.h⟩
theorem x_expr {e : E} {ts : List St} (h : W (evE G c e fr s) fun _ s1 => VS G c ts fr s1 N T) : VS G c (.expr e :: ts) fr s N T := by
  constructor
  rw [V_cons, V_expr]; exact W_mono h fun _ _ k => k.h
theorem x_aug {i : Nat} {o : BO} {e : E} {ts : List St} {x y z : D} (hi : nthFr fr i = some x) (h : Pu G c fr s e y) (l : augD o x y s = .ok z s) (k : VS G c ts (fr.set i (some z)) s N T) : VS G c (.augN i o e :: ts) fr s N T := by
  constructor
  rw [V_cons, V_augN]; exact ⟨x, hi, by rw [h.h, W_ok, l]; exact k.h⟩
theorem pu_W {e : E} {d : D} {Q : D → Sto → Prop} (h : Pu G c fr s e d) (q : Q d s) : W (evE G c e fr s) Q := by rw [h.h]; exact q
theorem pu_Ws {e : List E} {d : List D} {Q : List D → Sto → Prop} (h : Pus G c fr s e d) (q : Q d s) : W (evEs G c e fr s) Q := by rw [h.h]; exact q
theorem set_same {fr : Fr} : ∀ {i : Nat} {d : D}, nthFr fr i = some d → fr.set i (some d) = fr := by
  induction fr with
  | nil => intros; rfl
  | cons a r ih =>
    intro i d hi
    cases i with
    | zero =>
      cases a with
      | none => simp [nthFr, nth] at hi
      | some d => simp [nthFr, nth] at hi; rw [hi]; rfl
    | succ m => exact congrArg (a :: ·) (ih hi)
/-- an if that only stores: joined -/
theorem x_ifJ {e v : E} {i : Nat} {ts : List St} {p : Bool} {x y : Nat} (h : Pu G c fr s e (.bl p)) (hv : Pu G c fr s v (N' x)) (hi : nthFr fr i = some (N' y))
    (k : VS G c ts (fr.set i (some (N' (bif p then x else y)))) s N T) : VS G c (.if_ e [.asg (.nm i) v] [] :: ts) fr s N T := by
  refine x_if h (fun q => ?_) fun q => ?_
  · subst q
    exact x_asg hv rfl k
  · subst q
    have k : VS G c ts (fr.set i (some (N' y))) s N T := k
    rw [set_same hi] at k
    exact k
theorem x_ifJ2 {e v v' : E} {i j : Nat} {ts : List St} {p : Bool} {x y x' y' : Nat} (h : Pu G c fr s e (.bl p)) (hv : Pu G c fr s v (N' x)) (hi : nthFr fr i = some (N' y)) (hv' : Pu G c (fr.set i (some (N' x))) s v' (N' x')) (hj : nthFr (fr.set i (some (N' (bif p then x else y)))) j = some (N' y'))
    (k : VS G c ts ((fr.set i (some (N' (bif p then x else y)))).set j (some (N' (bif p then x' else y')))) s N T) : VS G c (.if_ e [.asg (.nm i) v, .asg (.nm j) v'] [] :: ts) fr s N T := by
  refine x_if h (fun q => ?_) fun q => ?_
  · subst q
    exact x_asg hv rfl (x_asg hv' rfl k)
  · subst q
    have k : VS G c ts ((fr.set i (some (N' y))).set j (some (N' y'))) s N T := k
    have hj : nthFr (fr.set i (some (N' y))) j = some (N' y') := hj
    rw [set_same hj, set_same hi] at k
    exact k
end
/-- the store has only grown -/
def Ro (x : R D) (d : D) (s : Sto) : Prop := ∃ t, x = .ok d (s ++ t)
theorem Ro.of {x : R D} {d : D} {s : Sto} (h : x = .ok d s) : Ro x d s := ⟨[], by rw [List.append_nil]; exact h⟩
theorem VRo {G : Pg} {c : Call} {ts : List St} {fr : Fr} {d : D} {s0 s : Sto} (h : VS G c ts fr s0 (fun _ s' => d = .non ∧ ∃ t, s' = s ++ t) fun v s' => v = d ∧ ∃ t, s' = s ++ t) : Ro (endD (evSs G c ts fr s0)) d s := by
  have := h.h
  cases h : evSs G c ts fr s0 <;> rw [h] at this <;> first | exact this.elim | (obtain ⟨rfl, t, rfl⟩ := this; exact ⟨t, rfl⟩)
/-- as an equation -/
theorem V_eq {G : Pg} {c : Call} {ts : List St} {fr : Fr} {d : D} {s0 s : Sto} (h : VS G c ts fr s0 (fun _ s' => d = .non ∧ s' = s) fun v s' => v = d ∧ s' = s) : endD (evSs G c ts fr s0) = .ok d s := by
  have := h.h
  cases h : evSs G c ts fr s0 <;> rw [h] at this <;> first | exact this.elim | (obtain ⟨rfl, rfl⟩ := this; rfl)
theorem W_of {G : Pg} {c : Call} {ts : List St} {fr : Fr} {s : Sto} {Q : D → Sto → Prop} (h : VS G c ts fr s (fun _ s' => Q .non s') Q) : W (endD (evSs G c ts fr s)) Q := (W_end _ _).2 h.h
end PD
end Sec42
section Sec43
set_option linter.all false
set_option maxRecDepth 100000
/-! LW2: loops, and stores that keep what stood. -/
namespace PD
/-- what stood stands -/
structure SExt (s s' : Sto) : Prop where
  h : ∀ l o, nth s l = some o → nth s' l = some o
  le : s.length ≤ s'.length
theorem SExt.refl (s : Sto) : SExt s s := ⟨fun _ _ h => h, Nat.le_refl _⟩
theorem SExt.trans {a b c : Sto} (h : SExt a b) (k : SExt b c) : SExt a c := ⟨fun l o e => k.h l o (h.h l o e), Nat.le_trans h.le k.le⟩
theorem SExt.app {a b : Sto} (h : SExt a b) (t : Sto) : SExt a (b ++ t) := ⟨fun l o e => nth_app t (h.h l o e), by rw [List.length_append]; exact Nat.le_trans h.le (Nat.le_add_right ..)⟩
theorem SExt.set {a b : Sto} (h : SExt a b) {l : Nat} (o : O) (hl : nth a l = none) : SExt a (b.set l o) := ⟨fun k p e => by
  by_cases q : l = k
  · subst q; rw [hl] at e; cases e
  · rw [nth_set_ne q]; exact h.h k p e, by rw [List.length_set]; exact h.le⟩
theorem nth_nil {α : Type} {s : List α} : ∀ {l : Nat}, s.length ≤ l → nth s l = none := by
  induction s with
  | nil => intro l _; cases l <;> rfl
  | cons x r ih =>
    intro l h
    cases l with
    | zero => cases h
    | succ n => exact ih (Nat.le_of_succ_le_succ h)
theorem nth_of_lt {α : Type} {s : List α} : ∀ {l : Nat}, l < s.length → ∃ x, nth s l = some x := by
  induction s with
  | nil => intro l h; cases h
  | cons x r ih =>
    intro l h
    cases l with
    | zero => exact ⟨x, rfl⟩
    | succ n => exact ih (Nat.lt_of_succ_lt_succ h)
theorem nth_map {α β : Type} (f : α → β) : ∀ (xs : List α) (i : Nat), nth (xs.map f) i = (nth xs i).map f
  | [], i => by cases i <;> rfl
  | x :: xs, 0 => rfl
  | x :: xs, i + 1 => nth_map f xs i
theorem nth_drop {α : Type} : ∀ (xs : List α) (i : Nat), nth xs i = (xs.drop i).head?
  | [], i => by cases i <;> rfl
  | x :: xs, 0 => rfl
  | x :: xs, i + 1 => nth_drop xs i
theorem drop_cons {α : Type} {xs : List α} {i : Nat} {d : α} {r : List α} (h : xs.drop i = d :: r) : xs.drop (i + 1) = r := by
  rw [← List.tail_drop, h]; rfl
theorem V_walk {src : Src} {turn : D → Fr → Sto → SR} {N : Fr → Sto → Prop} {T : D → Sto → Prop} (xs : List D) (I : List D → Fr → Sto → Prop)
    (hs : ∀ i fr s, I (xs.drop i) fr s → src i s = some (nth xs i))
    (hn : ∀ fr s, I [] fr s → N fr s) (hc : ∀ d r fr s, I (d :: r) fr s → V (turn d fr s) (I r) T) :
    ∀ (n i : Nat) (fr : Fr) (s : Sto), (xs.drop i).length < n → I (xs.drop i) fr s → V (forG src turn n i fr s) N T
  | 0, _, _, _, hl, _ => by cases hl
  | n + 1, i, fr, s, hl, h => by
    have e := hs i fr s h
    unfold forG
    rw [e, nth_drop]
    cases hd : xs.drop i with
    | nil => rw [hd] at h; exact hn _ _ h
    | cons d r =>
      rw [hd] at h
      have q := hc d r fr s h
      show V (match turn d fr s with | .nx fr' s' => forG src turn n (i + 1) fr' s' | x => x) N T
      cases ht : turn d fr s with
      | nx fr' s' =>
        rw [ht] at q
        have d1 := drop_cons hd
        refine V_walk xs I hs hn hc n (i + 1) fr' s' ?_ ?_
        · rw [d1]; rw [hd] at hl; exact Nat.lt_of_succ_lt_succ hl
        · rw [d1]; exact q
      | rt d s' => rw [ht] at q; exact q
      | ex c fs fr s => rw [ht] at q; exact q.elim
      | no => rw [ht] at q; exact q.elim
/-- a walk over a tuple or the script -/
theorem V_seq {turn : D → Fr → Sto → SR} {N : Fr → Sto → Prop} {T : D → Sto → Prop} {fr : Fr} {s : Sto} (xs : List D) (I : List D → Fr → Sto → Prop)
    (hl : xs.length < fuelL) (h0 : I xs fr s) (hn : ∀ fr s, I [] fr s → N fr s) (hc : ∀ d r fr s, I (d :: r) fr s → V (turn d fr s) (I r) T) :
    V (forG (srcAt (.seq xs)) turn fuelL 0 fr s) N T :=
  V_walk xs I (fun _ _ _ _ => rfl) hn hc fuelL 0 fr s hl h0
/-- a walk over a list that no turn changes -/
theorem V_live {turn : D → Fr → Sto → SR} {N : Fr → Sto → Prop} {T : D → Sto → Prop} {fr : Fr} {s : Sto} {l : Nat} (xs : List D) (I : List D → Fr → Sto → Prop)
    (hl : xs.length < fuelL) (hI : ∀ r fr s, I r fr s → nth s l = some (.lst xs)) (h0 : I xs fr s) (hn : ∀ fr s, I [] fr s → N fr s) (hc : ∀ d r fr s, I (d :: r) fr s → V (turn d fr s) (I r) T) :
    V (forG (srcAt (.live l)) turn fuelL 0 fr s) N T :=
  V_walk xs I (fun i _ s h => by simp only [srcAt, lstO, hI _ _ _ h]) hn hc fuelL 0 fr s hl h0
theorem V_rng {turn : D → Fr → Sto → SR} {N : Fr → Sto → Prop} {T : D → Sto → Prop} {lo : Int} {m : Nat} (I : Nat → Fr → Sto → Prop)
    (hn : ∀ fr s, I m fr s → N fr s) (hc : ∀ i fr s, i < m → I i fr s → V (turn (.int (lo + Int.ofNat i)) fr s) (I (i + 1)) T) :
    ∀ (n i : Nat) (fr : Fr) (s : Sto), m - i < n → i ≤ m → I i fr s → V (forG (srcAt (.rng lo m)) turn n i fr s) N T
  | 0, _, _, _, hl, _, _ => by cases hl
  | n + 1, i, fr, s, hl, hi, h => by
    unfold forG
    by_cases q : i < m
    · have e : Nat.blt i m = true := Nat.ble_eq_true_of_le q
      simp only [srcAt, e, if_true]
      have q1 := hc i fr s q h
      cases ht : turn (.int (lo + Int.ofNat i)) fr s with
      | nx fr' s' => rw [ht] at q1; exact V_rng I hn hc n (i + 1) fr' s' (by omega) q q1
      | rt d s' => rw [ht] at q1; exact q1
      | ex c fs fr s => rw [ht] at q1; exact q1.elim
      | no => rw [ht] at q1; exact q1.elim
    · have e : Nat.blt i m = false := by
        cases hb : Nat.blt i m with
        | false => rfl
        | true => exact (q (Nat.le_of_ble_eq_true hb)).elim
      obtain rfl : i = m := by omega
      simp only [srcAt, e, if_false]
      exact hn _ _ h
theorem V_range {turn : D → Fr → Sto → SR} {N : Fr → Sto → Prop} {T : D → Sto → Prop} {fr : Fr} {s : Sto} {lo : Int} {m : Nat} (I : Nat → Fr → Sto → Prop) (hm : m < fuelL)
    (h0 : I 0 fr s) (hn : ∀ fr s, I m fr s → N fr s) (hc : ∀ i fr s, i < m → I i fr s → V (turn (.int (lo + Int.ofNat i)) fr s) (I (i + 1)) T) : V (forG (srcAt (.rng lo m)) turn fuelL 0 fr s) N T :=
  V_rng I hn hc fuelL 0 fr s (by omega) (Nat.zero_le _) h0
theorem V_whl {test : Fr → Sto → R D} {turn : Fr → Sto → SR} {N : Fr → Sto → Prop} {T : D → Sto → Prop} (I : Nat → Fr → Sto → Prop)
    (h : ∀ k fr s, I k fr s → W (test fr s) fun d s1 => (d = .bl false ∧ N fr s1) ∨ (d = .bl true ∧ V (turn fr s1) (fun fr' s' => ∃ k', k' < k ∧ I k' fr' s') T)) :
    ∀ (n k : Nat) (fr : Fr) (s : Sto), k < n → I k fr s → V (whileD test turn n fr s) N T
  | 0, _, _, _, hl, _ => by cases hl
  | n + 1, k, fr, s, hl, hi => by
    have q := h k fr s hi
    unfold whileD
    obtain ⟨d, s1, e, q⟩ := W_get q
    rw [e]
    rcases q with ⟨rfl, q⟩ | ⟨rfl, q⟩
    · exact q
    · cases ht : turn fr s1 with
      | nx fr' s' =>
        rw [ht] at q
        obtain ⟨k', hk, q⟩ := q
        simp only [ht]
        exact V_whl I h n k' fr' s' (by omega) q
      | rt d s' => rw [ht] at q; simp only [ht]; exact q
      | ex c fs fr s => rw [ht] at q; exact q.elim
      | no => rw [ht] at q; exact q.elim
theorem W_walk {src : Src} {turn : D → Sto → R (Option D)} {at_ : Nat} {Q : Unit → Sto → Prop} (xs : List D) (J : List D → List D → Sto → Prop)
    (hs : ∀ i acc s, J (xs.drop i) acc s → src i s = some (nth xs i)) (ha : ∀ r acc s, J r acc s → nth s at_ = some (.lst acc))
    (hn : ∀ acc s, J [] acc s → Q () s)
    (hc : ∀ d r acc s, J (d :: r) acc s → W (turn d s) fun o s' => nth s' at_ = some (.lst acc) ∧ (match o with
      | none => J r acc s'
      | some v => Nat.blt acc.length line = true ∧ J r (acc ++ [v]) (s'.set at_ (.lst (acc ++ [v]))))) :
    ∀ (n i : Nat) (acc : List D) (s : Sto), (xs.drop i).length < n → J (xs.drop i) acc s → W (compG src turn at_ n i s) Q
  | 0, _, _, _, hl, _ => by cases hl
  | n + 1, i, acc, s, hl, h => by
    have e := hs i acc s h
    unfold compG
    rw [e, nth_drop]
    cases hd : xs.drop i with
    | nil => rw [hd] at h; exact hn _ _ h
    | cons d r =>
      rw [hd] at h
      have d1 := drop_cons hd
      have hl' : (xs.drop (i + 1)).length < n := by rw [d1]; rw [hd] at hl; exact Nat.lt_of_succ_lt_succ hl
      obtain ⟨o, s', et, ha', q⟩ := W_get (hc d r acc s h)
      show W (match turn d s with
      | .ok none s' => compG src turn at_ n (i + 1) s'
      | .ok (some v) s' => match lstO s' at_ with
        | some acc => if Nat.blt acc.length line then compG src turn at_ n (i + 1) (s'.set at_ (.lst (acc ++ [v]))) else .no
        | none => .no
      | .ex _ _ _ => .no
      | .no => .no) Q
      rw [et]
      cases o with
      | none => exact W_walk xs J hs ha hn hc n (i + 1) acc s' hl' (by rw [d1]; exact q)
      | some v =>
        have e1 : lstO s' at_ = some acc := by simp only [lstO, ha']
        simp only [e1, q.1, if_true]
        exact W_walk xs J hs ha hn hc n (i + 1) _ _ hl' (by rw [d1]; exact q.2)
/-- a comprehension without a test over what does not change; each turn may only lay new things -/
theorem W_comp {src : Src} {turn : D → Sto → R (Option D)} {s : Sto} {Q : Unit → Sto → Prop} (xs : List D) (f : D → D) (K : Sto → Prop) (hl : xs.length < fuelL)
    (hs : ∀ i s', K s' → src i s' = some (nth xs i)) (hK : K (s ++ [.lst []])) (hKs : ∀ s' acc, K s' → SExt s s' → K (s'.set s.length (.lst acc)))
    (hc : ∀ d s', d ∈ xs → K s' → SExt s s' → s.length < s'.length → ∃ t, turn d s' = .ok (some (f d)) (s' ++ t) ∧ K (s' ++ t))
    (hn : ∀ s', SExt s s' → K s' → nth s' s.length = some (.lst (xs.map f)) → Q () s') : W (compG src turn s.length fuelL 0 (s ++ [.lst []])) Q := by
  have hne : nth s s.length = none := nth_nil (Nat.le_refl _)
  refine W_walk xs (fun r acc s' => SExt s s' ∧ K s' ∧ nth s' s.length = some (.lst acc) ∧ acc ++ r.map f = xs.map f ∧ ∀ d ∈ r, d ∈ xs) (fun i acc s' h => hs i s' h.2.1) (fun _ _ _ h => h.2.2.1)
    (fun acc s' h => hn s' h.1 h.2.1 (by rw [h.2.2.1, ← h.2.2.2.1, List.map_nil, List.append_nil])) ?_ fuelL 0 [] _ hl ⟨(SExt.refl s).app _, hK, nth_len s _ [], rfl, fun _ h => h⟩
  rintro d r acc s' ⟨h1, h2, h3, h4, h5⟩
  obtain ⟨t, e, h6⟩ := hc d s' (h5 d (List.mem_cons_self ..)) h2 h1 (nth_lt h3)
  refine W_eq e ⟨nth_app t h3, ?_, (h1.app t).set _ hne, hKs _ _ h6 (h1.app t), nth_set_eq (nth_app t h3), by rw [← h4]; simp, fun x hx => h5 x (List.mem_cons_of_mem _ hx)⟩
  have : acc.length < line := by
    have := congrArg List.length h4
    simp only [List.length_append, List.length_map, List.length_cons] at this
    have l1 : fuelL < line := by decide
    omega
  exact Nat.ble_eq_true_of_le this
end PD
end Sec43
section Sec44
set_option linter.all false
set_option maxRecDepth 100000
/-! LW3: more steps. -/
namespace PD
section
variable {G : Pg} {c : Call} {fr : Fr} {s : Sto} {N : Fr → Sto → Prop} {T : D → Sto → Prop}
theorem x_for {t : CT} {wb : Option BI} {its : List E} {b ts : List St} {vs : List D} {w : Wk} (h : Pus G c fr s its vs) (hw : walkG wb vs s = w)
    (k : V (forG (srcAt w) (fun d fr s => forT t (evSs G c b) d fr s) fuelL 0 fr s) (fun fr s => VS G c ts fr s N T) T) : VS G c (.for_ t wb its b :: ts) fr s N T := by
  constructor
  rw [V_cons, V_for, h.h, W_ok, hw]
  exact V_mono k (fun _ _ z => z.h) fun _ _ z => z
theorem x_forW {t : CT} {wb : Option BI} {its : List E} {b ts : List St} (h : W (evEs G c its fr s) fun vs s1 => V (forG (srcAt (walkG wb vs s1)) (fun d fr s => forT t (evSs G c b) d fr s) fuelL 0 fr s1) (fun fr s => VS G c ts fr s N T) T) : VS G c (.for_ t wb its b :: ts) fr s N T := by
  constructor
  rw [V_cons, V_for]
  exact W_mono h fun _ _ k => V_mono k (fun _ _ z => z.h) fun _ _ z => z
theorem x_while {e : E} {b ts : List St} (k : V (whileD (evE G c e) (evSs G c b) fuelL fr s) (fun fr s => VS G c ts fr s N T) T) : VS G c (.while_ e b :: ts) fr s N T := by
  constructor
  rw [V_cons, V_while]
  exact V_mono k (fun _ _ z => z.h) fun _ _ z => z
theorem x_forT {t : CT} {b : List St} {d : D} {fr' : Fr} (h : letT t d fr = some fr') (k : VS G c b fr' s N T) : V (forT t (evSs G c b) d fr s) N T := by
  unfold forT; rw [h]; exact k.h
theorem x_ifW {e : E} {a b ts : List St} (h : W (evE G c e fr s) fun d s1 => Br d (VS G c (a ++ ts) fr s1 N T) (VS G c (b ++ ts) fr s1 N T)) : VS G c (.if_ e a b :: ts) fr s N T := by
  constructor
  rw [V_cons, V_if]
  refine W_mono h fun d s1 k => ?_
  cases d with
  | bl p => cases p <;> first | exact (V_app _ ts).1 k.h | exact (V_app _ ts).1 k.h
  | _ => exact k.elim
theorem x_asgS {a i e : E} {ts : List St} {x y v : D} {s' : Sto} (he : Pu G c fr s e v) (ha : Pu G c fr s a x) (hi : Pu G c fr s i y) (h : setSB x y v s = .ok .non s') (k : VS G c ts fr s' N T) : VS G c (.asgS a i e :: ts) fr s N T := by
  constructor
  rw [V_cons, V_asgS, he.h, W_ok, ha.h, W_ok, hi.h, W_ok, h, W_ok]; exact k.h
theorem x_asgSW {a i e : E} {ts : List St} (h : W (evE G c e fr s) fun v s1 => ∃ x y s', Pu G c fr s1 a x ∧ Pu G c fr s1 i y ∧ setSB x y v s1 = .ok .non s' ∧ VS G c ts fr s' N T) : VS G c (.asgS a i e :: ts) fr s N T := by
  constructor
  rw [V_cons, V_asgS]
  refine W_mono h fun v s1 ⟨x, y, s', ha, hi, hs, k⟩ => ?_
  rw [ha.h, W_ok, hi.h, W_ok, hs, W_ok]; exact k.h
theorem x_asgF {a e : E} {f : Nat} {ts : List St} {x v : D} {s' : Sto} (he : Pu G c fr s e v) (ha : Pu G c fr s a x) (h : setFD G c x f v s = .ok .non s') (k : VS G c ts fr s' N T) : VS G c (.asgF a f e :: ts) fr s N T := by
  constructor
  rw [V_cons, V_asgF, he.h, W_ok, ha.h, W_ok, h, W_ok]; exact k.h
/-- a.append(e) as a statement -/
theorem x_appd {a e : E} {ts : List St} {m l : Nat} {xs : List D} {v : D} (ha : Pu G c fr s a (.ref l)) (hl : nth s l = some (.lst xs)) (hm : bmL G.ids m = some 0) (he : Pu G c fr s e v) (hb : Nat.blt xs.length line = true)
    (k : VS G c ts fr (s.set l (.lst (xs ++ [v]))) N T) : VS G c (.expr (.meth a m [e]) :: ts) fr s N T := by
  refine x_expr ?_
  rw [W_meth]
  refine pu_W ha ⟨.bm 0, by simp only [methD, hl, hm]; rfl, pu_Ws (p_cons he p_nil) ?_⟩
  refine W_eq (s := s.set l (.lst (xs ++ [v]))) (a := .non) ?_ k
  simp only [mtcD, bmD, hl, hb, if_true]
theorem p_len {e : E} {l : Nat} {xs : List D} (h : Pu G c fr s e (.ref l)) (hl : nth s l = some (.lst xs)) : Pu G c fr s (.bi .len [e]) (N' xs.length) := p_bi (p_cons h p_nil) (by simp only [biD, hl]; rfl)
theorem p_lenT {e : E} {xs : List D} (h : Pu G c fr s e (.tup xs)) : Pu G c fr s (.bi .len [e]) (N' xs.length) := p_bi (p_cons h p_nil) rfl
theorem p_lenR {e : E} {xs : List D} (h : Pu G c fr s e (.rol xs)) : Pu G c fr s (.bi .len [e]) (N' xs.length) := p_bi (p_cons h p_nil) rfl
theorem p_andF {a b : E} (h1 : Pu G c fr s a (.bl false)) : Pu G c fr s (.and_ a b) (.bl false) := ⟨by simp only [evE, h1.h, R.bind]⟩
theorem p_orT {a b : E} (h1 : Pu G c fr s a (.bl true)) : Pu G c fr s (.or_ a b) (.bl true) := ⟨by simp only [evE, h1.h, R.bind]⟩
theorem p_orF {a b : E} {d : D} (h1 : Pu G c fr s a (.bl false)) (h2 : Pu G c fr s b d) : Pu G c fr s (.or_ a b) d := ⟨by simp only [evE, h1.h, R.bind, h2.h]⟩
theorem p_andT {a b : E} {d : D} (h1 : Pu G c fr s a (.bl true)) (h2 : Pu G c fr s b d) : Pu G c fr s (.and_ a b) d := ⟨by simp only [evE, h1.h, R.bind, h2.h]⟩
theorem p_ixN {a b : E} {l i : Nat} {xs : List D} {d : D} (h1 : Pu G c fr s a (.ref l)) (hl : nth s l = some (.lst xs)) (h2 : Pu G c fr s b (N' i)) (h : nth xs i = some d) : Pu G c fr s (.ix a b) d := p_ixR h1 hl h2 h
/-- an argument that calls -/
theorem W_call1 {f : Nat} {es : List E} {vs : List D} {Q : D → Sto → Prop} (h : Pus G c fr s es vs) (k : W (callA G c f vs [] [] s) Q) : W (evE G c (.call f es [] []) fr s) Q := by
  rw [W_call]
  exact pu_Ws h (pu_Ws p_nil k)
end
section
variable {G : Pg} {c : Call} {fr : Fr} {s : Sto}
/-- a new list -/
theorem W_new1 {es : List E} {vs : List D} {Q : D → Sto → Prop} (h : Pus G c fr s es vs) (hl : Nat.ble vs.length line = true) (k : ∀ s' r, SExt s s' → nth s' r = some (.lst vs) → nth s r = none → Q (.ref r) s') : W (evE G c (.lst es) fr s) Q := by
  rw [W_lst]
  exact pu_Ws h ⟨hl, k _ _ ((SExt.refl s).app _) (nth_len s _ []) (nth_nil (Nat.le_refl _))⟩
theorem W_pair {d : D} {es : List E} {vs : List D} {Q : D → Sto → Prop} (h : Pus G c fr s es vs) (hl : Nat.ble vs.length line = true) (k : ∀ s' r, SExt s s' → nth s' r = some (.lst vs) → Q (.tup [d, .ref r]) s') : W (evE G c (.tup [.lit d, .lst es]) fr s) Q := by
  rw [W_tup, W_cons]
  refine pu_W p_lit ?_
  rw [W_cons]
  refine W_new1 h hl fun s' r e1 h1 _ => ?_
  rw [W_nil]
  exact ⟨rfl, k s' r e1 h1⟩
theorem addL {i l : Nat} {e : E} {xs : List D} {Q : D → Sto → Prop} (hi : nthFr fr i = some (.ref l)) (hl : nth s l = some (.lst xs))
    (he : W (evE G c e fr s) fun d s1 => ∃ r ys, d = .ref r ∧ SExt s s1 ∧ nth s1 r = some (.lst ys) ∧ Nat.ble (xs.length + ys.length) line = true ∧ ∀ s' r', SExt s1 s' → nth s' r' = some (.lst (xs ++ ys)) → Q (.ref r') s') :
    W (evE G c (.bin .add (.var i) e) fr s) Q := by
  rw [W_bin]
  refine pu_W (p_var hi) (W_mono he ?_)
  rintro d s1 ⟨r, ys, rfl, e1, h2, h3, h4⟩
  refine W_eq (a := .ref s1.length) (s := s1 ++ [.lst (xs ++ ys)]) ?_ (h4 _ _ ((SExt.refl s1).app _) (nth_len s1 _ []))
  simp only [binD, lstO, e1.h _ _ hl, h2, h3, if_true]; rfl
end
/-! ints of any size -/
section
variable {G : Pg} {c : Call} {fr : Fr} {s : Sto}
theorem p_addI {a b : E} {x y : Int} (h1 : Pu G c fr s a (.int x)) (h2 : Pu G c fr s b (.int y)) : Pu G c fr s (.bin .add a b) (.int (x + y)) := p_bin h1 h2 rfl
theorem p_subI {a b : E} {x y : Int} (h1 : Pu G c fr s a (.int x)) (h2 : Pu G c fr s b (.int y)) : Pu G c fr s (.bin .sub a b) (.int (x - y)) := p_bin h1 h2 rfl
theorem p_mulI {a b : E} {x y : Int} (h1 : Pu G c fr s a (.int x)) (h2 : Pu G c fr s b (.int y)) (h : (in64 x || in64 y) = true) : Pu G c fr s (.bin .mul a b) (.int (x * y)) := p_bin h1 h2 (by simp only [binD, h, if_true])
theorem p_modI {a b : E} {x y : Int} (h1 : Pu G c fr s a (.int x)) (h2 : Pu G c fr s b (.int y)) (h : isPos y = true) : Pu G c fr s (.bin .mod a b) (.int (x % y)) := p_bin h1 h2 (by simp only [binD, h, if_true])
theorem p_fdivI {a b : E} {x y : Int} (h1 : Pu G c fr s a (.int x)) (h2 : Pu G c fr s b (.int y)) (h : (isPos y && Nat.blt (natI y) 1073741824) = true) : Pu G c fr s (.bin .fdiv a b) (.int (x / y)) := p_bin h1 h2 (by simp only [binD, h, if_true])
theorem p_intI {a : E} {x : Int} (h1 : Pu G c fr s a (.int x)) : Pu G c fr s (.bi .int [a]) (.int x) := p_bi (p_cons h1 p_nil) rfl
theorem p_absI {a : E} {x : Int} (h1 : Pu G c fr s a (.int x)) : Pu G c fr s (.bi .abs [a]) (.int (if x < 0 then -x else x)) := p_bi (p_cons h1 p_nil) rfl
theorem p_geI {a b : E} {x y : Int} (h1 : Pu G c fr s a (.int x)) (h2 : Pu G c fr s b (.int y)) : Pu G c fr s (.cmp .ge a b) (.bl (decide (y ≤ x))) := p_cmp h1 h2 rfl
theorem p_gtI {a b : E} {x y : Int} (h1 : Pu G c fr s a (.int x)) (h2 : Pu G c fr s b (.int y)) : Pu G c fr s (.cmp .gt a b) (.bl (decide (y < x))) := p_cmp h1 h2 rfl
theorem p_ltI {a b : E} {x y : Int} (h1 : Pu G c fr s a (.int x)) (h2 : Pu G c fr s b (.int y)) : Pu G c fr s (.cmp .lt a b) (.bl (decide (x < y))) := p_cmp h1 h2 rfl
theorem p_eqI {a b : E} {x y : Int} (h1 : Pu G c fr s a (.int x)) (h2 : Pu G c fr s b (.int y)) : Pu G c fr s (.cmp .eq a b) (.bl (decide (x = y))) := p_cmp h1 h2 rfl
theorem p_ixS {a b : E} {xs : List D} {i : Int} {d : D} (h1 : Pu G c fr s a (.rol xs)) (h2 : Pu G c fr s b (.int i)) (h : ixI xs i = some d) : Pu G c fr s (.ix a b) d := p_ix h1 h2 (by simp only [ixD, h])
theorem p_ixC {a b : E} {xs : List D} {i : Int} {d : D} (h1 : Pu G c fr s a (.ctp xs)) (h2 : Pu G c fr s b (.int i)) (h : ixI xs i = some d) : Pu G c fr s (.ix a b) d := p_ix h1 h2 (by simp only [ixD, h])
end
theorem in64_of {i : Int} (h0 : 0 ≤ i) (h1 : i < 18446744073709551616) : in64 i = true := by
  obtain ⟨n, rfl⟩ := Int.eq_ofNat_of_zero_le h0
  exact Nat.ble_eq_true_of_le (show n + 1 ≤ 18446744073709551616 by omega)
theorem nth_mem {α : Type} {d : α} : ∀ {xs : List α} {n : Nat}, nth xs n = some d → d ∈ xs
  | [], n, h => by cases n <;> cases h
  | a :: r, 0, h => by cases h; exact List.mem_cons_self ..
  | a :: r, n + 1, h => List.mem_cons_of_mem _ (nth_mem h)
/-- an item of a list by a rest -/
theorem pick_mod (xs : List D) (h : 0 < xs.length) (x : Int) : ∃ d, d ∈ xs ∧ ixI xs (x % (Int.ofNat xs.length)) = some d := by
  have h0 : 0 ≤ x % (Int.ofNat xs.length) := Int.emod_nonneg _ (by simpa using Nat.pos_iff_ne_zero.mp h)
  have h1 : x % (Int.ofNat xs.length) < Int.ofNat xs.length := Int.emod_lt_of_pos _ (by simpa using h)
  obtain ⟨n, hn⟩ := Int.eq_ofNat_of_zero_le h0
  rw [hn] at h1 ⊢
  have h1 : n < xs.length := by simpa using h1
  obtain ⟨d, hd⟩ := nth_of_lt h1
  exact ⟨d, nth_mem hd, hd⟩
theorem forG_go {src : Src} {turn : D → Fr → Sto → SR} {n i : Nat} {fr : Fr} {s : Sto} {d : D} {N : Fr → Sto → Prop} {T : D → Sto → Prop} (h : src i s = some (some d)) (k : V (turn d fr s) (fun fr s => V (forG src turn n (i + 1) fr s) N T) T) : V (forG src turn (n + 1) i fr s) N T := by
  unfold forG
  rw [h]
  show V (match turn d fr s with | .nx fr' s' => forG src turn n (i + 1) fr' s' | x => x) N T
  cases ht : turn d fr s with
  | nx fr' s' => rw [ht] at k; exact k
  | rt d s' => rw [ht] at k; exact k
  | ex c fs fr s => rw [ht] at k; exact k.elim
  | no => rw [ht] at k; exact k.elim
theorem forG_end {src : Src} {turn : D → Fr → Sto → SR} {n i : Nat} {fr : Fr} {s : Sto} {N : Fr → Sto → Prop} {T : D → Sto → Prop} (h : src i s = some none) (k : N fr s) : V (forG src turn (n + 1) i fr s) N T := by
  unfold forG
  rw [h]; exact k
/-! dicts of tuple keys -/
theorem lkD_none {kvs : List (D × D)} {k : D} (h : lkD kvs k = none) : kvs.any (fun p => D.beq p.1 k) = false := by
  induction kvs with
  | nil => rfl
  | cons p r ih =>
    obtain ⟨a, b⟩ := p
    unfold lkD at h
    cases e : D.beq a k with
    | true => rw [e] at h; cases h
    | false => rw [e] at h; simp only [List.any_cons, e, Bool.false_or]; exact ih h
theorem putD_new {kvs : List (D × D)} {k v : D} (h : lkD kvs k = none) : putD kvs k v = kvs ++ [(k, v)] := by
  unfold putD; rw [lkD_none h]; rfl
section
variable {G : Pg} {c : Call} {fr : Fr} {s : Sto}
theorem p_ninK {a b : E} {x : D} {k : Nat} {t : Bool} {kvs : List (D × D)} (h1 : Pu G c fr s a x) (h2 : Pu G c fr s b (.ref k)) (hk : nth s k = some (.dct t kvs)) (ho : keyOk t x = true) : Pu G c fr s (.cmp .nin a b) (.bl (!(lkD kvs x).isSome)) :=
  p_cmp h1 h2 (by simp only [cmpD, inO, hk, ho, if_true, Option.map])
theorem p_ixK {a b : E} {x d : D} {k : Nat} {t : Bool} {kvs : List (D × D)} (h1 : Pu G c fr s a (.ref k)) (h2 : Pu G c fr s b x) (hk : nth s k = some (.dct t kvs)) (ho : keyOk t x = true) (h : lkD kvs x = some d) : Pu G c fr s (.ix a b) d :=
  p_ix h1 h2 (by simp only [ixD, hk, ho, if_true, h])
theorem setK {x v : D} {k : Nat} {t : Bool} {kvs : List (D × D)} (hk : nth s k = some (.dct t kvs)) (ho : keyOk t x = true) (hl : Nat.blt kvs.length line = true) (hn : lkD kvs x = none) : setSB (.ref k) x v s = .ok .non (s.set k (.dct t (kvs ++ [(x, v)]))) := by
  simp only [setSB, hk, ho, hl, Bool.and_self, if_true, putD_new hn]
end
theorem walk_live {s : Sto} {l : Nat} {xs : List D} (h : nth s l = some (.lst xs)) : walkG none [.ref l] s = .live l := by
  simp only [walkG, wkA, wkL, lstO, h]; rfl
theorem src_live {s : Sto} {l : Nat} {xs : List D} (h : nth s l = some (.lst xs)) (i : Nat) : srcAt (.live l) i s = some (nth xs i) := by simp only [srcAt, lstO, h]
theorem set_last {s : Sto} (o p : O) : (s ++ [o]).set s.length p = s ++ [p] := by
  induction s with
  | nil => rfl
  | cons x r ih => exact congrArg (x :: ·) ih
theorem dct_one {s : Sto} {l : Nat} {d k v : D} {turn : D → Sto → R (D × D)} {Q : Unit → Sto → Prop} (h : nth s l = some (.lst [d])) (ht : turn d (s ++ [.dct true []]) = .ok (k, v) (s ++ [.dct true []])) (hk : keyOk true k = true)
    (q : Q () (s ++ [.dct true [(k, v)]])) : W (dctG true (srcAt (walkG none [.ref l] s)) turn s.length fuelL 0 (s ++ [.dct true []])) Q := by
  rw [walk_live h, show fuelL = 99998 + 1 + 1 from rfl]
  unfold dctG
  rw [src_live (nth_app _ h)]
  show W (match turn d (s ++ [.dct true []]) with | _ => _) Q
  unfold dctG
  have e : Nat.blt (List.length ([] : List (D × D))) line = true := rfl
  have e2 : putD [] k v = [(k, v)] := rfl
  simp only [ht, nth_len, sameB, hk, e, e2, Bool.and_self, if_true, set_last]
  rw [src_live (nth_app _ h)]
  exact q
/-- a comprehension without a test over what does not change; each turn may only lay new things -/
theorem W_compM {α : Type} {src : Src} {turn : D → Sto → R (Option D)} {s : Sto} {Q : Unit → Sto → Prop} (ys : List α) (g f : α → D) (K : Sto → Prop) (hl : ys.length < fuelL)
    (hs : ∀ i s', K s' → src i s' = some (nth (ys.map g) i)) (hK : K (s ++ [.lst []])) (hKs : ∀ s' acc, K s' → SExt s s' → nth s' s.length = some (.lst acc) → ∀ o, K (s'.set s.length (.lst o)))
    (hc : ∀ d s', d ∈ ys → K s' → SExt s s' → s.length < s'.length → ∃ t, turn (g d) s' = .ok (some (f d)) (s' ++ t) ∧ K (s' ++ t))
    (hn : ∀ s', SExt s s' → K s' → nth s' s.length = some (.lst (ys.map f)) → Q () s') : W (compG src turn s.length fuelL 0 (s ++ [.lst []])) Q := by
  have hne : nth s s.length = none := nth_nil (Nat.le_refl _)
  refine W_walk (ys.map g) (fun r acc s' => SExt s s' ∧ K s' ∧ nth s' s.length = some (.lst acc) ∧ ∃ r', r = r'.map g ∧ acc ++ r'.map f = ys.map f ∧ ∀ d ∈ r', d ∈ ys) (fun i acc s' h => hs i s' h.2.1) (fun _ _ _ h => h.2.2.1)
    (fun acc s' ⟨h1, h2, h3, r', h4, h5, h6⟩ => hn s' h1 h2 (by
      cases r' with
      | cons x r => cases h4
      | nil => rw [h3, ← h5, List.map_nil, List.append_nil])) ?_ fuelL 0 [] _ (by rw [List.drop_zero, List.length_map]; exact hl) ⟨(SExt.refl s).app _, hK, nth_len s _ [], ys, rfl, rfl, fun _ h => h⟩
  rintro d r acc s' ⟨h1, h2, h3, r', h4, h5, h6⟩
  cases r' with
  | nil => cases h4
  | cons y r' =>
  obtain ⟨rfl, rfl⟩ := List.cons.inj h4
  obtain ⟨t, e, h7⟩ := hc y s' (h6 y (List.mem_cons_self ..)) h2 h1 (nth_lt h3)
  refine W_eq e ⟨nth_app t h3, ?_, (h1.app t).set _ hne, hKs _ acc h7 (h1.app t) (nth_app t h3) _, nth_set_eq (nth_app t h3), r', rfl, by rw [← h5]; simp, fun x hx => h6 x (List.mem_cons_of_mem _ hx)⟩
  have : acc.length < line := by
    have := congrArg List.length h5
    simp only [List.length_append, List.length_map, List.length_cons] at this
    have l1 : fuelL < line := by decide
    omega
  exact Nat.ble_eq_true_of_le this
theorem lcT_of {G : Pg} {c : Call} {own : List Nat} {t : CT} {fr fr' : Fr} {d v : D} {p e : E} {s u : Sto} (h : letT t d (wipe fr own) = some fr') (hp : Pu G c fr' s p (.bl true)) (he : evE G c e fr' s = .ok v (s ++ u)) :
    lcT own t (evE G c p) (evE G c e) fr d s = .ok (some v) (s ++ u) := by
  simp only [lcT, h, hp.h, R.bind, he]
theorem lcT_pu {G : Pg} {c : Call} {own : List Nat} {t : CT} {fr fr' : Fr} {d v : D} {p e : E} {s : Sto} (h : letT t d (wipe fr own) = some fr') (hp : Pu G c fr' s p (.bl true)) (he : Pu G c fr' s e v) :
    lcT own t (evE G c p) (evE G c e) fr d s = .ok (some v) (s ++ []) := lcT_of h hp (by rw [List.append_nil]; exact he.h)
/-- one bool among bools -/
theorem in_bls {s : Sto} {r : Nat} {bs : List Bool} (h : nth s r = some (.lst (bs.map .bl))) : inO s (.bl true) (.ref r) = some (bs.any id) := by
  have e1 : (bs.map D.bl).all (shpD depthE s) = true := by simp [List.all_eq_true, shpD, depthE]
  have e2 : ((bs.map D.bl).any fun z => eqb depthE s z (.bl true)) = bs.any id := by
    rw [List.any_map]
    congr 1
    funext b
    cases b <;> rfl
  have e3 : shpD depthE s (.bl true) = true := rfl
  simp only [inO, h, e3, e1, e2, Bool.and_self, if_true]
end PD
end Sec44
section Sec45
set_option linter.all false
set_option maxRecDepth 100000
set_option maxHeartbeats 4000000
namespace K50
open PD
/-- an outlet's values: show, memory, again, strays, repeat, lapse -/
structure Ov where
  a : Nat
  b : Nat
  c : Nat
  d : Nat
  e : Nat
  f : Nat
/-- a standing of a result -/
structure S5 where
  a : Nat
  b : Nat
  c : Nat
  d : Nat
  e : Nat
abbrev enc (x : S5) : D := .tup [N' x.a, N' x.b, N' x.c, N' x.d, N' x.e]
def encO : Option S5 → D
  | none => .non
  | some x => enc x
abbrev ents (v : Ov) : List (D × D) := [(.str 48, .str v.a), (.str 51, .str v.b), (.str 54, .str v.c), (.str 57, .str v.d), (.str 59, .str v.e), (.str 62, .str v.f)]
/-- an outlet at l -/
structure OutAt (s : Sto) (l : Nat) (v : Ov) : Prop where
  at_ : ∃ k, nth s l = some (.ins 93 [(90, (cons.getD 3 .non)), (91, .ref k)]) ∧ nth s k = some (.dct false (ents v))
theorem OutAt.app {s l v} (h : OutAt s l v) (t : Sto) : OutAt (s ++ t) l v := by
  obtain ⟨k, h1, h2⟩ := h.at_
  exact ⟨k, nth_app t h1, nth_app t h2⟩
theorem gi {n s l v} (h : OutAt s l v) {k : Nat} {w : D} (hk : lkD (ents v) (.str k) = some w) :
    callN G (n + 1) 25 [.ref l, .str k] s = .ok w s := by
  obtain ⟨q, h1, h2⟩ := h.at_
  have e1 : fldD G (callN G n) (.ref l) 91 s = .ok (.ref q) s := by
    simp only [fldD, h1]
    rfl
  show endD (evSs G (callN G n) d25.body _ s) = _
  simp [d25, evSs, evS, evE, SR.of, R.bind, nthFr, nth, start, e1, cmpR, cmpD, inO, h2, keyOk, keyD, hk, ixD, endD]
theorem ixO {n s l v} (h : OutAt s l v) {k : Nat} {w : D} (hk : lkD (ents v) (.str k) = some w) :
    ixD G (callN G (n + 1)) (.ref l) (.str k) s = .ok w s := by
  obtain ⟨q, h1, h2⟩ := h.at_
  have : ixD G (callN G (n + 1)) (.ref l) (.str k) s = callN G (n + 1) 25 [.ref l, .str k] s := by
    simp only [ixD, h1]
    rfl
  rw [this, gi h hk]
theorem p_ixO {n : Nat} {fr : Fr} {s : Sto} {e : E} {k l : Nat} {v : Ov} {w : D} (he : Pu G (callN G (n + 1)) fr s e (.ref l)) (h : OutAt s l v) (hk : lkD (ents v) (.str k) = some w) : Pu G (callN G (n + 1)) fr s (.ix e (.lit (.str k))) w := p_ix he p_lit (ixO h hk)
/-- the law's own list of an outlet's values -/
structure EntAt (s : Sto) (l : Nat) (v : Ov) : Prop where
  at_ : nth s l = some (.lst [.str v.a, .str v.b, .str v.c, .str v.d, .str v.e, .str v.f])
theorem EntAt.app {s l v} (h : EntAt s l v) (t : Sto) : EntAt (s ++ t) l v := ⟨nth_app t h.at_⟩
theorem p_ixE {c : Call} {fr : Fr} {s : Sto} {e : E} {l : Nat} {i : Int} {v : Ov} {w : D} (he : Pu G c fr s e (.ref l)) (h : EntAt s l v) (hk : ixI [.str v.a, .str v.b, .str v.c, .str v.d, .str v.e, .str v.f] i = some w) : Pu G c fr s (.ix e (.lit (.int i))) w := p_ixR he h.at_ p_lit hk
local macro_rules | `(tactic| contradiction) => `(tactic| first
  | exact p_lit
  | exact p_var rfl
  | exact p_con rfl
  | (apply p_and <;> contradiction)
  | (apply p_or <;> contradiction)
  | (apply p_not <;> contradiction)
  | (apply p_eqSl; (· contradiction))
  | (apply p_neSl; (· contradiction))
  | (apply p_eqN <;> contradiction)
  | (apply p_eqS <;> contradiction)
  | (apply p_neN <;> contradiction)
  | (apply p_neS <;> contradiction)
  | (apply p_ltN <;> contradiction)
  | (apply p_gtN <;> contradiction)
  | (apply p_isn <;> contradiction)
  | (apply p_is <;> contradiction)
  | (apply p_addN <;> contradiction)
  | (apply p_minN <;> contradiction)
  | (apply p_intB <;> contradiction)
  | (apply p_intN <;> contradiction)
  | (apply p_tup; (· contradiction); (· rfl))
  | exact p_nil
  | (apply p_cons <;> contradiction)
  | (apply p_ixE; (· exact p_var rfl); (· assumption); (· rfl))
  | (apply p_ixO; (· exact p_var rfl); (· assumption); (· rfl))
  | fail)
local macro_rules | `(tactic| ac_rfl) => `(tactic| first
  | (apply x_ret; (· contradiction))
  | (apply x_asg; (· contradiction); (· rfl); dsimp only [List.set])
  | (apply x_ifJ; (· contradiction); (· contradiction); (· rfl); dsimp only [List.set])
  | (apply x_ifJ2; (· contradiction); (· contradiction); (· rfl); (· contradiction); (· rfl); dsimp only [List.set])
  | (apply x_if; (· contradiction); all_goals (intro h; first | exact absurd (show true = false from h) (by decide) | exact absurd (show false = true from h) (by decide) | skip))
  | fail)

def mFail (v : Ov) (x : S5) : Option S5 :=
  bif Nat.beq x.a 0 then none else
  bif Nat.blt x.a 3 then some ⟨0, 0, 0, bif (Nat.beq x.c 1 && Nat.beq v.d 55) then 1 else x.d, bif (Nat.beq x.c 1 && Nat.beq v.d 56) then Nat.min 2 (x.e + 1) else x.e⟩ else
  let so := (Nat.beq v.a 49 && Nat.beq v.b 53).toNat
  bif Nat.beq v.c 56 && !Nat.beq v.a 36 then
    let th := Nat.beq so 1 || (Nat.beq x.c 1 || (Nat.beq v.a 50 && Nat.blt 0 x.e))
    some ⟨4, bif th then 0 else so, bif th then 0 else x.c, x.d, bif th && (Nat.beq v.e 61 || Nat.beq x.e 0) then Nat.min 2 (x.e + 1) else x.e⟩
  else some ⟨4, so, x.c, x.d, x.e⟩
theorem sFail {n s l v} (h : OutAt s l v) (x : S5) :
    callN G (n + 2) 43 [.ref l, enc x] s = .ok (encO (mFail v x)) s := by
  refine V_eq (ts := d43.body) ?_
  show VS G (callN G (n + 1)) [_, _, _, _, _, _] [some (.ref l), some (enc x), none, none, none, none, none, none] s _ _
  repeat' (first | ac_rfl)
  all_goals (refine ⟨?_, rfl⟩; simp only [mFail, *, cond_true, cond_false]; rfl)
/-- the six events -/
abbrev evts : List Nat := [65, 28, 49, 72, 73, 62]
def mAfter (v : Ov) (x : S5) (ev : Nat) : Option S5 :=
  bif Nat.beq ev 73 then mFail v x else
  bif Nat.beq ev 62 then (bif Nat.beq x.c 0 || Nat.beq v.f 63 then none else some ⟨x.a, x.b, 0, x.d, x.e⟩) else
  bif Nat.beq ev 65 then (bif !Nat.beq x.a 0 then none else bif Nat.beq v.a 36 then some ⟨x.a + 1, x.b, x.c, x.d, Nat.min 2 (x.e + 1)⟩ else some ⟨x.a + 1, 1, x.c, x.d, x.e⟩) else
  bif Nat.beq ev 28 then (bif !Nat.beq x.a 1 then none else bif Nat.beq v.a 50 then some ⟨x.a + 1, 0, 1, x.d, x.e⟩ else some ⟨x.a + 1, x.b, x.c, x.d, x.e⟩) else
  bif Nat.beq ev 49 then (bif !Nat.beq x.a 2 then none else some ⟨x.a + 1, x.b, x.c, x.d, x.e⟩) else
  (bif !Nat.beq x.a 3 then none else bif Nat.beq x.b 1 || Nat.beq x.c 1 then some ⟨x.a + 1, 0, 0, x.d, Nat.min 2 (x.e + 1)⟩ else some ⟨x.a + 1, x.b, x.c, x.d, x.e⟩)
theorem ca43 {c : Call} {a b : D} {s : Sto} : callA G c 43 [a, b] [] [] s = c 43 [a, b] s := rfl
theorem ca44 {c : Call} {a b d : D} {s : Sto} : callA G c 44 [a, b, d] [] [] s = c 44 [a, b, d] s := rfl
theorem ca45 {c : Call} {a b d : D} {s : Sto} : callA G c 45 [a, b, d] [] [] s = c 45 [a, b, d] s := rfl
theorem sAR {n s l v} (h : OutAt s l v) (x : S5) {ev : Nat} (he : ev ∈ evts) :
    Ro (callN G (n + 3) 44 [.ref l, enc x, .str ev] s) (encO (mAfter v x ev)) s := by
  refine VRo (ts := d44.body) ?_
  have hd := h.app [.dct false [(.str 65, .int 0), (.str 28, .int 1), (.str 49, .int 2), (.str 72, .int 3)]]
  simp only [evts, List.mem_cons, List.mem_nil_iff, or_false] at he
  rcases he with rfl | rfl | rfl | rfl | rfl | rfl
  · show VS G (callN G (n + 2)) [_, _, _, _, _, _, _, _] [some (.ref l), some (enc x), some (.str _), none, none, none, none, none] s _ _
    repeat' ac_rfl
    refine x_ifS (eDisp rfl rfl rfl rfl c_neN) (fun h => ?_) (fun h => ?_)
    all_goals repeat' ac_rfl
    all_goals (refine ⟨?_, _, rfl⟩; simp only [mAfter, *, cond_true, cond_false]; first | rfl | (simp_all [nb, encO, enc]; done) | (simp_all [nb, encO, enc, Bool.cond_eq_ite]; done) | (simp_all [nb, encO, enc, Bool.cond_eq_ite] <;> split <;> simp_all))
  · show VS G (callN G (n + 2)) [_, _, _, _, _, _, _, _] [some (.ref l), some (enc x), some (.str _), none, none, none, none, none] s _ _
    repeat' ac_rfl
    refine x_ifS (eDisp rfl rfl rfl rfl c_neN) (fun h => ?_) (fun h => ?_)
    all_goals repeat' ac_rfl
    all_goals (refine ⟨?_, _, rfl⟩; simp only [mAfter, *, cond_true, cond_false]; first | rfl | (simp_all [nb, encO, enc]; done) | (simp_all [nb, encO, enc, Bool.cond_eq_ite]; done) | (simp_all [nb, encO, enc, Bool.cond_eq_ite] <;> split <;> simp_all))
  · show VS G (callN G (n + 2)) [_, _, _, _, _, _, _, _] [some (.ref l), some (enc x), some (.str _), none, none, none, none, none] s _ _
    repeat' ac_rfl
    refine x_ifS (eDisp rfl rfl rfl rfl c_neN) (fun h => ?_) (fun h => ?_)
    all_goals repeat' ac_rfl
    all_goals (refine ⟨?_, _, rfl⟩; simp only [mAfter, *, cond_true, cond_false]; first | rfl | (simp_all [nb, encO, enc]; done) | (simp_all [nb, encO, enc, Bool.cond_eq_ite]; done) | (simp_all [nb, encO, enc, Bool.cond_eq_ite] <;> split <;> simp_all))
  · show VS G (callN G (n + 2)) [_, _, _, _, _, _, _, _] [some (.ref l), some (enc x), some (.str _), none, none, none, none, none] s _ _
    repeat' ac_rfl
    refine x_ifS (eDisp rfl rfl rfl rfl c_neN) (fun h => ?_) (fun h => ?_)
    all_goals repeat' ac_rfl
    all_goals (refine ⟨?_, _, rfl⟩; simp only [mAfter, *, cond_true, cond_false]; first | rfl | (simp_all [nb, encO, enc]; done) | (simp_all [nb, encO, enc, Bool.cond_eq_ite]; done) | (simp_all [nb, encO, enc, Bool.cond_eq_ite] <;> split <;> simp_all))
  · show VS G (callN G (n + 2)) [_, _, _, _, _, _, _, _] [some (.ref l), some (enc x), some (.str _), none, none, none, none, none] s _ _
    repeat' ac_rfl
    refine x_ret (p_call (vs := [.ref l, enc x]) (us := []) (z := encO (mFail v x)) (by contradiction) p_nil (by rw [ca43]; exact sFail h x)) ⟨rfl, [], (List.append_nil _).symm⟩
  · show VS G (callN G (n + 2)) [_, _, _, _, _, _, _, _] [some (.ref l), some (enc x), some (.str _), none, none, none, none, none] s _ _
    repeat' ac_rfl
    all_goals (refine ⟨?_, [], (List.append_nil _).symm⟩; simp only [mAfter, *, cond_true, cond_false]; first | rfl | (simp_all [nb, encO, enc]; done) | (simp_all [nb, encO, enc, Bool.cond_eq_ite]; done) | (simp_all [nb, encO, enc, Bool.cond_eq_ite] <;> split <;> simp_all))
end K50
end Sec45
section Sec46
set_option linter.all false
set_option maxRecDepth 100000
set_option maxHeartbeats 4000000
namespace K50
open PD
local macro_rules | `(tactic| contradiction) => `(tactic| first
  | exact p_lit
  | exact p_var rfl
  | exact p_con rfl
  | (apply p_and <;> contradiction)
  | (apply p_or <;> contradiction)
  | (apply p_not <;> contradiction)
  | (apply p_eqSl; (· contradiction))
  | (apply p_neSl; (· contradiction))
  | (apply p_eqN <;> contradiction)
  | (apply p_eqS <;> contradiction)
  | (apply p_neN <;> contradiction)
  | (apply p_neS <;> contradiction)
  | (apply p_ltN <;> contradiction)
  | (apply p_gtN <;> contradiction)
  | (apply p_isn <;> contradiction)
  | (apply p_is <;> contradiction)
  | (apply p_addN <;> contradiction)
  | (apply p_minN <;> contradiction)
  | (apply p_intB <;> contradiction)
  | (apply p_intN <;> contradiction)
  | (apply p_tup; (· contradiction); (· rfl))
  | exact p_nil
  | (apply p_cons <;> contradiction)
  | (apply p_ixE; (· exact p_var rfl); (· assumption); (· rfl))
  | (apply p_ixO; (· exact p_var rfl); (· assumption); (· rfl))
  | fail)
local macro_rules | `(tactic| ac_rfl) => `(tactic| first
  | (apply x_ret; (· contradiction))
  | (apply x_asg; (· contradiction); (· rfl); dsimp only [List.set])
  | (apply x_ifJ; (· contradiction); (· contradiction); (· rfl); dsimp only [List.set])
  | (apply x_ifJ2; (· contradiction); (· contradiction); (· rfl); (· contradiction); (· rfl); dsimp only [List.set])
  | (apply x_if; (· contradiction); all_goals (intro h; first | exact absurd (show true = false from h) (by decide) | exact absurd (show false = true from h) (by decide) | skip))
  | fail)

theorem isO {s l v} (h : OutAt s l v) : isiD G (.ref l) 93 s = .ok (.bl true) s := by
  obtain ⟨k, h1, h2⟩ := h.at_
  simp only [isiD, h1]
  rfl
/-- the program's after -/
theorem sA {n s l v} (h : OutAt s l v) (x : S5) {ev : Nat} (he : ev ∈ evts) :
    Ro (callN G (n + 4) 45 [.ref l, enc x, .str ev] s) (encO (mAfter v x ev)) s := by
  obtain ⟨t, ht⟩ := sAR (n := n) h x he
  refine VRo (ts := d45.body) ?_
  show VS G (callN G (n + 3)) [_, _, _, _, _, _] [some (.ref l), some (enc x), some (.str ev)] s _ _
  refine x_if (p_isi (p_var rfl) (isO h)) (fun _ => ?_) (fun h => nomatch h)
  refine x_retW ?_
  rw [W_call]
  refine pu_Ws (p_cons (p_var rfl) (p_cons (p_var rfl) (p_cons (p_var rfl) p_nil))) (pu_Ws p_nil ?_)
  rw [ca44, ht]
  exact ⟨rfl, t, rfl⟩
/-- a standing shows a fault -/
def mShows (x : S5) (f : Nat) : Bool :=
  bif Nat.beq f 52 then Nat.beq x.a 4 && Nat.beq x.e 0 else
  bif Nat.beq f 61 then Nat.beq x.e 2 || (Nat.blt 0 x.e && Nat.beq x.a 0) else Nat.beq x.d 1
abbrev flts : List Nat := [52, 61, 76]
theorem sSR {n s} (x : S5) {f : Nat} (hf : f ∈ flts) : callN G (n + 1) 50 [enc x, .str f] s = .ok (.bl (mShows x f)) s := by
  refine V_eq (ts := d50.body) ?_
  simp only [flts, List.mem_cons, List.mem_nil_iff, or_false] at hf
  rcases hf with rfl | rfl | rfl
  all_goals
    show VS G (callN G n) [_, _, _, _, _] [some (enc x), some (.str _), none, none, none, none, none] s _ _
  all_goals repeat' ac_rfl
  all_goals exact ⟨rfl, rfl⟩
theorem ca50 {c : Call} {a b : D} {s : Sto} : callA G c 50 [a, b] [] [] s = c 50 [a, b] s := rfl
theorem ca51 {c : Call} {a b d : D} {s : Sto} : callA G c 51 [a, b, d] [] [] s = c 51 [a, b, d] s := rfl
theorem sS {n s l v} (h : OutAt s l v) (x : S5) {f : Nat} (hf : f ∈ flts) : callN G (n + 2) 51 [.ref l, enc x, .str f] s = .ok (.bl (mShows x f)) s := by
  refine V_eq (ts := d51.body) ?_
  show VS G (callN G (n + 1)) [_, _, _, _, _, _, _, _] [some (.ref l), some (enc x), some (.str _), none, none, none, none, none, none, none, none, none, none, none] s _ _
  refine x_if (p_isi (p_var rfl) (isO h)) (fun _ => ?_) (fun h => nomatch h)
  refine x_ret (p_call (p_cons (p_var rfl) (p_cons (p_var rfl) p_nil)) p_nil (by rw [ca50]; exact sSR x hf)) ⟨rfl, rfl⟩
theorem ca46 {c : Call} {a : D} {s : Sto} : callA G c 46 [a] [] [] s = c 46 [a] s := rfl
theorem sE {n s l v} (h : OutAt s l v) : callN G (n + 1) 46 [.ref l] s = .ok (.ctp (evts.map .str)) s := by
  refine V_eq (ts := d46.body) ?_
  show VS G (callN G n) [_, _] [some (.ref l)] s _ _
  refine x_if (p_isi (p_var rfl) (isO h)) (fun _ => ?_) (fun h => nomatch h)
  exact x_ret (p_con rfl) ⟨rfl, rfl⟩
abbrev x0 : S5 := ⟨0, 0, 0, 0, 0⟩
theorem ca48 {c : Call} {a : D} {s : Sto} : callA G c 48 [a] [] [] s = c 48 [a] s := rfl
theorem sSt {n s l v} (h : OutAt s l v) : callN G (n + 1) 48 [.ref l] s = .ok (.ref s.length) (s ++ [.lst [enc x0]]) := by
  refine V_eq (ts := d48.body) ?_
  show VS G (callN G n) [_, _, _] [some (.ref l)] s _ _
  refine x_if (p_isi (p_var rfl) (isO h)) (fun _ => ?_) (fun h => nomatch h)
  refine x_retW ?_
  rw [W_lst]
  exact pu_Ws (p_cons (by contradiction) p_nil) ⟨rfl, rfl, rfl⟩
end K50
end Sec46
section Sec47
set_option linter.all false
set_option maxRecDepth 100000
set_option maxHeartbeats 4000000
namespace K50
open PD
local macro_rules | `(tactic| contradiction) => `(tactic| first
  | exact p_lit
  | exact p_var rfl
  | exact p_con rfl
  | (apply p_and <;> contradiction)
  | (apply p_or <;> contradiction)
  | (apply p_not <;> contradiction)
  | (apply p_eqSl; (· contradiction))
  | (apply p_neSl; (· contradiction))
  | (apply p_eqN <;> contradiction)
  | (apply p_eqS <;> contradiction)
  | (apply p_neN <;> contradiction)
  | (apply p_neS <;> contradiction)
  | (apply p_ltN <;> contradiction)
  | (apply p_gtN <;> contradiction)
  | (apply p_isn <;> contradiction)
  | (apply p_is <;> contradiction)
  | (apply p_addN <;> contradiction)
  | (apply p_minN <;> contradiction)
  | (apply p_intB <;> contradiction)
  | (apply p_intN <;> contradiction)
  | (apply p_tup; (· contradiction); (· rfl))
  | exact p_nil
  | (apply p_cons <;> contradiction)
  | (apply p_ixE; (· exact p_var rfl); (· assumption); (· rfl))
  | (apply p_ixO; (· exact p_var rfl); (· assumption); (· rfl))
  | fail)
local macro_rules | `(tactic| ac_rfl) => `(tactic| first
  | (apply x_ret; (· contradiction))
  | (apply x_asg; (· contradiction); (· rfl); dsimp only [List.set])
  | (apply x_ifJ; (· contradiction); (· contradiction); (· rfl); dsimp only [List.set])
  | (apply x_ifJ2; (· contradiction); (· contradiction); (· rfl); (· contradiction); (· rfl); dsimp only [List.set])
  | (apply x_if; (· contradiction); all_goals (intro h; first | exact absurd (show true = false from h) (by decide) | exact absurd (show false = true from h) (by decide) | skip))
  | fail)

def eq5 (x y : S5) : Bool := Nat.beq x.a y.a && (Nat.beq x.b y.b && (Nat.beq x.c y.c && (Nat.beq x.d y.d && Nat.beq x.e y.e)))
theorem beq_enc (x y : S5) : D.beq (enc x) (enc y) = eq5 x y := by
  show (decide _ && (decide _ && (decide _ && (decide _ && (decide _ && true))))) = _
  rw [dN, dN, dN, dN, dN, Bool.and_true]; rfl
/-- a table with what stands behind each standing -/
def lk5 {α : Type} : List (S5 × α) → S5 → Option α
  | [], _ => none
  | p :: r, y => bif eq5 p.1 y then some p.2 else lk5 r y
theorem lkD_enc {α : Type} (g : α → D) (y : S5) : ∀ l : List (S5 × α), lkD (l.map fun p => (enc p.1, g p.2)) (enc y) = (lk5 l y).map g
  | [] => rfl
  | p :: r => by
    show (if D.beq (enc p.1) (enc y) then some (g p.2) else lkD _ _) = Option.map g (bif eq5 p.1 y then some p.2 else lk5 r y)
    rw [beq_enc, lkD_enc g y r]
    cases eq5 p.1 y <;> rfl
theorem key5 (x : S5) : keyOk true (enc x) = true := rfl
theorem OutAt.setL {s l v} {k : Nat} {xs : List D} (h : OutAt s l v) (hk : nth s k = some (.lst xs)) (o : O) : OutAt (s.set k o) l v := by
  obtain ⟨q, h1, h2⟩ := h.at_
  exact ⟨q, by rw [nth_set_ne (fun e => by subst e; rw [hk] at h1; cases h1)]; exact h1, by rw [nth_set_ne (fun e => by subst e; rw [hk] at h2; cases h2)]; exact h2⟩
theorem OutAt.setK {s l v} {k : Nat} {xs : List (D × D)} (h : OutAt s l v) (hk : nth s k = some (.dct true xs)) (o : O) : OutAt (s.set k o) l v := by
  obtain ⟨q, h1, h2⟩ := h.at_
  exact ⟨q, by rw [nth_set_ne (fun e => by subst e; rw [hk] at h1; cases h1)]; exact h1, by rw [nth_set_ne (fun e => by subst e; rw [hk] at h2; cases h2)]; exact h2⟩
theorem OutAt.ext {s s' l v} (h : OutAt s l v) (e : SExt s s') : OutAt s' l v := by
  obtain ⟨q, h1, h2⟩ := h.at_
  exact ⟨q, e.h _ _ h1, e.h _ _ h2⟩
theorem EntAt.ext {s s' l v} (h : EntAt s l v) (e : SExt s s') : EntAt s' l v := ⟨e.h _ _ h.at_⟩
theorem EntAt.setL {s l v} {k : Nat} (h : EntAt s l v) (hk : l ≠ k) (o : O) : EntAt (s.set k o) l v := ⟨by rw [nth_set_ne (fun e => hk e.symm)]; exact h.at_⟩
abbrev tab (t : List S5) : List (S5 × Unit) := t.map fun x => (x, ())
def mem5 (y : S5) (t : List S5) : Bool := t.any fun x => eq5 x y
theorem lk_mem (y : S5) (t : List S5) : (lk5 (tab t) y).isSome = mem5 y t := by
  induction t with
  | nil => rfl
  | cons x r ih =>
    show (bif eq5 x y then some () else lk5 (tab r) y).isSome = (eq5 x y || mem5 y r)
    cases eq5 x y
    · exact ih
    · rfl
def step1 (A : S5 → Nat → Option S5) (t : List S5) (x : S5) (ev : Nat) : List S5 := match A x ev with
  | none => t
  | some y => bif mem5 y t then t else t ++ [y]
def expd (A : S5 → Nat → Option S5) (x : S5) : List Nat → List S5 → List S5
  | [], t => t
  | e :: r, t => expd A x r (step1 A t x e)
/-- the closed table; below 1000 -/
def bfs (A : S5 → Nat → Option S5) : Nat → Nat → List S5 → Option (List S5)
  | 0, _, _ => none
  | n + 1, i, t => match nth t i with
    | none => some t
    | some x => bif Nat.blt t.length 1000 then bfs A n (i + 1) (expd A x evts t) else none
abbrev kvT (t : List S5) : List (D × D) := (tab t).map fun p => (enc p.1, .bl true)
theorem lk_kvT (y : S5) (t : List S5) : (lkD (kvT t) (enc y)).isSome = mem5 y t := by
  rw [lkD_enc (fun _ => .bl true) y (tab t), Option.isSome_map, lk_mem]
theorem kvT_none {y : S5} {t : List S5} (h : mem5 y t = false) : lkD (kvT t) (enc y) = none := by
  have := lk_kvT y t
  rw [h] at this
  cases e : lkD (kvT t) (enc y) with
  | none => rfl
  | some z => rw [e] at this; cases this
structure StT (s0 s : Sto) (l t k : Nat) (v : Ov) (tb : List S5) : Prop where
  e : SExt s0 s
  o : OutAt s l v
  ht : nth s t = some (.lst (tb.map enc))
  hk : nth s k = some (.dct true (kvT tb))
  tn : nth s0 t = none
  kn : nth s0 k = none
theorem StT.app {s0 s l t k v tb} (h : StT s0 s l t k v tb) (u : Sto) : StT s0 (s ++ u) l t k v tb := ⟨h.e.app u, h.o.app u, nth_app u h.ht, nth_app u h.hk, h.tn, h.kn⟩
theorem StT.ne {s0 s l t k v tb} (h : StT s0 s l t k v tb) : t ≠ k := fun e => by have a := h.ht; rw [e, h.hk] at a; cases a
theorem StT.add {s0 s l t k v tb} (h : StT s0 s l t k v tb) (y : S5) : StT s0 ((s.set k (.dct true (kvT tb ++ [(enc y, .bl true)]))).set t (.lst (tb.map enc ++ [enc y]))) l t k v (tb ++ [y]) := by
  have h1 : nth (s.set k (.dct true (kvT tb ++ [(enc y, .bl true)]))) t = some (.lst (tb.map enc)) := by rw [nth_set_ne (fun e => h.ne e.symm)]; exact h.ht
  refine ⟨(h.e.set _ h.kn).set _ h.tn, (h.o.setK h.hk _).setL h1 _, ?_, ?_, h.tn, h.kn⟩
  · rw [nth_set_eq h1, List.map_append]; rfl
  · rw [nth_set_ne h.ne, nth_set_eq h.hk]
    simp [kvT, tab]
theorem sStand {m n s l v tb} (h : OutAt s l v) (hn : n < fuelL) (hb : bfs (mAfter v) n 0 [x0] = some tb) :
    W (callN G (m + 5) 49 [.ref l] s) fun d s' => d = .tup (tb.map enc) ∧ SExt s s' := by
  refine W_of (G := G) (c := callN G (m + 4)) (ts := d49.body) (fr := [some (.ref l), none, none, none, none, none, none]) ?_
  show VS G (callN G (m + 4)) [_, _, _, _, _] _ s _ _
  refine x_asgW (W_call1 (by contradiction) ?_)
  rw [ca48]
  refine W_eq (sSt (n := m + 3) h) ⟨_, rfl, ?_⟩
  dsimp only [List.set]
  have o1 := h.app [.lst [enc x0]]
  have t1 : nth (s ++ [.lst [enc x0]]) s.length = some (.lst [enc x0]) := nth_len s _ []
  -- the dict
  refine x_asgW ?_
  rw [W_dc]
  refine pu_Ws (p_cons (p_var rfl) p_nil) (dct_one t1 (k := enc x0) (v := .bl true) ?_ rfl ⟨_, rfl, ?_⟩)
  · simp only [dcT, letT, wipe, List.set, (p_var rfl : Pu G _ [_, _, _, _, _, _, some (enc x0)] _ (.var 6) (enc x0)).h, p_lit.h, R.bind]
  dsimp only [List.set]
  have i0 : StT s (s ++ [O.lst [enc x0]] ++ [O.dct true [(enc x0, .bl true)]]) l s.length (s ++ [O.lst [enc x0]]).length v [x0] :=
    ⟨((SExt.refl s).app _).app _, o1.app _, nth_app _ t1, nth_len _ _ [], nth_nil (Nat.le_refl _), nth_nil (by rw [List.length_append]; exact Nat.le_add_right ..)⟩
  generalize (s ++ [O.lst [enc x0]]).length = k at i0 ⊢
  generalize (s ++ [O.lst [enc x0]] ++ [O.dct true [(enc x0, .bl true)]]) = s1 at i0 ⊢
  generalize s.length = t at i0 ⊢
  refine x_asg p_lit rfl (x_while ?_)
  dsimp only [List.set]
  refine V_whl (fun q fr s' => ∃ i tb' a b, fr = [some (.ref l), some (.ref t), some (.ref k), some (N' i), a, b, none] ∧ bfs (mAfter v) q i tb' = some tb ∧ StT s s' l t k v tb') ?_ fuelL n _ _ hn ⟨0, [x0], none, none, rfl, hb, i0⟩
  rintro q fr s' ⟨i, tb', a, b, rfl, hq, I⟩
  refine pu_W (p_ltN (p_var rfl) (p_len (p_var rfl) I.ht)) ?_
  cases q with
  | zero => cases hq
  | succ q =>
  unfold bfs at hq
  cases hi : nth tb' i with
  | none =>
    left
    rw [hi] at hq
    obtain rfl : tb' = tb := Option.some.inj hq
    have hf : Nat.blt i tb'.length = false := by
      cases e : Nat.blt i tb'.length with
      | false => rfl
      | true => obtain ⟨x, hx⟩ := nth_of_lt (Nat.le_of_ble_eq_true e); rw [hx] at hi; cases hi
    refine ⟨by rw [List.length_map, hf], x_retW ?_⟩
    rw [W_bi]
    refine pu_Ws (p_cons (p_var rfl) p_nil) (W_eq (s := s') (a := .tup (tb'.map enc)) ?_ ⟨rfl, I.e⟩)
    simp only [biD, lstO, I.ht]
  | some x =>
    right
    rw [hi] at hq
    have hlt := nth_lt hi
    refine ⟨congrArg D.bl (Nat.ble_eq_true_of_le (by rw [List.length_map]; exact hlt)), ?_⟩
    have hbl : Nat.blt tb'.length 1000 = true := by
      cases e : Nat.blt tb'.length 1000 with
      | true => rfl
      | false => simp only [e, cond_false] at hq; cases hq
    simp only [hbl, cond_true] at hq
    suffices h : VS G (callN G (m + 4)) [_, _] [some (.ref l), some (.ref t), some (.ref k), some (N' i), a, b, none] s' _ _ from h.h
    obtain ⟨R, hR⟩ : ∃ R, R = expd (mAfter v) x evts tb' := ⟨_, rfl⟩
    rw [← hR] at hq
    refine x_for (vs := [.ctp (evts.map .str)]) (w := .seq (evts.map .str)) (p_cons (p_call (p_cons (p_var rfl) p_nil) p_nil (by rw [ca46]; exact sE I.o)) p_nil) rfl (V_seq (evts.map D.str)
      (fun r fr s2 => ∃ tb2 evs a b, r = evs.map D.str ∧ (∀ e ∈ evs, e ∈ evts) ∧ expd (mAfter v) x evs tb2 = R ∧ tb2.length + evs.length ≤ 1006 ∧ nth tb2 i = some x ∧ fr = [some (.ref l), some (.ref t), some (.ref k), some (N' i), a, b, none] ∧ StT s s2 l t k v tb2) (by decide)
      ⟨tb', evts, a, b, rfl, fun _ h => h, hR.symm, ?_, hi, rfl, I⟩ ?_ ?_)
    · have := Nat.le_of_ble_eq_true hbl
      show tb'.length + 6 ≤ 1006
      omega
    · rintro fr s2 ⟨tb2, evs, a, b, he, -, hx, -, -, rfl, I2⟩
      cases evs with
      | cons e r => cases he
      | nil =>
        have hx : tb2 = R := hx
        subst hx
        exact x_aug rfl p_lit rfl (x_nil ⟨q, Nat.lt_succ_self q, i + 1, _, a, b, rfl, hq, I2⟩)
    · rintro d r fr s2 ⟨tb2, evs, a, b, he, hm, hx, hlen, hi2, rfl, I2⟩
      cases evs with
      | nil => cases he
      | cons e evs =>
      obtain ⟨rfl, rfl⟩ := List.cons.inj he
      refine x_forT rfl ?_
      dsimp only [List.set]
      refine x_asgW (W_call1 (vs := [.ref l, enc x, .str e]) (p_cons (p_var rfl) (p_cons (p_ixN (p_var rfl) I2.ht (p_var rfl) (by rw [nth_map, hi2]; rfl)) (p_cons (p_var rfl) p_nil))) ?_)
      rw [ca45]
      obtain ⟨u, hu⟩ := sA (n := m) I2.o x (hm e (List.mem_cons_self ..))
      refine W_eq hu ⟨_, rfl, ?_⟩
      dsimp only [List.set]
      have I3 := I2.app u
      have hl2 : tb2.length < 1006 := by
        simp only [List.length_cons] at hlen
        omega
      have hx : expd (mAfter v) x evs (step1 (mAfter v) tb2 x e) = R := hx
      unfold step1 at hx
      cases hA : mAfter v x e with
      | none =>
        rw [hA] at hx
        refine x_if (p_andF (p_isn (x := .non) (p_var rfl))) (fun h => nomatch h) (fun _ => x_nil ⟨tb2, evs, _, _, rfl, fun e he => hm e (List.mem_cons_of_mem _ he), hx, ?_, hi2, rfl, I3⟩)
        simp only [List.length_cons] at hlen
        omega
      | some y =>
        rw [hA] at hx
        have hx : expd (mAfter v) x evs (bif mem5 y tb2 then tb2 else tb2 ++ [y]) = R := hx
        refine x_if (p_andT (p_isn (x := enc y) (p_var rfl)) (p_ninK (x := enc y) (p_var rfl) (p_var rfl) I3.hk (key5 y))) (fun h => ?_) (fun h => ?_)
        · rw [lk_kvT] at h
          have h : mem5 y tb2 = false := by simpa using h
          rw [h, cond_false] at hx
          have h1 : nth ((s2 ++ u).set k (.dct true (kvT tb2 ++ [(enc y, .bl true)]))) t = some (.lst (tb2.map enc)) := by rw [nth_set_ne (fun e => I3.ne e.symm)]; exact I3.ht
          refine x_asgS (x := .ref k) (y := enc y) p_lit (p_var rfl) (p_var rfl) (setK I3.hk (key5 y) ?_ (kvT_none h)) (x_appd (v := enc y) (p_var rfl) h1 rfl (p_var rfl) ?_ (x_nil ⟨tb2 ++ [y], evs, _, _, rfl, fun e he => hm e (List.mem_cons_of_mem _ he), hx, ?_, nth_app _ hi2, rfl, I3.add y⟩))
          · exact Nat.ble_eq_true_of_le (by simp only [List.length_map, line]; omega)
          · exact Nat.ble_eq_true_of_le (by simp only [List.length_map, line]; omega)
          · simp only [List.length_cons, List.length_append, List.length_nil] at hlen ⊢
            omega
        · rw [lk_kvT] at h
          have h : mem5 y tb2 = true := by simpa using h
          rw [h, cond_true] at hx
          refine x_nil ⟨tb2, evs, _, _, rfl, fun e he => hm e (List.mem_cons_of_mem _ he), hx, ?_, hi2, rfl, I3⟩
          simp only [List.length_cons] at hlen
          omega
end K50
end Sec47
section Sec48
set_option linter.all false
set_option maxRecDepth 100000
set_option maxHeartbeats 4000000
namespace K50
open PD
local macro_rules | `(tactic| contradiction) => `(tactic| first
  | exact p_lit
  | exact p_var rfl
  | exact p_con rfl
  | (apply p_and <;> contradiction)
  | (apply p_or <;> contradiction)
  | (apply p_not <;> contradiction)
  | (apply p_eqSl; (· contradiction))
  | (apply p_neSl; (· contradiction))
  | (apply p_eqN <;> contradiction)
  | (apply p_eqS <;> contradiction)
  | (apply p_neN <;> contradiction)
  | (apply p_neS <;> contradiction)
  | (apply p_ltN <;> contradiction)
  | (apply p_gtN <;> contradiction)
  | (apply p_isn <;> contradiction)
  | (apply p_is <;> contradiction)
  | (apply p_addN <;> contradiction)
  | (apply p_minN <;> contradiction)
  | (apply p_intB <;> contradiction)
  | (apply p_intN <;> contradiction)
  | (apply p_tup; (· contradiction); (· rfl))
  | exact p_nil
  | (apply p_cons <;> contradiction)
  | (apply p_ixE; (· exact p_var rfl); (· assumption); (· rfl))
  | (apply p_ixO; (· exact p_var rfl); (· assumption); (· rfl))
  | fail)
local macro_rules | `(tactic| ac_rfl) => `(tactic| first
  | (apply x_ret; (· contradiction))
  | (apply x_asg; (· contradiction); (· rfl); dsimp only [List.set])
  | (apply x_ifJ; (· contradiction); (· contradiction); (· rfl); dsimp only [List.set])
  | (apply x_ifJ2; (· contradiction); (· contradiction); (· rfl); (· contradiction); (· rfl); dsimp only [List.set])
  | (apply x_if; (· contradiction); all_goals (intro h; first | exact absurd (show true = false from h) (by decide) | exact absurd (show false = true from h) (by decide) | skip))
  | fail)

abbrev QP : Type := List (S5 × List Nat)
def stepP (A : S5 → Nat → Option S5) (q : QP) (x : S5) (ev : Nat) : Option QP := match A x ev with
  | none => some q
  | some y => bif (lk5 q y).isSome then some q else match lk5 q x with
    | some p => bif Nat.blt p.length 1000 then some (q ++ [(y, p ++ [ev])]) else none
    | none => none
def expP (A : S5 → Nat → Option S5) (x : S5) : List Nat → QP → Option QP
  | [], q => some q
  | e :: r, q => match stepP A q x e with
    | some q' => expP A x r q'
    | none => none
def bfsP (A : S5 → Nat → Option S5) (f : Nat) : Nat → Nat → QP → Option (Option (List Nat × S5))
  | 0, _, _ => none
  | n + 1, i, q => match nth q i with
    | none => some none
    | some p => bif mShows p.1 f then (lk5 q p.1).map fun w => some (w, p.1) else
      bif Nat.blt q.length 1000 then match expP A p.1 evts q with
        | some q' => bfsP A f n (i + 1) q'
        | none => none
      else none
abbrev strD (p : List Nat) : D := .tup (p.map .str)
def encR : Option (List Nat × S5) → D
  | none => .non
  | some (p, x) => .tup [strD p, enc x]
abbrev kvP (q : QP) : List (D × D) := q.map fun p => (enc p.1, strD p.2)
structure StP (s0 s : Sto) (l t k : Nat) (v : Ov) (q : QP) : Prop where
  e : SExt s0 s
  o : OutAt s l v
  ht : nth s t = some (.lst (q.map fun p => enc p.1))
  hk : nth s k = some (.dct true (kvP q))
  tn : nth s0 t = none
  kn : nth s0 k = none
theorem StP.app {s0 s l t k v tb} (h : StP s0 s l t k v tb) (u : Sto) : StP s0 (s ++ u) l t k v tb := ⟨h.e.app u, h.o.app u, nth_app u h.ht, nth_app u h.hk, h.tn, h.kn⟩
theorem StP.ne {s0 s l t k v tb} (h : StP s0 s l t k v tb) : t ≠ k := fun e => by have a := h.ht; rw [e, h.hk] at a; cases a
theorem StP.add {s0 s l t k v q} (h : StP s0 s l t k v q) (y : S5) (p : List Nat) : StP s0 ((s.set k (.dct true (kvP q ++ [(enc y, strD p)]))).set t (.lst (q.map (fun p => enc p.1) ++ [enc y]))) l t k v (q ++ [(y, p)]) := by
  have h1 : nth (s.set k (.dct true (kvP q ++ [(enc y, strD p)]))) t = some (.lst (q.map fun p => enc p.1)) := by rw [nth_set_ne (fun e => h.ne e.symm)]; exact h.ht
  refine ⟨(h.e.set _ h.kn).set _ h.tn, (h.o.setK h.hk _).setL h1 _, ?_, ?_, h.tn, h.kn⟩
  · rw [nth_set_eq h1, List.map_append]; rfl
  · rw [nth_set_ne h.ne, nth_set_eq h.hk]
    simp [kvP]
theorem lk_kvP (y : S5) (q : QP) : lkD (kvP q) (enc y) = (lk5 q y).map strD := lkD_enc strD y q
theorem cat1 (p : List Nat) (e : Nat) (s : Sto) (h : Nat.blt p.length 1000 = true) : binD .add (strD p) (.tup [.str e]) s = .ok (strD (p ++ [e])) s := by
  have h1 : Nat.ble ((p.map D.str).length + 1) line = true := Nat.ble_eq_true_of_le (by
    have := Nat.le_of_ble_eq_true h
    simp only [List.length_map, line]
    omega)
  cases p with
  | nil => rfl
  | cons a r =>
    show catT (.tup ((a :: r).map .str)) (.tup [.str e]) s = _
    unfold catT
    simp only [tupO, List.length_singleton, h1, if_true]
    show R.ok (D.tup ((a :: r).map D.str ++ [.str e])) s = _
    rw [strD, List.map_append]; rfl
theorem ca53 {c : Call} {a b d e : D} {s : Sto} : callA G c 53 [a, b, d, e] [] [] s = c 53 [a, b, d, e] s := rfl
abbrev movs : List D := evts.map fun e => .tup [.str e, .tup []]
theorem sShort {m n s l st mv f v r} (h : OutAt s l v) (hs : nth s st = some (.lst [enc x0])) (hm : nth s mv = some (.lst movs)) (hf : f ∈ flts) (hn : n < fuelL) (hb : bfsP (mAfter v) f n 0 [(x0, [])] = some r) :
    W (callN G (m + 5) 53 [.ref l, .ref st, .ref mv, .str f] s) fun d s' => d = encR r ∧ SExt s s' := by
  refine W_of (G := G) (c := callN G (m + 4)) (ts := d53.body) (fr := [some (.ref l), some (.ref st), some (.ref mv), some (.str f), none, none, none, none, none, none, none, none]) ?_
  show VS G (callN G (m + 4)) [_, _, _, _, _] _ s _ _
  refine x_asgW ?_
  rw [W_bi]
  refine pu_Ws (p_cons (p_var rfl) p_nil) (W_eq (a := .ref s.length) (s := s ++ [O.lst [enc x0]]) (by simp only [biD, lstO, hs]; rfl) ⟨_, rfl, ?_⟩)
  dsimp only [List.set]
  have o1 := h.app [.lst [enc x0]]
  have t1 : nth (s ++ [.lst [enc x0]]) s.length = some (.lst [enc x0]) := nth_len s _ []
  have t2 : nth (s ++ [.lst [enc x0]]) st = some (.lst [enc x0]) := nth_app _ hs
  refine x_asgW ?_
  rw [W_dc]
  refine pu_Ws (p_cons (p_var rfl) p_nil) (dct_one t2 (k := enc x0) (v := strD []) ?_ rfl ⟨_, rfl, ?_⟩)
  · simp only [dcT, letT, wipe, List.set, (p_var rfl : Pu G _ [_, _, _, _, _, _, _, _, _, _, _, some (enc x0)] _ (.var 11) (enc x0)).h, (p_tup p_nil rfl : Pu G _ [_, _, _, _, _, _, _, _, _, _, _, some (enc x0)] _ (.tup []) (.tup [])).h, R.bind]
    rfl
  dsimp only [List.set]
  have i0 : StP s (s ++ [O.lst [enc x0]] ++ [O.dct true [(enc x0, strD [])]]) l s.length (s ++ [O.lst [enc x0]]).length v [(x0, [])] :=
    ⟨((SExt.refl s).app _).app _, o1.app _, nth_app _ t1, nth_len _ _ [], nth_nil (Nat.le_refl _), nth_nil (by rw [List.length_append]; exact Nat.le_add_right ..)⟩
  generalize (s ++ [O.lst [enc x0]]).length = k at i0 ⊢
  generalize (s ++ [O.lst [enc x0]] ++ [O.dct true [(enc x0, strD [])]]) = s1 at i0 ⊢
  generalize s.length = t at i0 ⊢
  refine x_asg p_lit rfl (x_while ?_)
  dsimp only [List.set]
  refine V_whl (fun w fr s' => ∃ i q a b c d, fr = [some (.ref l), some (.ref st), some (.ref mv), some (.str f), some (.ref t), some (.ref k), some (N' i), a, b, c, d, none] ∧ bfsP (mAfter v) f w i q = some r ∧ StP s s' l t k v q) ?_ fuelL n _ _ hn ⟨0, [(x0, [])], none, none, none, none, rfl, hb, i0⟩
  rintro w fr s' ⟨i, q, a, b, c, d, rfl, hq, I⟩
  refine pu_W (p_ltN (p_var rfl) (p_len (p_var rfl) I.ht)) ?_
  cases w with
  | zero => cases hq
  | succ w =>
  unfold bfsP at hq
  cases hi : nth q i with
  | none =>
    left
    rw [hi] at hq
    obtain rfl : none = r := Option.some.inj hq
    have hf : Nat.blt i q.length = false := by
      cases e : Nat.blt i q.length with
      | false => rfl
      | true => obtain ⟨x, hx⟩ := nth_of_lt (Nat.le_of_ble_eq_true e); rw [hx] at hi; cases hi
    exact ⟨by rw [List.length_map, hf], x_ret p_lit ⟨rfl, I.e⟩⟩
  | some p =>
    right
    rw [hi] at hq
    have hlt := nth_lt hi
    refine ⟨congrArg D.bl (Nat.ble_eq_true_of_le (by rw [List.length_map]; exact hlt)), ?_⟩
    suffices h : VS G (callN G (m + 4)) [_, _, _, _] [some (.ref l), some (.ref st), some (.ref mv), some (.str f), some (.ref t), some (.ref k), some (N' i), a, b, c, d, none] s' _ _ from h.h
    refine x_asg (p_ixN (d := enc p.1) (p_var rfl) I.ht (p_var rfl) (by rw [nth_map, hi]; rfl)) rfl ?_
    dsimp only [List.set]
    refine x_if (p_call (p_cons (p_var rfl) (p_cons (p_var rfl) (p_cons (p_var rfl) p_nil))) p_nil (by rw [ca51]; exact sS (n := m + 2) I.o p.1 hf)) (fun h => ?_) (fun h => ?_)
    · have hq : (bif mShows p.1 f then (lk5 q p.1).map fun w => some (w, p.1) else _) = some r := hq
      rw [h, cond_true] at hq
      cases hl : lk5 q p.1 with
      | none => rw [hl] at hq; cases hq
      | some pa =>
        rw [hl] at hq
        obtain rfl : some (pa, p.1) = r := Option.some.inj hq
        exact x_ret (p_tup (p_cons (p_ixK (x := enc p.1) (d := strD pa) (p_var rfl) (p_var rfl) I.hk (key5 p.1) (by rw [lk_kvP, hl]; rfl)) (p_cons (p_var rfl) p_nil)) rfl) ⟨rfl, I.e⟩
    · have hq : (bif mShows p.1 f then (lk5 q p.1).map fun w => some (w, p.1) else
        bif Nat.blt q.length 1000 then match expP (mAfter v) p.1 evts q with
        | some q' => bfsP (mAfter v) f w (i + 1) q'
        | none => none
        else none) = some r := hq
      rw [h, cond_false] at hq
      have hbl : Nat.blt q.length 1000 = true := by
        cases e : Nat.blt q.length 1000 with
        | true => rfl
        | false => rw [e, cond_false] at hq; cases hq
      rw [hbl, cond_true] at hq
      cases hR : expP (mAfter v) p.1 evts q with
      | none => rw [hR] at hq; cases hq
      | some R =>
      rw [hR] at hq
      have hq : bfsP (mAfter v) f w (i + 1) R = some r := hq
      have hmv := I.e.h _ _ hm
      refine x_for (vs := [.ref mv]) (w := .live mv) (p_cons (p_var rfl) p_nil) (walk_live hmv) (V_live movs
        (fun rr fr s2 => ∃ q2 evs b c d, rr = evs.map (fun e => .tup [.str e, .tup []]) ∧ (∀ e ∈ evs, e ∈ evts) ∧ expP (mAfter v) p.1 evs q2 = some R ∧ q2.length + evs.length ≤ 1006 ∧ nth q2 i = some p ∧ fr = [some (.ref l), some (.ref st), some (.ref mv), some (.str f), some (.ref t), some (.ref k), some (N' i), some (enc p.1), b, c, d, none] ∧ StP s s2 l t k v q2) (by decide)
        (fun _ _ _ ⟨_, _, _, _, _, _, _, _, _, _, _, I⟩ => I.e.h _ _ hm) ⟨q, evts, b, c, d, rfl, fun _ h => h, hR, ?_, hi, rfl, I⟩ ?_ ?_)
      · have := Nat.le_of_ble_eq_true hbl
        show q.length + 6 ≤ 1006
        omega
      · rintro fr s2 ⟨q2, evs, b, c, d, he, -, hx, -, -, rfl, I2⟩
        cases evs with
        | cons e r => cases he
        | nil =>
          obtain rfl : q2 = R := Option.some.inj hx
          exact x_aug rfl p_lit rfl (x_nil ⟨w, Nat.lt_succ_self w, i + 1, _, _, b, c, d, rfl, hq, I2⟩)
      · rintro dd rr fr s2 ⟨q2, evs, b, c, d, he, hmm, hx, hlen, hi2, rfl, I2⟩
        cases evs with
        | nil => cases he
        | cons e evs =>
        obtain ⟨rfl, rfl⟩ := List.cons.inj he
        refine x_forT rfl ?_
        dsimp only [List.set]
        refine x_asg p_lit rfl (x_if (p_orT (p_eqN (x := 0) (y := 0) (p_lenT (xs := []) (p_var rfl)) p_lit)) (fun _ => ?_) (fun h => nomatch h))
        dsimp only [List.set]
        refine x_asgW (W_call1 (vs := [.ref l, enc p.1, .str e]) (p_cons (p_var rfl) (p_cons (p_var rfl) (p_cons (p_var rfl) p_nil))) ?_)
        rw [ca45]
        obtain ⟨u, hu⟩ := sA (n := m) I2.o p.1 (hmm e (List.mem_cons_self ..))
        refine W_eq hu ⟨_, rfl, ?_⟩
        dsimp only [List.set]
        have I3 := I2.app u
        have hl2 : q2.length < 1006 := by
          simp only [List.length_cons] at hlen
          omega
        have hx : (match stepP (mAfter v) q2 p.1 e with
          | some q' => expP (mAfter v) p.1 evs q'
          | none => none) = some R := hx
        unfold stepP at hx
        cases hA : mAfter v p.1 e with
        | none =>
          rw [hA] at hx
          refine x_if (p_andF (p_isn (x := .non) (p_var rfl))) (fun h => nomatch h) (fun _ => x_nil ⟨q2, evs, _, _, _, rfl, fun e he => hmm e (List.mem_cons_of_mem _ he), hx, ?_, hi2, rfl, I3⟩)
          simp only [List.length_cons] at hlen
          omega
        | some y =>
          rw [hA] at hx
          refine x_if (p_andT (p_isn (x := enc y) (p_var rfl)) (p_ninK (x := enc y) (p_var rfl) (p_var rfl) I3.hk (key5 y))) (fun h => ?_) (fun h => ?_)
          · rw [lk_kvP, Option.isSome_map] at h
            have h : (lk5 q2 y).isSome = false := by simpa using h
            simp only [h, cond_false] at hx
            cases hpa : lk5 q2 p.1 with
            | none => simp only [hpa] at hx; cases hx
            | some pa =>
            simp only [hpa] at hx
            have hpl : Nat.blt pa.length 1000 = true := by
              cases e : Nat.blt pa.length 1000 with
              | true => rfl
              | false => simp only [e, cond_false] at hx; cases hx
            simp only [hpl, cond_true] at hx
            have hnone : lkD (kvP q2) (enc y) = none := by
              rw [lk_kvP]
              cases e : lk5 q2 y with
              | none => rfl
              | some z => rw [e] at h; cases h
            have h1 : nth ((s2 ++ u).set k (.dct true (kvP q2 ++ [(enc y, strD (pa ++ [e]))]))) t = some (.lst (q2.map fun p => enc p.1)) := by rw [nth_set_ne (fun e => I3.ne e.symm)]; exact I3.ht
            refine x_asgS (x := .ref k) (y := enc y) (v := strD (pa ++ [e])) (p_bin (x := strD pa) (y := .tup [.str e]) (p_ixK (x := enc p.1) (d := strD pa) (p_var rfl) (p_var rfl) I3.hk (key5 p.1) (by rw [lk_kvP, hpa]; rfl)) (p_tup (p_cons (p_var rfl) p_nil) rfl) (cat1 pa e _ hpl)) (p_var rfl) (p_var rfl) (setK I3.hk (key5 y) ?_ hnone) (x_appd (v := enc y) (p_var rfl) h1 rfl (p_var rfl) ?_ (x_nil ⟨q2 ++ [(y, pa ++ [e])], evs, _, _, _, rfl, fun e he => hmm e (List.mem_cons_of_mem _ he), hx, ?_, nth_app _ hi2, rfl, I3.add y _⟩))
            · exact Nat.ble_eq_true_of_le (by simp only [List.length_map, line]; omega)
            · exact Nat.ble_eq_true_of_le (by simp only [List.length_map, line]; omega)
            · simp only [List.length_cons, List.length_append, List.length_nil] at hlen ⊢
              omega
          · rw [lk_kvP, Option.isSome_map] at h
            have h : (lk5 q2 y).isSome = true := by simpa using h
            simp only [h, cond_true] at hx
            refine x_nil ⟨q2, evs, _, _, _, rfl, fun e he => hmm e (List.mem_cons_of_mem _ he), hx, ?_, hi2, rfl, I3⟩
            simp only [List.length_cons] at hlen
            omega
end K50
end Sec48
section Sec49
set_option linter.all false
set_option maxRecDepth 100000
set_option maxHeartbeats 4000000
namespace K50
open PD
local macro_rules | `(tactic| contradiction) => `(tactic| first
  | exact p_lit
  | exact p_var rfl
  | exact p_con rfl
  | (apply p_and <;> contradiction)
  | (apply p_or <;> contradiction)
  | (apply p_not <;> contradiction)
  | (apply p_eqSl; (· contradiction))
  | (apply p_neSl; (· contradiction))
  | (apply p_eqN <;> contradiction)
  | (apply p_eqS <;> contradiction)
  | (apply p_neN <;> contradiction)
  | (apply p_neS <;> contradiction)
  | (apply p_ltN <;> contradiction)
  | (apply p_gtN <;> contradiction)
  | (apply p_isn <;> contradiction)
  | (apply p_is <;> contradiction)
  | (apply p_addN <;> contradiction)
  | (apply p_minN <;> contradiction)
  | (apply p_intB <;> contradiction)
  | (apply p_intN <;> contradiction)
  | (apply p_tup; (· contradiction); (· rfl))
  | exact p_nil
  | (apply p_cons <;> contradiction)
  | (apply p_ixE; (· exact p_var rfl); (· assumption); (· rfl))
  | (apply p_ixO; (· exact p_var rfl); (· assumption); (· rfl))
  | fail)
local macro_rules | `(tactic| ac_rfl) => `(tactic| first
  | (apply x_ret; (· contradiction))
  | (apply x_asg; (· contradiction); (· rfl); dsimp only [List.set])
  | (apply x_ifJ; (· contradiction); (· contradiction); (· rfl); dsimp only [List.set])
  | (apply x_ifJ2; (· contradiction); (· contradiction); (· rfl); (· contradiction); (· rfl); dsimp only [List.set])
  | (apply x_if; (· contradiction); all_goals (intro h; first | exact absurd (show true = false from h) (by decide) | exact absurd (show false = true from h) (by decide) | skip))
  | fail)

/-! verdicts -/
abbrev vObj (f : Nat) (k : Bool) (tb ev : D) : O := .ins 116 [(84, .str f), (100, .bl k), (101, tb), (102, .non), (85, .non), (103, ev), (104, .ctp []), (105, .str 106)]
theorem sVI {n s r f} {a2 a3 a4 a5 a6 a7 a8 : D} (h : nth s r = some (.ins 116 [])) : callN G (n + 1) 52 [.ref r, .str f, a2, a3, a4, a5, a6, a7, a8] s =
    .ok .non (s.set r (.ins 116 [(84, .str f), (100, a2), (101, a3), (102, a4), (85, a5), (103, a6), (104, a7), (105, a8)])) := by
  have st : ∀ {s : Sto} {fs : List (Nat × D)} {k : Nat} {v : D}, nth s r = some (.ins 116 fs) → k ∈ [84, 100, 101, 102, 85, 103, 104, 105] → Nat.blt fs.length 1000 = true →
      setFD G (callN G n) (.ref r) k v s = .ok .non (s.set r (.ins 116 (putN fs k v))) := by
    intro s fs k v h1 h2 h3
    simp only [setFD, h1]
    simp only [List.mem_cons, List.mem_nil_iff, or_false] at h2
    rcases h2 with rfl | rfl | rfl | rfl | rfl | rfl | rfl | rfl <;> (show (if Nat.blt fs.length 1000 = true then _ else _) = _; rw [if_pos h3])
  refine V_eq (ts := d52.body) ?_
  show VS G (callN G n) [_, _, _, _, _, _, _, _] [some (.ref r), some (.str f), some a2, some a3, some a4, some a5, some a6, some a7, some a8] s _ _
  refine x_asgF (p_var rfl) (p_var rfl) (st h (by decide) rfl) ?_
  refine x_asgF (p_var rfl) (p_var rfl) (st (nth_set_eq h) (by decide) rfl) ?_
  rw [List.set_set]
  refine x_asgF (p_var rfl) (p_var rfl) (st (nth_set_eq h) (by decide) rfl) ?_
  rw [List.set_set]
  refine x_asgF (p_var rfl) (p_var rfl) (st (nth_set_eq h) (by decide) rfl) ?_
  rw [List.set_set]
  refine x_asgF (p_var rfl) (p_var rfl) (st (nth_set_eq h) (by decide) rfl) ?_
  rw [List.set_set]
  refine x_asgF (p_var rfl) (p_var rfl) (st (nth_set_eq h) (by decide) rfl) ?_
  rw [List.set_set]
  refine x_asgF (p_var rfl) (p_var rfl) (st (nth_set_eq h) (by decide) rfl) ?_
  rw [List.set_set]
  refine x_asgF (p_var rfl) (p_var rfl) (st (nth_set_eq h) (by decide) rfl) ?_
  rw [List.set_set]
  exact x_nil ⟨rfl, rfl⟩
theorem newV {n s} {f : Nat} {vs ws : List D} {ks : List Nat} {a2 a3 a4 a5 a6 a7 a8 : D} (h : callA G (callN G (n + 1)) 52 (.ref s.length :: vs) ks ws (s ++ [.ins 116 []]) = callN G (n + 1) 52 [.ref s.length, .str f, a2, a3, a4, a5, a6, a7, a8] (s ++ [.ins 116 []])) :
    newD G (callN G (n + 1)) 116 vs ks ws s = .ok (.ref s.length) (s ++ [.ins 116 [(84, .str f), (100, a2), (101, a3), (102, a4), (85, a5), (103, a6), (104, a7), (105, a8)]]) := by
  show initD s.length (callA G (callN G (n + 1)) 52 (.ref s.length :: vs) ks ws (s ++ [.ins 116 []])) = _
  rw [h, sVI (nth_len s _ []), set_last]; rfl
theorem ca61 {c : Call} {a b : D} {s : Sto} : callA G c 61 [a, b] [] [] s = c 61 [a, b] s := rfl
theorem ca49 {c : Call} {a : D} {s : Sto} : callA G c 49 [a] [] [] s = c 49 [a] s := rfl
theorem ca58 {c : Call} {a b d : D} {s : Sto} : callA G c 58 [a, b, d] [] [] s = c 58 [a, b, d] s := rfl
theorem ca59 {c : Call} {a b : D} {s : Sto} : callA G c 59 [a, b] [] [] s = c 59 [a, b] s := rfl
theorem ca62 {c : Call} {a b : D} {s : Sto} : callA G c 62 [a, b] [] [] s = c 62 [a, b] s := rfl
theorem sCF {n s f} (hf : f ∈ flts) : callN G (n + 1) 61 [.str f, .ctp (flts.map .str)] s = .ok .non s := by
  refine V_eq (ts := d61.body) ?_
  show VS G (callN G n) [_] [some (.str f), some (.ctp (flts.map .str))] s _ _
  simp only [flts, List.mem_cons, List.mem_nil_iff, or_false] at hf
  rcases hf with rfl | rfl | rfl
  all_goals exact x_if (p := false) (p_cmp (p_var rfl) (p_var rfl) rfl) (fun h => nomatch h) (fun _ => x_nil ⟨rfl, rfl⟩)
def mKept (tb : List S5) (f : Nat) : Bool := !(tb.any fun x => mShows x f)
theorem anyShows {n s l v f} (h : OutAt s l v) (hf : f ∈ flts) (tb : List S5) (hl : tb.length < fuelL) {e : E} {fr : Fr} {i j : Nat} {Q : D → Sto → Prop} {vs : D} (hv : walkG none [vs] s = .seq (tb.map enc)) (he : Pu G (callN G (n + 2)) fr s e vs)
    (h1 : ∀ s' x, OutAt s' l v → Pus G (callN G (n + 2)) ((wipe fr [j]).set j (some (enc x))) s' [.var i, .var j, .var k] [.ref l, enc x, .str f])
    (q : ∀ s' r, SExt s s' → nth s' r = some (.lst ((tb.map fun x => mShows x f).map .bl)) → Q (.ref r) s') :
    W (evE G (callN G (n + 2)) (.lc [j] (.nm j) none [e] (.lit (.bl true)) (.call 51 [.var i, .var j, .var k] [] [])) fr s) Q := by
  rw [W_lc]
  refine pu_Ws (p_cons he p_nil) ?_
  rw [hv]
  refine W_compM tb enc (fun x => .bl (mShows x f)) (fun s' => OutAt s' l v) hl (fun _ _ _ => rfl) (h.app _) (fun s' acc h1 _ h2 o => h1.setL h2 _) (fun x s' _ hK _ _ => ⟨[], lcT_pu (d := enc x) rfl p_lit (p_call (h1 s' x hK) p_nil (by rw [ca51]; exact sS (n := n) hK x hf)), by rw [List.append_nil]; exact hK⟩) (fun s' e _ h => q s' _ e (by rw [h, List.map_map]; rfl))
theorem sKept {n s l v f} (h : OutAt s l v) (hf : f ∈ flts) (tb : List S5) (hl : tb.length < fuelL) :
    W (callN G (n + 3) 58 [.tup (tb.map enc), .ref l, .str f] s) fun d s' => d = .bl (mKept tb f) ∧ SExt s s' := by
  refine W_of (G := G) (c := callN G (n + 2)) (ts := d58.body) (fr := [some (.tup (tb.map enc)), some (.ref l), some (.str f), none]) ?_
  show VS G (callN G (n + 2)) [_, _] _ s _ _
  have e0 : Nat.beq f 74 = false := by
    simp only [flts, List.mem_cons, List.mem_nil_iff, or_false] at hf
    rcases hf with rfl | rfl | rfl <;> rfl
  refine x_if (p_eqSl (p_var rfl)) (fun h => by rw [e0] at h; cases h) (fun _ => x_retW ?_)
  rw [W_cmp]
  refine pu_W p_lit (anyShows (n := n) h hf tb hl rfl (p_var rfl) (fun s' x _ => p_cons (p_var rfl) (p_cons (p_var rfl) (p_cons (p_var rfl) p_nil))) ?_)
  intro s' r he hr
  refine W_eq (s := s') (a := .bl (mKept tb f)) ?_ ⟨rfl, he⟩
  simp only [cmpR, cmpD, in_bls hr, Option.map, mKept, List.any_map]
  rfl
def vRes (f : Nat) (tb : List S5) (p : List Nat) : O := bif mKept tb f then vObj f true (.tup (tb.map enc)) (.ctp []) else vObj f false (.ctp []) (strD p)
theorem sJO {m n s l v f tb p x} (h : OutAt s l v) (hf : f ∈ flts) (hn : n < fuelL) (hb : bfs (mAfter v) n 0 [x0] = some tb) (hl : tb.length < fuelL) (hp : mKept tb f = false → bfsP (mAfter v) f n 0 [(x0, [])] = some (some (p, x))) :
    W (callN G (m + 6) 59 [.ref l, .str f] s) fun d s' => ∃ r, d = .ref r ∧ SExt s s' ∧ nth s' r = some (vRes f tb p) ∧ nth s r = none := by
  refine W_of (G := G) (c := callN G (m + 5)) (ts := d59.body) (fr := [some (.ref l), some (.str f), none, none, none, none]) ?_
  show VS G (callN G (m + 5)) [_, _, _, _, _] _ s _ _
  refine x_asgW (W_call1 (vs := [.ref l]) (p_cons (p_var rfl) p_nil) ?_)
  rw [ca49]
  refine W_mono (sStand (m := m) h hn hb) ?_
  rintro d s1 ⟨rfl, e1⟩
  refine ⟨_, rfl, ?_⟩
  dsimp only [List.set]
  have o1 := h.ext e1
  refine x_ifW (W_call1 (vs := [.tup (tb.map enc), .ref l, .str f]) (p_cons (p_var rfl) (p_cons (p_var rfl) (p_cons (p_var rfl) p_nil))) ?_)
  rw [ca58]
  refine W_mono (sKept (n := m + 2) o1 hf tb hl) ?_
  rintro d s2 ⟨rfl, e2⟩
  have o2 := o1.ext e2
  have e12 := e1.trans e2
  rw [Br_bl]
  refine ⟨fun hk => ?_, fun hk => ?_⟩
  · refine x_retW ?_
    rw [W_new]
    refine pu_Ws (d := [.str f, .bl true]) (by exact p_cons (p_var rfl) (p_cons p_lit p_nil)) (pu_Ws (p_cons (p_var rfl) p_nil) (W_eq (newV (n := m + 4) (f := f) rfl) ⟨_, rfl, e12.app _, ?_, nth_nil e12.le⟩))
    rw [nth_len, vRes, hk]; rfl
  · refine x_asgW ?_
    rw [W_lc]
    refine pu_Ws (p_cons (p_call (p_cons (p_var rfl) p_nil) p_nil (by rw [ca46]; exact sE (n := m + 4) o2)) p_nil) ?_
    refine W_compM evts D.str (fun e => .tup [.str e, .tup []]) (fun s' => OutAt s' l v) (by decide) (fun _ _ _ => rfl) (o2.app _) (fun s' acc h1 _ h2 o => h1.setL h2 _) (fun x s' _ hK _ _ => ⟨[], lcT_pu (d := .str x) rfl p_lit (p_tup (p_cons (p_var rfl) (p_cons (p_tup p_nil rfl) p_nil)) rfl), by rw [List.append_nil]; exact hK⟩) (fun s3 e3 o3 h3 => ⟨_, rfl, ?_⟩)
    dsimp only [List.set]
    refine x_asgW ?_
    rw [W_call]
    rw [W_cons]
    refine pu_W (p_var rfl) ?_
    rw [W_cons]
    refine W_call1 (vs := [.ref l]) (p_cons (p_var rfl) p_nil) ?_
    rw [ca48]
    refine W_eq (sSt (n := m + 4) o3) (pu_Ws (p_cons (p_var rfl) (p_cons (p_var rfl) p_nil)) (pu_Ws p_nil ?_))
    rw [ca53]
    refine W_mono (sShort (m := m) (o3.app _) (nth_len s3 _ []) (nth_app _ h3) hf hn (hp hk)) ?_
    rintro d s4 ⟨rfl, e4⟩
    refine ⟨_, rfl, ?_⟩
    dsimp only [List.set]
    have e14 := ((e12.trans e3).app [.lst [enc x0]]).trans e4
    refine x_retW ?_
    rw [W_new]
    refine pu_Ws (d := [.str f, .bl false]) (by exact p_cons (p_var rfl) (p_cons p_lit p_nil)) (pu_Ws (d := [strD p]) (p_cons (p_ixT (xs := [strD p, enc x]) (p_var rfl) p_lit rfl) p_nil) (W_eq (newV (n := m + 4) (f := f) rfl) ⟨_, rfl, e14.app _, ?_, nth_nil e14.le⟩))
    rw [nth_len, vRes, hk]; rfl
theorem sJ {m n s l v f tb p x} (h : OutAt s l v) (hf : f ∈ flts) (hn : n < fuelL) (hb : bfs (mAfter v) n 0 [x0] = some tb) (hl : tb.length < fuelL) (hp : mKept tb f = false → bfsP (mAfter v) f n 0 [(x0, [])] = some (some (p, x))) :
    W (callN G (m + 7) 62 [.ref l, .str f] s) fun d s' => ∃ r, d = .ref r ∧ SExt s s' ∧ nth s' r = some (vRes f tb p) ∧ nth s r = none := by
  refine W_of (G := G) (c := callN G (m + 6)) (ts := d62.body) (fr := [some (.ref l), some (.str f), none, none, none, none]) ?_
  show VS G (callN G (m + 6)) [_, _, _, _, _, _, _] _ s _ _
  refine x_if (p_isi (p_var rfl) (isO h)) (fun _ => ?_) (fun h => nomatch h)
  refine x_expr (W_call1 (vs := [.str f, .ctp (flts.map .str)]) (p_cons (p_var rfl) (p_cons (p_con rfl) p_nil)) ?_)
  rw [ca61]
  refine W_eq (sCF (n := m + 5) hf) (x_retW (W_call1 (vs := [.ref l, .str f]) (p_cons (p_var rfl) (p_cons (p_var rfl) p_nil)) ?_))
  rw [ca59]
  exact sJO (m := m) h hf hn hb hl hp
end K50
end Sec49
section Sec50
set_option linter.all false
set_option maxRecDepth 100000
set_option maxHeartbeats 4000000
namespace K50
open PD
local macro_rules | `(tactic| contradiction) => `(tactic| first
  | exact p_lit
  | exact p_var rfl
  | exact p_con rfl
  | (apply p_and <;> contradiction)
  | (apply p_or <;> contradiction)
  | (apply p_not <;> contradiction)
  | (apply p_eqSl; (· contradiction))
  | (apply p_neSl; (· contradiction))
  | (apply p_eqN <;> contradiction)
  | (apply p_eqS <;> contradiction)
  | (apply p_neN <;> contradiction)
  | (apply p_neS <;> contradiction)
  | (apply p_ltN <;> contradiction)
  | (apply p_gtN <;> contradiction)
  | (apply p_isn <;> contradiction)
  | (apply p_is <;> contradiction)
  | (apply p_addN <;> contradiction)
  | (apply p_minN <;> contradiction)
  | (apply p_intB <;> contradiction)
  | (apply p_intN <;> contradiction)
  | (apply p_tup; (· contradiction); (· rfl))
  | exact p_nil
  | (apply p_cons <;> contradiction)
  | (apply p_ixE; (· exact p_var rfl); (· assumption); (· rfl))
  | (apply p_ixO; (· exact p_var rfl); (· assumption); (· rfl))
  | fail)
local macro_rules | `(tactic| ac_rfl) => `(tactic| first
  | (apply x_ret; (· contradiction))
  | (apply x_asg; (· contradiction); (· rfl); dsimp only [List.set])
  | (apply x_ifJ; (· contradiction); (· contradiction); (· rfl); dsimp only [List.set])
  | (apply x_ifJ2; (· contradiction); (· contradiction); (· rfl); (· contradiction); (· rfl); dsimp only [List.set])
  | (apply x_if; (· contradiction); all_goals (intro h; first | exact absurd (show true = false from h) (by decide) | exact absurd (show false = true from h) (by decide) | skip))
  | fail)

abbrev scr (ns : List Int) : D := .rol (ns.map .int)
theorem nth_scr (ns : List Int) (k : Nat) : nth (ns.map D.int) k = (nth ns k).map .int := nth_map _ _ _
/-- a cell of the script -/
theorem sCell {n s} (ns : List Int) (k : Nat) : ∃ z, callN G (n + 1) 63 [scr ns, N' k] s = .ok (.int z) s := by
  cases h : nth ns k with
  | none =>
    refine ⟨0, V_eq (ts := d63.body) ?_⟩
    show VS G (callN G n) [_, _] [some (scr ns), some (N' k)] s _ _
    refine x_if (p_ltN (p_var rfl) (p_lenR (p_var rfl))) (fun e => ?_) (fun _ => x_ret p_lit ⟨rfl, rfl⟩)
    obtain ⟨x, hx⟩ := nth_of_lt (Nat.le_of_ble_eq_true e)
    rw [nth_scr, h] at hx; cases hx
  | some z =>
    refine ⟨z, V_eq (ts := d63.body) ?_⟩
    show VS G (callN G n) [_, _] [some (scr ns), some (N' k)] s _ _
    have hz : nth (ns.map D.int) k = some (.int z) := by rw [nth_scr, h]; rfl
    refine x_if (p_ltN (p_var rfl) (p_lenR (p_var rfl))) (fun e => x_ret (p_intI (p_ixS (p_var rfl) (p_var rfl) hz)) ⟨rfl, rfl⟩) (fun e => ?_)
    rw [show Nat.blt k (ns.map D.int).length = true from Nat.ble_eq_true_of_le (nth_lt hz)] at e; cases e
theorem sMod {n s} (ns : List Int) (k m : Nat) (hm : 0 < m) : ∃ z : Nat, z < m ∧ callN G (n + 1) 64 [scr ns, N' k, N' m] s = .ok (N' z) s := by
  cases h : nth ns k with
  | none =>
    refine ⟨0, hm, V_eq (ts := d64.body) ?_⟩
    show VS G (callN G n) [_, _] [some (scr ns), some (N' k), some (N' m)] s _ _
    refine x_if (p_ltN (p_var rfl) (p_lenR (p_var rfl))) (fun e => ?_) (fun _ => x_ret p_lit ⟨rfl, rfl⟩)
    obtain ⟨x, hx⟩ := nth_of_lt (Nat.le_of_ble_eq_true e)
    rw [nth_scr, h] at hx; cases hx
  | some z =>
    obtain ⟨q, hq⟩ := Int.eq_ofNat_of_zero_le (Int.emod_nonneg z (by have : (Int.ofNat m) = (m : Int) := rfl; omega : (Int.ofNat m) ≠ 0))
    have hlt : q < m := by have := Int.emod_lt_of_pos z (by have : (Int.ofNat m) = (m : Int) := rfl; omega : (0 : Int) < Int.ofNat m); rw [hq] at this; simpa using this
    refine ⟨q, hlt, V_eq (ts := d64.body) ?_⟩
    show VS G (callN G n) [_, _] [some (scr ns), some (N' k), some (N' m)] s _ _
    have hz : nth (ns.map D.int) k = some (.int z) := by rw [nth_scr, h]; rfl
    refine x_if (p_ltN (p_var rfl) (p_lenR (p_var rfl))) (fun e => x_ret (p_modI (p_intI (p_ixS (p_var rfl) (p_var rfl) hz)) (p_var rfl) (by cases m with | zero => cases hm | succ m => rfl)) ⟨congrArg D.int hq, rfl⟩) (fun e => ?_)
    rw [show Nat.blt k (ns.map D.int).length = true from Nat.ble_eq_true_of_le (nth_lt hz)] at e; cases e
theorem sRow {n s} (z : Int) (k : Nat) (hk : k < 1000) : W (callN G (n + 1) 65 [.int z, N' k] s) fun d s' => ∃ r xs, d = .ref r ∧ nth s' r = some (.lst (List.map D.int xs)) ∧ xs.length = k ∧ SExt s s' := by
  refine W_of (G := G) (c := callN G n) (ts := d65.body) (fr := [some (.int z), some (N' k), none, none, none, none]) ?_
  show VS G (callN G n) [_, _, _, _] _ s _ _
  refine x_asgW ?_
  rw [W_lst]
  refine pu_Ws p_nil ⟨rfl, _, rfl, ?_⟩
  dsimp only [List.set]
  refine x_asg (p_absI (p_var rfl)) rfl ?_
  dsimp only [List.set]
  have hr0 : nth s s.length = none := nth_nil (Nat.le_refl _)
  have h0 : SExt s (s ++ [.lst []]) := (SExt.refl s).app _
  have h1 : nth (s ++ [.lst []]) s.length = some (.lst (List.map D.int [])) := nth_len s _ []
  generalize (s ++ [O.lst []]) = s1 at h0 h1 ⊢
  generalize s.length = r at hr0 h1 ⊢
  generalize (if z < 0 then -z else z) = rest
  refine x_for (vs := [N' k]) (w := .rng 0 k) (p_cons (p_var rfl) p_nil) ?_ (V_range (fun i fr s' => ∃ xs rest a b, fr = [some (.int z), some (N' k), some (.ref r), some (.int rest), a, b] ∧ nth s' r = some (.lst (List.map D.int xs)) ∧ xs.length = i ∧ SExt s s') (Nat.lt_trans hk (by decide))
    ⟨[], rest, none, none, rfl, h1, rfl, h0⟩ ?_ ?_)
  · show (if in62 (Int.ofNat k) = true then Wk.rng 0 (Int.ofNat k).toNat else .no) = _
    rw [if_pos (show in62 (Int.ofNat k) = true from Nat.ble_eq_true_of_le (show k + 1 ≤ 4611686018427387904 by omega))]; rfl
  · rintro fr s' ⟨xs, rest, a, b, rfl, h1, h2, h3⟩
    exact x_ret (p_var rfl) ⟨r, xs, rfl, h1, h2, h3⟩
  · rintro i fr s' hi ⟨xs, rest, a, b, rfl, h1, h2, h3⟩
    refine x_forT rfl ?_
    dsimp only [List.set]
    have hb : Nat.blt (List.map D.int xs).length line = true := Nat.ble_eq_true_of_le (by simp only [List.length_map, line]; omega)
    have fin : ∀ y : Int, nth (s'.set r (.lst (List.map D.int xs ++ [.int y]))) r = some (.lst (List.map D.int (xs ++ [y]))) := fun y => by rw [nth_set_eq h1, List.map_append]; rfl
    refine x_if (p_and (p_geI (p_absI (p_var rfl)) (p_bin (z := .int 1000000000000000000) p_lit p_lit rfl)) (p_gtI (p_var rfl) p_lit)) (fun _ => ?_) (fun _ => ?_)
    · refine x_appd (p_var rfl) h1 rfl (p_modI (p_intI (p_var rfl)) p_lit rfl) hb (x_asg (p_fdivI (p_var rfl) p_lit rfl) rfl (x_nil ⟨xs ++ [_], _, _, _, rfl, fin _, by rw [List.length_append, h2]; rfl, h3.set _ hr0⟩))
    · refine x_asg (p_modI (p_intI (p_addI (p_mulI (p_absI (p_var rfl)) p_lit (by rw [Bool.or_eq_true]; exact .inr rfl)) (p_mulI (p_addI (p_var rfl) p_lit) p_lit (by rw [Bool.or_eq_true]; exact .inr rfl)))) p_lit rfl) rfl ?_
      dsimp only [List.set]
      refine x_appd (p_var rfl) h1 rfl (p_modI (p_modI (p_intI (p_addI (p_mulI (p_var rfl) (p_var rfl) ?_) (p_mulI (p_addI (p_var rfl) p_lit) p_lit (by rw [Bool.or_eq_true]; exact .inr rfl)))) p_lit rfl) p_lit rfl) hb (x_nil ⟨xs ++ [_], _, _, _, rfl, fin _, by rw [List.length_append, h2]; rfl, h3.set _ hr0⟩)
      rw [Bool.or_eq_true]
      exact .inl (in64_of (Int.emod_nonneg _ (by decide)) (Int.lt_trans (Int.emod_lt_of_pos _ (by decide)) (by decide)))
end K50
end Sec50
section Sec51
set_option linter.all false
set_option maxRecDepth 100000
set_option maxHeartbeats 4000000
namespace K50
open PD
local macro_rules | `(tactic| contradiction) => `(tactic| first
  | exact p_lit
  | exact p_var rfl
  | exact p_con rfl
  | (apply p_and <;> contradiction)
  | (apply p_or <;> contradiction)
  | (apply p_not <;> contradiction)
  | (apply p_eqSl; (· contradiction))
  | (apply p_neSl; (· contradiction))
  | (apply p_eqN <;> contradiction)
  | (apply p_eqS <;> contradiction)
  | (apply p_neN <;> contradiction)
  | (apply p_neS <;> contradiction)
  | (apply p_ltN <;> contradiction)
  | (apply p_gtN <;> contradiction)
  | (apply p_isn <;> contradiction)
  | (apply p_is <;> contradiction)
  | (apply p_addN <;> contradiction)
  | (apply p_minN <;> contradiction)
  | (apply p_intB <;> contradiction)
  | (apply p_intN <;> contradiction)
  | (apply p_tup; (· contradiction); (· rfl))
  | exact p_nil
  | (apply p_cons <;> contradiction)
  | (apply p_ixE; (· exact p_var rfl); (· assumption); (· rfl))
  | (apply p_ixO; (· exact p_var rfl); (· assumption); (· rfl))
  | fail)
local macro_rules | `(tactic| ac_rfl) => `(tactic| first
  | (apply x_ret; (· contradiction))
  | (apply x_asg; (· contradiction); (· rfl); dsimp only [List.set])
  | (apply x_ifJ; (· contradiction); (· contradiction); (· rfl); dsimp only [List.set])
  | (apply x_ifJ2; (· contradiction); (· contradiction); (· rfl); (· contradiction); (· rfl); dsimp only [List.set])
  | (apply x_if; (· contradiction); all_goals (intro h; first | exact absurd (show true = false from h) (by decide) | exact absurd (show false = true from h) (by decide) | skip))
  | fail)

def Va : List Nat := [36, 49, 50]
def Vb : List Nat := [52, 53]
def Vc : List Nat := [55, 56]
def Vd : List Nat := [55, 58, 56]
def Ve : List Nat := [60, 61]
def Vf : List Nat := [63, 64]
theorem sCh {n s} : W (callN G (n + 1) 66 [.int 1] s) fun d s' => ∃ r r1 r2 r3 r4 r5 r6, d = .ref r ∧ nth s' r = some (.lst [.tup [.str 48, .ref r1], .tup [.str 51, .ref r2], .tup [.str 54, .ref r3], .tup [.str 57, .ref r4], .tup [.str 59, .ref r5], .tup [.str 62, .ref r6]]) ∧
    nth s' r1 = some (.lst (Va.map .str)) ∧ nth s' r2 = some (.lst (Vb.map .str)) ∧ nth s' r3 = some (.lst (Vc.map .str)) ∧ nth s' r4 = some (.lst (Vd.map .str)) ∧ nth s' r5 = some (.lst (Ve.map .str)) ∧ nth s' r6 = some (.lst (Vf.map .str)) ∧ SExt s s' := by
  refine W_of (G := G) (c := callN G n) (ts := d66.body) (fr := [some (.int 1), none]) ?_
  show VS G (callN G n) [_, _, _, _] _ s _ _
  refine x_if (p_eqI (p_var rfl) p_lit) (fun h => absurd h (by decide)) (fun _ => ?_)
  refine x_asgW ?_
  rw [W_lst, W_cons]
  refine W_pair (vs := Va.map .str) (by contradiction) rfl fun s1 r1 e1 h1 => ?_
  rw [W_cons]
  refine W_pair (vs := Vb.map .str) (by contradiction) rfl fun s2 r2 e2 h2 => ?_
  rw [W_cons]
  refine W_pair (vs := Vc.map .str) (by contradiction) rfl fun s3 r3 e3 h3 => ?_
  rw [W_nil]
  refine ⟨rfl, _, rfl, ?_⟩
  dsimp only [List.set]
  have f1 := (SExt.refl s3).app [O.lst [.tup [.str 48, .ref r1], .tup [.str 51, .ref r2], .tup [.str 54, .ref r3]]]
  have h4 := nth_len s3 (O.lst [.tup [.str 48, .ref r1], .tup [.str 51, .ref r2], .tup [.str 54, .ref r3]]) []
  generalize (s3 ++ [O.lst [.tup [.str 48, .ref r1], .tup [.str 51, .ref r2], .tup [.str 54, .ref r3]]]) = s4 at f1 h4 ⊢
  generalize s3.length = l4 at h4 ⊢
  refine x_asgW (addL rfl h4 ?_)
  rw [W_lst, W_cons]
  refine W_pair (vs := Vd.map .str) (by contradiction) rfl fun s5 r4 e5 h5 => ?_
  rw [W_cons]
  refine W_pair (vs := Ve.map .str) (by contradiction) rfl fun s6 r5 e6 h6 => ?_
  rw [W_nil]
  refine ⟨rfl, _, _, rfl, (e5.trans e6).app _, nth_len s6 _ [], rfl, fun s7 l7 e7 h7 => ⟨_, rfl, ?_⟩⟩
  dsimp only [List.set]
  have e67 : SExt s6 s7 := ((SExt.refl s6).app _).trans e7
  refine x_retW (addL rfl h7 ?_)
  rw [W_lst, W_cons]
  refine W_pair (vs := Vf.map .str) (by contradiction) rfl fun s8 r6 e8 h8 => ?_
  rw [W_nil]
  refine ⟨rfl, _, _, rfl, e8.app _, nth_len s8 _ [], rfl, fun s9 l9 e9 h9 => ?_⟩
  have e89 : SExt s8 s9 := ((SExt.refl s8).app _).trans e9
  have e69 := e67.trans (e8.trans e89)
  have e59 := e6.trans e69
  have e39 := f1.trans (e5.trans e59)
  exact ⟨l9, r1, r2, r3, r4, r5, r6, rfl, h9, e39.h _ _ (e3.h _ _ (e2.h _ _ h1)), e39.h _ _ (e3.h _ _ h2), e39.h _ _ h3, e59.h _ _ h5, e69.h _ _ h6, e89.h _ _ h8, ((e1.trans e2).trans e3).trans e39⟩
theorem ca66 {c : Call} {a : D} {s : Sto} : callA G c 66 [a] [] [] s = c 66 [a] s := rfl
theorem ca65 {c : Call} {a b : D} {s : Sto} : callA G c 65 [a, b] [] [] s = c 65 [a, b] s := rfl
theorem ca63 {c : Call} {a b : D} {s : Sto} : callA G c 63 [a, b] [] [] s = c 63 [a, b] s := rfl
theorem ca64 {c : Call} {a b d : D} {s : Sto} : callA G c 64 [a, b, d] [] [] s = c 64 [a, b, d] s := rfl
theorem ca67 {c : Call} {a b : D} {s : Sto} : callA G c 67 [a, b] [] [] s = c 67 [a, b] s := rfl
theorem ca68 {c : Call} {a b : D} {s : Sto} : callA G c 68 [a, b] [] [] s = c 68 [a, b] s := rfl
structure Ok (v : Ov) : Prop where
  a : v.a ∈ Va
  b : v.b ∈ Vb
  c : v.c ∈ Vc
  d : v.d ∈ Vd
  e : v.e ∈ Ve
  f : v.f ∈ Vf
theorem pickS (V : List Nat) (h : 0 < V.length) (x : Int) : ∃ a, a ∈ V ∧ ixI (V.map D.str) (x % Int.ofNat (V.map D.str).length) = some (.str a) := by
  obtain ⟨d, hd, e⟩ := pick_mod (V.map D.str) (by rw [List.length_map]; exact h) x
  obtain ⟨a, ha, rfl⟩ := List.mem_map.mp hd
  exact ⟨a, ha, e⟩
theorem sVal {n s} (z : Int) : W (callN G (n + 2) 67 [.int 1, .int z] s) fun d s' => ∃ r v, d = .ref r ∧ EntAt s' r v ∧ Ok v ∧ SExt s s' ∧ nth s r = none := by
  refine W_of (G := G) (c := callN G (n + 1)) (ts := d67.body) (fr := [some (.int 1), some (.int z), none, none, none]) ?_
  show VS G (callN G (n + 1)) [_, _, _] _ s _ _
  refine x_asgW (W_call1 (vs := [.int 1]) (p_cons (p_var rfl) p_nil) ?_)
  rw [ca66]
  refine W_mono (sCh (n := n)) ?_
  rintro d s1 ⟨r, r1, r2, r3, r4, r5, r6, rfl, hr, h1, h2, h3, h4, h5, h6, e1⟩
  refine ⟨_, rfl, ?_⟩
  dsimp only [List.set]
  refine x_asgW (W_call1 (vs := [.int z, N' 6]) (p_cons (p_var rfl) (p_cons (p_len (p_var rfl) hr) p_nil)) ?_)
  rw [ca65]
  refine W_mono (sRow (n := n) z 6 (by decide)) ?_
  rintro d s2 ⟨w, xs, rfl, hw, hx, e2⟩
  refine ⟨_, rfl, x_retW ?_⟩
  dsimp only [List.set]
  match xs, hx with
  | [y1, y2, y3, y4, y5, y6], _ =>
  obtain ⟨a, ha, pa⟩ := pickS Va (by decide) y1
  obtain ⟨b, hb, pb⟩ := pickS Vb (by decide) y2
  obtain ⟨c, hc, pc⟩ := pickS Vc (by decide) y3
  obtain ⟨d, hd, pd⟩ := pickS Vd (by decide) y4
  obtain ⟨e, he, pe⟩ := pickS Ve (by decide) y5
  obtain ⟨f, hf, pf⟩ := pickS Vf (by decide) y6
  have q0 := e2.h _ _ hr
  have q1 := e2.h _ _ h1
  have q2 := e2.h _ _ h2
  have q3 := e2.h _ _ h3
  have q4 := e2.h _ _ h4
  have q5 := e2.h _ _ h5
  have q6 := e2.h _ _ h6
  rw [W_lc]
  refine pu_Ws (p_cons (p_len (p_var rfl) q0) p_nil) ?_
  have ew : ∀ s' (o : O), SExt s2 s' → SExt s2 (s'.set s2.length o) := fun s' o h => h.set o (nth_nil (Nat.le_refl _))
  have tn : ∀ {s' : Sto} {i : Nat} {k rr : Nat} {y : Int} {V : List Nat} {p : D}, SExt s2 s' → nth [D.tup [.str 48, .ref r1], .tup [.str 51, .ref r2], .tup [.str 54, .ref r3], .tup [.str 57, .ref r4], .tup [.str 59, .ref r5], .tup [.str 62, .ref r6]] i = some (.tup [.str k, .ref rr]) → nth s2 rr = some (.lst (V.map .str)) → nth [D.int y1, .int y2, .int y3, .int y4, .int y5, .int y6] i = some (.int y) →
      isPos (Int.ofNat (V.map D.str).length) = true → ixI (V.map D.str) (y % Int.ofNat (V.map D.str).length) = some p →
      Pu G (callN G (n + 1)) ((wipe [some (.int 1), some (.int z), some (.ref r), some (.ref w), none] [4]).set 4 (some (.int (0 + Int.ofNat i)))) s' (.ix (.ix (.ix (.var 2) (.var 4)) (.lit (.int 1))) (.bin .mod (.bi .int [(.ix (.var 3) (.var 4))]) (.bi .len [(.ix (.ix (.var 2) (.var 4)) (.lit (.int 1)))]))) p := by
    intro s' i k rr y V p E e1 e2 e3 e4 e5
    have fx : Pu G (callN G (n + 1)) ((wipe [some (.int 1), some (.int z), some (.ref r), some (.ref w), none] [4]).set 4 (some (.int (0 + Int.ofNat i)))) s' (.ix (.ix (.var 2) (.var 4)) (.lit (.int 1))) (.ref rr) :=
      p_ixT (xs := [.str k, .ref rr]) (p_ixR (p_var rfl) (E.h _ _ q0) (p_var rfl) (by rw [Int.zero_add]; exact e1)) p_lit rfl
    exact p_ixR fx (E.h _ _ e2) (p_modI (p_intI (p_ixR (p_var rfl) (E.h _ _ hw) (p_var rfl) (by rw [Int.zero_add]; exact e3))) (p_len fx (E.h _ _ e2)) e4) e5
  refine W_compM (List.range 6) (fun i => .int (0 + Int.ofNat i)) (fun i => ([D.str a, .str b, .str c, .str d, .str e, .str f].getD i .non)) (fun s' => SExt s2 s') (by decide) (fun i s' _ => ?_) ((SExt.refl s2).app _) (fun s' acc h1 _ h2 o => ew s' _ h1) (fun i s' hi hK _ _ => ⟨[], ?_, by rw [List.append_nil]; exact hK⟩) (fun s' e _ h => ⟨_, ⟨a, b, c, d, _, f⟩, rfl, ⟨h⟩, ⟨ha, hb, hc, hd, he, hf⟩, (e1.trans e2).trans e, nth_nil (e1.trans e2).le⟩)
  · show some (if Nat.blt i 6 then some (D.int (0 + Int.ofNat i)) else none) = some (nth ((List.range 6).map fun i => D.int (0 + Int.ofNat i)) i)
    match i with
    | 0 => rfl
    | 1 => rfl
    | 2 => rfl
    | 3 => rfl
    | 4 => rfl
    | 5 => rfl
    | n + 6 =>
      have e1 : Nat.blt (n + 6) 6 = false := by
        cases h : Nat.blt (n + 6) 6 with
        | false => rfl
        | true => have := Nat.le_of_ble_eq_true h; omega
      have e2 : nth ((List.range 6).map fun i => D.int (0 + Int.ofNat i)) (n + 6) = none := nth_nil (by simp)
      rw [e1, e2]; rfl
  · have hi : i < 6 := by simpa using hi
    match i, hi with
    | 0, _ => exact lcT_pu rfl p_lit (tn hK rfl q1 rfl rfl pa)
    | 1, _ => exact lcT_pu rfl p_lit (tn hK rfl q2 rfl rfl pb)
    | 2, _ => exact lcT_pu rfl p_lit (tn hK rfl q3 rfl rfl pc)
    | 3, _ => exact lcT_pu rfl p_lit (tn hK rfl q4 rfl rfl pd)
    | 4, _ => exact lcT_pu rfl p_lit (tn hK rfl q5 rfl rfl pe)
    | 5, _ => exact lcT_pu rfl p_lit (tn hK rfl q6 rfl rfl pf)
end K50
end Sec51
section Sec52
set_option linter.all false
set_option maxRecDepth 100000
set_option maxHeartbeats 4000000
namespace K50
open PD
local macro_rules | `(tactic| contradiction) => `(tactic| first
  | exact p_lit
  | exact p_var rfl
  | exact p_con rfl
  | (apply p_and <;> contradiction)
  | (apply p_or <;> contradiction)
  | (apply p_not <;> contradiction)
  | (apply p_eqSl; (· contradiction))
  | (apply p_neSl; (· contradiction))
  | (apply p_eqN <;> contradiction)
  | (apply p_eqS <;> contradiction)
  | (apply p_neN <;> contradiction)
  | (apply p_neS <;> contradiction)
  | (apply p_ltN <;> contradiction)
  | (apply p_gtN <;> contradiction)
  | (apply p_isn <;> contradiction)
  | (apply p_is <;> contradiction)
  | (apply p_addN <;> contradiction)
  | (apply p_minN <;> contradiction)
  | (apply p_intB <;> contradiction)
  | (apply p_intN <;> contradiction)
  | (apply p_tup; (· contradiction); (· rfl))
  | exact p_nil
  | (apply p_cons <;> contradiction)
  | (apply p_ixE; (· exact p_var rfl); (· assumption); (· rfl))
  | (apply p_ixO; (· exact p_var rfl); (· assumption); (· rfl))
  | fail)
local macro_rules | `(tactic| ac_rfl) => `(tactic| first
  | (apply x_ret; (· contradiction))
  | (apply x_asg; (· contradiction); (· rfl); dsimp only [List.set])
  | (apply x_ifJ; (· contradiction); (· contradiction); (· rfl); dsimp only [List.set])
  | (apply x_ifJ2; (· contradiction); (· contradiction); (· rfl); (· contradiction); (· rfl); dsimp only [List.set])
  | (apply x_if; (· contradiction); all_goals (intro h; first | exact absurd (show true = false from h) (by decide) | exact absurd (show false = true from h) (by decide) | skip))
  | fail)

theorem nin_ctp {s : Sto} {x : Nat} {V : List Nat} (h : x ∈ V) : cmpD .nin (.str x) (.ctp (V.map .str)) s = some false := by
  have e1 : (V.map D.str).all flatD = true := by rw [List.all_map]; exact List.all_eq_true.mpr fun _ _ => rfl
  have e2 : ((V.map D.str).any fun z => eqb 1 s z (.str x)) = true := by
    rw [List.any_map]
    refine List.any_eq_true.mpr ⟨x, h, ?_⟩
    show Nat.beq x x = true
    exact Nat.beq_refl x
  have e3 : flatD (.str x) = true := rfl
  show (inO s (.str x) (.ctp (V.map .str))).map (!·) = some false
  simp only [inO, e1, e2, e3, Bool.and_self, if_true, Option.map]; rfl
theorem setF {n s o} {k : Nat} {fs : List (Nat × D)} {v : D} (h : nth s o = some (.ins 93 fs)) (hk : k = 90 ∨ k = 91) (hl : Nat.blt fs.length 1000 = true) : setFD G (callN G n) (.ref o) k v s = .ok .non (s.set o (.ins 93 (putN fs k v))) := by
  simp only [setFD, h]
  rcases hk with rfl | rfl <;> (show (if Nat.blt fs.length 1000 = true then _ else _) = _; rw [if_pos hl])
theorem sRI {n s o v} (h : nth s o = some (.ins 93 [])) (hv : Ok v) :
    W (callN G (n + 1) 24 [.ref o, cons.getD 3 .non, .tup [.str v.a, .str v.b, .str v.c, .str v.d, .str v.e, .str v.f]] s) fun d s' => d = .non ∧ OutAt s' o v ∧ ∀ s0, SExt s0 s → nth s0 o = none → SExt s0 s' := by
  refine W_of (G := G) (c := callN G n) (ts := d24.body) (fr := [some (.ref o), some (cons.getD 3 .non), some (.tup [.str v.a, .str v.b, .str v.c, .str v.d, .str v.e, .str v.f]), none, none, none, none]) ?_
  show VS G (callN G n) [_, _, _, _] _ s _ _
  refine x_asgW ?_
  rw [W_dnew]
  refine ⟨_, rfl, ?_⟩
  dsimp only [List.set]
  have hk : nth (s ++ [.dct false []]) s.length = some (.dct false []) := nth_len s _ []
  have ho := nth_app [.dct false []] h
  have e0 : ∀ s0, SExt s0 s → nth s0 o = none → SExt s0 (s ++ [.dct false []]) ∧ nth s0 s.length = none := fun s0 e _ => ⟨e.app _, nth_nil e.le⟩
  generalize (s ++ [O.dct false []]) = s1 at hk ho e0 ⊢
  generalize s.length = k at hk e0 ⊢
  have st : ∀ {s : Sto} {kvs : List (D × D)} {x : Nat} {y : D}, nth s k = some (.dct false kvs) → Nat.blt kvs.length line = true → lkD kvs (.str x) = none → setSB (.ref k) (.str x) y s = .ok .non (s.set k (.dct false (kvs ++ [(.str x, y)]))) := fun h1 h2 h3 => setK h1 rfl h2 h3
  refine x_for (vs := [cons.getD 3 .non]) (w := .enum (.seq [.ctp [.str 48, .ctp (Va.map .str)], .ctp [.str 51, .ctp (Vb.map .str)], .ctp [.str 54, .ctp (Vc.map .str)], .ctp [.str 57, .ctp (Vd.map .str)], .ctp [.str 59, .ctp (Ve.map .str)], .ctp [.str 62, .ctp (Vf.map .str)]])) (p_cons (p_var rfl) p_nil) rfl ?_
  refine forG_go (n := 99999) rfl (x_forT rfl ?_)
  dsimp only [List.set]
  refine x_if (p_cmp (x := .str v.a) (p_ixT (p_var rfl) (p_var rfl) rfl) (p_var rfl) (nin_ctp hv.a)) (fun h => nomatch h) (fun _ => x_asgS (p_ixT (d := .str v.a) (p_var rfl) (p_var rfl) rfl) (p_var rfl) (p_var rfl) (st hk rfl rfl) (x_nil ?_))
  refine forG_go (n := 99998) rfl (x_forT rfl ?_)
  dsimp only [List.set]
  refine x_if (p_cmp (x := .str v.b) (p_ixT (p_var rfl) (p_var rfl) rfl) (p_var rfl) (nin_ctp hv.b)) (fun h => nomatch h) (fun _ => x_asgS (p_ixT (d := .str v.b) (p_var rfl) (p_var rfl) rfl) (p_var rfl) (p_var rfl) (st (nth_set_eq hk) rfl rfl) (x_nil ?_))
  rw [List.set_set]
  refine forG_go (n := 99997) rfl (x_forT rfl ?_)
  dsimp only [List.set]
  refine x_if (p_cmp (x := .str v.c) (p_ixT (p_var rfl) (p_var rfl) rfl) (p_var rfl) (nin_ctp hv.c)) (fun h => nomatch h) (fun _ => x_asgS (p_ixT (d := .str v.c) (p_var rfl) (p_var rfl) rfl) (p_var rfl) (p_var rfl) (st (nth_set_eq hk) rfl rfl) (x_nil ?_))
  rw [List.set_set]
  refine forG_go (n := 99996) rfl (x_forT rfl ?_)
  dsimp only [List.set]
  refine x_if (p_cmp (x := .str v.d) (p_ixT (p_var rfl) (p_var rfl) rfl) (p_var rfl) (nin_ctp hv.d)) (fun h => nomatch h) (fun _ => x_asgS (p_ixT (d := .str v.d) (p_var rfl) (p_var rfl) rfl) (p_var rfl) (p_var rfl) (st (nth_set_eq hk) rfl rfl) (x_nil ?_))
  rw [List.set_set]
  refine forG_go (n := 99995) rfl (x_forT rfl ?_)
  dsimp only [List.set]
  refine x_if (p_cmp (x := .str v.e) (p_ixT (p_var rfl) (p_var rfl) rfl) (p_var rfl) (nin_ctp hv.e)) (fun h => nomatch h) (fun _ => x_asgS (p_ixT (d := .str v.e) (p_var rfl) (p_var rfl) rfl) (p_var rfl) (p_var rfl) (st (nth_set_eq hk) rfl rfl) (x_nil ?_))
  rw [List.set_set]
  refine forG_go (n := 99994) rfl (x_forT rfl ?_)
  dsimp only [List.set]
  refine x_if (p_cmp (x := .str v.f) (p_ixT (p_var rfl) (p_var rfl) rfl) (p_var rfl) (nin_ctp hv.f)) (fun h => nomatch h) (fun _ => x_asgS (p_ixT (d := .str v.f) (p_var rfl) (p_var rfl) rfl) (p_var rfl) (p_var rfl) (st (nth_set_eq hk) rfl rfl) (x_nil ?_))
  rw [List.set_set]
  refine forG_end (n := 99993) rfl ?_
  have hok : o ≠ k := fun e => by rw [e, hk] at ho; cases ho
  have ho2 : nth (s1.set k (.dct false (ents v))) o = some (.ins 93 []) := by rw [nth_set_ne (fun e => hok e.symm)]; exact ho
  refine x_asgF (p_var rfl) (p_var rfl) (setF ho2 (.inl rfl) rfl) ?_
  refine x_asgF (p_var rfl) (p_var rfl) (setF (nth_set_eq ho2) (.inr rfl) rfl) (x_nil ⟨rfl, ⟨k, ?_, ?_⟩, fun s0 e en => ?_⟩)
  · rw [List.set_set]; exact nth_set_eq ho2
  · rw [List.set_set]; exact (nth_set_ne hok).trans (nth_set_eq hk)
  · obtain ⟨e1, e2⟩ := e0 s0 e en
    rw [List.set_set]
    exact (e1.set _ e2).set _ en
theorem W_init {l : Nat} {x : PD.R D} {Q : D → Sto → Prop} (h : W x fun d s' => d = .non ∧ Q (.ref l) s') : W (initD l x) Q := by
  obtain ⟨d, s', rfl, rfl, q⟩ := W_get h
  exact q
theorem sNew {n s v} (hv : Ok v) : W (newD G (callN G (n + 2)) 93 [] [48, 51, 54, 57, 59, 62] [.str v.a, .str v.b, .str v.c, .str v.d, .str v.e, .str v.f] s) fun d s' => ∃ r, d = .ref r ∧ OutAt s' r v ∧ SExt s s' := by
  refine W_init (x := callN G (n + 2) 36 [.ref s.length, .str v.a, .str v.b, .str v.c, .str v.d, .str v.e, .str v.f] (s ++ [.ins 93 []])) ?_
  refine W_of (G := G) (c := callN G (n + 1)) (ts := d36.body) (fr := [some (.ref s.length), some (.str v.a), some (.str v.b), some (.str v.c), some (.str v.d), some (.str v.e), some (.str v.f), none]) ?_
  show VS G (callN G (n + 1)) [_] _ _ _ _
  refine x_expr ?_
  rw [W_scall]
  have ho : nth (s ++ [.ins 93 []]) s.length = some (.ins 93 []) := nth_len s _ []
  refine ⟨s.length, rfl, by simp only [insOf, ho]; rfl, pu_Ws (p_cons (p_con (d := cons.getD 3 .non) rfl) (p_cons (p_tup (p_cons (p_var rfl) (p_cons (p_var rfl) (p_cons (p_var rfl) (p_cons (p_var rfl) (p_cons (p_var rfl) (p_cons (p_var rfl) p_nil)))))) rfl) p_nil)) ?_⟩
  refine W_mono (sRI (n := n) ho hv) ?_
  rintro d s' ⟨rfl, h1, h2⟩
  exact x_nil ⟨rfl, _, rfl, h1, h2 s ((SExt.refl s).app _) (nth_nil (Nat.le_refl _))⟩
theorem sRul {n s q v} (h : EntAt s q v) (hv : Ok v) : W (callN G (n + 3) 68 [.int 1, .ref q] s) fun d s' => ∃ r, d = .ref r ∧ OutAt s' r v ∧ SExt s s' := by
  refine W_of (G := G) (c := callN G (n + 2)) (ts := d68.body) (fr := [some (.int 1), some (.ref q)]) ?_
  show VS G (callN G (n + 2)) [_, _] _ s _ _
  refine x_if (p_eqI (p_var rfl) p_lit) (fun h => absurd h (by decide)) (fun _ => x_retW ?_)
  rw [W_new]
  refine pu_Ws p_nil (pu_Ws (d := [.str v.a, .str v.b, .str v.c, .str v.d, .str v.e, .str v.f]) (p_cons (p_ixE (p_var rfl) h rfl) (p_cons (p_ixE (p_var rfl) h rfl) (p_cons (p_ixE (p_var rfl) h rfl) (p_cons (p_ixE (p_var rfl) h rfl) (p_cons (p_ixE (p_var rfl) h rfl) (p_cons (p_ixE (p_var rfl) h rfl) p_nil)))))) (sNew (n := n) hv))
end K50
end Sec52
section Sec53
set_option linter.all false
set_option maxRecDepth 100000
set_option maxHeartbeats 4000000
namespace K50
open PD
local macro_rules | `(tactic| contradiction) => `(tactic| first
  | exact p_lit
  | exact p_var rfl
  | exact p_con rfl
  | (apply p_and <;> contradiction)
  | (apply p_or <;> contradiction)
  | (apply p_not <;> contradiction)
  | (apply p_eqSl; (· contradiction))
  | (apply p_neSl; (· contradiction))
  | (apply p_eqN <;> contradiction)
  | (apply p_eqS <;> contradiction)
  | (apply p_neN <;> contradiction)
  | (apply p_neS <;> contradiction)
  | (apply p_ltN <;> contradiction)
  | (apply p_gtN <;> contradiction)
  | (apply p_isn <;> contradiction)
  | (apply p_is <;> contradiction)
  | (apply p_addN <;> contradiction)
  | (apply p_minN <;> contradiction)
  | (apply p_intB <;> contradiction)
  | (apply p_intN <;> contradiction)
  | (apply p_tup; (· contradiction); (· rfl))
  | exact p_nil
  | (apply p_cons <;> contradiction)
  | (apply p_ixE; (· exact p_var rfl); (· assumption); (· rfl))
  | (apply p_ixO; (· exact p_var rfl); (· assumption); (· rfl))
  | fail)
local macro_rules | `(tactic| ac_rfl) => `(tactic| first
  | (apply x_ret; (· contradiction))
  | (apply x_asg; (· contradiction); (· rfl); dsimp only [List.set])
  | (apply x_ifJ; (· contradiction); (· contradiction); (· rfl); dsimp only [List.set])
  | (apply x_ifJ2; (· contradiction); (· contradiction); (· rfl); (· contradiction); (· rfl); dsimp only [List.set])
  | (apply x_if; (· contradiction); all_goals (intro h; first | exact absurd (show true = false from h) (by decide) | exact absurd (show false = true from h) (by decide) | skip))
  | fail)

def mRight (v : Ov) : Bool := bif !Nat.beq v.c 56 || !Nat.beq v.e 60 then false else bif Nat.beq v.a 49 then Nat.beq v.b 53 else Nat.beq v.a 50 && (!Nat.beq v.d 56 && Nat.beq v.f 63)
theorem ca69 {c : Call} {a : D} {s : Sto} : callA G c 69 [a] [] [] s = c 69 [a] s := rfl
theorem ca70 {c : Call} {a b : D} {s : Sto} : callA G c 70 [a, b] [] [] s = c 70 [a, b] s := rfl
theorem sRight {n s q v} (h : EntAt s q v) : callN G (n + 1) 69 [.ref q] s = .ok (.bl (mRight v)) s := by
  refine V_eq (ts := d69.body) ?_
  show VS G (callN G n) [_, _, _] [some (.ref q)] s _ _
  repeat' ac_rfl
  all_goals (refine ⟨?_, rfl⟩; simp only [mRight, *, cond_true, cond_false])
abbrev ev4 : List Nat := [65, 28, 49, 72]
def go1 (v : Ov) (x : S5) (e : Nat) : S5 := match mAfter v x e with
  | some y => y
  | none => x
def goL (v : Ov) : List Nat → S5 → S5
  | [], x => x
  | e :: r, x => goL v r (go1 v x e)
def goN (v : Ov) : Nat → S5 → S5
  | 0, x => x
  | n + 1, x => goN v n (goL v ev4 x)
def mSet (v : Ov) (x : S5) : Bool := let y := goN v 6 x; Nat.beq y.a 4 && Nat.beq y.e 1
theorem ev4_sub : ∀ e ∈ ev4, e ∈ evts := by decide
theorem sSet {n s l v} (h : OutAt s l v) (x : S5) : W (callN G (n + 5) 70 [.ref l, enc x] s) fun d s' => d = .bl (mSet v x) ∧ SExt s s' := by
  refine W_of (G := G) (c := callN G (n + 4)) (ts := d70.body) (fr := [some (.ref l), some (enc x), none, none, none]) ?_
  show VS G (callN G (n + 4)) [_, _] _ s _ _
  refine x_for (vs := [.int 6]) (w := .rng 0 6) (p_cons p_lit p_nil) rfl (V_range (fun i fr s' => ∃ y a b c, fr = [some (.ref l), some (enc y), a, b, c] ∧ goN v (6 - i) y = goN v 6 x ∧ SExt s s') (by decide) ⟨x, none, none, none, rfl, rfl, SExt.refl _⟩ ?_ ?_)
  · rintro fr s' ⟨y, a, b, c, rfl, hy, e⟩
    have hy : y = goN v 6 x := hy
    refine x_ret (p_and (p_eqN (x := y.a) (p_ixT (p_var rfl) p_lit rfl) p_lit) (p_eqN (x := y.e) (p_ixT (p_var rfl) p_lit rfl) p_lit)) ⟨?_, e⟩
    rw [mSet, ← hy]
  · rintro i fr s' hi ⟨y, a, b, c, rfl, hy, e⟩
    obtain ⟨j, hj⟩ : ∃ j, 6 - i = j + 1 := ⟨5 - i, by omega⟩
    rw [hj] at hy
    refine x_forT rfl ?_
    dsimp only [List.set]
    refine x_forW ?_
    rw [W_cons, W_lst]
    refine pu_Ws (d := ev4.map .str) (by contradiction) ⟨rfl, pu_Ws p_nil ?_⟩
    have hev : nth (s' ++ [.lst (ev4.map .str)]) s'.length = some (.lst (ev4.map .str)) := nth_len s' _ []
    rw [walk_live hev]
    have e2 : SExt s (s' ++ [.lst (ev4.map .str)]) := e.app _
    generalize (s' ++ [O.lst (ev4.map .str)]) = s2 at hev e2 ⊢
    generalize s'.length = ee at hev ⊢
    refine V_live (ev4.map .str) (fun r fr s3 => ∃ es z b c, r = es.map D.str ∧ (∀ e ∈ es, e ∈ ev4) ∧ goL v es z = goL v ev4 y ∧ fr = [some (.ref l), some (enc z), some (.int (0 + Int.ofNat i)), b, c] ∧ SExt s2 s3) (by decide)
      (fun _ _ _ ⟨_, _, _, _, _, _, _, _, e⟩ => e.h _ _ hev) ⟨ev4, y, b, c, rfl, fun _ h => h, rfl, rfl, SExt.refl _⟩ ?_ ?_
    · rintro fr s3 ⟨es, z, b, c, he, -, hz, rfl, e3⟩
      cases es with
      | cons a r => cases he
      | nil =>
      have hz : z = goL v ev4 y := hz
      refine x_nil ⟨z, _, _, _, rfl, ?_, e2.trans e3⟩
      rw [show 6 - (i + 1) = j by omega, hz]; exact hy
    · rintro d r fr s3 ⟨es, z, b, c, he, hm, hz, rfl, e3⟩
      cases es with
      | nil => cases he
      | cons ev es =>
      obtain ⟨rfl, rfl⟩ := List.cons.inj he
      have hz : goL v es (go1 v z ev) = goL v ev4 y := hz
      unfold go1 at hz
      refine x_forT rfl ?_
      dsimp only [List.set]
      refine x_asgW (W_call1 (vs := [.ref l, enc z, .str ev]) (p_cons (p_var rfl) (p_cons (p_var rfl) (p_cons (p_var rfl) p_nil))) ?_)
      rw [ca45]
      obtain ⟨u, hu⟩ := sA (n := n) ((h.ext e2).ext e3) z (ev4_sub ev (hm ev (List.mem_cons_self ..)))
      refine W_eq hu ⟨_, rfl, ?_⟩
      dsimp only [List.set]
      have hm' : ∀ e ∈ es, e ∈ ev4 := fun e he => hm e (List.mem_cons_of_mem _ he)
      cases hA : mAfter v z ev with
      | none =>
        rw [hA] at hz
        exact x_if (p_isn (x := .non) (p_var rfl)) (fun h => nomatch h) (fun _ => x_nil ⟨es, z, _, _, rfl, hm', hz, rfl, e3.app _⟩)
      | some w =>
        rw [hA] at hz
        exact x_if (p_isn (x := enc w) (p_var rfl)) (fun _ => x_asg (p_var rfl) rfl (x_nil ⟨es, w, _, _, rfl, hm', hz, rfl, e3.app _⟩)) (fun h => nomatch h)
/-- what a right outlet's standings keep to -/
def okS (v : Ov) (x : S5) : Bool := !(Nat.blt 1 x.e || (Nat.beq x.a 0 && Nat.blt 0 x.e)) && (!(Nat.beq x.a 4 && !Nat.beq x.e 1) && mSet v x)
def okP (v : Ov) (tb : List S5) (f : Nat) : Bool := mKept tb f || (match bfsP (mAfter v) f 200 0 [(x0, [])] with
  | some (some _) => true
  | _ => false)
def okW (v : Ov) : Bool := match bfs (mAfter v) 200 0 [x0] with
  | none => false
  | some tb => Nat.blt tb.length 1000 && (((mKept tb 52 && mKept tb 61) == mRight v) && (mem5 x0 tb && (tb.all (fun x => evts.all fun e => match mAfter v x e with
    | none => true
    | some y => mem5 y tb) && ((!mRight v || tb.all (okS v)) && (okP v tb 52 && okP v tb 61)))))
theorem okA : (Va.all fun a => Vb.all fun b => Vc.all fun c => Vd.all fun d => Ve.all fun e => Vf.all fun f => okW ⟨a, b, c, d, e, f⟩) = true := by decide +kernel
theorem ok_of {v : Ov} (h : Ok v) : okW v = true := by
  have := okA
  have := List.all_eq_true.mp this v.a h.a
  have := List.all_eq_true.mp this v.b h.b
  have := List.all_eq_true.mp this v.c h.c
  have := List.all_eq_true.mp this v.d h.d
  have := List.all_eq_true.mp this v.e h.e
  exact List.all_eq_true.mp this v.f h.f
/-- the table as a set -/
structure Cl5 (v : Ov) (tb : List S5) : Prop where
  st : mem5 x0 tb = true
  cl : ∀ x, mem5 x tb = true → ∀ e ∈ evts, ∀ y, mAfter v x e = some y → mem5 y tb = true
  ok : mRight v = true → ∀ x, mem5 x tb = true → okS v x = true
theorem eq5_ok {x y : S5} (h : eq5 x y = true) : x = y := by
  unfold eq5 at h
  simp only [Bool.and_eq_true] at h
  obtain ⟨h1, h2, h3, h4, h5⟩ := h
  cases x; cases y
  simp only [S5.mk.injEq]
  exact ⟨Nat.eq_of_beq_eq_true h1, Nat.eq_of_beq_eq_true h2, Nat.eq_of_beq_eq_true h3, Nat.eq_of_beq_eq_true h4, Nat.eq_of_beq_eq_true h5⟩
theorem mem5_in {x : S5} {tb : List S5} (h : mem5 x tb = true) : x ∈ tb := by
  obtain ⟨y, hy, e⟩ := List.any_eq_true.mp h
  rw [← eq5_ok e]; exact hy
theorem cl_of {v : Ov} {tb : List S5} (h1 : mem5 x0 tb = true) (h2 : tb.all (fun x => evts.all fun e => match mAfter v x e with
    | none => true
    | some y => mem5 y tb) = true) (h3 : (!mRight v || tb.all (okS v)) = true) : Cl5 v tb := by
  refine ⟨h1, fun x hx e he y hy => ?_, fun hr x hx => ?_⟩
  · have := List.all_eq_true.mp (List.all_eq_true.mp h2 x (mem5_in hx)) e he
    rw [hy] at this; exact this
  · rw [hr, Bool.not_true, Bool.false_or] at h3
    exact List.all_eq_true.mp h3 x (mem5_in hx)
end K50
end Sec53
section Sec54
set_option linter.all false
set_option maxRecDepth 100000
set_option maxHeartbeats 4000000
namespace K50
open PD
local macro_rules | `(tactic| contradiction) => `(tactic| first
  | exact p_lit
  | exact p_var rfl
  | exact p_con rfl
  | (apply p_and <;> contradiction)
  | (apply p_or <;> contradiction)
  | (apply p_not <;> contradiction)
  | (apply p_eqSl; (· contradiction))
  | (apply p_neSl; (· contradiction))
  | (apply p_eqN <;> contradiction)
  | (apply p_eqS <;> contradiction)
  | (apply p_neN <;> contradiction)
  | (apply p_neS <;> contradiction)
  | (apply p_ltN <;> contradiction)
  | (apply p_gtN <;> contradiction)
  | (apply p_isn <;> contradiction)
  | (apply p_is <;> contradiction)
  | (apply p_addN <;> contradiction)
  | (apply p_minN <;> contradiction)
  | (apply p_intB <;> contradiction)
  | (apply p_intN <;> contradiction)
  | (apply p_tup; (· contradiction); (· rfl))
  | exact p_nil
  | (apply p_cons <;> contradiction)
  | (apply p_ixE; (· exact p_var rfl); (· assumption); (· rfl))
  | (apply p_ixO; (· exact p_var rfl); (· assumption); (· rfl))
  | fail)
local macro_rules | `(tactic| ac_rfl) => `(tactic| first
  | (apply x_ret; (· contradiction))
  | (apply x_asg; (· contradiction); (· rfl); dsimp only [List.set])
  | (apply x_ifJ; (· contradiction); (· contradiction); (· rfl); dsimp only [List.set])
  | (apply x_ifJ2; (· contradiction); (· contradiction); (· rfl); (· contradiction); (· rfl); dsimp only [List.set])
  | (apply x_if; (· contradiction); all_goals (intro h; first | exact absurd (show true = false from h) (by decide) | exact absurd (show false = true from h) (by decide) | skip))
  | fail)

theorem okP_of {v : Ov} {tb : List S5} {f : Nat} (h : okP v tb f = true) : ∃ p x, mKept tb f = false → bfsP (mAfter v) f 200 0 [(x0, [])] = some (some (p, x)) := by
  unfold okP at h
  cases hk : mKept tb f with
  | true => exact ⟨[], x0, fun h => nomatch h⟩
  | false =>
    rw [hk, Bool.false_or] at h
    cases hb : bfsP (mAfter v) f 200 0 [(x0, [])] with
    | none => rw [hb] at h; cases h
    | some o => cases o with
      | none => rw [hb] at h; cases h
      | some px => exact ⟨px.1, px.2, fun _ => rfl⟩
/-- what judge says of a fault -/
theorem sK {m s l v f tb} (h : OutAt s l v) (hf : f ∈ flts) (hb : bfs (mAfter v) 200 0 [x0] = some tb) (hl : tb.length < fuelL) (hp : okP v tb f = true) {fr : Fr} {i : Nat} {Q : D → Sto → Prop} (hi : nthFr fr i = some (.ref l))
    (q : ∀ s', SExt s s' → Q (.bl (mKept tb f)) s') : W (evE G (callN G (m + 7)) (.fld (.call 62 [.var i, .lit (.str f)] [] []) 100) fr s) Q := by
  obtain ⟨p, x, hpx⟩ := okP_of hp
  rw [W_fld]
  refine W_call1 (vs := [.ref l, .str f]) (p_cons (p_var hi) (p_cons p_lit p_nil)) ?_
  rw [ca62]
  refine W_mono (sJ (m := m) h hf (by decide : 200 < fuelL) hb hl hpx) ?_
  rintro d s' ⟨r, rfl, e, hr, -⟩
  refine W_eq (a := .bl (mKept tb f)) (s := s') ?_ (q s' e)
  unfold vRes at hr
  cases hk : mKept tb f with
  | true => rw [hk, cond_true] at hr; simp only [fldD, hr]; rfl
  | false => rw [hk, cond_false] at hr; simp only [fldD, hr]; rfl
theorem pkI {fr : Fr} {s : Sto} {w i : Nat} {xs : List Int} {y : Int} (V : List Nat) (m : Nat) {es : List E} (hV : V.length = m) (hm0 : 0 < m) (hw : nth s w = some (.lst (xs.map .int))) (h2 : nthFr fr 2 = some (.ref w)) (hy : nth xs i = some y) (he : Pus G (callN G 20) fr s es (V.map D.str)) (hl : Nat.ble (V.map D.str).length line = true) :
    ∃ a, a ∈ V ∧ ∀ Q : D → Sto → Prop, (Q (.str a) (s ++ [.lst (V.map .str)])) → W (evE G (callN G 20) (.ix (.lst es) (.bin .mod (.bi .int [(.ix (.var 2) (.lit (.int (Int.ofNat i))))]) (.lit (.int (Int.ofNat m))))) fr s) Q := by
  obtain ⟨d, hd, hx⟩ := pickS V (by omega) y
  refine ⟨d, hd, fun Q q => ?_⟩
  rw [W_ix, W_lst]
  refine pu_Ws he ⟨hl, pu_W (p_modI (p_intI (p_ixR (xs := xs.map D.int) (d := .int y) (p_var h2) (nth_app _ hw) p_lit (by show nth (xs.map D.int) i = _; rw [nth_map, hy]; rfl))) p_lit (by cases m with | zero => cases hm0 | succ m => rfl)) ?_⟩
  have hl := nth_len s (.lst (V.map D.str)) []
  rw [List.length_map, hV] at hx
  exact W_eq (a := .str d) (s := s ++ [.lst (V.map .str)]) (by simp only [ixD, hl, hx]) q
def poss (v : Ov) (x : S5) : List Nat → List Nat
  | [] => []
  | e :: r => bif (mAfter v x e).isSome then e :: poss v x r else poss v x r
theorem poss_mem {v : Ov} {x : S5} : ∀ {l : List Nat} {e : Nat}, e ∈ poss v x l → e ∈ l ∧ (mAfter v x e).isSome = true
  | [], e, h => by cases h
  | a :: r, e, h => by
    have h : e ∈ (bif (mAfter v x a).isSome then a :: poss v x r else poss v x r) := h
    cases hs : (mAfter v x a).isSome with
    | true =>
      rw [hs, cond_true] at h
      rcases List.mem_cons.mp h with rfl | h
      · exact ⟨List.mem_cons_self .., hs⟩
      · exact ⟨List.mem_cons_of_mem _ (poss_mem h).1, (poss_mem h).2⟩
    | false =>
      rw [hs, cond_false] at h
      exact ⟨List.mem_cons_of_mem _ (poss_mem h).1, (poss_mem h).2⟩
abbrev bodyB : List St := match nth d71.body 8 with
  | some (.for_ _ _ _ b) => b
  | _ => []
theorem law {ns : List Int} (hn : ns.length ≤ 63) : ∃ S, callN G (20 + 1) 71 [scr ns] [] = .ok (.bl true) S := by
  suffices h : W (callN G (20 + 1) 71 [scr ns] []) fun d s' => d = .bl true by
    obtain ⟨d, s', e, rfl⟩ := W_get h
    exact ⟨s', e⟩
  refine W_of (G := G) (c := callN G 20) (ts := d71.body) (fr := [some (scr ns), none, none, none, none, none, none, none, none, none, none]) ?_
  show VS G (callN G 20) [_, _, _, _, _, _, _, _, _, _] _ _ _ _
  obtain ⟨z, hz⟩ := sCell (n := 19) (s := []) ns 0
  refine x_asgW (W_call1 (vs := [.int 1, .int z]) (p_cons p_lit (p_cons (p_call (vs := [scr ns, N' 0]) (p_cons (p_var rfl) (p_cons p_lit p_nil)) p_nil (by rw [ca63]; exact hz)) p_nil)) ?_)
  rw [ca67]
  refine W_mono (sVal (n := 18) z) ?_
  rintro d s1 ⟨q, v, rfl, en, ok, e1, -⟩
  refine ⟨_, rfl, ?_⟩
  dsimp only [List.set]
  obtain ⟨z2, hz2⟩ := sCell (n := 19) (s := s1) ns 1
  refine x_asgW (W_call1 (vs := [.int z2, N' 6]) (p_cons (p_call (vs := [scr ns, N' 1]) (p_cons (p_var rfl) (p_cons p_lit p_nil)) p_nil (by rw [ca63]; exact hz2)) (p_cons p_lit p_nil)) ?_)
  rw [ca65]
  refine W_mono (sRow (n := 19) z2 6 (by decide)) ?_
  rintro d s2 ⟨w, xs, rfl, hw, hx, e2⟩
  refine ⟨_, rfl, ?_⟩
  dsimp only [List.set]
  -- the rest
  have rest : ∀ (s : Sto) (q : Nat) (v : Ov), EntAt s q v → Ok v → VS G (callN G 20) (d71.body.drop 3) [some (scr ns), some (.ref q), some (.ref w), none, none, none, none, none, none, none, none] s (fun _ s' => (D.non : D) = .bl true) (fun d s' => d = .bl true) := by
    intro s q v en ok
    show VS G (callN G 20) [_, _, _, _, _, _, _] _ _ _ _
    have good := ok_of ok
    unfold okW at good
    cases hb : bfs (mAfter v) 200 0 [x0] with
    | none => rw [hb] at good; cases good
    | some tb =>
    rw [hb] at good
    have good : (Nat.blt tb.length 1000 && (((mKept tb 52 && mKept tb 61) == mRight v) && (mem5 x0 tb && (tb.all (fun x => evts.all fun e => match mAfter v x e with
      | none => true
      | some y => mem5 y tb) && ((!mRight v || tb.all (okS v)) && (okP v tb 52 && okP v tb 61)))))) = true := good
    rw [Bool.and_eq_true, Bool.and_eq_true, Bool.and_eq_true, Bool.and_eq_true, Bool.and_eq_true, Bool.and_eq_true] at good
    obtain ⟨g1, g2, g3, g4, g5, g6, g7⟩ := good
    have cl := cl_of g3 g4 g5
    have gl2 : tb.length < fuelL := Nat.lt_trans (Nat.le_of_ble_eq_true g1) (by decide)
    have g2 : (mKept tb 52 && mKept tb 61) = mRight v := by simpa using g2
    refine x_asgW (W_call1 (vs := [.int 1, .ref q]) (p_cons p_lit (p_cons (p_var rfl) p_nil)) ?_)
    rw [ca68]
    refine W_mono (sRul (n := 17) en ok) ?_
    rintro d s3 ⟨o, rfl, oa, e3⟩
    refine ⟨_, rfl, ?_⟩
    dsimp only [List.set]
    have en3 := en.ext e3
    refine x_asgW ?_
    have fin : ∀ s', SExt s3 s' → ∃ fr', letT (.nm 4) (.bl (mRight v)) [some (scr ns), some (.ref q), some (.ref w), some (.ref o), none, none, none, none, none, none, none] = some fr' ∧ VS G (callN G 20) (d71.body.drop 5) fr' s' (fun _ s' => (D.non : D) = .bl true) (fun d s' => d = .bl true) := by
      intro s4 e4
      refine ⟨_, rfl, ?_⟩
      show VS G (callN G 20) [_, _, _, _, _] _ _ _ _
      dsimp only [List.set]
      have en4 := en3.ext e4
      have oa4 := oa.ext e4
      refine x_if (p := !(mRight v == mRight v)) (p_cmp (p_var rfl) (p_call (vs := [.ref q]) (p_cons (p_var rfl) p_nil) p_nil (by rw [ca69]; exact sRight (n := 19) en4)) rfl) (fun h => by simp at h) (fun _ => ?_)
      refine x_asg (d := enc x0) (p_tup (p_cons p_lit (p_cons p_lit (p_cons p_lit (p_cons p_lit (p_cons p_lit p_nil))))) rfl) rfl ?_
      dsimp only [List.set]
      -- the numbers
      obtain ⟨z3, hz3⟩ := sCell (n := 19) (s := s4) ns 2
      obtain ⟨k, hk, hk2⟩ := sMod (n := 19) (s := s4) ns 3 61 (by decide)
      refine x_asgW ?_
      rw [W_bin]
      refine W_call1 (vs := [.int z3, N' k]) (p_cons (p_call (vs := [scr ns, N' 2]) (p_cons (p_var rfl) (p_cons p_lit p_nil)) p_nil (by rw [ca63]; exact hz3)) (p_cons (p_call (vs := [scr ns, N' 3, N' 61]) (p_cons (p_var rfl) (p_cons p_lit (p_cons p_lit p_nil))) p_nil (by rw [ca64]; exact hk2)) p_nil)) ?_
      rw [ca65]
      refine W_mono (sRow (n := 19) z3 k (by omega)) ?_
      rintro d s5 ⟨r5, xs5, rfl, h5, hx5, e5⟩
      rw [W_lc, W_cons, W_sl]
      refine pu_W (p_var rfl) ?_
      refine W_eq (a := some 5) (s := s5) (by rw [(p_cons p_lit p_nil : Pus G (callN G 20) _ s5 [.lit (.int 5)] [.int 5]).h]; rfl) ?_
      refine W_eq (a := some 63) (s := s5) (by rw [(p_cons p_lit p_nil : Pus G (callN G 20) _ s5 [.lit (.int 63)] [.int 63]).h]; rfl) ?_
      have hcut : cut (ns.map D.int) (some 5) (some 63) = (cut ns (some 5) (some 63)).map D.int := by simp [cut, List.map_drop, List.map_take]
      have hcl : (cut ns (some 5) (some 63)).length ≤ 63 := by
        unfold cut
        rw [List.length_take, List.length_drop]
        omega
      refine W_eq (a := .ref s5.length) (s := s5 ++ [.lst ((cut ns (some 5) (some 63)).map .int)]) (by rw [← hcut]; rfl) ?_
      generalize (cut ns (some 5) (some 63)) = ms at hcl
      refine pu_Ws p_nil ?_
      have h6 := nth_len s5 (.lst (ms.map D.int)) []
      have e6 : SExt s5 (s5 ++ [.lst (ms.map .int)]) := (SExt.refl s5).app _
      rw [walk_live h6]
      generalize (s5 ++ [O.lst (ms.map .int)]) = s6 at h6 e6 ⊢
      generalize s5.length = a6 at h6 ⊢
      refine W_compM ms D.int (fun x => .int (x % 2520)) (fun s' => nth s' a6 = some (.lst (ms.map .int))) (Nat.lt_of_le_of_lt hcl (by decide)) (fun i s' k => src_live k i) (nth_app _ h6) (fun s' acc h1 e1 h2 o => by
        rw [nth_set_ne (fun e => by rw [← e] at h6; exact absurd (nth_lt h6) (Nat.lt_irrefl _))]; exact h1) (fun x s' _ hK _ _ => ⟨[], lcT_pu (d := .int x) rfl p_lit (p_modI (p_intI (p_var rfl)) p_lit rfl), by rw [List.append_nil]; exact hK⟩) (fun s7 e7 _ h7 => ?_)
      have h57 := (e6.trans e7).h _ _ h5
      have h7' : nth s7 s6.length = some (.lst ((ms.map fun x => x % 2520).map D.int)) := by rw [h7, List.map_map]; rfl
      refine W_eq (a := .ref s7.length) (s := s7 ++ [.lst ((xs5 ++ ms.map fun x => x % 2520).map .int)]) ?_ ⟨_, rfl, ?_⟩
      · simp only [binD, lstO, h57, h7', List.length_map, List.map_append]
        rw [if_pos (Nat.ble_eq_true_of_le (by simp only [line]; omega))]; rfl
      dsimp only [List.set]
      have hnl : (xs5 ++ ms.map fun x => x % 2520).length < 1000 := by rw [List.length_append, List.length_map]; omega
      have h8 := nth_len s7 (.lst ((xs5 ++ ms.map fun x => x % 2520).map D.int)) []
      have oa8 : OutAt (s7 ++ [.lst ((xs5 ++ ms.map fun x => x % 2520).map .int)]) o v := (((oa4.ext e5).ext e6).ext e7).app _
      generalize (xs5 ++ ms.map fun x => x % 2520) = nums at h8 hnl oa8 ⊢
      generalize (s7 ++ [O.lst (nums.map .int)]) = s8 at h8 oa8 ⊢
      generalize s7.length = a8 at h8 ⊢
      refine x_for (vs := [.ref a8]) (w := .live a8) (p_cons (p_var rfl) p_nil) (walk_live h8) (V_live (nums.map .int)
        (fun rr fr s9 => ∃ nr x b c d e, rr = nr.map D.int ∧ mem5 x tb = true ∧ fr = [some (scr ns), some (.ref q), some (.ref w), some (.ref o), some (.bl (mRight v)), some (enc x), some (.ref a8), b, c, d, e] ∧ SExt s8 s9) (by rw [List.length_map]; exact Nat.lt_trans hnl (by decide))
        (fun _ _ _ ⟨_, _, _, _, _, _, _, _, _, e⟩ => e.h _ _ h8) ⟨nums, x0, none, none, none, none, rfl, cl.st, rfl, SExt.refl _⟩ ?_ ?_)
      · rintro fr s9 ⟨nr, x, b, c, d, e, he, hm, rfl, e9⟩
        exact x_ret (p_eqN (x := 5) (y := 5) (p_lenT (xs := [N' x.a, N' x.b, N' x.c, N' x.d, N' x.e]) (p_var rfl)) p_lit) rfl
      · rintro dd rr fr s9 ⟨nr, x, b, c, d, e, he, hm, rfl, e9⟩
        cases nr with
        | nil => cases he
        | cons y nr =>
        obtain ⟨rfl, rfl⟩ := List.cons.inj he
        refine x_forT rfl ?_
        dsimp only [List.set]
        refine x_asgW ?_
        rw [W_lst]
        refine pu_Ws p_nil ⟨rfl, _, rfl, ?_⟩
        dsimp only [List.set]
        have wn : nth s8 s9.length = none := nth_nil e9.le
        have hwl : nth (s9 ++ [.lst []]) s9.length = some (.lst (([] : List Nat).map D.str)) := nth_len s9 _ []
        have e10 := e9.app [.lst []]
        generalize (s9 ++ [O.lst []]) = s10 at hwl e10 ⊢
        generalize s9.length = w8 at hwl wn ⊢
        refine x_forW ?_
        rw [W_cons, W_lst]
        refine pu_Ws (d := evts.map .str) (by contradiction) ⟨rfl, pu_Ws p_nil ?_⟩
        have hev : nth (s10 ++ [.lst (evts.map .str)]) s10.length = some (.lst (evts.map .str)) := nth_len s10 _ []
        have hew : s10.length ≠ w8 := fun e => by have := nth_lt hwl; omega
        rw [walk_live hev]
        have hwl2 := nth_app [.lst (evts.map .str)] hwl
        have e11 := e10.app [.lst (evts.map .str)]
        generalize (s10 ++ [O.lst (evts.map .str)]) = s11 at hev hwl2 e11 ⊢
        generalize s10.length = ee at hev hew ⊢
        refine V_live (evts.map .str) (fun rr fr s12 => ∃ evs acc c, rr = evs.map D.str ∧ (∀ e ∈ evs, e ∈ evts) ∧ acc ++ poss v x evs = poss v x evts ∧ acc.length + evs.length ≤ 6 ∧ fr = [some (scr ns), some (.ref q), some (.ref w), some (.ref o), some (.bl (mRight v)), some (enc x), some (.ref a8), some (.int y), some (.ref w8), c, e] ∧ SExt s8 s12 ∧ nth s12 w8 = some (.lst (acc.map .str)) ∧ nth s12 ee = some (.lst (evts.map .str))) (by decide)
          (fun _ _ _ ⟨_, _, _, _, _, _, _, _, _, _, h⟩ => h) ⟨evts, [], d, rfl, fun _ h => h, rfl, by decide, rfl, e11, hwl2, hev⟩ ?_ ?_
        · rintro fr s12 ⟨evs, acc, c, he, -, hacc, hlen, rfl, e12, hw12, -⟩
          cases evs with
          | cons e r => cases he
          | nil =>
          have hacc : acc = poss v x evts := by rw [← hacc]; exact (List.append_nil _).symm
          have tail : ∀ (x' : S5) (s' : Sto), mem5 x' tb = true → SExt s8 s' → VS G (callN G 20) (bodyB.drop 3) [some (scr ns), some (.ref q), some (.ref w), some (.ref o), some (.bl (mRight v)), some (enc x'), some (.ref a8), some (.int y), some (.ref w8), c, e] s' (fun fr s9 => ∃ (nr' : List Int) (x : S5) (b c d e : Option D), List.map D.int nr = nr'.map D.int ∧ mem5 x tb = true ∧ fr = [some (scr ns), some (.ref q), some (.ref w), some (.ref o), some (.bl (mRight v)), some (enc x), some (.ref a8), b, c, d, e] ∧ SExt s8 s9) (fun d s' => d = .bl true) := by
            intro x' s' hx' e'
            show VS G (callN G 20) [_, _, _] _ _ _ _
            have oa' := oa8.ext e'
            have ok' := cl.ok
            refine x_if (p := mRight v && (Nat.blt 1 x'.e || (Nat.beq x'.a 0 && Nat.blt 0 x'.e))) (p_and (p_var rfl) (p_or (p_gtN (p_ixT (p_var rfl) p_lit rfl) p_lit) (p_and (p_eqN (p_ixT (p_var rfl) p_lit rfl) p_lit) (p_gtN (p_ixT (p_var rfl) p_lit rfl) p_lit)))) (fun h => ?_) (fun _ => ?_)
            · rw [Bool.and_eq_true] at h
              have := ok' h.1 x' hx'
              unfold okS at this
              rw [h.2] at this; cases this
            refine x_if (p := mRight v && (Nat.beq x'.a 4 && !Nat.beq x'.e 1)) (p_and (p_var rfl) (p_and (p_eqN (p_ixT (p_var rfl) p_lit rfl) p_lit) (p_neN (p_ixT (p_var rfl) p_lit rfl) p_lit))) (fun h => ?_) (fun _ => ?_)
            · rw [Bool.and_eq_true] at h
              have := ok' h.1 x' hx'
              unfold okS at this
              rw [h.2, Bool.not_true, Bool.false_and, Bool.and_false] at this; cases this
            refine x_ifW ?_
            rw [W_and]
            refine pu_W (p_var rfl) ?_
            cases hr : mRight v with
            | false =>
              rw [hr] at *
              exact x_nil ⟨nr, x', _, _, _, _, rfl, hx', rfl, e'⟩
            | true =>
              have := ok' hr x' hx'
              unfold okS at this
              rw [Bool.and_eq_true, Bool.and_eq_true] at this
              show W _ _
              rw [W_not]
              refine W_call1 (vs := [.ref o, enc x']) (p_cons (p_var rfl) (p_cons (p_var rfl) p_nil)) ?_
              rw [ca70]
              refine W_mono (sSet (n := 15) oa' x') ?_
              rintro d s13 ⟨rfl, e13⟩
              refine ⟨_, rfl, ?_⟩
              rw [this.2.2]
              exact x_nil ⟨nr, x', _, _, _, _, rfl, hx', rfl, e'.trans e13⟩
          refine x_if (p_gtN (p_len (p_var rfl) hw12) p_lit) (fun hpos => ?_) (fun _ => tail x s12 hm e12)
          have hpos : 0 < acc.length := by
            have := Nat.le_of_ble_eq_true hpos
            rw [List.length_map] at this; exact this
          obtain ⟨e, hemem, hex⟩ := pickS acc hpos y
          have hin := poss_mem (v := v) (x := x) (hacc ▸ hemem)
          obtain ⟨x', hx'⟩ := Option.isSome_iff_exists.mp hin.2
          refine x_asgW (W_call1 (vs := [.ref o, enc x, .str e]) (p_cons (p_var rfl) (p_cons (p_var rfl) (p_cons (p_ixR (p_var rfl) hw12 (p_modI (p_intI (p_var rfl)) (p_len (p_var rfl) hw12) ?_) hex) p_nil))) ?_)
          · rw [List.length_map]
            cases hl : acc.length with
            | zero => rw [hl] at hpos; cases hpos
            | succ n => rfl
          rw [ca45]
          obtain ⟨u, hu⟩ := sA (n := 16) (oa8.ext e12) x hin.1
          refine W_eq hu ⟨_, rfl, ?_⟩
          rw [hx']
          exact tail x' _ (cl.cl x hm e hin.1 x' hx') (e12.app u)
        · rintro dd rr fr s12 ⟨evs, acc, c, he, hmm, hacc, hlen, rfl, e12, hw12, hev12⟩
          cases evs with
          | nil => cases he
          | cons ev evs =>
          obtain ⟨rfl, rfl⟩ := List.cons.inj he
          refine x_forT rfl ?_
          dsimp only [List.set]
          have hmm' : ∀ e ∈ evs, e ∈ evts := fun e he => hmm e (List.mem_cons_of_mem _ he)
          simp only [List.length_cons] at hlen
          have hacc : acc ++ (bif (mAfter v x ev).isSome then ev :: poss v x evs else poss v x evs) = poss v x evts := hacc
          refine x_ifW ?_
          rw [W_cmp]
          refine W_call1 (vs := [.ref o, enc x, .str ev]) (p_cons (p_var rfl) (p_cons (p_var rfl) (p_cons (p_var rfl) p_nil))) ?_
          rw [ca45]
          obtain ⟨u, hu⟩ := sA (n := 16) (oa8.ext e12) x (hmm ev (List.mem_cons_self ..))
          refine W_eq hu (pu_W p_lit (W_eq (a := .bl (!D.beq (encO (mAfter v x ev)) .non)) (s := s12 ++ u) (by simp only [cmpR, c_isn]) ?_))
          cases hA : mAfter v x ev with
          | none =>
            rw [hA] at hacc
            exact x_nil ⟨evs, acc, _, rfl, hmm', hacc, by omega, rfl, e12.app u, nth_app u hw12, nth_app u hev12⟩
          | some y' =>
            rw [hA] at hacc
            have hacc : acc ++ ev :: poss v x evs = poss v x evts := hacc
            refine x_appd (p_var rfl) (nth_app u hw12) rfl (p_var rfl) (Nat.ble_eq_true_of_le (by simp only [List.length_map, line]; omega)) (x_nil ⟨evs, acc ++ [ev], _, rfl, hmm', by rw [List.append_assoc]; exact hacc, by simp only [List.length_append, List.length_singleton]; omega, rfl, (e12.app u).set _ wn, ?_, ?_⟩)
            · rw [nth_set_eq (nth_app u hw12), List.map_append]; rfl
            · rw [nth_set_ne (fun e => hew e.symm)]; exact nth_app u hev12
    rw [W_and]
    refine sK (m := 13) oa (by decide) hb gl2 g6 rfl (fun s4 e4 => ?_)
    cases hk1 : mKept tb 52 with
    | false =>
      have : mRight v = false := by rw [← g2, hk1]; rfl
      have f := fin s4 e4
      rw [this] at f
      exact f
    | true =>
      refine sK (m := 13) (oa.ext e4) (by decide) hb gl2 g7 rfl (fun s5 e5 => ?_)
      rw [hk1, Bool.true_and] at g2
      rw [g2]
      exact fin s5 (e4.trans e5)
  match xs, hx with
  | [y1, y2, y3, y4, y5, y6], _ =>
  have en2 := en.ext e2
  refine x_if (p_eqI (p_modI (p_intI (p_ixR (p_var rfl) hw p_lit rfl)) p_lit rfl) p_lit) (fun _ => ?_) (fun _ => rest s2 q v en2 ok)
  refine x_asgW (W_new1 (vs := [.str 49, .str 53, .str 56, .str v.d, .str 60, .str v.f]) (p_cons p_lit (p_cons p_lit (p_cons p_lit (p_cons (p_ixE (p_var rfl) en2 rfl) (p_cons p_lit (p_cons (p_ixE (p_var rfl) en2 rfl) p_nil)))))) rfl (fun s3 r3 e3 h3 _ => ⟨_, rfl, ?_⟩))
  have hw3 := e3.h _ _ hw
  dsimp only [List.set]
  refine x_if (p_eqI (p_modI (p_intI (p_ixR (p_var rfl) hw3 p_lit rfl)) p_lit rfl) p_lit) (fun _ => ?_) (fun _ => rest s3 r3 ⟨49, 53, 56, v.d, 60, v.f⟩ ⟨h3⟩ ⟨(by decide : 49 ∈ Va), (by decide : 53 ∈ Vb), (by decide : 56 ∈ Vc), ok.d, (by decide : 60 ∈ Ve), ok.f⟩)
  refine x_asgW ?_
  rw [W_lst, W_cons]
  refine pu_W p_lit ?_
  rw [W_cons]
  obtain ⟨b, hb, kb⟩ := pkI (fr := [some (scr ns), some (.ref r3), some (.ref w), none, none, none, none, none, none, none, none]) (s := s3) (w := w) (i := 2) (xs := [y1, y2, y3, y4, y5, y6]) (y := y3) [52, 53] 2 rfl (by decide) hw3 rfl rfl (p_cons p_lit (p_cons p_lit p_nil)) rfl
  refine kb _ ?_
  have hw4 := nth_app [.lst ([52, 53].map .str)] hw3
  generalize (s3 ++ [O.lst ([52, 53].map .str)]) = s4 at hw4 ⊢
  refine pu_Ws (d := [.str 56, .str 58, .str 60, .str 63]) (by contradiction) ⟨rfl, _, rfl, ?_⟩
  dsimp only [List.set]
  have en5 : EntAt (s4 ++ [.lst [.str 50, .str b, .str 56, .str 58, .str 60, .str 63]]) s4.length ⟨50, b, 56, 58, 60, 63⟩ := ⟨nth_len s4 _ []⟩
  have hw5 := nth_app [.lst [.str 50, .str b, .str 56, .str 58, .str 60, .str 63]] hw4
  generalize (s4 ++ [O.lst [.str 50, .str b, .str 56, .str 58, .str 60, .str 63]]) = s5 at hw5 en5 ⊢
  generalize s4.length = r5 at en5 ⊢
  obtain ⟨d, hd, kd⟩ := pkI (fr := [some (scr ns), some (.ref r5), some (.ref w), none, none, none, none, none, none, none, none]) (s := s5) (w := w) (i := 3) (xs := [y1, y2, y3, y4, y5, y6]) (y := y4) [55, 58] 2 rfl (by decide) hw5 rfl rfl (p_cons p_lit (p_cons p_lit p_nil)) rfl
  refine x_asgSW (kd _ ?_)
  have en6 := en5.app [.lst ([55, 58].map .str)]
  generalize (s5 ++ [O.lst ([55, 58].map .str)]) = s6 at en6 ⊢
  refine ⟨.ref r5, .int 3, s6.set r5 (.lst [.str 50, .str b, .str 56, .str d, .str 60, .str 63]), p_var rfl, p_lit, by simp only [setSB, en6.at_]; rfl, ?_⟩
  refine rest _ r5 ⟨50, b, 56, d, 60, 63⟩ ⟨nth_set_eq en6.at_⟩ ⟨(by decide : 50 ∈ Va), hb, (by decide : 56 ∈ Vc), ?_, (by decide : 60 ∈ Ve), (by decide : 63 ∈ Vf)⟩
  show d ∈ Vd
  simp only [List.mem_cons, List.mem_nil_iff, or_false] at hd
  rcases hd with rfl | rfl <;> decide
end K50
end Sec54
theorem PySem.Challenge.cw_travelmarks_k50_whole_result_shown_exact_holds : PySem.Challenge.rw_travelmarks_k50_whole_result_shown_exact.Holds := by
  exact k50_head fun ns hn => K50.law hn
