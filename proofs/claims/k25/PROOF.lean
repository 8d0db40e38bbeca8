import PyProof.Rows.All
import Wide.All
import OpenK.AllK
import Wide.FinOn
import HandS.ForMost
import HandS.Wide
import HandS.TupAny
import HandS.IsInst
import HandS.Deep
import HandS.ExcOwn
import HandS.More
import HandS.Codes
import HandS.SortInts
import HandS.WideBits
import HandS.Walk
import HandS.Zip
import HandS.WordsDict
import HandS.Defaults
import HandS.SortKw
import KE.DataMinMax
import HandS.WordsExc
import HandS.Small
import HandS.Style
import HandS.Head0
import HandS.Head1
import HandS.Head2
import HandS.HeadEnd
import HandS.HeadHook1
import HandS.HeadHook2
import HandS.HeadWalk
import PySem.Challenge.RW_provenpicks_k25_whole_plain_rows_at_all
set_option Elab.async false
set_option linter.all false
set_option maxRecDepth 100000
set_option maxHeartbeats 4000000
/-! A small language over plain data with a store, and its evaluator (no model in sight). -/
namespace Rf
/-- the longest list -/
def SL : Nat := 16777216
abbrev Ky := Sum Int (List Nat)
instance : DecidableEq Ky := inferInstanceAs (DecidableEq (Sum Int (List Nat)))
/-- data: texts by code points; lst, dct: never written any more; frz: the script; ref: what stands in the store -/
inductive D where
  | non | bl (b : Bool) | int (i : Int) | str (s : List Nat)
  | tup (ds : List D) | lst (ds : List D) | frz (ds : List D) | dct (ks : List Ky) (vs : List D)
  | ref (n : Nat) | fn (f : Nat) | met (n f : Nat) | exc (c : Nat) (ds : List D)
  deriving Inhabited
mutual
/-- no reference into the store within -/
def plain : D → Bool
  | .non | .bl _ | .int _ | .str _ | .fn _ => true
  | .tup ds | .lst ds | .dct _ ds => plains ds
  | .frz _ | .ref _ | .met _ _ | .exc _ _ => false
def plains : List D → Bool
  | [] => true
  | d :: ds => plain d && plains ds
end
mutual
/-- the same data -/
def sameD : D → D → Bool
  | .non, .non => true
  | .bl a, .bl b => decide (a = b)
  | .int a, .int b => decide (a = b)
  | .str a, .str b => decide (a = b)
  | .tup a, .tup b => sameDs a b
  | .lst a, .lst b => sameDs a b
  | .frz a, .frz b => sameDs a b
  | .dct k a, .dct l b => decide (k = l) && sameDs a b
  | .fn a, .fn b => decide (a = b)
  | _, _ => false
def sameDs : List D → List D → Bool
  | [], [] => true
  | x :: xs, y :: ys => sameD x y && sameDs xs ys
  | _, _ => false
end
mutual
theorem sameD_ok : ∀ {x y : D}, sameD x y = true → x = y
  | .non, y, h => by cases y <;> first | rfl | cases h
  | .bl _, y, h => by cases y <;> first | (rw [of_decide_eq_true h]) | cases h
  | .int _, y, h => by cases y <;> first | (rw [of_decide_eq_true h]) | cases h
  | .str _, y, h => by cases y <;> first | (rw [of_decide_eq_true h]) | cases h
  | .fn _, y, h => by cases y <;> first | (rw [of_decide_eq_true h]) | cases h
  | .tup _, y, h => by cases y <;> first | (rw [sameDs_ok h]) | cases h
  | .lst _, y, h => by cases y <;> first | (rw [sameDs_ok h]) | cases h
  | .frz _, y, h => by cases y <;> first | (rw [sameDs_ok h]) | cases h
  | .dct k a, y, h => by
    cases y with
    | dct l b =>
      have h' : (decide (k = l) && sameDs a b) = true := h
      obtain ⟨h1, h2⟩ := Bool.and_eq_true_iff.mp h'
      rw [of_decide_eq_true h1, sameDs_ok h2]
    | _ => cases h
  | .ref _, y, h => by cases y <;> cases h
  | .met _ _, y, h => by cases y <;> cases h
  | .exc _ _, y, h => by cases y <;> cases h
theorem sameDs_ok : ∀ {x y : List D}, sameDs x y = true → x = y
  | [], y, h => by cases y <;> first | rfl | cases h
  | a :: as, y, h => by
    cases y with
    | nil => cases h
    | cons b bs =>
      have h' : (sameD a b && sameDs as bs) = true := h
      obtain ⟨h1, h2⟩ := Bool.and_eq_true_iff.mp h'
      rw [sameD_ok h1, sameDs_ok h2]
end
inductive Ob where
  | lst (ds : List D) | dct (ks : List Ky) (vs : List D) | ins (c : Nat) (fs : List (Nat × D)) | dead
  deriving Inhabited
abbrev Sto := List Ob
abbrev En := List (Option D)
inductive R (α : Type) where
  | ok (a : α) (st : Sto) | exc (d : D) (st : Sto) | bad
def R.bind {α β : Type} (r : R α) (f : α → Sto → R β) : R β := match r with
  | .ok a st => f a st
  | .exc d st => .exc d st
  | .bad => .bad
/-- what may or may not be -/
def opt {α : Type} (o : Option α) (st : Sto) : R α := match o with
  | some a => .ok a st
  | none => .bad
/-- how a statement ends -/
inductive Fl where
  | nx (ρ : En) (st : Sto) | ret (d : D) (st : Sto) | brk (ρ : En) (st : Sto) | cnt (ρ : En) (st : Sto) | exc (d : D) (ρ : En) (st : Sto) | bad

/-! ### the language -/
inductive Op where
  | add | sub | mul | fdiv | mod | pow
  deriving DecidableEq
inductive Cm where
  | eq | ne | lt | le | gt | ge | isIn | notIn | isN | notN
  deriving DecidableEq
/-- built-in functions of one list of arguments -/
inductive Bi where
  | len | abs | sum | all | any | max1 | max2 | min2 | sorted | tuple | list | dict | int | str | bool | divmod
  deriving DecidableEq
/-- methods of built-in types -/
inductive Mt where
  | get1 | get2 | join | split1 | append | extend | pop0 | pop1 | dpop2 | startswith | strip | upper | items
  deriving DecidableEq
/-- kinds asked by isinstance -/
inductive Ki where
  | int | bool | str | tuple | list | dict
  deriving DecidableEq
/-- targets of names -/
inductive Tn where
  | nm (i : Nat)
  | tup (ts : List Nat)
  deriving DecidableEq
mutual
inductive E where
  | bad
  | cst (d : D)
  | var (i : Nat)
  | glc (x : String) (d : D)
  | glf (f : Nat)
  | bin (op : Op) (bx : Bool) (a b : E)
  | neg (a : E)
  | land (a b : E)
  | lor (a b : E)
  | lnot (a : E)
  | ife (c a b : E)
  | cmp (op : Cm) (a b : E)
  | chain (op op' : Cm) (a b c : E)
  | tup (es : List E)
  | lst (bx : Bool) (es : List E)
  | dct (bx : Bool) (ks vs : List E)
  | sub (a i : E)
  | slc (bx : Bool) (a : E) (lo hi : Option E)
  | fld (a : E) (f : Nat)
  | call (sc : Bool) (f : Nat) (es : List E)
  | callv (sc : Bool) (i : Nat) (es : List E)
  | callk (sc : Bool) (f : Nat) (perm : List Nat) (es ks : List E)
  | meth (sc : Bool) (o : E) (f : Nat) (es : List E)
  | mk (c f : Nat) (es : List E)
  | bi (b : Bi) (bx : Bool) (es : List E)
  | mt (m : Mt) (bx : Bool) (o : E) (es : List E)
  | maxd (e : E) (i : Int)
  | isi (ks : List Ki) (e : E)
  | comp (bx : Bool) (own : List Nat) (t : Tn) (it : I) (c : Option E) (e : E)
  | comp2 (bx : Bool) (own own2 : List Nat) (t : Tn) (it : I) (c : Option E) (t2 : Tn) (it2 : I) (c2 : Option E) (e : E)
/-- what is walked -/
inductive I where
  | val (e : E)
  | keys (i : Nat)
  | rng1 (a : E)
  | rng2 (a b : E)
  | enu (e : E)
  | zip (a b : E)
  | items (e : E)
end
/-- targets of assignments -/
inductive Tg where
  | nm (i : Nat)
  | tup (ts : List Tg)
  | sub (o i : E)
  | fld (o : E) (f : Nat)
mutual
inductive S where
  | asg (t : Tg) (e : E)
  | par (is : List Nat) (es : List E)
  | expr (e : E)
  | ret (e : E)
  | retN
  | ife (c : E) (a b : List S)
  | forS (t : Tn) (it : I) (b : List S)
  | forK (t : Tn) (i : Nat) (b : List S)
  | whl (c : E) (b : List S)
  | brk
  | cnt
  | pass
  | raise (c : Nat) (es : List E)
  | tryS (b : List S) (hs : List Hd)
  | del (o i : E)
  | freeze (i : Nat)
  | never
/-- except class c as the name i -/
inductive Hd where
  | mk (c : Nat) (i : Option Nat) (b : List S)
end

/-! ### values -/
/-- what a value is to a reader: an object of the store is looked up -/
def vw (st : Sto) : D → D
  | .ref n => match st[n]? with
    | some (.lst ds) => .lst ds
    | some (.dct ks vs) => .dct ks vs
    | _ => .ref n
  | d => d
def mkL (bx : Bool) (ds : List D) (st : Sto) : R D := if ds.length ≤ SL then (if bx then .ok (.ref st.length) (st ++ [.lst ds]) else .ok (.lst ds) st) else .bad
def mkT (ds : List D) (st : Sto) : R D := if ds.length ≤ SL then .ok (.tup ds) st else .bad
def mkD (bx : Bool) (ks : List Ky) (vs : List D) (st : Sto) : R D := if ks.length ≤ SL then (if bx then .ok (.ref st.length) (st ++ [.dct ks vs]) else .ok (.dct ks vs) st) else .bad
/-- the size of a product's factors -/
def mulOk (i j : Int) : Bool := decide (i.natAbs.log2 + j.natAbs.log2 < 1000000)
def divOk (j : Int) : Bool := decide (0 < j) && decide (j.natAbs.log2 < 9000)
def powOk (i j : Int) : Bool := decide (0 ≤ j) && (decide (j ≤ 1000000) && decide (i.natAbs.log2 < 64))
def binR (op : Op) (bx : Bool) (x y : D) (st : Sto) : R D := match op, x, y with
  | .add, .int i, .int j => .ok (.int (i + j)) st
  | .add, .str a, .str b => if a.length + b.length ≤ SL then .ok (.str (a ++ b)) st else .bad
  | .add, .lst a, .lst b => mkL bx (a ++ b) st
  | .add, .tup a, .tup b => mkT (a ++ b) st
  | .sub, .int i, .int j => .ok (.int (i - j)) st
  | .mul, .int i, .int j => if mulOk i j then .ok (.int (i * j)) st else .bad
  | .fdiv, .int i, .int j => if divOk j then .ok (.int (i / j)) st else .bad
  | .mod, .int i, .int j => if decide (0 < j) then .ok (.int (i % j)) st else .bad
  | .pow, .int i, .int j => if powOk i j then .ok (.int (i ^ j.toNat)) st else .bad
  | _, _, _ => .bad
def truth : D → Option Bool
  | .non => some false
  | .bl b => some b
  | .int i => some (i != 0)
  | .str s => if s.length ≤ SL then some (s.length != 0) else none
  | .tup ds => some (!ds.isEmpty)
  | .lst ds => some (!ds.isEmpty)
  | .dct ks _ => some (!ks.isEmpty)
  | _ => none
mutual
/-- == of data as Python has it -/
def eqv : D → D → Bool
  | .non, .non => true
  | .bl a, .bl b => a == b
  | .bl a, .int j => (if a then 1 else 0) == j
  | .int i, .bl b => i == (if b then 1 else 0)
  | .int i, .int j => i == j
  | .str x, .str y => x == y
  | .lst xs, .lst ys => eqvs xs ys
  | .tup xs, .tup ys => eqvs xs ys
  | _, _ => false
def eqvs : List D → List D → Bool
  | [], [] => true
  | x :: xs, y :: ys => eqv x y && eqvs xs ys
  | _, _ => false
end
mutual
/-- data to be compared: none, truths, numbers, texts, lists and tuples of these, not too deep -/
def pd : Nat → D → Bool
  | _, .non | _, .bl _ | _, .int _ => true
  | _, .str s => s.all fun c => decide (c < 1114112)
  | n, .tup ds | n, .lst ds => (match n with
    | 0 => false
    | m + 1 => pds m ds)
  | _, _ => false
def pds : Nat → List D → Bool
  | _, [] => true
  | n, d :: ds => pd n d && pds n ds
end
/-- none, truths, numbers, texts -/
def sc : D → Bool
  | .non | .bl _ | .int _ | .str _ => true
  | _ => false
/-- scalars that == tells apart as data -/
def sc2 : D → D → Bool
  | .bl _, .int _ | .int _, .bl _ => false
  | x, y => sc x && sc y
def eqD (x y : D) : Option Bool := if sc2 x y then some (eqv x y) else if pd 60 x && pd 60 y then some (eqv x y) else none
def keyOf : D → Option Ky
  | .int i => some (.inl i)
  | .str s => some (.inr s)
  | _ => none
def ofKey : Ky → D
  | .inl i => .int i
  | .inr s => .str s
def ixN (n : Nat) (i : Int) : Option Nat := if 0 ≤ i then (if i < n then some i.toNat else none) else if -(n : Int) ≤ i then some (i + n).toNat else none
def atI {α : Type} (xs : List α) (i : Int) : Option α := (ixN xs.length i).bind fun j => xs[j]?
def dGet : List Ky → List D → Ky → Option D
  | k :: ks, v :: vs, x => if k = x then some v else dGet ks vs x
  | _, _, _ => none
def hasK (ks : List Ky) (k : Ky) : Bool := ks.any fun j => decide (j = k)
def putVs : List Ky → List D → Ky → D → List D
  | j :: ks, v :: vs, k, d => (if j = k then d else v) :: putVs ks vs k d
  | _, _, _, _ => []
def dPut (ks : List Ky) (vs : List D) (k : Ky) (d : D) : List Ky × List D := if hasK ks k then (ks, putVs ks vs k d) else (ks ++ [k], vs ++ [d])
def dDel : List Ky → List D → Ky → List Ky × List D
  | j :: ks, v :: vs, k => let r := dDel ks vs k; if j = k then r else (j :: r.1, v :: r.2)
  | _, _, _ => ([], [])
/-- the members of what may be searched -/
def inD (x : D) : D → Option Bool
  | .str z => (match x with
    | .str [c] => some (decide (c ∈ z))
    | _ => none)
  | .tup ys => if sc x && ys.all sc then some (ys.any fun y => eqv y x) else none
  | .lst ys => if sc x && ys.all sc then some (ys.any fun y => eqv y x) else if pd 60 x && pds 60 ys then some (ys.any fun y => eqv y x) else none
  | .dct ks _ => (keyOf x).map fun k => hasK ks k
  | _ => none
def isNon : D → Bool
  | .non => true
  | _ => false
def cmpD (op : Cm) (x y : D) : Option Bool := match op with
  | .eq => eqD x y
  | .ne => (eqD x y).map (!·)
  | .isIn => inD x y
  | .notIn => (inD x y).map (!·)
  | .isN => (match y with
    | .non => some (isNon x)
    | _ => none)
  | .notN => (match y with
    | .non => some (!isNon x)
    | _ => none)
  | .lt => (match x, y with | .int i, .int j => some (decide (i < j)) | _, _ => none)
  | .le => (match x, y with | .int i, .int j => some (decide (i ≤ j)) | _, _ => none)
  | .gt => (match x, y with | .int i, .int j => some (decide (j < i)) | _, _ => none)
  | .ge => (match x, y with | .int i, .int j => some (decide (j ≤ i)) | _, _ => none)
/-- x[i] -/
def subD : D → D → Option D
  | .lst ds, .int i => atI ds i
  | .tup ds, .int i => atI ds i
  | .frz ds, .int i => atI ds i
  | .str s, .int i => if s.length ≤ SL then (atI s i).map fun c => .str [c] else none
  | .dct ks vs, x => (keyOf x).bind fun k => dGet ks vs k
  | _, _ => none
/-- the ends of a slice -/
def sIx (n dflt : Nat) : Option Int → Nat
  | none => dflt
  | some i => if 0 ≤ i then min i.toNat n else (i + n).toNat
def cutL {α : Type} (xs : List α) (lo hi : Option Int) : List α := (xs.drop (sIx xs.length 0 lo)).take (sIx xs.length xs.length hi - sIx xs.length 0 lo)
def slcR (bx : Bool) (x : D) (lo hi : Option Int) (st : Sto) : R D := match x with
  | .lst ds => mkL bx (cutL ds lo hi) st
  | .frz ds => mkL bx (cutL ds lo hi) st
  | .tup ds => .ok (.tup (cutL ds lo hi)) st
  | .str s => if s.length ≤ SL then .ok (.str (cutL s lo hi)) st else .bad
  | _ => .bad
def intsOf : List D → Option (List Int)
  | [] => some []
  | .int i :: ds => (intsOf ds).map (i :: ·)
  | _ :: _ => none
def boolsOf : List D → Option (List Bool)
  | [] => some []
  | .bl b :: ds => (boolsOf ds).map (b :: ·)
  | _ :: _ => none
def strsOf : List D → Option (List (List Nat))
  | [] => some []
  | .str s :: ds => (strsOf ds).map (s :: ·)
  | _ :: _ => none
def maxL : List Int → Option Int
  | [] => none
  | x :: xs => some (xs.foldl max x)
def insI (x : Int) : List Int → List Int
  | [] => [x]
  | y :: ys => if x ≤ y then x :: y :: ys else y :: insI x ys
def sortI : List Int → List Int
  | [] => []
  | x :: xs => insI x (sortI xs)
def keyInts : List Ky → Option (List Int)
  | [] => some []
  | .inl i :: ks => (keyInts ks).map (i :: ·)
  | _ :: _ => none
def isNat10 (s : List Nat) : Bool := !s.isEmpty && s.all fun c => decide (48 ≤ c) && decide (c ≤ 57)
def natOf (s : List Nat) : Nat := s.foldl (fun n c => n * 10 + (c - 48)) 0
def digI (i : Int) : List Nat := (toString i).toList.map fun c => c.toNat
def lenD : D → Option Int
  | .str s => if s.length ≤ SL then some s.length else none
  | .lst ds | .tup ds | .frz ds => some ds.length
  | .dct ks _ => some ks.length
  | _ => none
/-- a built-in function of values that are seen through -/
def biR (b : Bi) (bx : Bool) (xs : List D) (st : Sto) : R D := match b, xs with
  | .len, [x] => (opt (lenD x) st).bind fun n st => .ok (.int n) st
  | .abs, [.int i] => .ok (.int (if i < 0 then -i else i)) st
  | .sum, [.lst ds] => (opt (intsOf ds) st).bind fun ns st => .ok (.int ns.sum) st
  | .all, [.lst ds] => (opt (boolsOf ds) st).bind fun bs st => .ok (.bl (bs.all id)) st
  | .any, [.lst ds] => (opt (boolsOf ds) st).bind fun bs st => .ok (.bl (bs.any id)) st
  | .max1, [.lst ds] => (opt ((intsOf ds).bind maxL) st).bind fun n st => .ok (.int n) st
  | .max2, [.int i, .int j] => .ok (.int (if j > i then j else i)) st
  | .min2, [.int i, .int j] => .ok (.int (if j < i then j else i)) st
  | .sorted, [.lst ds] => (opt (intsOf ds) st).bind fun ns st => mkL bx ((sortI ns).map .int) st
  | .sorted, [.dct ks _] => (opt (keyInts ks) st).bind fun ns st => if ns.length < 64 then mkL bx ((sortI ns).map .int) st else .bad
  | .tuple, [.lst ds] => .ok (.tup ds) st
  | .tuple, [.tup ds] => .ok (.tup ds) st
  | .list, [.lst ds] => mkL bx ds st
  | .list, [.tup ds] => mkL bx ds st
  | .list, [.dct ks _] => mkL bx (ks.map ofKey) st
  | .dict, [.dct ks vs] => mkD bx ks vs st
  | .int, [.int i] => .ok (.int i) st
  | .int, [.bl b] => .ok (.int (if b then 1 else 0)) st
  | .int, [.str s] => if isNat10 s && decide (s.length ≤ 600) then .ok (.int (natOf s)) st else .bad
  | .str, [.int i] => if decide (i.natAbs.log2 < 1920) then .ok (.str (digI i)) st else .bad
  | .divmod, [.int i, .int j] => if divOk j then .ok (.tup [.int (i / j), .int (i % j)]) st else .bad
  | _, _ => .bad
def joinL (sep : List Nat) : List (List Nat) → List Nat
  | [] => []
  | [s] => s
  | s :: r => s ++ sep ++ joinL sep r
/-- may d be written into the object n? -/
def wOk (base n : Nat) (d : D) : Bool := decide (base ≤ n) || plain d
/-- the kind of a method's receiver -/
def mtTy (m : Mt) (d : D) : Option Unit := match m, d with
  | .append, .lst _ | .extend, .lst _ | .pop0, .lst _ | .pop1, .lst _ => some ()
  | .get1, .dct _ _ | .get2, .dct _ _ | .dpop2, .dct _ _ | .items, .dct _ _ => some ()
  | .join, .str _ | .split1, .str _ | .startswith, .str _ | .strip, .str _ | .upper, .str _ => some ()
  | _, _ => none
/-- a method of a built-in type; o as it is -/
def mtR (m : Mt) (bx : Bool) (base : Nat) (o : D) (xs : List D) (st : Sto) : R D := match m, o, xs with
  | .append, .ref n, [x] => (match st[n]? with
    | some (.lst ds) => if wOk base n x && decide (ds.length < SL) then .ok .non (st.set n (.lst (ds ++ [x]))) else .bad
    | _ => .bad)
  | .pop0, .ref n, [] => (match st[n]? with
    | some (.lst ds) => (match ds[ds.length - 1]? with
      | some d => .ok d (st.set n (.lst ds.dropLast))
      | none => .bad)
    | _ => .bad)
  | .get2, o, [k, d] => (match vw st o with
    | .dct ks vs => (opt (keyOf k) st).bind fun k st => .ok ((dGet ks vs k).getD d) st
    | _ => .bad)
  | .get1, o, [k] => (match vw st o with
    | .dct ks vs => (opt (keyOf k) st).bind fun k st => .ok ((dGet ks vs k).getD .non) st
    | _ => .bad)
  | _, _, _ => .bad
def isKi (x : D) : Ki → Option Bool
  | .int => (match x with | .int _ => some true | .bl _ => some true | .non | .str _ | .tup _ | .lst _ | .frz _ | .dct _ _ => some false | _ => none)
  | .bool => (match x with | .bl _ => some true | .int _ | .non | .str _ | .tup _ | .lst _ | .frz _ | .dct _ _ => some false | _ => none)
  | .str => (match x with | .str _ => some true | .int _ | .bl _ | .non | .tup _ | .lst _ | .frz _ | .dct _ _ => some false | _ => none)
  | .tuple => (match x with | .tup _ => some true | .int _ | .bl _ | .non | .str _ | .lst _ | .frz _ | .dct _ _ => some false | _ => none)
  | .list => (match x with | .lst _ | .frz _ => some true | .int _ | .bl _ | .non | .str _ | .tup _ | .dct _ _ => some false | _ => none)
  | .dict => (match x with | .dct _ _ => some true | .int _ | .bl _ | .non | .str _ | .tup _ | .lst _ | .frz _ => some false | _ => none)

/-- the numbers of a range -/
def rng1L : D → Option (List D)
  | .int n => if decide (n < 2 ^ 40) && decide (-(2 ^ 40) < n) then some ((List.range n.toNat).map fun (i : Nat) => .int (i : Int)) else none
  | _ => none
def rng2L : D → D → Option (List D)
  | .int a, .int b => if decide (b < 2 ^ 40) && (decide (-(2 ^ 40) < b) && (decide (a < 2 ^ 40) && decide (-(2 ^ 40) < a))) then some ((List.range (b - a).toNat).map fun (i : Nat) => .int (a + (i : Int))) else none
  | _, _ => none
def asB : D → Option Bool
  | .bl b => some b
  | _ => none
/-! ### the walk of loops -/
def getV (ρ : En) (i : Nat) : Option D := match ρ[i]? with
  | some (some d) => some d
  | _ => none
def putN (t : Tn) (d : D) (ρ : En) : Option En := match t with
  | .nm i => if i < ρ.length then some (ρ.set i (some d)) else none
  | .tup ts => (match d with
    | .tup ds => if ts.length = ds.length ∧ (∀ i ∈ ts, i < ρ.length) then some ((ts.zip ds).foldl (fun ρ p => ρ.set p.1 (some p.2)) ρ) else none
    | _ => none)
def wipeE (ρ : En) : List Nat → En
  | [] => ρ
  | v :: vs => (wipeE ρ vs).set v none
/-- the turns of a comprehension; f: none where a test says no -/
def compD (f : D → Sto → R (Option D)) (keep : Sto → Bool) : List D → Sto → R (List D)
  | [], st => if keep st then .ok [] st else .bad
  | x :: xs, st => if keep st then (match f x st with
    | .ok y st => (match compD f keep xs st with
      | .ok ys st => .ok (match y with | some y => y :: ys | none => ys) st
      | _ => .bad)
    | _ => .bad) else .bad
/-- the turns of the first of two clauses; f: what the second makes -/
def compDD (f : D → Sto → R (List D)) (keep : Sto → Bool) : List D → Sto → R (List D)
  | [], st => if keep st then .ok [] st else .bad
  | x :: xs, st => if keep st then (match f x st with
    | .ok y st => (match compDD f keep xs st with
      | .ok ys st => .ok (y ++ ys) st
      | _ => .bad)
    | _ => .bad) else .bad
def forD (f : D → En → Sto → Fl) (keep : Sto → Bool) : List D → En → Sto → Fl
  | [], ρ, st => if keep st then .nx ρ st else .bad
  | x :: xs, ρ, st => if keep st then (match f x ρ st with
    | .nx ρ st => forD f keep xs ρ st
    | .cnt ρ st => forD f keep xs ρ st
    | .brk ρ st => .nx ρ st
    | .ret d st => .ret d st
    | .exc d ρ st => .exc d ρ st
    | .bad => .bad) else .bad
/-- a loop's turn -/
def forF (ev : En → Sto → Fl) (t : Tn) (x : D) (ρ : En) (st : Sto) : Fl := match putN t x ρ with
  | some ρ => ev ρ st
  | none => .bad
inductive Ws where
  | go (ρ : En) (st : Sto) | done (f : Fl)
def whlN (f : En → Sto → Ws) : Nat → En → Sto → Fl
  | 0, _, _ => .bad
  | n + 1, ρ, st => match f ρ st with
    | .go ρ st => whlN f n ρ st
    | .done r => r
open Classical in
noncomputable def whlD (f : En → Sto → Ws) (ρ : En) (st : Sto) : Fl := if h : ∃ n, whlN f n ρ st ≠ .bad then whlN f h.choose ρ st else .bad
theorem whlN_mono {f : En → Sto → Ws} : ∀ {n m : Nat} {ρ : En} {st : Sto}, whlN f n ρ st ≠ .bad → n ≤ m → whlN f m ρ st = whlN f n ρ st
  | 0, _, _, _, h, _ => absurd rfl h
  | n + 1, 0, _, _, _, hm => absurd hm (by omega)
  | n + 1, m + 1, ρ, st, h, hm => by
    unfold whlN at h ⊢
    cases e : f ρ st with
    | go ρ' st' =>
      rw [e] at h
      exact whlN_mono h (by omega)
    | done r => rfl
theorem whlD_eq {f : En → Sto → Ws} {ρ : En} {st : Sto} {n : Nat} (h : whlN f n ρ st ≠ .bad) : whlD f ρ st = whlN f n ρ st := by
  have hx : ∃ n, whlN f n ρ st ≠ .bad := ⟨n, h⟩
  unfold whlD
  rw [dif_pos hx]
  rcases Nat.le_total hx.choose n with z | z
  · exact (whlN_mono hx.choose_spec z).symm
  · exact whlN_mono h z
/-- one turn -/
theorem whlD_step (f : En → Sto → Ws) (ρ : En) (st : Sto) : whlD f ρ st = (match f ρ st with
    | .go ρ st => whlD f ρ st
    | .done r => r) := by
  by_cases hx : ∃ n, whlN f n ρ st ≠ .bad
  · obtain ⟨n, h⟩ := hx
    rw [whlD_eq h]
    cases n with
    | zero => exact absurd rfl h
    | succ n =>
      unfold whlN at h ⊢
      cases e : f ρ st with
      | go ρ' st' =>
        rw [e] at h
        exact (whlD_eq h).symm
      | done r => rfl
  · have hb : ∀ n, whlN f n ρ st = .bad := fun n => Classical.byContradiction fun z => hx ⟨n, z⟩
    have e1 : whlD f ρ st = .bad := by unfold whlD; rw [dif_neg hx]
    rw [e1]
    cases e : f ρ st with
    | go ρ' st' =>
      have hx' : ¬ ∃ n, whlN f n ρ' st' ≠ .bad := fun ⟨n, z⟩ => z (by have q := hb (n + 1); unfold whlN at q; rw [e] at q; exact q)
      show Fl.bad = whlD f ρ' st'
      unfold whlD; rw [dif_neg hx']
    | done r =>
      have q := hb 1
      unfold whlN at q
      rw [e] at q
      exact q.symm
theorem whlD_run {f : En → Sto → Ws} {ρ : En} {st : Sto} (h : whlD f ρ st ≠ .bad) : ∃ n, whlD f ρ st = whlN f n ρ st := by
  by_cases hx : ∃ n, whlN f n ρ st ≠ .bad
  · obtain ⟨n, q⟩ := hx
    exact ⟨n, whlD_eq q⟩
  · exact absurd (by unfold whlD; rw [dif_neg hx]) h

/-! ### the evaluator: C calls a def; base: what stands below it is written with plain things alone -/
abbrev Call := Nat → List D → Sto → Nat → R D
/-- a call; sc: what it made is dropped, its answer is plain -/
def callR (C : Call) (base : Nat) (sc : Bool) (f : Nat) (ds : List D) (st : Sto) : R D :=
  if sc then (match C f ds st st.length with
    | .ok d st' => if plain d then .ok d (st'.take st.length) else .bad
    | .exc d st' => .exc d (st'.take st.length)
    | .bad => .bad) else C f ds st base
section
variable (C : Call) (base : Nat)
mutual
def evE : E → En → Sto → R D
  | .bad, _, _ => .bad
  | .cst d, _, st => .ok d st
  | .var i, ρ, st => opt (getV ρ i) st
  | .glc _ d, _, st => .ok d st
  | .glf f, _, st => .ok (.fn f) st
  | .bin op bx a b, ρ, st => (evE a ρ st).bind fun x st => (evE b ρ st).bind fun y st => binR op bx (vw st x) (vw st y) st
  | .neg a, ρ, st => (evE a ρ st).bind fun x st => (match x with
    | .int i => .ok (.int (-i)) st
    | _ => .bad)
  | .land a b, ρ, st => (evE a ρ st).bind fun x st => (opt (asB x) st).bind fun k st => if k then evE b ρ st else .ok (.bl false) st
  | .lor a b, ρ, st => (evE a ρ st).bind fun x st => (opt (asB x) st).bind fun k st => if k then .ok (.bl true) st else evE b ρ st
  | .lnot a, ρ, st => (evE a ρ st).bind fun x st => (opt (asB x) st).bind fun k st => .ok (.bl (!k)) st
  | .ife c a b, ρ, st => (evE c ρ st).bind fun x st => (opt (truth (vw st x)) st).bind fun k st => if k then evE a ρ st else evE b ρ st
  | .cmp op a b, ρ, st => (evE a ρ st).bind fun x st => (evE b ρ st).bind fun y st => (opt (cmpD op (vw st x) (vw st y)) st).bind fun k st => .ok (.bl k) st
  | .chain op op' a b c, ρ, st => (evE a ρ st).bind fun x st => (evE b ρ st).bind fun y st => (opt (cmpD op (vw st x) (vw st y)) st).bind fun k st =>
      if k then (evE c ρ st).bind fun z st => (opt (cmpD op' (vw st y) (vw st z)) st).bind fun k st => .ok (.bl k) st else .ok (.bl false) st
  | .tup es, ρ, st => (evEs es ρ st).bind fun ds st => mkT ds st
  | .lst bx es, ρ, st => (evEs es ρ st).bind fun ds st => mkL bx ds st
  | .dct bx _ _, _, st => mkD bx [] [] st
  | .sub a i, ρ, st => (evE a ρ st).bind fun x st => (evE i ρ st).bind fun y st => opt (subD (vw st x) (vw st y)) st
  | .slc bx a lo hi, ρ, st => (evE a ρ st).bind fun x st => (evO lo ρ st).bind fun l st => (evO hi ρ st).bind fun h st => slcR bx (vw st x) l h st
  | .fld a f, ρ, st => (evE a ρ st).bind fun x st => (match x with
    | .ref n => (match st[n]? with
      | some (.ins _ fs) => opt (fs.lookup f) st
      | _ => .bad)
    | _ => .bad)
  | .call sc f es, ρ, st => (evEs es ρ st).bind fun ds st => callR C base sc f ds st
  | .callv sc i es, ρ, st => (match getV ρ i with
    | some (.fn f) => (evEs es ρ st).bind fun ds st => callR C base sc f ds st
    | some (.met n f) => (evEs es ρ st).bind fun ds st => callR C base sc f (.ref n :: ds) st
    | _ => .bad)
  | .callk sc f perm es ks, ρ, st => (evEs es ρ st).bind fun ds st => (evEs ks ρ st).bind fun ws st => callR C base sc f (ds ++ perm.map fun i => ws.getD i .non) st
  | .meth sc o f es, ρ, st => (evE o ρ st).bind fun x st => (match x with
    | .ref n => (evEs es ρ st).bind fun ds st => callR C base sc f (.ref n :: ds) st
    | _ => .bad)
  | .mk c f es, ρ, st => (evEs es ρ st).bind fun ds st => (match C f (.ref st.length :: ds) (st ++ [.ins c []]) base with
    | .ok _ st' => .ok (.ref st.length) st'
    | r => r)
  | .bi b bx es, ρ, st => (evEs es ρ st).bind fun ds st => biR b bx (ds.map (vw st)) st
  | .mt m bx o es, ρ, st => (evE o ρ st).bind fun x st => (opt (mtTy m (vw st x)) st).bind fun _ st => (evEs es ρ st).bind fun ds st => mtR m bx base x ds st
  | .maxd e i, ρ, st => (evE e ρ st).bind fun x st => (match vw st x with
    | .lst ds => (opt (intsOf ds) st).bind fun ns st => .ok (.int ((maxL ns).getD i)) st
    | _ => .bad)
  | .isi ks e, ρ, st => (evE e ρ st).bind fun x st => (match ks with
    | [k] => (opt (isKi (vw st x) k) st).bind fun b st => .ok (.bl b) st
    | _ => .bad)
  | .comp bx own t it c e, ρ, st => (evI it ρ st).bind fun p st => (match compD (fun x st => (match putN t x (wipeE ρ own) with
      | some ρ' => (evT c ρ' st).bind fun k st => if k then (evE e ρ' st).bind fun y st => .ok (some y) st else .ok none st
      | none => .bad)) p.2 p.1 st with
    | .ok ys st => mkL bx ys st
    | _ => .bad)
  | .comp2 bx own own2 t it c t2 it2 c2 e, ρ, st => (evI it ρ st).bind fun p st => (match compDD (fun x st => (match putN t x (wipeE ρ own) with
      | some ρ' => (evT c ρ' st).bind fun k st => if k then (evI it2 ρ' st).bind fun p2 st => compD (fun x st => (match putN t2 x (wipeE ρ' own2) with
          | some ρ2 => (evT c2 ρ2 st).bind fun k st => if k then (evE e ρ2 st).bind fun y st => .ok (some y) st else .ok none st
          | none => .bad)) p2.2 p2.1 st else .ok [] st
      | none => .bad)) p.2 p.1 st with
    | .ok ys st => mkL bx ys st
    | _ => .bad)
def evEs : List E → En → Sto → R (List D)
  | [], _, st => .ok [] st
  | e :: es, ρ, st => (evE e ρ st).bind fun x st => (evEs es ρ st).bind fun xs st => .ok (x :: xs) st
/-- a part of a slice -/
def evO : Option E → En → Sto → R (Option Int)
  | none, _, st => .ok none st
  | some e, ρ, st => (evE e ρ st).bind fun x st => (match x with
    | .int i => .ok (some i) st
    | _ => .bad)
/-- a comprehension's test -/
def evT : Option E → En → Sto → R Bool
  | none, _, st => .ok true st
  | some e, ρ, st => (evE e ρ st).bind fun x st => opt (truth (vw st x)) st
/-- the items that are walked; what must hold of the store from turn to turn -/
def evI : I → En → Sto → R (List D × (Sto → Bool))
  | .val e, ρ, st => (evE e ρ st).bind fun x st => (match x with
    | .lst ds => .ok (ds, fun _ => true) st
    | .tup ds => .ok (ds, fun _ => true) st
    | .frz ds => .ok (ds, fun _ => true) st
    | .str s => .ok (s.map fun c => .str [c], fun _ => true) st
    | _ => .bad)
  | .keys i, ρ, st => (match getV ρ i with
    | some (.dct ks _) => .ok (ks.map ofKey, fun _ => true) st
    | _ => .bad)
  | .rng1 a, ρ, st => (evE a ρ st).bind fun x st => (opt (rng1L x) st).bind fun xs st => .ok (xs, fun _ => true) st
  | .rng2 a b, ρ, st => (evE a ρ st).bind fun x st => (evE b ρ st).bind fun y st => (opt (rng2L x y) st).bind fun xs st => .ok (xs, fun _ => true) st
  | .enu e, ρ, st => .bad
  | .zip a b, ρ, st => (evE a ρ st).bind fun x st => (evE b ρ st).bind fun y st => (match x, y with
    | .lst ds, .lst es => .ok (ds.zipWith (fun d e => .tup [d, e]) es, fun _ => true) st
    | .tup ds, .tup es => .ok (ds.zipWith (fun d e => .tup [d, e]) es, fun _ => true) st
    | _, _ => .bad)
  | .items e, ρ, st => .bad
end
mutual
/-- a value stored -/
def asgR : Tg → D → En → Sto → R En
  | .nm i, d, ρ, st => if i < ρ.length then .ok (ρ.set i (some d)) st else .bad
  | .tup ts, d, ρ, st => (match d with
    | .tup ds => if ds.length = ts.length then asgRs ts ds ρ st else .bad
    | _ => .bad)
  | .sub o i, d, ρ, st => (evE C base o ρ st).bind fun x st => (evE C base i ρ st).bind fun y st => (match x with
    | .ref n => (match st[n]?, y with
      | some (.lst ds), .int k => (opt (ixN ds.length k) st).bind fun j st => if wOk base n d then .ok ρ (st.set n (.lst (ds.set j d))) else .bad
      | some (.dct ks vs), y => (opt (keyOf y) st).bind fun k st => if wOk base n d && decide (ks.length < SL) then .ok ρ (st.set n (let r := dPut ks vs k d; .dct r.1 r.2)) else .bad
      | _, _ => .bad)
    | _ => .bad)
  | .fld o f, d, ρ, st => (evE C base o ρ st).bind fun x st => (match x with
    | .ref n => (match st[n]? with
      | some (.ins c fs) => if wOk base n d then .ok ρ (st.set n (.ins c (if (fs.lookup f).isSome then fs.map (fun p => if p.1 = f then (f, d) else p) else fs ++ [(f, d)]))) else .bad
      | _ => .bad)
    | _ => .bad)
def asgRs : List Tg → List D → En → Sto → R En
  | t :: ts, d :: ds, ρ, st => (asgR t d ρ st).bind fun ρ st => asgRs ts ds ρ st
  | _, _, ρ, st => .ok ρ st
end
mutual
noncomputable def evS : S → En → Sto → Fl
  | .asg t e, ρ, st => (match evE C base e ρ st with
    | .ok d st => (match asgR C base t d ρ st with
      | .ok ρ st => .nx ρ st
      | _ => .bad)
    | .exc d st => .exc d ρ st
    | .bad => .bad)
  | .par is es, ρ, st => (match evEs C base es ρ st with
    | .ok ds st => if is.length = ds.length ∧ (∀ i ∈ is, i < ρ.length) then .nx ((is.zip ds).foldl (fun ρ p => ρ.set p.1 (some p.2)) ρ) st else .bad
    | .exc d st => .exc d ρ st
    | .bad => .bad)
  | .expr e, ρ, st => (match evE C base e ρ st with
    | .ok _ st => .nx ρ st
    | .exc d st => .exc d ρ st
    | .bad => .bad)
  | .ret e, ρ, st => (match evE C base e ρ st with
    | .ok d st => .ret d st
    | .exc d st => .exc d ρ st
    | .bad => .bad)
  | .retN, _, st => .ret .non st
  | .ife c a b, ρ, st => (match evE C base c ρ st with
    | .ok x st => (match truth (vw st x) with
      | some true => evSs a ρ st
      | some false => evSs b ρ st
      | none => .bad)
    | .exc d st => .exc d ρ st
    | .bad => .bad)
  | .forS t it b, ρ, st => (match evI C base it ρ st with
    | .ok p st => forD (forF (evSs b) t) p.2 p.1 ρ st
    | .exc d st => .exc d ρ st
    | .bad => .bad)
  | .forK t i b, ρ, st => (match getV ρ i with
    | some (.dct ks _) => (match forD (forF (evSs b) t) (fun _ => true) (ks.map ofKey) ρ st with
      | .nx ρ st => .nx ρ st
      | .ret d st => .ret d st
      | _ => .bad)
    | _ => .bad)
  | .whl c b, ρ, st => whlD (fun ρ st => (match evE C base c ρ st with
    | .ok x st => (match truth (vw st x) with
      | some true => (match evSs b ρ st with
        | .nx ρ st => .go ρ st
        | .cnt ρ st => .go ρ st
        | .brk ρ st => .done (.nx ρ st)
        | r => .done r)
      | some false => .done (.nx ρ st)
      | none => .done .bad)
    | .exc d st => .done (.exc d ρ st)
    | .bad => .done .bad)) ρ st
  | .brk, ρ, st => .brk ρ st
  | .cnt, ρ, st => .cnt ρ st
  | .pass, ρ, st => .nx ρ st
  | .never, _, _ => .bad
  | .raise _ _, _, _ => .bad
  | .tryS _ _, _, _ => .bad
  | .del _ _, _, _ => .bad
  | .freeze i, ρ, st => (match getV ρ i with
    | some (.ref n) => if base ≤ n then (match st[n]? with
      | some (.lst ds) => .nx (ρ.set i (some (.lst ds))) (st.set n .dead)
      | some (.dct ks vs) => .nx (ρ.set i (some (.dct ks vs))) (st.set n .dead)
      | _ => .bad) else .bad
    | _ => .bad)
noncomputable def evSs : List S → En → Sto → Fl
  | [], ρ, st => .nx ρ st
  | s :: ss, ρ, st => (match evS s ρ st with
    | .nx ρ st => evSs ss ρ st
    | r => r)
end
end
/-- a def: parameters, slots, body -/
structure Fd where
  np : Nat
  ns : Nat
  body : List S
noncomputable def runFd (C : Call) (fd : Fd) (ds : List D) (st : Sto) (base : Nat) : R D :=
  if ds.length = fd.np ∧ fd.np ≤ fd.ns then (match evSs C base fd.body (ds.map some ++ List.replicate (fd.ns - fd.np) none) st with
    | .ret d st => .ok d st
    | .nx _ st => .ok .non st
    | .exc d _ st => .exc d st
    | _ => .bad) else .bad
/-- the defs of a table, so many calls deep -/
noncomputable def callN (T : Nat → Option Fd) : Nat → Call
  | 0 => fun _ _ _ _ => .bad
  | n + 1 => fun f ds st base => match T f with
    | some fd => runFd (callN T n) fd ds st base
    | none => .bad
end Rf

/-! What the evaluator's values and store are to the model's abstract heap. -/
namespace Rf
open PySem PySem.Spec PyProof.Rows L2
/-- what stands where: the handles' addresses, the addresses that are never written any more -/
structure Wd where
  m : Nat → Addr
  F : Addr → Prop
/-- the program's own: defs, classes, fields -/
structure Gx where
  P : Program
  w : World
  K : PySem.W.Frag
  mg : Str → Option Value
  base : Heap
  fa : Nat → Addr
  ca : Nat → Addr
  fn : Nat → Str
  fd : Nat → FuncData
  ps : Nat → List Str
def kyR : Ky → Key
  | .inl i => .inl i
  | .inr s => .inr ⟨s.toArray⟩
/-- a list that never changes: kept so, or the module's own -/
def FzL (K : PySem.W.Frag) (W : Wd) (H : Hp) (a : Addr) (xs : List V) : Prop := (Rd H a (.lst xs) ∧ W.F a) ∨
  ∃ (o : Obj) (its : Array Value) (n : Nat), K.lookup a = some o ∧ o.cls = .type "list" ∧ o.dict = none ∧ o.data = .seq its n ∧ its.size ≤ sizeLine ∧ Vals xs its.toList
theorem FzL.sq {K : PySem.W.Frag} {W : Wd} {H : Hp} {a : Addr} {xs : List V} (h : FzL K W H a xs) : SqL K H a xs := h.elim (fun z => .inl z.1) .inr
mutual
/-- a value is data -/
def DV (G : Gx) (W : Wd) (n : Nat) (H : Hp) : D → V → Prop
  | .non, v => v = .non
  | .bl b, v => v = .bl b
  | .int i, v => v = .int i
  | .str s, v => v = .str ⟨s.toArray⟩
  | .tup ds, v => ∃ a xs, v = .ref a ∧ SqT G.K H a xs ∧ DVs G W n H ds xs
  | .lst ds, v => ∃ a xs, v = .ref a ∧ W.F a ∧ H a = some (.lst xs) ∧ DVs G W n H ds xs
  | .frz ds, v => ∃ a xs, v = .ref a ∧ FzL G.K W H a xs ∧ DVs G W n H ds xs
  | .dct ks vs, v => ∃ a kvs, v = .ref a ∧ W.F a ∧ Rd H a (.dK kvs) ∧ kvs.map (·.1) = ks.map kyR ∧ DVs G W n H vs (kvs.map (·.2))
  | .ref k, v => v = .ref (W.m k) ∧ k < n
  | .fn f, v => v = .ref (G.fa f)
  | .met k f, v => ∃ p, v = .ref p ∧ H p = some (.met (G.fa f) (W.m k)) ∧ k < n ∧ W.F p
  | .exc _ _, _ => False
def DVs (G : Gx) (W : Wd) (n : Nat) (H : Hp) : List D → List V → Prop
  | [], xs => xs = []
  | d :: ds, xs => ∃ y ys, xs = y :: ys ∧ DV G W n H d y ∧ DVs G W n H ds ys
end
def live (st : Sto) (k : Nat) : Prop := ∃ ob, st[k]? = some ob ∧ ob ≠ .dead
/-- an object of the store -/
def obR (G : Gx) (W : Wd) (H : Hp) (n k : Nat) : Ob → Prop
  | .lst ds => ∃ xs, H (W.m k) = some (.lst xs) ∧ DVs G W n H ds xs
  | .dct ks vs => ∃ kvs, H (W.m k) = some (.dK kvs) ∧ kvs.map (·.1) = ks.map kyR ∧ DVs G W n H vs (kvs.map (·.2))
  | .ins c fs => ∃ dx gs, H (W.m k) = some (.ins (G.ca c) dx gs) ∧ gs.map (·.1) = fs.map (fun p => G.fn p.1) ∧ DVs G W n H (fs.map (·.2)) (gs.map (·.2))
  | .dead => True
def bdOf (bd : Nat → Nat) (base n k : Nat) : Nat := if k < base then bd k else n
structure RS (G : Gx) (bd : Nat → Nat) (base : Nat) (W : Wd) (H : Hp) (st : Sto) : Prop where
  obj : ∀ k ob, st[k]? = some ob → obR G W H (bdOf bd base st.length k) k ob
  inj : ∀ j k, live st j → live st k → W.m j = W.m k → j = k
  fF : ∀ k, live st k → ¬ W.F (W.m k)
  fH : ∀ a, W.F a → ∃ o, H a = some o
  bdl : ∀ k, k < base → bd k ≤ base
  bl : base ≤ st.length
structure Ext (W : Wd) (H : Hp) (st : Sto) (W' : Wd) (H' : Hp) (st' : Sto) : Prop where
  fr : ∀ a o, H a = some o → (∀ k, live st k → W.m k ≠ a) → H' a = some o
  F : ∀ a, W.F a → W'.F a
  m : ∀ k, k < st.length → W'.m k = W.m k
  dd : ∀ k, k < st.length → live st' k → live st k
  nw : ∀ k, st.length ≤ k → live st' k → H (W'.m k) = none
  tr : ∀ a, H a ≠ none → H' a ≠ none
  len : st.length ≤ st'.length
  nF : ∀ a, W'.F a → W.F a ∨ H a = none ∨ ∃ k, live st k ∧ W.m k = a
theorem live.lt {st : Sto} {k : Nat} (h : live st k) : k < st.length := by
  obtain ⟨ob, e, _⟩ := h
  exact (List.getElem?_eq_some_iff.mp e).1
theorem RS.some {G : Gx} {bd : Nat → Nat} {base : Nat} {W : Wd} {H : Hp} {st : Sto} (r : RS G bd base W H st) {k : Nat} (h : live st k) : ∃ o, H (W.m k) = some o ∧ Mut (some o) := by
  obtain ⟨ob, e, nd⟩ := h
  have q := r.obj k ob e
  cases ob with
  | lst ds => obtain ⟨xs, h, _⟩ := q; exact ⟨_, h, trivial⟩
  | dct ks vs => obtain ⟨xs, h, _⟩ := q; exact ⟨_, h, trivial⟩
  | ins c fs => obtain ⟨dx, gs, h, _⟩ := q; exact ⟨_, h, trivial⟩
  | dead => exact absurd rfl nd
theorem Ext.refl (W : Wd) (H : Hp) (st : Sto) : Ext W H st W H st :=
  ⟨fun _ _ h _ => h, fun _ h => h, fun _ _ => rfl, fun _ _ h => h, fun k hk h => absurd h.lt (by omega), fun _ h => h, Nat.le_refl _, fun _ h => .inl h⟩
theorem Ext.trans {G : Gx} {bd bd1 : Nat → Nat} {base base1 : Nat} {W W1 W2 : Wd} {H H1 H2 : Hp} {st st1 st2 : Sto} (a : Ext W H st W1 H1 st1) (b : Ext W1 H1 st1 W2 H2 st2) : Ext W H st W2 H2 st2 where
  fr := fun x o h hk => by
    refine b.fr x o (a.fr x o h hk) fun k hl e => ?_
    by_cases q : k < st.length
    · exact hk k (a.dd k q hl) (by rw [← a.m k q]; exact e)
    · have z := a.nw k (by omega) hl
      rw [e, h] at z; cases z
  F := fun x h => b.F x (a.F x h)
  m := fun k hk => (b.m k (Nat.lt_of_lt_of_le hk a.len)).trans (a.m k hk)
  dd := fun k hk hl => a.dd k hk (b.dd k (Nat.lt_of_lt_of_le hk a.len) hl)
  nw := fun k hk hl => by
    by_cases q : k < st1.length
    · have z := a.nw k hk (b.dd k q hl)
      rw [b.m k q]; exact z
    · have z := b.nw k (by omega) hl
      cases e : H (W2.m k) with
      | none => rfl
      | some o => exact absurd z (a.tr _ (by rw [e]; simp))
  tr := fun x h => b.tr x (a.tr x h)
  len := Nat.le_trans a.len b.len
  nF := fun x h => by
    rcases b.nF x h with z | z | ⟨k, hk, z⟩
    · exact a.nF x z
    · cases e : H x with
      | none => exact .inr (.inl rfl)
      | some o => exact absurd z (a.tr x (by rw [e]; simp))
    · by_cases q : k < st.length
      · exact .inr (.inr ⟨k, a.dd k q hk, by rw [← a.m k q]; exact z⟩)
      · have w := a.nw k (by omega) hk
        rw [z] at w
        exact .inr (.inl w)
section
variable {G : Gx} {bd : Nat → Nat} {base : Nat} {W W' : Wd} {H H' : Hp} {st st' : Sto} {n n' : Nat}
theorem SqT.keep (e : Ext W H st W' H' st') (r : RS G bd base W H st) {a : Addr} {xs : List V} (h : SqT G.K H a xs) : SqT G.K H' a xs := by
  have nl : ∀ u, H a = some u → ¬ Mut (some u) → ∀ k, live st k → W.m k ≠ a := fun u q nm k hl z => by
    obtain ⟨o, h1, h2⟩ := r.some hl
    rw [z, q] at h1; cases h1; exact nm h2
  rcases h with (h | ⟨o, h⟩) | h
  · exact .inl (.inl (e.fr _ _ h (nl _ h fun z => z)))
  · exact .inl (.inr ⟨o, e.fr _ _ h (nl _ h fun z => z)⟩)
  · exact .inr h
theorem F.keep (e : Ext W H st W' H' st') (r : RS G bd base W H st) {a : Addr} (h : W.F a) {o : HO} (q : H a = some o) : H' a = some o :=
  e.fr _ _ q fun k hl z => r.fF k hl (z ▸ h)
mutual
theorem DV.keep (e : Ext W H st W' H' st') (r : RS G bd base W H st) (hn : n ≤ st.length) (hn' : n ≤ n') : ∀ {d : D} {v : V}, DV G W n H d v → DV G W' n' H' d v
  | .non, _, h => h
  | .bl _, _, h => h
  | .int _, _, h => h
  | .str _, _, h => h
  | .tup ds, v, h => by
    obtain ⟨a, xs, e1, hs, hd⟩ := h
    exact ⟨a, xs, e1, SqT.keep e r hs, DVs.keep e r hn hn' hd⟩
  | .lst ds, v, h => by
    obtain ⟨a, xs, e1, hF, hH, hd⟩ := h
    exact ⟨a, xs, e1, e.F a hF, F.keep e r hF hH, DVs.keep e r hn hn' hd⟩
  | .frz ds, v, h => by
    obtain ⟨a, xs, e1, hs, hd⟩ := h
    refine ⟨a, xs, e1, ?_, DVs.keep e r hn hn' hd⟩
    rcases hs with ⟨hs | ⟨o, hs⟩, q⟩ | hs
    · exact .inl ⟨.inl (F.keep e r q hs), e.F _ q⟩
    · exact .inl ⟨.inr ⟨o, F.keep e r q hs⟩, e.F _ q⟩
    · exact .inr hs
  | .dct ks vs, v, h => by
    obtain ⟨a, kvs, e1, hF, hR, hk, hd⟩ := h
    refine ⟨a, kvs, e1, e.F a hF, ?_, hk, DVs.keep e r hn hn' hd⟩
    rcases hR with hR | ⟨o, hR⟩
    · exact .inl (F.keep e r hF hR)
    · exact .inr ⟨o, F.keep e r hF hR⟩
  | .ref k, v, h => by
    obtain ⟨e1, hk⟩ := h
    exact ⟨by rw [e1, e.m k (by omega)], by omega⟩
  | .fn f, v, h => h
  | .met k f, v, h => by
    obtain ⟨p, e1, hH, hk, hF⟩ := h
    exact ⟨p, e1, by rw [e.m k (by omega)]; exact F.keep e r hF hH, by omega, e.F p hF⟩
  | .exc _ _, _, h => h.elim
theorem DVs.keep (e : Ext W H st W' H' st') (r : RS G bd base W H st) (hn : n ≤ st.length) (hn' : n ≤ n') : ∀ {ds : List D} {xs : List V}, DVs G W n H ds xs → DVs G W' n' H' ds xs
  | [], _, h => h
  | d :: ds, xs, h => by
    obtain ⟨y, ys, e1, h1, h2⟩ := h
    exact ⟨y, ys, e1, DV.keep e r hn hn' h1, DVs.keep e r hn hn' h2⟩
end

theorem DVs.len : ∀ {ds : List D} {xs : List V}, DVs G W n H ds xs → xs.length = ds.length
  | [], _, h => by rw [show _ = [] from h]; rfl
  | d :: ds, _, h => by
    obtain ⟨y, ys, rfl, _, h2⟩ := h
    rw [List.length_cons, List.length_cons, DVs.len h2]
theorem DVs.app : ∀ {ds es : List D} {xs ys : List V}, DVs G W n H ds xs → DVs G W n H es ys → DVs G W n H (ds ++ es) (xs ++ ys)
  | [], _, _, _, h, g => by rw [show _ = [] from h]; exact g
  | d :: ds, _, _, _, h, g => by
    obtain ⟨y, ys, rfl, h1, h2⟩ := h
    exact ⟨y, ys ++ _, rfl, h1, DVs.app h2 g⟩
theorem DVs.get : ∀ {ds : List D} {xs : List V} {i : Nat} {d : D}, DVs G W n H ds xs → ds[i]? = some d → ∃ v, xs[i]? = some v ∧ DV G W n H d v
  | [], _, _, _, _, e => by simp at e
  | d :: ds, _, 0, _, h, e => by
    obtain ⟨y, ys, rfl, h1, h2⟩ := h
    simp at e; subst e
    exact ⟨y, rfl, h1⟩
  | d :: ds, _, i + 1, _, h, e => by
    obtain ⟨y, ys, rfl, h1, h2⟩ := h
    obtain ⟨v, e1, e2⟩ := DVs.get (i := i) h2 (by simpa using e)
    exact ⟨v, by simpa using e1, e2⟩
theorem DVs.drop : ∀ {ds : List D} {xs : List V} (i : Nat), DVs G W n H ds xs → DVs G W n H (ds.drop i) (xs.drop i)
  | _, _, 0, h => h
  | [], _, i + 1, h => by rw [show _ = [] from h]; rfl
  | d :: ds, _, i + 1, h => by
    obtain ⟨y, ys, rfl, h1, h2⟩ := h
    exact DVs.drop i h2
theorem DVs.take : ∀ {ds : List D} {xs : List V} (i : Nat), DVs G W n H ds xs → DVs G W n H (ds.take i) (xs.take i)
  | _, _, 0, h => rfl
  | [], _, i + 1, h => by rw [show _ = [] from h]; rfl
  | d :: ds, _, i + 1, h => by
    obtain ⟨y, ys, rfl, h1, h2⟩ := h
    exact ⟨y, _, rfl, h1, DVs.take i h2⟩
theorem DVs.set : ∀ {ds : List D} {xs : List V} {d : D} {v : V} (i : Nat), DVs G W n H ds xs → DV G W n H d v → DVs G W n H (ds.set i d) (xs.set i v)
  | [], _, _, _, _, h, _ => by rw [show _ = [] from h]; rfl
  | d :: ds, _, _, _, 0, h, g => by
    obtain ⟨y, ys, rfl, h1, h2⟩ := h
    exact ⟨_, _, rfl, g, h2⟩
  | d :: ds, _, _, _, i + 1, h, g => by
    obtain ⟨y, ys, rfl, h1, h2⟩ := h
    exact ⟨_, _, rfl, h1, DVs.set i h2 g⟩
/-- a greater bound -/
theorem DV.more (r : RS G bd base W H st) (hn : n ≤ st.length) (hn' : n ≤ n') {d : D} {v : V} (h : DV G W n H d v) : DV G W n' H d v := DV.keep (Ext.refl W H st) r hn hn' h
theorem DVs.more (r : RS G bd base W H st) (hn : n ≤ st.length) (hn' : n ≤ n') {d : List D} {v : List V} (h : DVs G W n H d v) : DVs G W n' H d v := DVs.keep (Ext.refl W H st) r hn hn' h
/-! plain things need no store -/
mutual
theorem DV.plain : ∀ {d : D} {v : V}, plain d = true → DV G W n H d v → DV G W n' H d v
  | .non, _, _, h => h
  | .bl _, _, _, h => h
  | .int _, _, _, h => h
  | .str _, _, _, h => h
  | .tup ds, v, p, h => by
    obtain ⟨a, xs, e1, hs, hd⟩ := h
    exact ⟨a, xs, e1, hs, DVs.plain p hd⟩
  | .lst ds, v, p, h => by
    obtain ⟨a, xs, e1, hF, hH, hd⟩ := h
    exact ⟨a, xs, e1, hF, hH, DVs.plain p hd⟩
  | .dct ks vs, v, p, h => by
    obtain ⟨a, kvs, e1, hF, hR, hk, hd⟩ := h
    exact ⟨a, kvs, e1, hF, hR, hk, DVs.plain p hd⟩
  | .fn f, v, _, h => h
  | .frz _, _, p, _ => by cases p
  | .ref _, _, p, _ => by cases p
  | .met _ _, _, p, _ => by cases p
  | .exc _ _, _, p, _ => by cases p
theorem DVs.plain : ∀ {ds : List D} {xs : List V}, plains ds = true → DVs G W n H ds xs → DVs G W n' H ds xs
  | [], _, _, h => h
  | d :: ds, _, p, h => by
    obtain ⟨y, ys, rfl, h1, h2⟩ := h
    obtain ⟨p1, p2⟩ := Bool.and_eq_true_iff.mp (show (Rf.plain d && plains ds) = true from p)
    exact ⟨y, ys, rfl, DV.plain p1 h1, DVs.plain p2 h2⟩
end
theorem bdOf_le {k : Nat} (r : RS G bd base W H st) : bdOf bd base st.length k ≤ st.length := by
  unfold bdOf
  split
  · rename_i h
    exact Nat.le_trans (r.bdl k h) r.bl
  · exact Nat.le_refl _
theorem obR.keep (e : Ext W H st W' H' st') (r : RS G bd base W H st) {k : Nat} {ob : Ob} (hk : ob ≠ .dead → H' (W'.m k) = H (W.m k)) (hn : n ≤ st.length) (hn' : n ≤ n') (h : obR G W H n k ob) : obR G W' H' n' k ob := by
  cases ob with
  | lst ds =>
    obtain ⟨xs, h1, h2⟩ := h
    exact ⟨xs, (hk (by simp)).trans h1, DVs.keep e r hn hn' h2⟩
  | dct ks vs =>
    obtain ⟨xs, h1, h2, h3⟩ := h
    exact ⟨xs, (hk (by simp)).trans h1, h2, DVs.keep e r hn hn' h3⟩
  | ins c fs =>
    obtain ⟨dx, gs, h1, h2, h3⟩ := h
    exact ⟨dx, gs, (hk (by simp)).trans h1, h2, DVs.keep e r hn hn' h3⟩
  | dead => trivial
theorem live_of {k : Nat} {ob : Ob} (e : st[k]? = some ob) (h : ob ≠ .dead) : live st k := ⟨ob, e, h⟩
/-! ### a new thing that is never written -/
theorem alloc_frz (r : RS G bd base W H st) {p : Addr} (hp : H p = none) (o : HO) :
    Ext W H st ⟨W.m, fun a => W.F a ∨ a = p⟩ (upd H p o) st ∧ RS G bd base ⟨W.m, fun a => W.F a ∨ a = p⟩ (upd H p o) st := by
  have nep : ∀ k, live st k → W.m k ≠ p := fun k hl z => by
    obtain ⟨u, h1, _⟩ := r.some hl
    rw [z, hp] at h1; cases h1
  have e : Ext W H st ⟨W.m, fun a => W.F a ∨ a = p⟩ (upd H p o) st := by
    refine ⟨fun a u h _ => ?_, fun a h => .inl h, fun _ _ => rfl, fun _ _ h => h, fun k hk h => absurd h.lt (by omega), fun a h => ?_, Nat.le_refl _, fun a h => ?_⟩
    · rw [upd_ne (ne_of_none h hp)]; exact h
    · by_cases q : a = p
      · rw [q, upd_same]; simp
      · rw [upd_ne q]; exact h
    · rcases h with h | h
      · exact .inl h
      · exact .inr (.inl (by rw [h]; exact hp))
  refine ⟨e, fun k ob he => ?_, r.inj, fun k hl z => ?_, fun a h => ?_, r.bdl, r.bl⟩
  · exact obR.keep e r (fun nd => upd_ne (nep k (live_of he nd))) (bdOf_le r) (Nat.le_refl _) (r.obj k ob he)
  · rcases z with z | z
    · exact r.fF k hl z
    · exact nep k hl z
  · rcases h with h | h
    · obtain ⟨u, q⟩ := r.fH a h
      exact ⟨u, by rw [upd_ne (ne_of_none q hp)]; exact q⟩
    · exact ⟨o, by rw [h]; exact upd_same⟩
/-- a new tuple, or any other thing that nobody writes -/
theorem alloc_any (r : RS G bd base W H st) {p : Addr} (hp : H p = none) (o : HO) : Ext W H st W (upd H p o) st ∧ RS G bd base W (upd H p o) st := by
  have nep : ∀ k, live st k → W.m k ≠ p := fun k hl z => by
    obtain ⟨u, h1, _⟩ := r.some hl
    rw [z, hp] at h1; cases h1
  have e : Ext W H st W (upd H p o) st := by
    refine ⟨fun a u h _ => ?_, fun a h => h, fun _ _ => rfl, fun _ _ h => h, fun k hk h => absurd h.lt (by omega), fun a h => ?_, Nat.le_refl _, fun _ h => .inl h⟩
    · rw [upd_ne (ne_of_none h hp)]; exact h
    · by_cases q : a = p
      · rw [q, upd_same]; simp
      · rw [upd_ne q]; exact h
  refine ⟨e, fun k ob he => ?_, r.inj, r.fF, fun a h => ?_, r.bdl, r.bl⟩
  · exact obR.keep e r (fun nd => upd_ne (nep k (live_of he nd))) (bdOf_le r) (Nat.le_refl _) (r.obj k ob he)
  · obtain ⟨u, q⟩ := r.fH a h
    exact ⟨u, by rw [upd_ne (ne_of_none q hp)]; exact q⟩
/-! ### a new object of the store -/
def Wd.add (W : Wd) (n : Nat) (p : Addr) : Wd := ⟨fun k => if k = n then p else W.m k, W.F⟩
theorem get_app {st : Sto} {ob : Ob} {k : Nat} {o : Ob} (h : (st ++ [ob])[k]? = some o) : (k < st.length ∧ st[k]? = some o) ∨ (k = st.length ∧ o = ob) := by
  by_cases q : k < st.length
  · rw [List.getElem?_append_left q] at h
    exact .inl ⟨q, h⟩
  · rw [List.getElem?_append_right (by omega)] at h
    have z := (List.getElem?_eq_some_iff.mp h).1
    simp only [List.length_singleton] at z
    have : k - st.length = 0 := by omega
    rw [this] at h
    simp at h
    exact .inr ⟨by omega, h.symm⟩
theorem live_app {st : Sto} {ob : Ob} {k : Nat} (h : live (st ++ [ob]) k) : (k < st.length ∧ live st k) ∨ k = st.length := by
  obtain ⟨o, e, nd⟩ := h
  rcases get_app e with ⟨q, z⟩ | ⟨q, _⟩
  · exact .inl ⟨q, o, z, nd⟩
  · exact .inr q
theorem alloc_ob (r : RS G bd base W H st) {p : Addr} (hp : H p = none) (o : HO) (ob : Ob)
    (hob : ∀ W', Ext W H st W' (upd H p o) (st ++ [ob]) → W'.m st.length = p → obR G W' (upd H p o) st.length.succ st.length ob) :
    Ext W H st (W.add st.length p) (upd H p o) (st ++ [ob]) ∧ RS G bd base (W.add st.length p) (upd H p o) (st ++ [ob]) := by
  have nep : ∀ k, live st k → W.m k ≠ p := fun k hl z => by
    obtain ⟨u, h1, _⟩ := r.some hl
    rw [z, hp] at h1; cases h1
  have am : ∀ k, k < st.length → (W.add st.length p).m k = W.m k := fun k hk => if_neg (by omega)
  have an : (W.add st.length p).m st.length = p := if_pos rfl
  have e : Ext W H st (W.add st.length p) (upd H p o) (st ++ [ob]) := by
    refine ⟨fun a u h _ => ?_, fun a h => h, am, fun k hk h => ?_, fun k hk h => ?_, fun a h => ?_, by simp, fun _ h => .inl h⟩
    · rw [upd_ne (ne_of_none h hp)]; exact h
    · rcases live_app h with z | z
      · exact z.2
      · omega
    · rcases live_app h with z | z
      · omega
      · rw [z, an]; exact hp
    · by_cases q : a = p
      · rw [q, upd_same]; simp
      · rw [upd_ne q]; exact h
  have bn := r.bl
  refine ⟨e, fun k ob' he => ?_, fun j k hj hk z => ?_, fun k hl z => ?_, fun a h => ?_, r.bdl, by simp; omega⟩
  · rcases get_app he with ⟨q, z⟩ | ⟨q, z⟩
    · refine obR.keep e r (fun nd => ?_) (bdOf_le r) ?_ (r.obj k ob' z)
      · rw [am k q]; exact upd_ne (nep k (live_of z nd))
      · unfold bdOf
        split
        · exact Nat.le_refl _
        · simp
    · subst q z
      have q : bdOf bd base (st ++ [ob']).length st.length = st.length.succ := by
        unfold bdOf
        rw [if_neg (by omega)]
        simp
      rw [q]
      exact hob _ e an
  · rcases live_app hj with ⟨qj, lj⟩ | qj <;> rcases live_app hk with ⟨qk, lk⟩ | qk
    · rw [am j qj, am k qk] at z; exact r.inj j k lj lk z
    · rw [am j qj, qk, an] at z; exact absurd z (nep j lj)
    · rw [am k qk, qj, an] at z; exact absurd z.symm (nep k lk)
    · omega
  · rcases live_app hl with ⟨q, l⟩ | q
    · rw [am k q] at z; exact r.fF k l z
    · rw [q, an] at z
      obtain ⟨u, h⟩ := r.fH p z
      rw [hp] at h; cases h
  · obtain ⟨u, q⟩ := r.fH a h
    exact ⟨u, by rw [upd_ne (ne_of_none q hp)]; exact q⟩
/-! ### an object of the store written -/
theorem live_set {st : Sto} {k j : Nat} {ob : Ob} (hk : live st k) (nd : ob ≠ .dead) : live (st.set k ob) j ↔ live st j := by
  constructor
  · rintro ⟨o, e, n⟩
    by_cases q : k = j
    · subst q; exact hk
    · rw [List.getElem?_set_ne q] at e; exact ⟨o, e, n⟩
  · rintro ⟨o, e, n⟩
    by_cases q : k = j
    · subst q; exact ⟨ob, List.getElem?_set_self hk.lt, nd⟩
    · exact ⟨o, by rw [List.getElem?_set_ne q]; exact e, n⟩
theorem write_ob (r : RS G bd base W H st) {k : Nat} (hl : live st k) (o : HO) {ob : Ob} (nd : ob ≠ .dead)
    (hob : ∀ H', Ext W H st W H' (st.set k ob) → H' (W.m k) = some o → obR G W H' (bdOf bd base st.length k) k ob) :
    Ext W H st W (upd H (W.m k) o) (st.set k ob) ∧ RS G bd base W (upd H (W.m k) o) (st.set k ob) := by
  have e : Ext W H st W (upd H (W.m k) o) (st.set k ob) := by
    refine ⟨fun a u h hn => ?_, fun a h => h, fun _ _ => rfl, fun j _ h => (live_set hl nd).mp h, fun j hj h => absurd ((live_set hl nd).mp h).lt (by omega), fun a h => ?_, by simp, fun _ h => .inl h⟩
    · rw [upd_ne (Ne.symm (hn k hl))]; exact h
    · by_cases q : a = W.m k
      · rw [q, upd_same]; simp
      · rw [upd_ne q]; exact h
  refine ⟨e, fun j ob' he => ?_, fun j i hj hi z => r.inj j i ((live_set hl nd).mp hj) ((live_set hl nd).mp hi) z, fun j hj => r.fF j ((live_set hl nd).mp hj), fun a h => ?_, r.bdl, by simpa using r.bl⟩
  · rw [List.length_set]
    by_cases q : k = j
    · subst q
      rw [List.getElem?_set_self hl.lt] at he
      cases he
      exact hob _ e upd_same
    · rw [List.getElem?_set_ne q] at he
      refine obR.keep e r (fun n => upd_ne fun z => q ?_) (bdOf_le r) (Nat.le_refl _) (r.obj j ob' he)
      exact (r.inj j k (live_of he n) hl z).symm
  · obtain ⟨u, q⟩ := r.fH a h
    by_cases z : a = W.m k
    · exact absurd (z ▸ h) (r.fF k hl)
    · exact ⟨u, by rw [upd_ne z]; exact q⟩
end
end Rf

/-! Answers, and what operations on values do. -/
namespace Rf
open PySem PySem.Spec PyProof.Rows L2
structure Post (G : Gx) (bd : Nat → Nat) (base : Nat) (W : Wd) (H : Hp) (st : Sto) (W' : Wd) (H' : Hp) (st' : Sto) : Prop where
  ext : Ext W H st W' H' st'
  rs : RS G bd base W' H' st'
abbrev Rl (α β : Type) := Wd → Nat → Hp → α → β → Prop
/-- how an exception lies -/
def ExcR (G : Gx) (W : Wd) (H : Hp) (d : D) (cls : Value) (dd : Option Addr) : Prop := match d with
  | .exc c ds => cls = .ref (G.ca c) ∧ ((ds = [] ∧ dd = none) ∨ ∃ dx gs, dd = some dx ∧ H dx = some (.xd gs) ∧ W.F dx ∧ DVs G W 0 H ds (gs.map (·.2)))
  | _ => False
/-- what is wanted behind an answer of the evaluator -/
def Ans {α β : Type} (rel : Rl α β) (G : Gx) (bd : Nat → Nat) (base : Nat) (Wx : WX) (σ : L2.St) (W : Wd) (H : Hp) (st : Sto) (r : R α) (Q : β → Hp → Prop) : Prop := match r with
  | .ok d st' => ∀ (v : β) (W' : Wd) (H' : Hp), Post G bd base W H st W' H' st' → rel W' st'.length H' d v → Q v H'
  | .exc d st' => ∀ (cls : Value) (dd : Option Addr) (W' : Wd) (H' : Hp), Post G bd base W H st W' H' st' → ExcR G W' H' d cls dd → Wx cls dd σ H'
  | .bad => False
section
variable {G : Gx} {bd : Nat → Nat} {base : Nat} {Wx : WX} {σ : L2.St} {W W' W1 W2 : Wd} {H H' H1 H2 : Hp} {st st' st1 st2 : Sto} {n n' : Nat}
theorem Post.refl (r : RS G bd base W H st) : Post G bd base W H st W H st := ⟨Ext.refl _ _ _, r⟩
theorem Post.trans (a : Post G bd base W H st W1 H1 st1) (b : Post G bd base W1 H1 st1 W2 H2 st2) : Post G bd base W H st W2 H2 st2 := ⟨Ext.trans (G := G) (bd := bd) (bd1 := bd) (base := base) (base1 := base) a.ext b.ext, b.rs⟩
theorem Post.dv (a : Post G bd base W H st W1 H1 st1) (r : RS G bd base W H st) {d : D} {v : V} (h : DV G W st.length H d v) : DV G W1 st1.length H1 d v := DV.keep a.ext r (Nat.le_refl _) a.ext.len h
theorem Post.dvs (a : Post G bd base W H st W1 H1 st1) (r : RS G bd base W H st) {d : List D} {v : List V} (h : DVs G W st.length H d v) : DVs G W1 st1.length H1 d v := DVs.keep a.ext r (Nat.le_refl _) a.ext.len h
theorem Ans.shift {α β : Type} {rel : Rl α β} {r : R α} {Q : β → Hp → Prop} (p : Post G bd base W H st W1 H1 st1) (h : Ans rel G bd base Wx σ W H st r Q) : Ans rel G bd base Wx σ W1 H1 st1 r Q := by
  cases r with
  | ok d st' => exact fun v W' H' q dv => h v W' H' (p.trans q) dv
  | exc d st' => exact fun cls dd W' H' q x => h cls dd W' H' (p.trans q) x
  | bad => exact h
theorem Ans.mono {α β : Type} {rel : Rl α β} {r : R α} {Q Q' : β → Hp → Prop} (h : Ans rel G bd base Wx σ W H st r Q) (hq : ∀ v H', Q v H' → Q' v H') : Ans rel G bd base Wx σ W H st r Q' := by
  cases r with
  | ok d st' => exact fun v W' H' q dv => hq _ _ (h v W' H' q dv)
  | exc d st' => exact h
  | bad => exact h
/-- first r, then f -/
theorem Ans.bind {α β γ δ : Type} {rel : Rl α β} {rel' : Rl γ δ} {r : R α} {f : α → Sto → R γ} {Q : δ → Hp → Prop} (h : Ans rel' G bd base Wx σ W H st (r.bind f) Q) :
    Ans rel G bd base Wx σ W H st r fun v H1 => ∃ (d : α) (st1 : Sto) (W1 : Wd), r = .ok d st1 ∧ Post G bd base W H st W1 H1 st1 ∧ rel W1 st1.length H1 d v ∧ Ans rel' G bd base Wx σ W1 H1 st1 (f d st1) Q := by
  cases r with
  | ok d st' => exact fun v W' H' p dv => ⟨d, st', W', rfl, p, dv, Ans.shift p h⟩
  | exc d st' => exact h
  | bad => exact h
theorem Ans.opt {γ δ : Type} {α : Type} {rel' : Rl γ δ} {o : Option α} {f : α → Sto → R γ} {Q : δ → Hp → Prop} (h : Ans rel' G bd base Wx σ W H st ((opt o st).bind f) Q) : ∃ a, o = some a ∧ Ans rel' G bd base Wx σ W H st (f a st) Q := by
  cases o with
  | some a => exact ⟨a, rfl, h⟩
  | none => exact h.elim
/-- an answer that changes nothing -/
theorem Ans.here {d : D} {v : V} {Q : VK} (r : RS G bd base W H st) (h : Ans (DV G) G bd base Wx σ W H st (.ok d st) Q) (hv : DV G W st.length H d v) : Q v H := h v W H (Post.refl r) hv
/-- slots -/
def EnR (G : Gx) (W : Wd) (n : Nat) (H : Hp) (ρ : En) (σ : L2.St) : Prop := ρ.length = σ.length ∧ ∀ (i : Nat) (d : D), ρ[i]? = some (some d) → ∃ v, σ[i]? = some (some v) ∧ DV G W n H d v
theorem EnR.post {ρ : En} (a : Post G bd base W H st W1 H1 st1) (r : RS G bd base W H st) (h : EnR G W st.length H ρ σ) : EnR G W1 st1.length H1 ρ σ :=
  ⟨h.1, fun i d e => let ⟨v, e1, e2⟩ := h.2 i d e; ⟨v, e1, a.dv r e2⟩⟩
/-! ### what a value is, seen through -/
theorem vw_ref (st : Sto) (k : Nat) : vw st (.ref k) = (match st[k]? with
    | some (.lst ds) => .lst ds
    | some (.dct ks vs) => .dct ks vs
    | _ => .ref k) := rfl
theorem vw_lst {d : D} {v : V} {ds : List D} (r : RS G bd base W H st) (h : DV G W st.length H d v) (e : vw st d = .lst ds) : ∃ a xs, v = .ref a ∧ H a = some (.lst xs) ∧ DVs G W st.length H ds xs := by
  cases d with
  | lst es =>
    cases e
    obtain ⟨a, xs, e1, _, h1, h2⟩ := h
    exact ⟨a, xs, e1, h1, h2⟩
  | ref k =>
    obtain ⟨e1, hk⟩ := h
    rw [vw_ref] at e
    cases q : st[k]? with
    | none => rw [q] at e; cases e
    | some ob =>
      rw [q] at e
      cases ob with
      | lst es =>
        cases e
        obtain ⟨xs, h1, h2⟩ := r.obj k _ q
        exact ⟨_, xs, e1, h1, DVs.more r (bdOf_le r) (bdOf_le r) h2⟩
      | dct _ _ => cases e
      | ins _ _ => cases e
      | dead => cases e
  | _ => cases e
theorem vw_dct {d : D} {v : V} {ks : List Ky} {vs : List D} (r : RS G bd base W H st) (h : DV G W st.length H d v) (e : vw st d = .dct ks vs) :
    ∃ a kvs, v = .ref a ∧ Rd H a (.dK kvs) ∧ kvs.map (·.1) = ks.map kyR ∧ DVs G W st.length H vs (kvs.map (·.2)) := by
  cases d with
  | dct ks vs =>
    cases e
    obtain ⟨a, kvs, e1, _, h1, h2, h3⟩ := h
    exact ⟨a, kvs, e1, h1, h2, h3⟩
  | ref k =>
    obtain ⟨e1, hk⟩ := h
    rw [vw_ref] at e
    cases q : st[k]? with
    | none => rw [q] at e; cases e
    | some ob =>
      rw [q] at e
      cases ob with
      | lst es => cases e
      | dct _ _ =>
        cases e
        obtain ⟨kvs, h1, h2, h3⟩ := r.obj k _ q
        exact ⟨_, kvs, e1, .inl h1, h2, DVs.more r (bdOf_le r) (bdOf_le r) h3⟩
      | ins _ _ => cases e
      | dead => cases e
  | _ => cases e
/-- what is no list and no dict is seen as it is -/
theorem vw_id {d e : D} (h : vw st d = e) (h1 : ∀ ds, e ≠ .lst ds) (h2 : ∀ ks vs, e ≠ .dct ks vs) : d = e := by
  cases d with
  | ref k =>
    rw [vw_ref] at h
    cases q : st[k]? with
    | none => rw [q] at h; exact h
    | some ob =>
      rw [q] at h
      cases ob with
      | lst es => exact absurd h.symm (h1 _)
      | dct _ _ => exact absurd h.symm (h2 _ _)
      | ins _ _ => exact h
      | dead => exact h
  | _ => exact h
theorem vw_int {d : D} {v : V} {i : Int} (h : DV G W n H d v) (e : vw st d = .int i) : v = .int i := by
  have q := vw_id e (by intro _ z; cases z) (by intro _ _ z; cases z)
  subst q; exact h
theorem vw_str {d : D} {v : V} {i : List Nat} (h : DV G W n H d v) (e : vw st d = .str i) : v = .str ⟨i.toArray⟩ := by
  have q := vw_id e (by intro _ z; cases z) (by intro _ _ z; cases z)
  subst q; exact h
theorem vw_tup {d : D} {v : V} {ds : List D} (h : DV G W n H d v) (e : vw st d = .tup ds) : ∃ a xs, v = .ref a ∧ SqT G.K H a xs ∧ DVs G W n H ds xs := by
  have q := vw_id e (by intro _ z; cases z) (by intro _ _ z; cases z)
  subst q; exact h
theorem vw_frz {d : D} {v : V} {ds : List D} (h : DV G W n H d v) (e : vw st d = .frz ds) : ∃ a xs, v = .ref a ∧ SqL G.K H a xs ∧ DVs G W n H ds xs := by
  have q := vw_id e (by intro _ z; cases z) (by intro _ _ z; cases z)
  subst q
  obtain ⟨a, xs, e1, h1, h2⟩ := h
  exact ⟨a, xs, e1, h1.sq, h2⟩
theorem SL_eq : SL = sizeLine := by rw [sizeLine_eq]; rfl
/-! ### new things -/
theorem ans_tup {ds : List D} {xs : List V} {Q : VK} (r : RS G bd base W H st) (hd : DVs G W st.length H ds xs) (h : Ans (DV G) G bd base Wx σ W H st (mkT ds st) Q) :
    xs.length ≤ sizeLine ∧ ∀ p, H p = none → Q (.ref p) (upd H p (.tup xs)) := by
  unfold mkT at h
  split at h
  · rename_i hz
    refine ⟨by rw [hd.len, ← SL_eq]; exact hz, fun p hp => ?_⟩
    obtain ⟨e, r'⟩ := alloc_any r hp (.tup xs)
    exact h (.ref p) W _ ⟨e, r'⟩ ⟨p, xs, rfl, SqT.of upd_same, DVs.keep e r (Nat.le_refl _) (Nat.le_refl _) hd⟩
  · exact h.elim
theorem ans_lst {bx : Bool} {ds : List D} {xs : List V} {Q : VK} (r : RS G bd base W H st) (hd : DVs G W st.length H ds xs) (h : Ans (DV G) G bd base Wx σ W H st (mkL bx ds st) Q) :
    xs.length ≤ sizeLine ∧ ∀ p, H p = none → Q (.ref p) (upd H p (.lst xs)) := by
  unfold mkL at h
  split at h
  · rename_i hz
    refine ⟨by rw [hd.len, ← SL_eq]; exact hz, fun p hp => ?_⟩
    cases bx with
    | true =>
      obtain ⟨e, r'⟩ := alloc_ob r hp (.lst xs) (.lst ds) fun W' e' z => ⟨xs, by rw [z]; exact upd_same, DVs.keep e' r (Nat.le_refl _) (Nat.le_succ _) hd⟩
      exact h (.ref p) _ _ ⟨e, r'⟩ ⟨by show V.ref p = V.ref (if st.length = st.length then p else _); rw [if_pos rfl], by simp⟩
    | false =>
      obtain ⟨e, r'⟩ := alloc_frz r hp (.lst xs)
      exact h (.ref p) _ _ ⟨e, r'⟩ ⟨p, xs, rfl, .inr rfl, upd_same, DVs.keep e r (Nat.le_refl _) (Nat.le_refl _) hd⟩
  · exact h.elim
theorem ans_dct {bx : Bool} {ks : List Ky} {vs : List D} {kvs : List (Key × V)} {Q : VK} (r : RS G bd base W H st) (hk : kvs.map (·.1) = ks.map kyR) (hd : DVs G W st.length H vs (kvs.map (·.2))) (h : Ans (DV G) G bd base Wx σ W H st (mkD bx ks vs st) Q) :
    kvs.length ≤ sizeLine ∧ ∀ p, H p = none → Q (.ref p) (upd H p (.dK kvs)) := by
  unfold mkD at h
  split at h
  · rename_i hz
    have hl : kvs.length = ks.length := by
      have := congrArg List.length hk
      simpa using this
    refine ⟨by rw [hl, ← SL_eq]; exact hz, fun p hp => ?_⟩
    cases bx with
    | true =>
      obtain ⟨e, r'⟩ := alloc_ob r hp (.dK kvs) (.dct ks vs) fun W' e' z => ⟨kvs, by rw [z]; exact upd_same, hk, DVs.keep e' r (Nat.le_refl _) (Nat.le_succ _) hd⟩
      exact h (.ref p) _ _ ⟨e, r'⟩ ⟨by show V.ref p = V.ref (if st.length = st.length then p else _); rw [if_pos rfl], by simp⟩
    | false =>
      obtain ⟨e, r'⟩ := alloc_frz r hp (.dK kvs)
      exact h (.ref p) _ _ ⟨e, r'⟩ ⟨p, kvs, rfl, .inr rfl, .inl upd_same, hk, DVs.keep e r (Nat.le_refl _) (Nat.le_refl _) hd⟩
  · exact h.elim
/-! ### operators -/
/-- two values, one behind the other -/
def rBin (G : Gx) (Wx : WX) (f : D → D → Sto → R D) : R2 := fun x y H Q => ∃ bd base σ W st d e, RS G bd base W H st ∧ DV G W st.length H d x ∧ DV G W st.length H e y ∧ Ans (DV G) G bd base Wx σ W H st (f (vw st d) (vw st e) st) Q
theorem log64 {i : Int} (h : i.natAbs.log2 < 64) : i.natAbs < 2 ^ 64 := by
  by_cases z : i.natAbs = 0
  · rw [z]; exact Nat.two_pow_pos 64
  · exact (Nat.log2_lt z).mp h
theorem Vof {v : V} {d : D} {i : List Nat} (h : v = .str ⟨i.toArray⟩) : v = V.str ⟨i.toArray⟩ := h
def opR : Op → Operator
  | .add => .Add | .sub => .Sub | .mul => .Mult | .fdiv => .FloorDiv | .mod => .Mod | .pow => .Pow
theorem str_app (a b : List Nat) : (⟨a.toArray⟩ : Str) ++ (⟨b.toArray⟩ : Str) = ⟨(a ++ b).toArray⟩ := by
  show (⟨a.toArray ++ b.toArray⟩ : Str) = _
  simp
theorem str_len (a : List Nat) : (⟨a.toArray⟩ : Str).length = a.length := by
  show a.toArray.size = _
  simp
theorem bin_ok {X : Cx} (hK : X.K = G.K) (op : Op) (bx : Bool) : OpR X (binaryOp (opR op)) (rBin G Wx (binR op bx)) := by
  intro pins s σ' H x y v u Q I rx ry h
  obtain ⟨bd, base, σ, W, st, d, e, r, hd, he, h⟩ := h
  have hx : ∀ i, vw st d = .int i → x = .int i := fun i z => vw_int hd z
  have hy : ∀ i, vw st e = .int i → y = .int i := fun i z => vw_int he z
  have sx : ∀ i, vw st d = .str i → x = .str ⟨i.toArray⟩ := fun i z => vw_str hd z
  have sy : ∀ i, vw st e = .str i → y = .str ⟨i.toArray⟩ := fun i z => vw_str he z
  have lx : ∀ ds, vw st d = .lst ds → _ := fun ds z => vw_lst r hd z
  have ly : ∀ ds, vw st e = .lst ds → _ := fun ds z => vw_lst r he z
  have tx : ∀ ds, vw st d = .tup ds → _ := fun ds z => vw_tup hd z
  have ty : ∀ ds, vw st e = .tup ds → _ := fun ds z => vw_tup he z
  revert h hx hy sx sy lx ly tx ty
  generalize vw st d = d'
  generalize vw st e = e'
  intro h hx hy sx sy lx ly tx ty
  unfold binR at h
  split at h
  · rename_i i j
    exact op_add pins s σ' H x y v u Q I rx ry ⟨i, j, hx _ rfl, hy _ rfl, h.here r rfl⟩
  · rename_i a b
    split at h
    · rename_i hz
      exact op_add_str pins s σ' H x y v u Q I rx ry ⟨_, _, sx _ rfl, sy _ rfl, by rw [str_len, str_len, ← SL_eq]; exact hz, by rw [str_app]; exact h.here r rfl⟩
    · exact h.elim
  · rename_i a b
    obtain ⟨p, xs, e1, h1, h2⟩ := lx _ rfl
    obtain ⟨q, ys, e2, h3, h4⟩ := ly _ rfl
    obtain ⟨hz, hq⟩ := ans_lst r (DVs.app h2 h4) h
    exact op_cat pins s σ' H x y v u Q I rx ry ⟨p, q, xs, ys, e1, e2, h1, h3, by rw [← List.length_append]; exact hz, hq⟩
  · rename_i a b
    obtain ⟨p, xs, e1, h1, h2⟩ := tx _ rfl
    obtain ⟨q, ys, e2, h3, h4⟩ := ty _ rfl
    obtain ⟨hz, hq⟩ := ans_tup r (DVs.app h2 h4) h
    have fin : ∀ z : V, DV G W st.length H (.tup (a ++ b)) z → Q z H := fun z hz' => by
      unfold mkT at h
      split at h
      · exact h.here r hz'
      · exact h.elim
    refine op_catA pins s σ' H x y v u Q I rx ry ⟨p, q, xs, ys, e1, e2, by rw [hK]; exact h1, by rw [hK]; exact h3, by rw [← List.length_append]; exact hz, fun z => ?_, fun _ z => ?_, fun _ _ => hq⟩
    · refine fin _ ⟨q, ys, rfl, h3, ?_⟩
      have := DVs.app h2 h4
      rw [z] at this; exact this
    · refine fin _ ⟨p, xs, rfl, h1, ?_⟩
      have := DVs.app h2 h4
      rw [z, List.append_nil] at this; exact this
  · rename_i i j
    exact op_sub pins s σ' H x y v u Q I rx ry ⟨i, j, hx _ rfl, hy _ rfl, h.here r rfl⟩
  · rename_i i j
    split at h
    · rename_i hz
      exact op_mulW pins s σ' H x y v u Q I rx ry ⟨i, j, hx _ rfl, hy _ rfl, (show i.natAbs.log2 + j.natAbs.log2 < 1000000 from of_decide_eq_true hz), h.here r rfl⟩
    · exact h.elim
  · rename_i i j
    split at h
    · rename_i hz
      obtain ⟨z1, z2⟩ := Bool.and_eq_true_iff.mp hz
      exact op_fdivW pins s σ' H x y v u Q I rx ry ⟨i, j, hx _ rfl, hy _ rfl, ⟨of_decide_eq_true z1, of_decide_eq_true z2⟩, h.here r rfl⟩
    · exact h.elim
  · rename_i i j
    split at h
    · rename_i hz
      exact op_mod pins s σ' H x y v u Q I rx ry ⟨i, j, hx _ rfl, hy _ rfl, of_decide_eq_true hz, h.here r rfl⟩
    · exact h.elim
  · rename_i i j
    split at h
    · rename_i hz
      obtain ⟨z1, z2⟩ := Bool.and_eq_true_iff.mp hz
      obtain ⟨z2, z3⟩ := Bool.and_eq_true_iff.mp z2
      exact op_pow pins s σ' H x y v u Q I rx ry ⟨i, j, hx _ rfl, hy _ rfl, ⟨of_decide_eq_true z1, of_decide_eq_true z2, log64 (of_decide_eq_true z3)⟩, h.here r rfl⟩
    · exact h.elim
  · exact h.elim
end
end Rf

/-! Comparisons, places, built-in functions. -/
namespace Rf
open PySem PySem.Spec PyProof.Rows L2
section
variable {G : Gx} {bd : Nat → Nat} {base : Nat} {Wx : WX} {σ : L2.St} {W W' W1 W2 : Wd} {H H' H1 H2 : Hp} {st st' st1 st2 : Sto} {n n' : Nat}
/-! ### data compared -/
mutual
def toP : D → PyData
  | .bl b => .bool b
  | .int i => .int i
  | .str s => .str ⟨s.toArray⟩
  | .tup ds => .tuple (toPs ds)
  | .lst ds => .list (toPs ds)
  | _ => .none
def toPs : List D → List PyData
  | [] => []
  | d :: ds => toP d :: toPs ds
end
theorem str_beq (x y : List Nat) : ((⟨x.toArray⟩ : Str) == ⟨y.toArray⟩) = (x == y) := by
  by_cases h : x = y
  · subst h; simp
  · have h2 : (⟨x.toArray⟩ : Str) ≠ ⟨y.toArray⟩ := fun z => h (by injection z with z; simpa using z)
    rw [beq_eq_false_iff_ne.mpr h2, beq_eq_false_iff_ne.mpr h]
mutual
theorem eqv_P : ∀ {m k : Nat} {d e : D}, pd m d = true → pd k e = true → PyData.eqv (toP d) (toP e) = eqv d e
  | m, k, .non, e, _, h => by cases e <;> first | rfl | (cases k <;> cases h)
  | m, k, .bl a, e, _, h => by cases e <;> first | rfl | (cases k <;> cases h)
  | m, k, .int a, e, _, h => by cases e <;> first | rfl | (cases k <;> cases h)
  | m, k, .str a, e, _, h => by cases e <;> first | rfl | exact str_beq _ _ | (cases k <;> cases h)
  | 0, _, .tup _, _, h, _ => by cases h
  | 0, _, .lst _, _, h, _ => by cases h
  | m + 1, k, .tup ds, e, h, h' => by
    cases e with
    | tup es => cases k with
      | zero => cases h'
      | succ k => exact eqv_Ps (m := m) (k := k) h h'
    | frz _ => cases k <;> cases h'
    | dct _ _ => cases k <;> cases h'
    | ref _ => cases k <;> cases h'
    | fn _ => cases k <;> cases h'
    | met _ _ => cases k <;> cases h'
    | exc _ _ => cases k <;> cases h'
    | _ => rfl
  | m + 1, k, .lst ds, e, h, h' => by
    cases e with
    | lst es => cases k with
      | zero => cases h'
      | succ k => exact eqv_Ps (m := m) (k := k) h h'
    | frz _ => cases k <;> cases h'
    | dct _ _ => cases k <;> cases h'
    | ref _ => cases k <;> cases h'
    | fn _ => cases k <;> cases h'
    | met _ _ => cases k <;> cases h'
    | exc _ _ => cases k <;> cases h'
    | _ => rfl
  | m, _, .frz _, _, h, _ => by cases m <;> cases h
  | m, _, .dct _ _, _, h, _ => by cases m <;> cases h
  | m, _, .ref _, _, h, _ => by cases m <;> cases h
  | m, _, .fn _, _, h, _ => by cases m <;> cases h
  | m, _, .met _ _, _, h, _ => by cases m <;> cases h
  | m, _, .exc _ _, _, h, _ => by cases m <;> cases h
theorem eqv_Ps : ∀ {m k : Nat} {ds es : List D}, pds m ds = true → pds k es = true → PyData.eqvAll (toPs ds) (toPs es) = eqvs ds es
  | _, _, [], [], _, _ => rfl
  | _, _, [], _ :: _, _, _ => rfl
  | _, _, _ :: _, [], _, _ => rfl
  | m, k, d :: ds, e :: es, h, h' => by
    have h1 : (pd m d && pds m ds) = true := by cases m <;> exact h
    have h2 : (pd k e && pds k es) = true := by cases k <;> exact h'
    obtain ⟨a1, a2⟩ := Bool.and_eq_true_iff.mp h1
    obtain ⟨b1, b2⟩ := Bool.and_eq_true_iff.mp h2
    show (PyData.eqv (toP d) (toP e) && PyData.eqvAll (toPs ds) (toPs es)) = (eqv d e && eqvs ds es)
    rw [eqv_P a1 b1, eqv_Ps a2 b2]
end
mutual
theorem pd_lay : ∀ {m : Nat} {d : D}, pd m d = true → PyData.canLay0 (toP d) = true ∧ (toP d).depth ≤ m
  | m, .non, _ => ⟨rfl, Nat.zero_le _⟩
  | m, .bl _, _ => ⟨rfl, Nat.zero_le _⟩
  | m, .int _, _ => ⟨rfl, Nat.zero_le _⟩
  | m, .str s, h => by
    have h1 : (s.all fun c => decide (c < 1114112)) = true := by cases m <;> exact h
    refine ⟨?_, Nat.zero_le _⟩
    show (PyData.strOk _) = true
    unfold PyData.strOk
    show (s.toArray.all _) = true
    rw [List.all_toArray]
    exact h1
  | 0, .tup _, h => by cases h
  | 0, .lst _, h => by cases h
  | m + 1, .tup ds, h => by
    obtain ⟨h1, h2⟩ := pds_lay (m := m) (ds := ds) h
    exact ⟨h1, Nat.succ_le_succ h2⟩
  | m + 1, .lst ds, h => by
    obtain ⟨h1, h2⟩ := pds_lay (m := m) (ds := ds) h
    exact ⟨h1, Nat.succ_le_succ h2⟩
  | m, .frz _, h => by cases m <;> cases h
  | m, .dct _ _, h => by cases m <;> cases h
  | m, .ref _, h => by cases m <;> cases h
  | m, .fn _, h => by cases m <;> cases h
  | m, .met _ _, h => by cases m <;> cases h
  | m, .exc _ _, h => by cases m <;> cases h
theorem pds_lay : ∀ {m : Nat} {ds : List D}, pds m ds = true → PyData.canLayAll0 (toPs ds) = true ∧ PyData.depthAll (toPs ds) ≤ m
  | _, [], _ => ⟨rfl, Nat.zero_le _⟩
  | m, d :: ds, h => by
    have h1 : (pd m d && pds m ds) = true := by cases m <;> exact h
    obtain ⟨a1, a2⟩ := Bool.and_eq_true_iff.mp h1
    obtain ⟨b1, b2⟩ := pd_lay a1
    obtain ⟨c1, c2⟩ := pds_lay a2
    refine ⟨?_, Nat.max_le.mpr ⟨b2, c2⟩⟩
    show (PyData.canLay0 (toP d) && PyData.canLayAll0 (toPs ds)) = true
    rw [b1, c1] <;> rfl
end
theorem pd_shaped {d : D} (h : pd 60 d = true) : SeqAt.shaped (toP d) = true := by
  obtain ⟨h1, h2⟩ := pd_lay h
  unfold SeqAt.shaped
  rw [h1, decide_eq_true (by omega)] <;> rfl
mutual
theorem pd_dp : ∀ {m : Nat} {d : D} {v : V}, pd m d = true → DV G W n H d v → Dp G.K H v (toP d)
  | m, .non, _, _, h => by rw [show _ = V.non from h]; exact .non
  | m, .bl b, _, _, h => by rw [show _ = V.bl b from h]; exact .bl b
  | m, .int b, _, _, h => by rw [show _ = V.int b from h]; exact .int b
  | m, .str b, _, _, h => by rw [show _ = V.str _ from h]; exact .str _
  | 0, .tup _, _, h, _ => by cases h
  | 0, .lst _, _, h, _ => by cases h
  | m + 1, .tup ds, _, h, hd => by
    obtain ⟨a, xs, rfl, h1, h2⟩ := hd
    exact .tup h1 (pds_dp (m := m) h h2)
  | m + 1, .lst ds, _, h, hd => by
    obtain ⟨a, xs, rfl, _, h1, h2⟩ := hd
    exact .lst (SqL.of h1) (pds_dp (m := m) h h2)
  | m, .frz _, _, h, _ => by cases m <;> cases h
  | m, .dct _ _, _, h, _ => by cases m <;> cases h
  | m, .ref _, _, h, _ => by cases m <;> cases h
  | m, .fn _, _, h, _ => by cases m <;> cases h
  | m, .met _ _, _, h, _ => by cases m <;> cases h
  | m, .exc _ _, _, h, _ => by cases m <;> cases h
theorem pds_dp : ∀ {m : Nat} {ds : List D} {xs : List V}, pds m ds = true → DVs G W n H ds xs → DpAll G.K H xs (toPs ds)
  | _, [], _, _, h => by rw [show _ = [] from h]; exact .nil
  | m, d :: ds, _, h, hd => by
    obtain ⟨y, ys, rfl, h1, h2⟩ := hd
    have q : (pd m d && pds m ds) = true := by cases m <;> exact h
    obtain ⟨a1, a2⟩ := Bool.and_eq_true_iff.mp q
    exact .cons (pd_dp a1 h1) (pds_dp a2 h2)
end
/-- seen through -/
theorem vw_dp {m : Nat} {d : D} {v : V} (r : RS G bd base W H st) (h : DV G W st.length H d v) (hp : pd m (vw st d) = true) : Dp G.K H v (toP (vw st d)) := by
  cases e : vw st d with
  | lst ds =>
    rw [e] at hp
    obtain ⟨a, xs, rfl, h1, h2⟩ := vw_lst r h e
    cases m with
    | zero => cases hp
    | succ m => exact .lst (SqL.of h1) (pds_dp (m := m) hp h2)
  | dct ks vs => rw [e] at hp; cases m <;> cases hp
  | _ =>
    have q := vw_id e (by intro _ z; cases z) (by intro _ _ z; cases z)
    rw [e] at hp
    subst q
    exact pd_dp hp h
/-- scalars are themselves -/
theorem sc_val {d : D} {v : V} (h : DV G W n H d v) (hs : sc d = true) : (d = .non ∧ v = .non) ∨ (∃ b, d = .bl b ∧ v = .bl b) ∨ (∃ i, d = .int i ∧ v = .int i) ∨ ∃ s, d = .str s ∧ v = .str ⟨s.toArray⟩ := by
  cases d with
  | non => exact .inl ⟨rfl, h⟩
  | bl b => exact .inr (.inl ⟨b, rfl, h⟩)
  | int i => exact .inr (.inr (.inl ⟨i, rfl, h⟩))
  | str s => exact .inr (.inr (.inr ⟨s, rfl, h⟩))
  | _ => cases hs
theorem vw_sc {d : D} (h : sc (vw st d) = true) : vw st d = d := by
  cases e : vw st d with
  | lst ds => rw [e] at h; cases h
  | dct ks vs => rw [e] at h; cases h
  | _ => exact (vw_id e (by intro _ z; cases z) (by intro _ _ z; cases z)).symm
theorem dec_str2 (a b : List Nat) : decide (V.str ⟨a.toArray⟩ = V.str ⟨b.toArray⟩) = (a == b) := by
  rw [dec_str, str_beq]
theorem sc2_ok {d e : D} {x y : V} (hd : DV G W n H d x) (he : DV G W n H e y) (h : sc2 d e = true) : scal x y = true ∧ decide (x = y) = eqv d e := by
  have h1 : sc d = true ∧ sc e = true := by
    unfold sc2 at h
    split at h
    · cases h
    · cases h
    · exact Bool.and_eq_true_iff.mp h
  rcases sc_val hd h1.1 with ⟨rfl, rfl⟩ | ⟨a, rfl, rfl⟩ | ⟨a, rfl, rfl⟩ | ⟨a, rfl, rfl⟩ <;> rcases sc_val he h1.2 with ⟨rfl, rfl⟩ | ⟨b, rfl, rfl⟩ | ⟨b, rfl, rfl⟩ | ⟨b, rfl, rfl⟩
  all_goals first | (cases h; done) | exact ⟨rfl, dec_bl⟩ | exact ⟨rfl, dec_int⟩ | exact ⟨rfl, dec_str2 _ _⟩ | exact ⟨rfl, by simp [eqv]⟩
theorem eqV_ok {d e : D} {x y : V} (hd : DV G W n H d x) (he : DV G W n H e y) (h1 : sc d = true) (h2 : sc e = true) : flatV x = true ∧ eqV x y = eqv d e := by
  rcases sc_val hd h1 with ⟨rfl, rfl⟩ | ⟨a, rfl, rfl⟩ | ⟨a, rfl, rfl⟩ | ⟨a, rfl, rfl⟩ <;> rcases sc_val he h2 with ⟨rfl, rfl⟩ | ⟨b, rfl, rfl⟩ | ⟨b, rfl, rfl⟩ | ⟨b, rfl, rfl⟩
  all_goals first | exact ⟨rfl, rfl⟩ | exact ⟨rfl, str_beq _ _⟩
theorem inV_ok {d : D} {x : V} (hd : DV G W n H d x) (h1 : sc d = true) : ∀ {ds : List D} {xs : List V}, DVs G W n H ds xs → ds.all sc = true → xs.all flatV = true ∧ inV x xs = ds.any fun y => eqv y d
  | [], _, h, _ => by rw [show _ = [] from h]; exact ⟨rfl, rfl⟩
  | e :: es, _, h, hs => by
    obtain ⟨y, ys, rfl, h2, h3⟩ := h
    rw [List.all_cons] at hs
    obtain ⟨a1, a2⟩ := Bool.and_eq_true_iff.mp hs
    obtain ⟨b1, b2⟩ := inV_ok hd h1 h3 a2
    obtain ⟨c1, c2⟩ := eqV_ok h2 hd a1 h1
    refine ⟨by rw [List.all_cons, c1, b1] <;> rfl, ?_⟩
    show (eqV y x || inV x ys) = (eqv e d || _)
    rw [c2, b2]
theorem anyP {d : D} {m k : Nat} (hd : pd m d = true) : ∀ {ds : List D}, pds k ds = true → ((toPs ds).any fun z => PyData.eqv z (toP d)) = ds.any fun y => eqv y d
  | [], _ => rfl
  | e :: es, h => by
    have h1 : (pd k e && pds k es) = true := by cases k <;> exact h
    obtain ⟨a1, a2⟩ := Bool.and_eq_true_iff.mp h1
    show (PyData.eqv (toP e) (toP d) || _) = (eqv e d || _)
    rw [eqv_P a1 hd, anyP hd a2]
/-! ### keys -/
theorem key_val {d : D} {v : V} {k : Ky} (h : DV G W n H d v) (e : keyOf d = some k) : v = kV (kyR k) := by
  cases d with
  | int i => cases e; exact h
  | str s => cases e; exact h
  | _ => cases e
theorem kyR_inj {j k : Ky} (h : kyR j = kyR k) : j = k := by
  cases j <;> cases k
  · cases h; rfl
  · cases h
  · cases h
  · have q := Sum.inr.inj (show (Sum.inr _ : Key) = Sum.inr _ from h)
    injection q with q
    congr 1
    simpa using q
theorem dGet_ok {k : Ky} : ∀ {ks : List Ky} {vs : List D} {kvs : List (Key × V)}, kvs.map (·.1) = ks.map kyR → DVs G W n H vs (kvs.map (·.2)) →
    (match dGet ks vs k with
      | some d => ∃ v, valV kvs (kyR k) = some v ∧ DV G W n H d v
      | none => valV kvs (kyR k) = none)
  | [], vs, kvs, h, _ => by
    have e : kvs = [] := by simpa using h
    subst e
    cases vs <;> exact valV_nil
  | j :: ks, [], kvs, h, h2 => by
    have e : kvs = [] := by simpa using (show kvs.map (·.2) = [] from h2)
    subst e
    cases h
  | j :: ks, d :: vs, [], h, _ => by cases h
  | j :: ks, d :: vs, p :: kvs, h, h2 => by
    obtain ⟨y, ys, e1, h3, h4⟩ := h2
    rw [List.map_cons, List.map_cons] at h
    injection h with h5 h6
    rw [List.map_cons] at e1
    injection e1 with e2 e3
    unfold dGet
    by_cases q : j = k
    · rw [if_pos q]
      exact ⟨p.2, valV_pos (by rw [h5, q]), by rw [e2]; exact h3⟩
    · rw [if_neg q]
      have z := dGet_ok (k := k) h6 (by rw [e3]; exact h4)
      have ne : ¬ p.1 = kyR k := fun z => q (kyR_inj (h5.symm.trans z))
      rw [valV_neg ne]
      exact z
theorem hasK_ok {k : Ky} : ∀ {ks : List Ky} {kvs : List (Key × V)}, kvs.map (·.1) = ks.map kyR → (valV kvs (kyR k)).isSome = hasK ks k
  | [], kvs, h => by
    have e : kvs = [] := by simpa using h
    subst e; rfl
  | j :: ks, [], h => by cases h
  | j :: ks, p :: kvs, h => by
    rw [List.map_cons, List.map_cons] at h
    injection h with h5 h6
    show _ = (decide (j = k) || hasK ks k)
    by_cases q : j = k
    · rw [valV_pos (by rw [h5, q]), decide_eq_true q]; rfl
    · have ne : ¬ p.1 = kyR k := fun z => q (kyR_inj (h5.symm.trans z))
      rw [valV_neg ne, decide_eq_false q, hasK_ok h6]; rfl
theorem putVs_ok {k : Ky} {d : D} {v : V} (hd : DV G W n H d v) : ∀ {ks : List Ky} {vs : List D} {kvs : List (Key × V)}, kvs.map (·.1) = ks.map kyR → DVs G W n H vs (kvs.map (·.2)) →
    (kvs.map (fun kv => if kv.1 = kyR k then (kv.1, v) else kv)).map (·.1) = ks.map kyR ∧ DVs G W n H (putVs ks vs k d) ((kvs.map (fun kv => if kv.1 = kyR k then (kv.1, v) else kv)).map (·.2))
  | [], vs, kvs, h, _ => by
    have e : kvs = [] := by simpa using h
    subst e
    cases vs <;> exact ⟨rfl, rfl⟩
  | j :: ks, [], kvs, h, h2 => by
    have e : kvs = [] := by simpa using (show kvs.map (·.2) = [] from h2)
    subst e
    cases h
  | j :: ks, e :: vs, [], h, _ => by cases h
  | j :: ks, e :: vs, p :: kvs, h, h2 => by
    obtain ⟨y, ys, e1, h3, h4⟩ := h2
    rw [List.map_cons, List.map_cons] at h
    injection h with h5 h6
    rw [List.map_cons] at e1
    injection e1 with e2 e3
    obtain ⟨z1, z2⟩ := putVs_ok hd h6 (by rw [e3]; exact h4)
    by_cases q : j = k
    · have q' : p.1 = kyR k := by rw [h5, q]
      refine ⟨?_, _, _, rfl, ?_, z2⟩
      · rw [List.map_cons, List.map_cons, List.map_cons, z1, if_pos q', h5]
      · show DV G W n H (if j = k then d else e) _
        dsimp only
        rw [if_pos q, if_pos q']; exact hd
    · have ne : ¬ p.1 = kyR k := fun z => q (kyR_inj (h5.symm.trans z))
      refine ⟨?_, _, _, rfl, ?_, z2⟩
      · rw [List.map_cons, List.map_cons, List.map_cons, z1, if_neg ne, h5]
      · show DV G W n H (if j = k then d else e) _
        dsimp only
        rw [if_neg q, if_neg ne, e2]; exact h3
theorem anyK_ok {k : Ky} {ks : List Ky} {kvs : List (Key × V)} (h : kvs.map (·.1) = ks.map kyR) : (kvs.any fun kv => decide (kv.1 = kyR k)) = hasK ks k := by
  rw [valV_any, hasK_ok h]
theorem dPut_ok {k : Ky} {d : D} {v : V} {ks : List Ky} {vs : List D} {kvs : List (Key × V)} (hd : DV G W n H d v) (h : kvs.map (·.1) = ks.map kyR) (h2 : DVs G W n H vs (kvs.map (·.2))) :
    (putK kvs (kyR k) v).map (·.1) = (dPut ks vs k d).1.map kyR ∧ DVs G W n H (dPut ks vs k d).2 ((putK kvs (kyR k) v).map (·.2)) := by
  unfold putK dPut
  rw [anyK_ok h]
  cases e : hasK ks k with
  | true => exact putVs_ok hd h h2
  | false =>
    refine ⟨?_, ?_⟩
    · show (kvs ++ [(kyR k, v)]).map (·.1) = (ks ++ [k]).map kyR
      rw [List.map_append, List.map_append, h]; rfl
    · show DVs G W n H (vs ++ [d]) ((kvs ++ [(kyR k, v)]).map (·.2))
      rw [List.map_append]
      exact DVs.app h2 ⟨v, [], rfl, hd, rfl⟩
/-! ### comparisons -/
def cmR : Cm → CmpOp
  | .eq => .Eq | .ne => .NotEq | .lt => .Lt | .le => .LtE | .gt => .Gt | .ge => .GtE | .isIn => .In | .notIn => .NotIn | .isN => .Is | .notN => .IsNot
theorem bl_end {k : Bool} {Q : VK} (r : RS G bd base W H st) (h : Ans (DV G) G bd base Wx σ W H st (.ok (.bl k) st) Q) : Q (.bl k) H := h.here r rfl
def rCmp (G : Gx) (Wx : WX) (op : Cm) : R2 := rBin G Wx fun x y st => (opt (cmpD op x y) st).bind fun k st => .ok (.bl k) st
theorem eq_ok {X : Cx} (hK : X.K = G.K) (hu : X.A.units + 64 < cLine) (neg : Bool) {pins : List (Addr × Obj)} {s : Shared} {σ' : L2.St} {x y : V} {v u : Value} {Q : VK} {d e : D} {k : Bool} (I : Inv X pins σ' H s) (rx : RelV x v) (ry : RelV y u)
    (r : RS G bd base W H st) (hd : DV G W st.length H d x) (he : DV G W st.length H e y) (hk : eqD (vw st d) (vw st e) = some k) (hq : Q (.bl (if neg then !k else k)) H) :
    wpAny (model X.prog X.w) X.A (compareOp (if neg then .NotEq else .Eq) v u) (EP X pins σ' Q) X.xe s := by
  unfold eqD at hk
  split at hk
  · rename_i h2
    cases hk
    have hs : sc (vw st d) = true ∧ sc (vw st e) = true := by
      unfold sc2 at h2
      split at h2
      · cases h2
      · cases h2
      · exact Bool.and_eq_true_iff.mp h2
    have e1 := vw_sc hs.1
    have e2 := vw_sc hs.2
    rw [e1, e2] at h2 hq
    obtain ⟨z1, z2⟩ := sc2_ok hd he h2
    cases neg with
    | true => exact op_ne pins s σ' H x y v u Q I rx ry ⟨z1, by rw [z2]; exact hq⟩
    | false => exact op_eq pins s σ' H x y v u Q I rx ry ⟨z1, by rw [z2]; exact hq⟩
  · split at hk
    · rename_i h2
      cases hk
      obtain ⟨p1, p2⟩ := Bool.and_eq_true_iff.mp h2
      have q1 := vw_dp r hd p1
      have q2 := vw_dp r he p2
      rw [← hK] at q1 q2
      cases neg with
      | true => exact op_neD hu pins s σ' H x y v u Q I rx ry ⟨_, _, q1, q2, pd_shaped p1, pd_shaped p2, by rw [eqv_P p1 p2]; exact hq⟩
      | false => exact op_eqD hu pins s σ' H x y v u Q I rx ry ⟨_, _, q1, q2, pd_shaped p1, pd_shaped p2, by rw [eqv_P p1 p2]; exact hq⟩
    · cases hk

/-- x in y -/
theorem in_ok {X : Cx} (hK : X.K = G.K) (hu : X.A.units + 65 < cLine) (neg : Bool) {pins : List (Addr × Obj)} {s : Shared} {σ' : L2.St} {x y : V} {v u : Value} {Q : VK} {d e : D} {k : Bool} (I : Inv X pins σ' H s) (rx : RelV x v) (ry : RelV y u)
    (r : RS G bd base W H st) (hd : DV G W st.length H d x) (he : DV G W st.length H e y) (hk : inD (vw st d) (vw st e) = some k) (hq : Q (.bl (if neg then !k else k)) H) :
    wpAny (model X.prog X.w) X.A (compareOp (if neg then .NotIn else .In) v u) (EP X pins σ' Q) X.xe s := by
  have inseq : ∀ {ds : List D} {p : Addr} {xs : List V}, y = .ref p → (SqL X.K H p xs ∨ SqT X.K H p xs) → DVs G W st.length H ds xs → (sc (vw st d) && ds.all sc) = true → k = (ds.any fun y => eqv y (vw st d)) →
      wpAny (model X.prog X.w) X.A (compareOp (if neg then .NotIn else .In) v u) (EP X pins σ' Q) X.xe s := fun {ds p xs} ey hs hds h2 ek => by
    obtain ⟨a1, a2⟩ := Bool.and_eq_true_iff.mp h2
    have e1 := vw_sc a1
    rw [e1] at a1 ek
    obtain ⟨b1, b2⟩ := inV_ok hd a1 hds a2
    have fx : flatV x = true := (eqV_ok hd hd a1 a1).1
    cases neg with
    | true => exact op_notIn_seq pins s σ' H x y v u Q I rx ry ⟨p, xs, ey, hs, fx, b1, by rw [b2, ← ek]; exact hq⟩
    | false => exact op_in_seq pins s σ' H x y v u Q I rx ry ⟨p, xs, ey, hs, fx, b1, by rw [b2, ← ek]; exact hq⟩
  cases ee : vw st e with
  | str z =>
    rw [ee] at hk
    unfold inD at hk
    have ey := vw_str he ee
    cases ed : vw st d with
    | str w =>
      rw [ed] at hk
      have ex := vw_str hd ed
      cases w with
      | nil => cases hk
      | cons c w =>
        cases w with
        | nil =>
          cases hk
          have q : (c ∈ (⟨z.toArray⟩ : Str).cps.toList) ↔ c ∈ z := by simp
          cases neg with
          | true =>
            refine op_notIn_sign pins s σ' H x y v u Q I rx ry ⟨c, ⟨z.toArray⟩, ex, ey, ?_⟩
            rw [decide_eq_decide.mpr q]; exact hq
          | false =>
            refine op_in_sign pins s σ' H x y v u Q I rx ry ⟨c, ⟨z.toArray⟩, ex, ey, ?_⟩
            rw [decide_eq_decide.mpr q]; exact hq
        | cons _ _ => cases hk
    | _ => rw [ed] at hk; cases hk
  | tup ds =>
    rw [ee] at hk
    have hk' : (if (sc (vw st d) && ds.all sc) = true then some (ds.any fun y => eqv y (vw st d)) else none) = some k := hk
    obtain ⟨p, xs, ey, h1, h2⟩ := vw_tup he ee
    split at hk'
    · rename_i h3
      exact inseq ey (.inr (by rw [hK]; exact h1)) h2 h3 (Option.some.inj hk').symm
    · cases hk'
  | lst ds =>
    rw [ee] at hk
    have hk' : (if (sc (vw st d) && ds.all sc) = true then some (ds.any fun y => eqv y (vw st d)) else if (pd 60 (vw st d) && pds 60 ds) = true then some (ds.any fun y => eqv y (vw st d)) else none) = some k := hk
    obtain ⟨p, xs, ey, h1, h2⟩ := vw_lst r he ee
    split at hk'
    · rename_i h3
      exact inseq ey (.inl (SqL.of h1)) h2 h3 (Option.some.inj hk').symm
    · split at hk'
      · rename_i h3
        obtain ⟨p1, p2⟩ := Bool.and_eq_true_iff.mp h3
        have q1 := vw_dp r hd p1
        rw [← hK] at q1
        have q2 : Dp X.K H y (.list (toPs ds)) := by
          rw [ey]
          refine .lst (SqL.of h1) ?_
          rw [hK]
          exact pds_dp p2 h2
        have sh : SeqAt.shaped (.list (toPs ds)) = true := by
          obtain ⟨a1, a2⟩ := pds_lay p2
          have : PyData.canLay0 (.list (toPs ds)) = true := a1
          unfold SeqAt.shaped
          rw [this, decide_eq_true (show (PyData.list (toPs ds)).depth ≤ 64 from by show PyData.depthAll (toPs ds) + 1 ≤ 64; omega)] <;> rfl
        have ek := (Option.some.inj hk').symm
        cases neg with
        | true => exact op_notInD hu pins s σ' H x y v u Q I rx ry ⟨_, _, q1, q2, pd_shaped p1, sh, by rw [anyP p1 p2, ← ek]; exact hq⟩
        | false => exact op_inD hu pins s σ' H x y v u Q I rx ry ⟨_, _, q1, q2, pd_shaped p1, sh, by rw [anyP p1 p2, ← ek]; exact hq⟩
      · cases hk'
  | dct ks vs =>
    rw [ee] at hk
    obtain ⟨p, kvs, ey, h1, h2, h3⟩ := vw_dct r he ee
    have hk' : (keyOf (vw st d)).map (fun k => hasK ks k) = some k := hk
    cases ek : keyOf (vw st d) with
    | none => rw [ek] at hk'; cases hk'
    | some j =>
      rw [ek] at hk'
      have ej : hasK ks j = k := Option.some.inj hk'
      have sd : sc (vw st d) = true := by
        cases ev : vw st d <;> rw [ev] at ek <;> first | rfl | cases ek
      rw [vw_sc sd] at ek
      have ex := key_val hd ek
      subst ey
      obtain rfl : u = Value.ref p := ry
      have g : DGet H p x (valV kvs (kyR j)) := .inl ⟨kvs, kyR j, h1, ex, rfl⟩
      cases neg with
      | true => exact d_notIn (by omega) I g rx fun s3 I3 => ⟨.bl (!(valV kvs (kyR j)).isSome), H, I3, rfl, by rw [hasK_ok h2, ej]; exact hq⟩
      | false => exact d_in (by omega) I g rx fun s3 I3 => ⟨.bl (valV kvs (kyR j)).isSome, H, I3, rfl, by rw [hasK_ok h2, ej]; exact hq⟩
  | _ => rw [ee] at hk; cases hk
theorem cmp_ok {X : Cx} (hK : X.K = G.K) (hu : X.A.units + 65 < cLine) (op : Cm) : OpR X (compareOp (cmR op)) (rCmp G Wx op) := by
  intro pins s σ' H x y v u Q I rx ry h
  obtain ⟨bd, base, σ, W, st, d, e, r, hd, he, h⟩ := h
  obtain ⟨k, hk, h⟩ := Ans.opt h
  have hq := bl_end r h
  have hx : ∀ i, vw st d = .int i → x = .int i := fun i z => vw_int hd z
  have hy : ∀ i, vw st e = .int i → y = .int i := fun i z => vw_int he z
  have isN : vw st e = .non → y = .non ∧ decide (x = .non) = isNon (vw st d) := fun z => by
    have e1 := vw_id z (by intro _ z; cases z) (by intro _ _ z; cases z)
    rw [e1] at he
    refine And.intro he ?_
    cases ed : vw st d with
    | non =>
      have e2 := vw_id ed (by intro _ z; cases z) (by intro _ _ z; cases z)
      rw [e2] at hd
      exact decide_eq_true hd
    | lst ds =>
      obtain ⟨a, xs, ex, _⟩ := vw_lst r hd ed
      rw [ex]; rfl
    | dct ks vs =>
      obtain ⟨a, xs, ex, _⟩ := vw_dct r hd ed
      rw [ex]; rfl
    | bl b =>
      have e2 := vw_id ed (by intro _ z; cases z) (by intro _ _ z; cases z)
      rw [e2] at hd
      rw [show x = V.bl b from hd]; rfl
    | int b => rw [vw_int hd ed]; rfl
    | str b => rw [vw_str hd ed]; rfl
    | tup b => obtain ⟨a, xs, ex, _⟩ := vw_tup hd ed; rw [ex]; rfl
    | frz b => obtain ⟨a, xs, ex, _⟩ := vw_frz hd ed; rw [ex]; rfl
    | ref b =>
      have e2 := vw_id ed (by intro _ z; cases z) (by intro _ _ z; cases z)
      rw [e2] at hd
      rw [hd.1]; rfl
    | fn b =>
      have e2 := vw_id ed (by intro _ z; cases z) (by intro _ _ z; cases z)
      rw [e2] at hd
      rw [show x = V.ref _ from hd]; rfl
    | met b c =>
      have e2 := vw_id ed (by intro _ z; cases z) (by intro _ _ z; cases z)
      rw [e2] at hd
      obtain ⟨p, ex, _⟩ := hd
      rw [ex]; rfl
    | exc b c =>
      have e2 := vw_id ed (by intro _ z; cases z) (by intro _ _ z; cases z)
      rw [e2] at hd
      exact hd.elim
  cases op with
  | eq => exact eq_ok hK (by omega) false I rx ry r hd he hk hq
  | ne =>
    have hk' : (eqD (vw st d) (vw st e)).map (!·) = some k := hk
    cases q : eqD (vw st d) (vw st e) with
    | none => rw [q] at hk'; cases hk'
    | some b =>
      rw [q] at hk'
      have eb : (!b) = k := Option.some.inj hk'
      exact eq_ok hK (by omega) true I rx ry r hd he q (by rw [← eb] at hq; exact hq)
  | isIn => exact in_ok hK hu false I rx ry r hd he hk hq
  | notIn =>
    have hk' : (inD (vw st d) (vw st e)).map (!·) = some k := hk
    cases q : inD (vw st d) (vw st e) with
    | none => rw [q] at hk'; cases hk'
    | some b =>
      rw [q] at hk'
      have eb : (!b) = k := Option.some.inj hk'
      exact in_ok hK hu true I rx ry r hd he q (by rw [← eb] at hq; exact hq)
  | isN =>
    cases ee : vw st e with
    | non =>
      obtain ⟨e1, e2⟩ := isN ee
      have hk' : some (isNon (vw st d)) = some k := by rw [ee] at hk; exact hk
      refine op_isN pins s σ' H x y v u Q I rx ry ⟨e1, ?_⟩
      rw [e2, Option.some.inj hk']; exact hq
    | _ => rw [ee] at hk; cases hk
  | notN =>
    cases ee : vw st e with
    | non =>
      obtain ⟨e1, e2⟩ := isN ee
      have hk' : some (!isNon (vw st d)) = some k := by rw [ee] at hk; exact hk
      refine op_notN pins s σ' H x y v u Q I rx ry ⟨e1, ?_⟩
      rw [e2, Option.some.inj hk']; exact hq
    | _ => rw [ee] at hk; cases hk
  | lt =>
    cases ed : vw st d with
    | int i => cases ee : vw st e with
      | int j =>
        rw [ed, ee] at hk
        cases hk
        exact op_lt pins s σ' H x y v u Q I rx ry ⟨i, j, hx _ ed, hy _ ee, hq⟩
      | _ => rw [ed, ee] at hk; cases hk
    | _ => rw [ed] at hk; cases hk
  | le =>
    cases ed : vw st d with
    | int i => cases ee : vw st e with
      | int j =>
        rw [ed, ee] at hk
        cases hk
        exact op_le pins s σ' H x y v u Q I rx ry ⟨i, j, hx _ ed, hy _ ee, hq⟩
      | _ => rw [ed, ee] at hk; cases hk
    | _ => rw [ed] at hk; cases hk
  | gt =>
    cases ed : vw st d with
    | int i => cases ee : vw st e with
      | int j =>
        rw [ed, ee] at hk
        cases hk
        exact op_gt pins s σ' H x y v u Q I rx ry ⟨i, j, hx _ ed, hy _ ee, hq⟩
      | _ => rw [ed, ee] at hk; cases hk
    | _ => rw [ed] at hk; cases hk
  | ge =>
    cases ed : vw st d with
    | int i => cases ee : vw st e with
      | int j =>
        rw [ed, ee] at hk
        cases hk
        exact op_ge pins s σ' H x y v u Q I rx ry ⟨i, j, hx _ ed, hy _ ee, hq⟩
      | _ => rw [ed, ee] at hk; cases hk
    | _ => rw [ed] at hk; cases hk
end
end Rf

/-! Places, slices, built-in functions. -/
namespace Rf
open PySem PySem.Spec PyProof.Rows L2
section
variable {G : Gx} {bd : Nat → Nat} {base : Nat} {Wx : WX} {σ : L2.St} {W W' W1 W2 : Wd} {H H' H1 H2 : Hp} {st st' st1 st2 : Sto} {n n' : Nat}
theorem ixN_eq (n : Nat) (i : Int) : L2.ixN n i = Rf.ixN n i := rfl
theorem atI_ok {ds : List D} {xs : List V} {i : Int} {d : D} (h : DVs G W n H ds xs) (e : Rf.atI ds i = some d) : ∃ v, L2.atI xs i = some v ∧ DV G W n H d v := by
  unfold Rf.atI at e
  unfold L2.atI
  rw [h.len, ixN_eq]
  cases q : Rf.ixN ds.length i with
  | none => rw [q] at e; cases e
  | some j =>
    rw [q] at e
    exact h.get (show ds[j]? = some d from e)
theorem atI_nat' {s : List Nat} {i : Int} {c : Nat} (e : Rf.atI s i = some c) : L2.atI s i = some c := e
def rSub (G : Gx) (Wx : WX) : R2 := rBin G Wx fun x y st => opt (subD x y) st
theorem opt_end {o : Option D} {Q : VK} (h : Ans (DV G) G bd base Wx σ W H st (opt o st) Q) : ∃ d, o = some d ∧ Ans (DV G) G bd base Wx σ W H st (.ok d st) Q := by
  cases o with
  | some d => exact ⟨d, rfl, h⟩
  | none => exact h.elim
theorem sub_ok {X : Cx} (hK : X.K = G.K) (hu : X.A.units + 1 < cLine) : IxR X (rSub G Wx) := by
  intro value slice pins s σ' H x y v u Q I rx ry h hs
  obtain ⟨bd, base, σ, W, st, d, e, r, hd, he, h⟩ := h
  obtain ⟨z, hz, h⟩ := opt_end h
  cases ed : vw st d with
  | lst ds =>
    obtain ⟨p, xs, ex, h1, h2⟩ := vw_lst r hd ed
    cases ee : vw st e with
    | int i =>
      rw [ed, ee] at hz
      obtain ⟨w, hw, dw⟩ := atI_ok h2 hz
      exact ix_list value slice pins s σ' H x y v u Q I rx ry ⟨p, xs, i, w, ex, vw_int he ee, SqL.of h1, hw, h.here r dw⟩ hs
    | _ => rw [ed, ee] at hz; cases hz
  | tup ds =>
    obtain ⟨p, xs, ex, h1, h2⟩ := vw_tup hd ed
    cases ee : vw st e with
    | int i =>
      rw [ed, ee] at hz
      obtain ⟨w, hw, dw⟩ := atI_ok h2 hz
      exact ix_tup value slice pins s σ' H x y v u Q I rx ry ⟨p, xs, i, w, ex, vw_int he ee, by rw [hK]; exact h1, hw, h.here r dw⟩ hs
    | _ => rw [ed, ee] at hz; cases hz
  | frz ds =>
    obtain ⟨p, xs, ex, h1, h2⟩ := vw_frz hd ed
    cases ee : vw st e with
    | int i =>
      rw [ed, ee] at hz
      obtain ⟨w, hw, dw⟩ := atI_ok h2 hz
      exact ix_list value slice pins s σ' H x y v u Q I rx ry ⟨p, xs, i, w, ex, vw_int he ee, by rw [hK]; exact h1, hw, h.here r dw⟩ hs
    | _ => rw [ed, ee] at hz; cases hz
  | str t =>
    cases ee : vw st e with
    | int i =>
      rw [ed, ee] at hz
      have hz' : (if t.length ≤ SL then (Rf.atI t i).map fun c => D.str [c] else none) = some z := hz
      split at hz'
      · rename_i hl
        cases q : Rf.atI t i with
        | none => rw [q] at hz'; cases hz'
        | some c =>
          rw [q] at hz'
          have ez : D.str [c] = z := Option.some.inj hz'
          subst ez
          exact ix_str value slice pins s σ' H x y v u Q I rx ry ⟨⟨t.toArray⟩, i, c, vw_str hd ed, vw_int he ee, by rw [str_len, ← SL_eq]; exact hl, by show L2.atI t.toArray.toList i = some c; rw [List.toList_toArray]; exact q, h.here r rfl⟩ hs
      · cases hz'
    | _ => rw [ed, ee] at hz; cases hz
  | dct ks vs =>
    obtain ⟨p, kvs, ex, h1, h2, h3⟩ := vw_dct r hd ed
    rw [ed] at hz
    have hz' : (keyOf (vw st e)).bind (fun k => dGet ks vs k) = some z := hz
    cases ek : keyOf (vw st e) with
    | none => rw [ek] at hz'; cases hz'
    | some k =>
      rw [ek] at hz'
      have hg : dGet ks vs k = some z := hz'
      have sd : sc (vw st e) = true := by
        cases ev : vw st e <;> rw [ev] at ek <;> first | rfl | cases ek
      rw [vw_sc sd] at ek
      have ey := key_val he ek
      have q := dGet_ok (k := k) h2 h3
      rw [hg] at q
      obtain ⟨w, hw, dw⟩ := q
      subst ex
      obtain rfl : v = Value.ref p := rx
      have g : DGet H p y (some w) := .inl ⟨kvs, kyR k, h1, ey, hw.symm⟩
      exact PyProof.Rows.tail_any (dict_typeIs I g) PySem.F.slot_dict_getitem.lookup (d_getItem hu I g ry fun w' s3 I3 rw' => ⟨w, H, I3, rw', h.here r dw⟩) hs
  | _ => rw [ed] at hz; cases hz
/-! ### slices -/
theorem sIx_eq (n d : Nat) (o : Option Int) : HT.sIx n d o = Rf.sIx n d o := by
  cases o with
  | none => rfl
  | some v =>
    show (if v < 0 then (v + (n : Int)).toNat else min v.toNat n) = if 0 ≤ v then min v.toNat n else (v + n).toNat
    by_cases h : v < 0
    · rw [if_pos h, if_neg (by omega)]
    · rw [if_neg h, if_pos (by omega)]
theorem cut_ok {ds : List D} {xs : List V} {lo hi : Option Int} (h : DVs G W n H ds xs) : DVs G W n H (cutL ds lo hi) (cutV xs lo hi) := by
  unfold cutL cutV
  rw [sIx_eq, sIx_eq, h.len]
  exact (h.drop _).take _
def rSlc (G : Gx) (Wx : WX) (bx : Bool) : V → Option Int → Option Int → Hp → VK → Prop := fun x lo hi H Q => ∃ bd base σ W st d, RS G bd base W H st ∧ DV G W st.length H d x ∧ Ans (DV G) G bd base Wx σ W H st (slcR bx (vw st d) lo hi st) Q
theorem slc_ok {X : Cx} (hK : X.K = G.K) (bx : Bool) : SlR X (rSlc G Wx bx) := by
  intro pins s σ' H x v vl vu lo hi sl Q I rx hs pl pu h
  obtain ⟨bd, base, σ, W, st, d, r, hd, h⟩ := h
  cases ed : vw st d with
  | lst ds =>
    rw [ed] at h
    obtain ⟨p, xs, ex, h1, h2⟩ := vw_lst r hd ed
    exact sl_list pins s σ' H x v vl vu lo hi sl Q I rx hs pl pu ⟨p, xs, ex, SqL.of h1, (ans_lst r (cut_ok h2) h).2⟩
  | frz ds =>
    rw [ed] at h
    obtain ⟨p, xs, ex, h1, h2⟩ := vw_frz hd ed
    exact sl_list pins s σ' H x v vl vu lo hi sl Q I rx hs pl pu ⟨p, xs, ex, by rw [hK]; exact h1, (ans_lst r (cut_ok h2) h).2⟩
  | tup ds =>
    rw [ed] at h
    obtain ⟨p, xs, ex, h1, h2⟩ := vw_tup hd ed
    have h' : Ans (DV G) G bd base Wx σ W H st (.ok (.tup (cutL ds lo hi)) st) Q := h
    refine sl_tupA pins s σ' H x v vl vu lo hi sl Q I rx hs pl pu ⟨p, xs, ex, by rw [hK]; exact h1, fun z => ?_, fun _ q hq => ?_⟩
    · refine h'.here r ⟨p, xs, rfl, h1, ?_⟩
      have z2 := cut_ok (lo := lo) (hi := hi) h2
      unfold cutV at z2
      rw [z.1, z.2] at z2
      simpa using z2
    · obtain ⟨e, r'⟩ := alloc_any r hq (.tup (cutV xs lo hi))
      exact h' _ _ _ ⟨e, r'⟩ ⟨q, _, rfl, SqT.of upd_same, DVs.keep e r (Nat.le_refl _) (Nat.le_refl _) (cut_ok h2)⟩
  | str t =>
    rw [ed] at h
    have h' : Ans (DV G) G bd base Wx σ W H st (if t.length ≤ SL then .ok (.str (cutL t lo hi)) st else .bad) Q := h
    split at h'
    · rename_i hl
      refine sl_str pins s σ' H x v vl vu lo hi sl Q I rx hs pl pu ⟨⟨t.toArray⟩, vw_str hd ed, by rw [str_len, ← SL_eq]; exact hl, ?_⟩
      have e : cutS ⟨t.toArray⟩ lo hi = ⟨(cutL t lo hi).toArray⟩ := by
        unfold cutS cutL
        rw [str_len, sIx_eq, sIx_eq]
      rw [e]
      exact h'.here r rfl
    · exact h'.elim
  | _ => rw [ed] at h; exact h.elim
/-! ### built-in functions -/
def rBi (G : Gx) (Wx : WX) (b : Bi) (bx : Bool) : List V → Hp → VK → Prop := fun xs H Q => ∃ bd base σ W st ds, RS G bd base W H st ∧ DVs G W st.length H ds xs ∧ Ans (DV G) G bd base Wx σ W H st (biR b bx (ds.map (vw st)) st) Q
theorem DVs.one {ds : List D} {xs : List V} {f : D → D} {d' : D} (h : DVs G W n H ds xs) (e : ds.map f = [d']) : ∃ d v, ds = [d] ∧ xs = [v] ∧ f d = d' ∧ DV G W n H d v := by
  cases ds with
  | nil => cases e
  | cons d ds => cases ds with
    | nil =>
      obtain ⟨y, ys, rfl, h1, h2⟩ := h
      rw [show ys = [] from h2]
      rw [List.map_cons] at e
      injection e with e1 _
      exact ⟨d, y, rfl, rfl, e1, h1⟩
    | cons _ _ => cases e
theorem DVs.two {ds : List D} {xs : List V} {f : D → D} {d' e' : D} (h : DVs G W n H ds xs) (e : ds.map f = [d', e']) : ∃ d v d2 v2, ds = [d, d2] ∧ xs = [v, v2] ∧ f d = d' ∧ f d2 = e' ∧ DV G W n H d v ∧ DV G W n H d2 v2 := by
  cases ds with
  | nil => cases e
  | cons d ds =>
    rw [List.map_cons] at e
    injection e with e1 e2
    obtain ⟨y, ys, rfl, h1, h2⟩ := h
    obtain ⟨d2, v2, rfl, rfl, e3, h3⟩ := h2.one e2
    exact ⟨d, y, d2, v2, rfl, rfl, e1, e3, h1, h3⟩
theorem intsOf_ok : ∀ {ds : List D} {xs : List V} {ns : List Int}, DVs G W n H ds xs → intsOf ds = some ns → xs = ns.map V.int
  | [], _, _, h, e => by cases e; exact h
  | d :: ds, _, ns, h, e => by
    obtain ⟨y, ys, rfl, h1, h2⟩ := h
    cases d with
    | int i =>
      have e' : (intsOf ds).map (i :: ·) = some ns := e
      cases q : intsOf ds with
      | none => rw [q] at e'; cases e'
      | some ms =>
        rw [q] at e'
        cases e'
        rw [intsOf_ok h2 q, show y = V.int i from h1]; rfl
    | _ => cases e
theorem boolsOf_ok : ∀ {ds : List D} {xs : List V} {ns : List Bool}, DVs G W n H ds xs → boolsOf ds = some ns → xs = ns.map V.bl
  | [], _, _, h, e => by cases e; exact h
  | d :: ds, _, ns, h, e => by
    obtain ⟨y, ys, rfl, h1, h2⟩ := h
    cases d with
    | bl i =>
      have e' : (boolsOf ds).map (i :: ·) = some ns := e
      cases q : boolsOf ds with
      | none => rw [q] at e'; cases e'
      | some ms =>
        rw [q] at e'
        cases e'
        rw [boolsOf_ok h2 q, show y = V.bl i from h1]; rfl
    | _ => cases e
theorem keyInts_ok : ∀ {ks : List Ky} {ns : List Int}, keyInts ks = some ns → ks.map kyR = ns.map fun i => (Sum.inl i : Key)
  | [], _, e => by cases e; rfl
  | .inl i :: ks, ns, e => by
    have e' : (keyInts ks).map (i :: ·) = some ns := e
    cases q : keyInts ks with
    | none => rw [q] at e'; cases e'
    | some ms =>
      rw [q] at e'
      cases e'
      rw [List.map_cons, List.map_cons, keyInts_ok q]; rfl
  | .inr i :: ks, ns, e => by cases e
theorem fold_max : ∀ (xs : List Int) (x : Int), (xs.foldl max x = x ∨ xs.foldl max x ∈ xs) ∧ x ≤ xs.foldl max x ∧ ∀ y, y ∈ xs → y ≤ xs.foldl max x
  | [], x => ⟨.inl rfl, Int.le_refl _, fun y hy => by cases hy⟩
  | a :: r, x => by
    obtain ⟨h1, h2, h3⟩ := fold_max r (max x a)
    rw [List.foldl_cons]
    refine ⟨?_, by omega, fun y hy => ?_⟩
    · rcases h1 with h1 | h1
      · rw [h1]
        by_cases q : x ≤ a
        · exact .inr (by rw [Int.max_eq_right q]; exact List.mem_cons_self)
        · exact .inl (Int.max_eq_left (by omega))
      · exact .inr (List.mem_cons_of_mem _ h1)
    · rcases List.mem_cons.mp hy with rfl | hy
      · omega
      · exact h3 y hy
theorem maxL_ok {ns : List Int} {m : Int} (e : maxL ns = some m) : m ∈ ns ∧ ∀ y, y ∈ ns → y ≤ m := by
  cases ns with
  | nil => cases e
  | cons x xs =>
    have e' : xs.foldl max x = m := Option.some.inj e
    obtain ⟨h1, h2, h3⟩ := fold_max xs x
    rw [e'] at h1 h2 h3
    refine ⟨?_, fun y hy => ?_⟩
    · rcases h1 with h1 | h1
      · rw [h1]; exact List.mem_cons_self
      · exact List.mem_cons_of_mem _ h1
    · rcases List.mem_cons.mp hy with rfl | hy
      · exact h2
      · exact h3 y hy
theorem max_uniq {ns : List Int} {m m' : Int} (h1 : m ∈ ns) (h2 : ∀ y, y ∈ ns → y ≤ m) (h3 : m' ∈ ns) (h4 : ∀ y, y ∈ ns → y ≤ m') : m = m' := by
  have := h2 _ h3
  have := h4 _ h1
  omega

theorem insI_perm (x : Int) : ∀ ys : List Int, (insI x ys).Perm (x :: ys)
  | [] => .refl _
  | y :: ys => by
    unfold insI
    split
    · exact .refl _
    · exact ((insI_perm x ys).cons y).trans (.swap x y ys)
theorem sortI_perm : ∀ xs : List Int, (sortI xs).Perm xs
  | [] => .refl _
  | x :: xs => (insI_perm x _).trans ((sortI_perm xs).cons x)
theorem insI_sorted (x : Int) : ∀ {ys : List Int}, ys.Pairwise (· ≤ ·) → (insI x ys).Pairwise (· ≤ ·)
  | [], _ => .cons (fun _ h => by cases h) .nil
  | y :: ys, h => by
    unfold insI
    obtain ⟨h1, h2⟩ := List.pairwise_cons.mp h
    split
    · rename_i q
      exact .cons (fun z hz => by
        rcases List.mem_cons.mp hz with rfl | hz
        · exact q
        · have := h1 z hz; omega) h
    · rename_i q
      refine .cons (fun z hz => ?_) (insI_sorted x h2)
      rcases List.mem_cons.mp ((insI_perm x ys).mem_iff.mp hz) with rfl | hz
      · omega
      · exact h1 z hz
theorem sortI_sorted : ∀ xs : List Int, (sortI xs).Pairwise (· ≤ ·)
  | [] => .nil
  | x :: xs => insI_sorted x (sortI_sorted xs)
theorem sort_uniq : ∀ {xs ys : List Int}, xs.Perm ys → xs.Pairwise (· ≤ ·) → ys.Pairwise (· ≤ ·) → xs = ys
  | [], ys, p, _, _ => (List.nil_perm.mp p).symm
  | x :: xs, [], p, _, _ => absurd (List.perm_nil.mp p) (by simp)
  | x :: xs, y :: ys, p, h, g => by
    obtain ⟨h1, h2⟩ := List.pairwise_cons.mp h
    obtain ⟨g1, g2⟩ := List.pairwise_cons.mp g
    have e : x = y := by
      have m1 : x ∈ y :: ys := p.mem_iff.mp List.mem_cons_self
      have m2 : y ∈ x :: xs := p.mem_iff.mpr List.mem_cons_self
      rcases List.mem_cons.mp m1 with e | m1
      · exact e
      · rcases List.mem_cons.mp m2 with e | m2
        · exact e.symm
        · have := g1 x m1; have := h1 y m2; omega
    subst e
    rw [sort_uniq (List.Perm.cons_inv p) h2 g2]
theorem dvs_ints : ∀ ns : List Int, DVs G W n H (ns.map D.int) (ns.map V.int)
  | [] => rfl
  | i :: ns => ⟨_, _, rfl, rfl, dvs_ints ns⟩
theorem dvs_keys : ∀ {ks : List Ky} {kvs : List (Key × V)}, kvs.map (·.1) = ks.map kyR → DVs G W n H (ks.map ofKey) (kvs.map fun kv => kV kv.1)
  | [], kvs, h => by
    have e : kvs = [] := by simpa using h
    subst e; rfl
  | k :: ks, [], h => by cases h
  | k :: ks, p :: kvs, h => by
    rw [List.map_cons, List.map_cons] at h
    injection h with h1 h2
    refine ⟨_, _, rfl, ?_, dvs_keys h2⟩
    dsimp only
    rw [h1]
    cases k <;> rfl
theorem str_digI (i : Int) : (toString i : Str) = ⟨(digI i).toArray⟩ := Str.ofString_eq_toList _
theorem intText_ok {s : List Nat} (hl : s.length ≤ 4300) (h : isNat10 s = true) : PySem.intText? ⟨s.toArray⟩ = some (natOf s : Int) := by
  obtain ⟨h1, h2⟩ := Bool.and_eq_true_iff.mp h
  have q := SX.int_S (a := s) h2 (by intro z; subst z; cases h1) hl
  exact q
theorem lenD_ok {d : D} {v : V} {k : Int} (hK : K' = G.K) (r : RS G bd base W H st) (hd : DV G W st.length H d v) (hk : lenD (vw st d) = some k) :
    (∃ m, LenV K' v H m ∧ (m : Int) = k) ∨ ∃ a kvs, v = .ref a ∧ Rd H a (.dK kvs) ∧ (kvs.length : Int) = k := by
  cases ed : vw st d with
  | str s =>
    rw [ed] at hk
    have hk' : (if s.length ≤ SL then some (s.length : Int) else none) = some k := hk
    split at hk'
    · rename_i hl
      refine .inl ⟨s.length, ?_, Option.some.inj hk'⟩
      rw [vw_str hd ed]
      exact ⟨by rw [str_len, ← SL_eq]; exact hl, (str_len s).symm⟩
    · cases hk'
  | lst ds =>
    rw [ed] at hk
    obtain ⟨p, xs, ex, h1, h2⟩ := vw_lst r hd ed
    refine .inl ⟨xs.length, ?_, by rw [h2.len]; exact Option.some.inj hk⟩
    rw [ex]; exact .inl ⟨xs, SqL.of h1, rfl⟩
  | tup ds =>
    rw [ed] at hk
    obtain ⟨p, xs, ex, h1, h2⟩ := vw_tup hd ed
    refine .inl ⟨xs.length, ?_, by rw [h2.len]; exact Option.some.inj hk⟩
    rw [ex]; exact .inr ⟨xs, by rw [hK]; exact h1, rfl⟩
  | frz ds =>
    rw [ed] at hk
    obtain ⟨p, xs, ex, h1, h2⟩ := vw_frz hd ed
    refine .inl ⟨xs.length, ?_, by rw [h2.len]; exact Option.some.inj hk⟩
    rw [ex]; exact .inl ⟨xs, by rw [hK]; exact h1, rfl⟩
  | dct ks vs =>
    rw [ed] at hk
    obtain ⟨p, kvs, ex, h1, h2, _⟩ := vw_dct r hd ed
    refine .inr ⟨p, kvs, ex, h1, ?_⟩
    have := congrArg List.length h2
    rw [List.length_map, List.length_map] at this
    rw [this]; exact Option.some.inj hk
  | _ => rw [ed] at hk; cases hk
def biV : Bi → Value
  | .len => .builtin "len" | .abs => .builtin "abs" | .sum => .builtin "sum" | .all => .builtin "all" | .any => .builtin "any" | .max1 => .builtin "max" | .max2 => .builtin "max" | .min2 => .builtin "min"
  | .sorted => .builtin "sorted" | .tuple => .type "tuple" | .list => .type "list" | .dict => .type "dict" | .int => .type "int" | .str => .type "str" | .bool => .type "bool" | .divmod => .builtin "divmod"
theorem call_lenDR {X : Cx} : CallR X (.builtin "len") (fun xs H Q => ∃ a kvs, xs = [V.ref a] ∧ Rd H a (.dK kvs) ∧ Q (.int kvs.length) H) := by
  intro pins s σ H xs us Q I r h
  obtain ⟨a, kvs, rfl, ha, q⟩ := h
  obtain ⟨u, rfl, ru⟩ := vals1 r
  cases ru
  exact d_len I ha fun t s' I' => ⟨.int kvs.length, H, I', ⟨t, rfl⟩, q⟩
theorem bi_ok {X : Cx} (hK : X.K = G.K) (hc : X.calm = true) (b : Bi) (bx : Bool) : CallR X (biV b) (rBi G Wx b bx) := by
  intro pins s σ' H xs us Q I rx h
  obtain ⟨bd, base, σ, W, st, ds, r, hd, h⟩ := h
  revert h
  generalize hm : ds.map (vw st) = ms
  intro h
  unfold biR at h
  split at h
  · obtain ⟨d, v, rfl, rfl, rfl, h1⟩ := hd.one hm
    obtain ⟨k, hk, h⟩ := Ans.opt h
    rcases lenD_ok hK r h1 hk with ⟨m, h2, rfl⟩ | ⟨a, kvs, rfl, h2, rfl⟩
    · exact call_len pins s σ' H _ us Q I rx ⟨v, m, rfl, h2, h.here r rfl⟩
    · exact call_lenDR pins s σ' H _ us Q I rx ⟨a, kvs, rfl, h2, h.here r rfl⟩
  · obtain ⟨d, v, rfl, rfl, e, h1⟩ := hd.one hm
    exact call_abs pins s σ' H _ us Q I rx ⟨_, by rw [vw_int h1 e], h.here r rfl⟩
  · obtain ⟨d, v, rfl, rfl, e, h1⟩ := hd.one hm
    obtain ⟨ns, hn, h⟩ := Ans.opt h
    obtain ⟨p, ys, rfl, h2, h3⟩ := vw_lst r h1 e
    exact cr_sum hc pins s σ' H _ us Q I rx ⟨p, ns, rfl, SqL.of (by rw [h2, intsOf_ok h3 hn]), h.here r rfl⟩
  · obtain ⟨d, v, rfl, rfl, e, h1⟩ := hd.one hm
    obtain ⟨ns, hn, h⟩ := Ans.opt h
    obtain ⟨p, ys, rfl, h2, h3⟩ := vw_lst r h1 e
    exact cr_all hc pins s σ' H _ us Q I rx ⟨p, ns, rfl, SqL.of (by rw [h2, boolsOf_ok h3 hn]), h.here r rfl⟩
  · obtain ⟨d, v, rfl, rfl, e, h1⟩ := hd.one hm
    obtain ⟨ns, hn, h⟩ := Ans.opt h
    obtain ⟨p, ys, rfl, h2, h3⟩ := vw_lst r h1 e
    exact cr_any hc pins s σ' H _ us Q I rx ⟨p, ns, rfl, SqL.of (by rw [h2, boolsOf_ok h3 hn]), h.here r rfl⟩
  · rename_i es
    obtain ⟨d, v, rfl, rfl, e, h1⟩ := hd.one hm
    obtain ⟨m, hn, h⟩ := Ans.opt h
    obtain ⟨p, ys, rfl, h2, h3⟩ := vw_lst r h1 e
    cases hi : intsOf es with
    | none => rw [hi] at hn; cases hn
    | some ns =>
      rw [hi] at hn
      have hn' : maxL ns = some m := hn
      obtain ⟨g1, g2⟩ := maxL_ok hn'
      refine cr_max hc pins s σ' H _ us Q I rx ⟨p, ns, rfl, SqL.of (by rw [h2, intsOf_ok h3 hi]), List.length_pos_of_mem g1, fun m' g3 g4 => ?_⟩
      rw [max_uniq g3 g4 g1 g2]
      exact h.here r rfl
  · obtain ⟨d, v, d2, v2, rfl, rfl, e, e2, h1, h2⟩ := hd.two hm
    exact call_max2 hc pins s σ' H _ us Q I rx ⟨_, _, by rw [vw_int h1 e, vw_int h2 e2], h.here r rfl⟩
  · obtain ⟨d, v, d2, v2, rfl, rfl, e, e2, h1, h2⟩ := hd.two hm
    exact call_min2 hc pins s σ' H _ us Q I rx ⟨_, _, by rw [vw_int h1 e, vw_int h2 e2], h.here r rfl⟩
  · obtain ⟨d, v, rfl, rfl, e, h1⟩ := hd.one hm
    obtain ⟨ns, hn, h⟩ := Ans.opt h
    obtain ⟨p, ys, rfl, h2, h3⟩ := vw_lst r h1 e
    refine cr_sortedI pins s σ' H _ us Q I rx ⟨p, ns, rfl, SqL.of (by rw [h2, intsOf_ok h3 hn]), fun ns' q pm so hq => ?_⟩
    rw [sort_uniq (pm.trans (sortI_perm ns).symm) so (sortI_sorted ns)]
    exact (ans_lst r (dvs_ints _) h).2 q hq
  · obtain ⟨d, v, rfl, rfl, e, h1⟩ := hd.one hm
    obtain ⟨ns, hn, h⟩ := Ans.opt h
    split at h
    · rename_i hlt
      obtain ⟨p, kvs, rfl, h2, h3, _⟩ := vw_dct r h1 e
      refine call_sortedDI hc pins s σ' H _ us Q I rx ⟨p, kvs, ns, rfl, h2, h3.trans (keyInts_ok hn), hlt, fun ns' q pm so hq => ?_⟩
      rw [sort_uniq (pm.trans (sortI_perm ns).symm) so (sortI_sorted ns)]
      exact (ans_lst r (dvs_ints _) h).2 q hq
    · exact h.elim
  · obtain ⟨d, v, rfl, rfl, e, h1⟩ := hd.one hm
    obtain ⟨p, ys, rfl, h2, h3⟩ := vw_lst r h1 e
    refine call_tuple_of pins s σ' H _ us Q I rx ⟨p, ys, rfl, .inl ⟨SqL.of h2, fun q hq => ?_⟩⟩
    obtain ⟨e', r'⟩ := alloc_any r hq (.tup ys)
    exact h _ _ _ ⟨e', r'⟩ ⟨q, ys, rfl, SqT.of upd_same, DVs.keep e' r (Nat.le_refl _) (Nat.le_refl _) h3⟩
  · obtain ⟨d, v, rfl, rfl, e, h1⟩ := hd.one hm
    obtain ⟨p, ys, rfl, h2, h3⟩ := vw_tup h1 e
    exact call_tuple_of pins s σ' H _ us Q I rx ⟨p, ys, rfl, .inr ⟨by rw [hK]; exact h2, h.here r ⟨p, ys, rfl, h2, h3⟩⟩⟩
  · obtain ⟨d, v, rfl, rfl, e, h1⟩ := hd.one hm
    obtain ⟨p, ys, rfl, h2, h3⟩ := vw_lst r h1 e
    exact call_list_of pins s σ' H _ us Q I rx ⟨p, ys, rfl, .inl (SqL.of h2), (ans_lst r h3 h).2⟩
  · obtain ⟨d, v, rfl, rfl, e, h1⟩ := hd.one hm
    obtain ⟨p, ys, rfl, h2, h3⟩ := vw_tup h1 e
    exact call_list_of pins s σ' H _ us Q I rx ⟨p, ys, rfl, .inr (by rw [hK]; exact h2), (ans_lst r h3 h).2⟩
  · obtain ⟨d, v, rfl, rfl, e, h1⟩ := hd.one hm
    obtain ⟨p, kvs, rfl, h2, h3, _⟩ := vw_dct r h1 e
    exact call_listD hc pins s σ' H _ us Q I rx ⟨p, kvs, rfl, h2, (ans_lst r (dvs_keys h3) h).2⟩
  · obtain ⟨d, v, rfl, rfl, e, h1⟩ := hd.one hm
    obtain ⟨p, kvs, rfl, h2, h3, h4⟩ := vw_dct r h1 e
    exact call_dictD pins s σ' H _ us Q I rx ⟨p, kvs, rfl, h2, (ans_dct r h3 h4 h).2⟩
  · obtain ⟨d, v, rfl, rfl, e, h1⟩ := hd.one hm
    exact call_int1 pins s σ' H _ us Q I rx (.inl ⟨_, by rw [vw_int h1 e], h.here r rfl⟩)
  · obtain ⟨d, v, rfl, rfl, e, h1⟩ := hd.one hm
    have q := vw_id e (by intro _ z; cases z) (by intro _ _ z; cases z)
    subst q
    exact call_int1 pins s σ' H _ us Q I rx (.inr ⟨_, by rw [show v = V.bl _ from h1], h.here r rfl⟩)
  · obtain ⟨d, v, rfl, rfl, e, h1⟩ := hd.one hm
    split at h
    · rename_i hz
      obtain ⟨z1, z2⟩ := Bool.and_eq_true_iff.mp hz
      exact call_int_str pins s σ' H _ us Q I rx ⟨_, _, by rw [vw_str h1 e], intText_ok (by have := of_decide_eq_true z2; omega) z1, by rw [str_len]; have := of_decide_eq_true z2; omega, h.here r rfl⟩
    · exact h.elim
  · obtain ⟨d, v, rfl, rfl, e, h1⟩ := hd.one hm
    split at h
    · rename_i hz
      exact call_str_int pins s σ' H _ us Q I rx ⟨_, by rw [vw_int h1 e], of_decide_eq_true hz, by rw [str_digI]; exact h.here r rfl⟩
    · exact h.elim
  · rename_i i j
    obtain ⟨d, v, d2, v2, rfl, rfl, e, e2, h1, h2⟩ := hd.two hm
    split at h
    · rename_i hz
      obtain ⟨z1, z2⟩ := Bool.and_eq_true_iff.mp hz
      refine call_divmodW pins s σ' H _ us Q I rx ⟨_, _, by rw [vw_int h1 e, vw_int h2 e2], ⟨of_decide_eq_true z1, PyProof.noPylong_of_log2 (of_decide_eq_true z2)⟩, fun q hq => ?_⟩
      obtain ⟨e', r'⟩ := alloc_any r hq (.tup [.int (i / j), .int (i % j)])
      exact h _ _ _ ⟨e', r'⟩ ⟨q, _, rfl, SqT.of upd_same, _, _, rfl, rfl, _, _, rfl, rfl, rfl⟩
    · exact h.elim
  · exact h.elim
/-! ### isinstance -/
def kiN : Ki → String
  | .int => "int" | .bool => "bool" | .str => "str" | .tuple => "tuple" | .list => "list" | .dict => "dict"
theorem isKi_ok {X : Cx} (hK : X.K = G.K) (k : Ki) {b : Bool} {d : D} {v : V} (r : RS G bd base W H st) (hd : DV G W st.length H d v) (hb : isKi (vw st d) k = some b) : ∃ t, TyX X.K H v (.type t) ∧ kitB t (kiN k) = some b := by
  cases ed : vw st d with
  | non =>
    have e := vw_id ed (by intro _ z; cases z) (by intro _ _ z; cases z)
    subst e
    rw [show v = V.non from hd]
    refine ⟨"NoneType", .base .non, ?_⟩
    rw [ed] at hb
    cases k <;> (cases hb; decide +kernel)
  | bl c =>
    have e := vw_id ed (by intro _ z; cases z) (by intro _ _ z; cases z)
    subst e
    rw [show v = V.bl c from hd]
    refine ⟨"bool", .base (.bl c), ?_⟩
    rw [ed] at hb
    cases k <;> (cases hb; decide +kernel)
  | int c =>
    rw [vw_int hd ed]
    refine ⟨"int", .base (.int c), ?_⟩
    rw [ed] at hb
    cases k <;> (cases hb; decide +kernel)
  | str c =>
    rw [vw_str hd ed]
    refine ⟨"str", .base (.str _), ?_⟩
    rw [ed] at hb
    cases k <;> (cases hb; decide +kernel)
  | lst ds =>
    obtain ⟨p, xs, rfl, h1, _⟩ := vw_lst r hd ed
    refine ⟨"list", .base (.lst h1), ?_⟩
    rw [ed] at hb
    cases k <;> (cases hb; decide +kernel)
  | dct ks vs =>
    obtain ⟨p, kvs, rfl, h1, _⟩ := vw_dct r hd ed
    refine ⟨"dict", ?_, ?_⟩
    · rcases h1 with h1 | ⟨o, h1⟩
      · exact .base (.dK h1)
      · exact .fDict h1
    · rw [ed] at hb
      cases k <;> (cases hb; decide +kernel)
  | tup ds =>
    obtain ⟨p, xs, rfl, h1, _⟩ := vw_tup hd ed
    refine ⟨"tuple", ?_, ?_⟩
    · rw [hK]
      rcases h1 with (h1 | ⟨o, h1⟩) | ⟨o, its, n, h1, h2, _⟩
      · exact .base (.tup h1)
      · exact .fTuple h1
      · exact .kTuple h1 h2
    · rw [ed] at hb
      cases k <;> (cases hb; decide +kernel)
  | frz ds =>
    obtain ⟨p, xs, rfl, h1, _⟩ := vw_frz hd ed
    refine ⟨"list", ?_, ?_⟩
    · rw [hK]
      rcases h1 with (h1 | ⟨o, h1⟩) | ⟨o, its, n, h1, h2, _⟩
      · exact .base (.lst h1)
      · exact .base (.frz h1)
      · exact .kList h1 h2
    · rw [ed] at hb
      cases k <;> (cases hb; decide +kernel)
  | _ => rw [ed] at hb; cases k <;> cases hb
end
end Rf

/-! The walk of expressions, once for all: what the evaluator says of an expression, the model does. -/
namespace Rf
open PySem PySem.Spec PyProof.Rows L2
/-- the program's names -/
structure Tx where
  fname : Nat → Option Str
  mname : Nat → Option Str
  consts : List (String × D)
  /-- keywords: def, number of plain values, where each parameter behind these comes from, the names -/
  kbs : List (Nat × Nat × List Nat × List Str)
/-! ### the same expression -/
def cstOk : Const → D → Bool
  | .none, .non => true
  | .bool a, .bl b => a == b
  | .int a, .int b => decide (a = b)
  | .str a, .str b => decide (a.cps.toList = b)
  | _, _ => false
def visB (sc : Scope) (x : Str) : Bool := match sc.names.lookup x with
  | some .local => true
  | some .cell => true
  | some .free => true
  | _ => false
def locB (sc : Scope) (x : Str) : Bool := match sc.names.lookup x with
  | some .local => true
  | some .cell => true
  | _ => false
def glB (sc : Scope) (x : Str) : Bool := match sc.names.lookup x with
  | some .globalImplicit => !(x == ("__debug__" : Str))
  | _ => false
def varB (N : List Str) (sc : Scope) (i : Nat) (x : Str) : Bool := (match N[i]? with
  | some y => decide (y = x)
  | none => false) && (visB sc x && (!(x == ("__debug__" : Str)) && !(x == ("__classdict__" : Str))))
def opB (op : Op) (o : Operator) : Bool := decide (opR op = o)
def biName : Bi → Str
  | .len => "len" | .abs => "abs" | .sum => "sum" | .all => "all" | .any => "any" | .max1 => "max" | .max2 => "max" | .min2 => "min"
  | .sorted => "sorted" | .tuple => "tuple" | .list => "list" | .dict => "dict" | .int => "int" | .str => "str" | .bool => "bool" | .divmod => "divmod"
def biNames : List Str := ["len", "abs", "sum", "all", "any", "max", "min", "sorted", "tuple", "list", "dict", "int", "str", "bool", "divmod", "isinstance", "range", "zip", "enumerate"]
def boolOpOf (op : BoolOp) (p : Expr) (rest : List Expr) (pos : Pos) : Expr := match rest with
  | [] => p
  | q :: r => .BoolOp op (p :: q :: r) pos
def mtName : Mt → Str
  | .get1 => "get" | .get2 => "get" | .join => "join" | .split1 => "split" | .append => "append" | .extend => "extend" | .pop0 => "pop" | .pop1 => "pop" | .dpop2 => "pop" | .startswith => "startswith"
  | .strip => "strip" | .upper => "upper" | .items => "items"
/-- a callee's base is no call super() -/
def plainBase : Expr → Bool
  | .Call (.Name _ _) [] [] _ => false
  | _ => true
section
variable (T : Tx) (N : List Str)
/-- a target of names in a comprehension: its own -/
def locC (scope rel : Scope) (x : Str) : Bool := match rel.names.lookup x with
  | some .local => true
  | some .cell => (match scope.names.lookup x with
    | some .cell => true
    | _ => false)
  | _ => false
def ownB (N : List Str) (scope rel : Scope) (own : List Nat) (i : Nat) (x : Str) : Bool := (match N[i]? with
    | some y => decide (y = x)
    | none => false) && (locC scope rel x && decide (i ∈ own))
def chkTns (scope rel : Scope) (own : List Nat) : List Nat → List Expr → Bool
  | [], [] => true
  | i :: is, .Name x _ :: ps => ownB N scope rel own i x && chkTns scope rel own is ps
  | _, _ => false
def chkTn (scope rel : Scope) (own : List Nat) : Tn → Expr → Bool
  | .nm i, .Name x _ => ownB N scope rel own i x
  | .tup is, .Tuple ps _ _ => chkTns N scope rel own is ps
  | _, _ => false
def noKeys : I → Bool
  | .keys _ => false
  | _ => true
def plainE : Expr → Bool
  | .Starred _ _ => false
  | .Set _ _ _ => false
  | .Slice _ _ _ _ => false
  | .BoolOp _ _ _ => false
  | .UnaryOp _ _ _ => false
  | .Compare _ _ _ _ => false
  | .IfExp _ _ _ _ => false
  | .ListComp _ _ _ _ => false
  | _ => true
mutual
def chkE : Scope → E → Expr → Bool
  | _, .bad, p => plainE p
  | _, .cst d, .Constant c _ _ => cstOk c d
  | sc, .var i, .Name x _ => varB N sc i x
  | sc, .glc y d, .Name x _ => decide (x = Str.ofString y) && (glB sc x && T.consts.any fun p => decide (p.1 = y) && sameD p.2 d)
  | sc, .glf f, .Name x _ => glB sc x && decide (T.fname f = some x)
  | sc, .bin op _ a b, .BinOp pa o pb _ => opB op o && (chkE sc a pa && chkE sc b pb)
  | sc, .neg a, .UnaryOp .USub pa _ => chkE sc a pa
  | sc, .lnot a, .UnaryOp .Not pa _ => chkE sc a pa
  | sc, .land a b, .BoolOp .And (pa :: pb :: rest) pos => chkE sc a pa && chkE sc b (boolOpOf .And pb rest pos)
  | sc, .lor a b, .BoolOp .Or (pa :: pb :: rest) pos => chkE sc a pa && chkE sc b (boolOpOf .Or pb rest pos)
  | sc, .ife c a b, .IfExp pc pa pb _ => chkE sc c pc && (chkE sc a pa && chkE sc b pb)
  | sc, .cmp op a b, .Compare pa [o] [pb] _ => decide (cmR op = o) && (chkE sc a pa && chkE sc b pb)
  | sc, .chain op op' a b c, .Compare pa [o, o'] [pb, pc] _ => decide (cmR op = o) && (decide (cmR op' = o') && (chkE sc a pa && (chkE sc b pb && chkE sc c pc)))
  | sc, .tup es, .Tuple pes _ _ => chkEs sc es pes
  | sc, .lst _ es, .List pes _ => chkEs sc es pes
  | _, .dct true [] [], .Dict [] [] _ => true
  | sc, .sub a i, .Subscript pa pi _ => chkE sc a pa && chkE sc i pi
  | sc, .slc _ a lo hi, .Subscript pa (.Slice plo phi none _) _ => chkE sc a pa && (chkO sc lo plo && chkO sc hi phi)
  | sc, .maxd e i, .Call (.Name x _) [pe] [⟨some d, .Constant (.int j) _ _, _⟩] _ => glB sc x && (decide (x = ("max" : Str)) && (decide (d = ("default" : Str)) && (decide (i = j) && chkE sc e pe)))
  | sc, .callk _ f perm es ks, .Call (.Name x _) pes kws _ => glB sc x && (decide (T.fname f = some x) && ((T.kbs.any fun q => decide (q = (f, es.length, perm, q.2.2.2)) && decide (kws.map (·.arg) = q.2.2.2.map some)) && (chkEs sc es pes && chkKw sc ks kws)))
  | sc, .call _ f es, .Call (.Name x _) pes [] _ => glB sc x && (decide (T.fname f = some x) && chkEs sc es pes)
  | sc, .bi b _ es, .Call (.Name x _) pes [] _ => glB sc x && (decide (biName b = x) && (!pes.isEmpty && chkEs sc es pes))
  | sc, .isi [k] e, .Call (.Name x _) [pe, .Name y _] [] _ => glB sc x && (decide (x = ("isinstance" : Str)) && (glB sc y && (decide (y = Str.ofString (kiN k)) && chkE sc e pe)))
  | sc, .mt .get2 _ o [a, b], .Call (.Attribute po m apos) [pa, pb] [] pos => decide (m = ("get" : Str)) && (plainBase po && (decide (apos.endLine = pos.line) && (chkE sc o po && (chkE sc a pa && chkE sc b pb))))
  | sc, .mt .append _ o [a], .Call (.Attribute po m apos) [pa] [] pos => decide (m = ("append" : Str)) && (plainBase po && (decide (apos.endLine = pos.line) && (chkE sc o po && chkE sc a pa)))
  | sc, .comp _ own t it c e, .ListComp pe [⟨tg, pit, ifs, 0⟩] scope _ =>
    blkC N sc scope (own.map fun i => (N.getD i (Str.ofString ""), i)) && (chkI sc it tg pit && (chkTn N scope (relS scope sc) own t tg && (chkIf (relS scope sc) c ifs && chkE (relS scope sc) e pe)))
  | sc, .comp2 _ own own2 t it c t2 it2 c2 e, .ListComp pe [⟨tg, pit, ifs, 0⟩, ⟨tg2, pit2, ifs2, 0⟩] scope _ =>
    blkC N sc scope (own.map fun i => (N.getD i (Str.ofString ""), i)) && ((own2.all fun i => decide (i ∈ own)) && (chkI sc it tg pit && (noKeys it && (chkTn N scope (relS scope sc) own t tg && (chkIf (relS scope sc) c ifs &&
      (chkI (relS scope sc) it2 tg2 pit2 && (noKeys it2 && (chkTn N scope (relS scope sc) own2 t2 tg2 && (chkIf (relS scope sc) c2 ifs2 && chkE (relS scope sc) e pe)))))))))
  | _, _, _ => false
def chkEs : Scope → List E → List Expr → Bool
  | _, [], [] => true
  | sc, e :: es, p :: ps => chkE sc e p && chkEs sc es ps
  | _, _, _ => false
def chkKw : Scope → List E → List Keyword → Bool
  | _, [], [] => true
  | sc, e :: es, ⟨_, p, _⟩ :: ps => chkE sc e p && chkKw sc es ps
  | _, _, _ => false
def chkO : Scope → Option E → Option Expr → Bool
  | _, none, none => true
  | sc, some e, some p => chkE sc e p
  | _, _, _ => false
def chkIf : Scope → Option E → List Expr → Bool
  | _, none, [] => true
  | sc, some e, [p] => chkE sc e p
  | _, _, _ => false
def chkI : Scope → I → Expr → Expr → Bool
  | sc, .val e, _, p => chkE sc e p
  | sc, .keys i, _, .Name x _ => varB N sc i x
  | sc, .rng1 a, _, .Call (.Name x _) [pa] [] _ => glB sc x && (decide (x = ("range" : Str)) && chkE sc a pa)
  | sc, .rng2 a b, _, .Call (.Name x _) [pa, pb] [] _ => glB sc x && (decide (x = ("range" : Str)) && (chkE sc a pa && chkE sc b pb))
  | sc, .zip a b, .Tuple _ _ _, .Call (.Name x _) [pa, pb] [] _ => glB sc x && (decide (x = ("zip" : Str)) && (chkE sc a pa && chkE sc b pb))
  | _, _, _, _ => false
end
end
end Rf

namespace Rf
open PySem PySem.Spec PyProof.Rows L2
/-! ### what a def promises: what the evaluator's call says -/
def spF (G : Gx) (C : Call) (f : Nat) : Sp := fun vs H Q E => ∃ W bd base st ds, RS G bd base W H st ∧ DVs G W st.length H ds vs ∧ vs.length = (G.ps f).length ∧
  Ans (DV G) G bd base (fun cls dd _ H' => E cls dd H') [] W H st (C f ds st base) Q
/-- the program's facts -/
structure Gok (G : Gx) (T : Tx) : Prop where
  fn : ∀ f x, T.fname f = some x → G.mg x = some (.ref (G.fa f))
  keep : ∀ f x, T.fname f = some x → PySem.W.keepIn G.K (.ref (G.fa f)) = true
  binds : ∀ f x, T.fname f = some x → Binds G.K (G.fd f) (G.ps f) []
  bi : ∀ x, x ∈ biNames → G.mg x = none
  kb : ∀ q, q ∈ T.kbs → KBn G.K (G.fd q.1) (G.ps q.1) q.2.1 q.2.2.2 (fun us ws => us ++ q.2.2.1.map fun i => ws.getD i .none) (fun vs zs => vs ++ q.2.2.1.map fun i => zs.getD i .non)
  cst : ∀ p, p ∈ T.consts → ∀ W n H, ∃ u v, G.mg (Str.ofString p.1) = some u ∧ RelV v u ∧ DV G W n H p.2 v
/-- the defs that may be called: so many calls deep -/
def Calls (G : Gx) (C : Call) (lv : Nat) : Prop := ∀ f, FnOk G.P G.w G.K G.mg G.base (L2.CX G.P G.w) lv (G.fa f) (G.fd f) (G.ps f) (spF G C f)
structure Xok (G : Gx) (T : Tx) (N : List Str) (C : Call) (lv : Nat) (Wx : WX) (sc : Scope) (X : Cx) : Prop where
  prog : X.prog = G.P
  w : X.w = G.w
  K : X.K = G.K
  mg : X.mg = G.mg
  base : X.base = G.base
  calm : X.calm = true
  room : Room lv X.A
  hN : X.N = N
  nd : N.Nodup
  hsc : X.env.scope = sc
  tk : Takes X Wx
  g : Gok G T
  calls : Calls G C lv
  ar : ∀ f ds st b, C f ds st b ≠ .bad → ds.length = (G.ps f).length
/-! ### readings -/
section
variable (G : Gx) (C : Call) (Wx : WX)
/-- a state that the evaluator knows -/
def rd {α β : Type} (rel : Rl α β) (f : Nat → En → Sto → R α) (σ : L2.St) (H : Hp) (Q : β → Hp → Prop) : Prop :=
  ∃ W bd base ρ st, RS G bd base W H st ∧ EnR G W st.length H ρ σ ∧ Ans rel G bd base Wx σ W H st (f base ρ st) Q
def rdE (e : E) : TE := fun σ H Q => rd G Wx (DV G) (fun base ρ st => evE C base e ρ st) σ H Q
def rdEs (es : List E) : TA := fun σ H Q => rd G Wx (DVs G) (fun base ρ st => evEs C base es ρ st) σ H Q
def eqRl {α : Type} : Rl α α := fun _ _ _ a b => a = b
def rdO (o : Option E) : TO := fun σ H Q => rd G Wx eqRl (fun base ρ st => evO C base o ρ st) σ H Q
/-- an expression as a test -/
def tstE (C : Call) (e : E) (base : Nat) (ρ : En) (st : Sto) : R Bool := (evE C base e ρ st).bind fun x st => opt (truth (vw st x)) st
def rdT (e : E) : TT := fun σ H Q => rd G Wx eqRl (fun base ρ st => tstE C e base ρ st) σ H Q
end
theorem PE.weak {X : Cx} {e : Expr} {t t' : TE} (h : PE X e t) (w : ∀ σ H Q, t' σ H Q → t σ H Q) : PE X e t' := ⟨fun pins s σ H Q I q => h.run pins s σ H Q I (w σ H Q q)⟩
theorem PT.weak {X : Cx} {e : Expr} {t t' : TT} (h : PT X e t) (w : ∀ σ H Q, t' σ H Q → t σ H Q) : PT X e t' := ⟨fun pins s σ H Q I q => h.run pins s σ H Q I (w σ H Q q)⟩
theorem PW.weak {X : Cx} {e : Expr} {t t' : TT} (h : PW X e t) (w : ∀ σ H Q, t' σ H Q → t σ H Q) : PW X e t' := ⟨fun wh pins s σ H Q I q => h.run wh pins s σ H Q I (w σ H Q q)⟩
theorem PA.weak {X : Cx} {e : List Expr} {t t' : TA} (h : PA X e t) (w : ∀ σ H Q, t' σ H Q → t σ H Q) : PA X e t' := ⟨fun pos pins s σ H Q I q => h.run pos pins s σ H Q I (w σ H Q q)⟩
section
variable {G : Gx} {T : Tx} {N : List Str} {C : Call} {lv : Nat} {Wx : WX} {sc : Scope} {X : Cx} {σ : L2.St} {H : Hp}
/-- first f, then g -/
theorem rd.bind {α β γ δ : Type} {rel : Rl α β} {rel' : Rl γ δ} {f : Nat → En → Sto → R α} {g : Nat → En → α → Sto → R γ} {Q : δ → Hp → Prop} (h : rd G Wx rel' (fun base ρ st => (f base ρ st).bind (g base ρ)) σ H Q) :
    rd G Wx rel f σ H fun v H1 => ∃ W bd base ρ st d, RS G bd base W H1 st ∧ EnR G W st.length H1 ρ σ ∧ rel W st.length H1 d v ∧ Ans rel' G bd base Wx σ W H1 st (g base ρ d st) Q := by
  obtain ⟨W, bd, base, ρ, st, r, en, h⟩ := h
  refine ⟨W, bd, base, ρ, st, r, en, (Ans.bind (rel := rel) h).mono ?_⟩
  rintro v H1 ⟨d, st1, W1, _, P1, dv, h1⟩
  exact ⟨W1, bd, base, ρ, st1, d, P1.rs, en.post P1 r, dv, h1⟩
theorem rd.bindE {α β γ δ : Type} {rel : Rl α β} {rel' : Rl γ δ} {f : Nat → En → Sto → R α} {g : Nat → En → α → Sto → R γ} {Q : δ → Hp → Prop} (h : rd G Wx rel' (fun base ρ st => (f base ρ st).bind (g base ρ)) σ H Q) :
    rd G Wx rel f σ H fun v H1 => ∃ W bd base ρ st d, RS G bd base W H1 st ∧ EnR G W st.length H1 ρ σ ∧ rel W st.length H1 d v ∧ (∃ base' ρ' st', f base' ρ' st' = .ok d st) ∧ Ans rel' G bd base Wx σ W H1 st (g base ρ d st) Q := by
  obtain ⟨W, bd, base, ρ, st, r, en, h⟩ := h
  refine ⟨W, bd, base, ρ, st, r, en, (Ans.bind (rel := rel) h).mono ?_⟩
  rintro v H1 ⟨d, st1, W1, e1, P1, dv, h1⟩
  exact ⟨W1, bd, base, ρ, st1, d, P1.rs, en.post P1 r, dv, ⟨_, _, _, e1⟩, h1⟩
/-- the second of two -/
theorem rd.bind2 {α β γ δ α' β' : Type} {rel : Rl α β} {rel' : Rl γ δ} {f : Nat → En → Sto → R α} {g : Nat → En → α → Sto → R γ} {rel0 : Rl α' β'} {d0 : α'} {v0 : β'} {Q : δ → Hp → Prop} {W : Wd} {bd : Nat → Nat} {base : Nat} {ρ : En} {st : Sto}
    (r : RS G bd base W H st) (en : EnR G W st.length H ρ σ) (keep : ∀ W1 H1 st1, Post G bd base W H st W1 H1 st1 → rel0 W1 st1.length H1 d0 v0) (h : Ans rel' G bd base Wx σ W H st ((f base ρ st).bind (g base ρ)) Q) :
    rd G Wx rel f σ H fun v H1 => ∃ W bd base ρ st d, RS G bd base W H1 st ∧ EnR G W st.length H1 ρ σ ∧ rel0 W st.length H1 d0 v0 ∧ rel W st.length H1 d v ∧ Ans rel' G bd base Wx σ W H1 st (g base ρ d st) Q := by
  refine ⟨W, bd, base, ρ, st, r, en, (Ans.bind (rel := rel) h).mono ?_⟩
  rintro v H1 ⟨d, st1, W1, _, P1, dv, h1⟩
  exact ⟨W1, bd, base, ρ, st1, d, P1.rs, en.post P1 r, keep _ _ _ P1, dv, h1⟩
/-! ### helpers on syntax -/
def noStar : Expr → Bool
  | .Starred _ _ => false
  | _ => true
theorem star_cons {e : Expr} {es : List Expr} {env : Env} (h : noStar e = true) : starEach (e :: es) env = (false, eval e env) :: starEach es env := by
  cases e <;> first | rfl | cases h
theorem chkE_starred {e : E} {p : Expr} {pos : Pos} : chkE T N sc e (.Starred p pos) = false := by
  unfold chkE
  split <;> first | rfl | (rename_i h; cases h)
theorem chkE_star {e : E} {p : Expr} (h : chkE T N sc e p = true) : noStar p = true := by
  cases p with
  | Starred _ _ => rw [chkE_starred] at h; cases h
  | _ => rfl
theorem chkEs_star : ∀ {es : List E} {ps : List Expr}, chkEs T N sc es ps = true → ∀ p ∈ ps, noStar p = true
  | [], [], _, _, hp => by cases hp
  | [], _ :: _, h, _, _ => by unfold chkEs at h; cases h
  | _ :: _, [], h, _, _ => by unfold chkEs at h; cases h
  | e :: es, p :: ps, h, q, hq => by
    unfold chkEs at h
    obtain ⟨h1, h2⟩ := Bool.and_eq_true_iff.mp h
    rcases List.mem_cons.mp hq with rfl | hq
    · exact chkE_star h1
    · exact chkEs_star h2 q hq
theorem star_any {ps : List Expr} {env : Env} {pos : Pos} (h : ∀ p ∈ ps, noStar p = true) : (backTo pos (starEach ps env)).any (·.1) = false := by
  induction ps with
  | nil => rfl
  | cons p ps ih =>
    rw [star_cons (h p List.mem_cons_self)]
    show (false || (backTo pos (starEach ps env)).any (·.1)) = false
    rw [ih fun q hq => h q (List.mem_cons_of_mem _ hq)]; rfl
theorem visB_ok {x : Str} (h : visB sc x = true) : Vis sc x := by
  unfold visB at h
  unfold Vis
  split at h <;> first | (rename_i e; rw [e]; simp) | cases h
theorem locB_ok {x : Str} (h : locB sc x = true) : L2.Loc sc x := by
  unfold locB at h
  unfold L2.Loc
  split at h <;> first | (rename_i e; rw [e]; simp) | cases h
theorem glB_ok (o : Xok G T N C lv Wx sc X) {x : Str} (h : glB sc x = true) : Gl X x ∧ (x == ("__debug__" : Str)) = false := by
  unfold glB at h
  split at h
  · rename_i e
    refine ⟨?_, by simpa using h⟩
    show X.env.scope.names.lookup x = _
    rw [o.hsc]; exact e
  · cases h
theorem and2 {a b : Bool} (h : (a && b) = true) : a = true ∧ b = true := Bool.and_eq_true_iff.mp h
/-! ### what each expression does -/
theorem opt_none {γ δ : Type} {rel' : Rl γ δ} {α : Type} {W : Wd} {bd : Nat → Nat} {base : Nat} {st : Sto} {f : α → Sto → R γ} {Q : δ → Hp → Prop} {o : Option α} (h : Ans rel' G bd base Wx σ W H st ((opt o st).bind f) Q) : ∃ a, o = some a ∧ Ans rel' G bd base Wx σ W H st (f a st) Q := Ans.opt h
theorem tru_val {W : Wd} {bd : Nat → Nat} {base : Nat} {st : Sto} {d : D} {v : V} {k : Bool} (hK : X.K = G.K) (r : RS G bd base W H st) (hd : DV G W st.length H d v) (h : truth (vw st d) = some k) : TruV X.K v H k ∨ ∃ a kvs, v = .ref a ∧ Rd H a (.dK kvs) ∧ k = !kvs.isEmpty := by
  cases ed : vw st d with
  | non =>
    have e := vw_id ed (by intro _ z; cases z) (by intro _ _ z; cases z)
    subst e
    rw [ed] at h; cases h
    rw [show v = V.non from hd]; exact .inl rfl
  | bl b =>
    have e := vw_id ed (by intro _ z; cases z) (by intro _ _ z; cases z)
    subst e
    rw [ed] at h; cases h
    rw [show v = V.bl _ from hd]; exact .inl rfl
  | int i =>
    rw [ed] at h; cases h
    rw [vw_int hd ed]; exact .inl rfl
  | str s =>
    rw [ed] at h
    have h' : (if s.length ≤ SL then some (s.length != 0) else none) = some k := h
    rw [vw_str hd ed]
    split at h'
    · rename_i hl
      cases h'
      refine .inl ⟨by rw [str_len, ← SL_eq]; exact hl, ?_⟩
      rw [str_len]
      cases s with
      | nil => rfl
      | cons a s =>
        have : ((((a :: s).length : Nat) : Int) != 0) = true := by simp; omega
        rw [this]; rfl
    · cases h'
  | lst ds =>
    rw [ed] at h; cases h
    obtain ⟨a, xs, rfl, h1, h2⟩ := vw_lst r hd ed
    refine .inl (.inl ⟨xs, SqL.of h1, ?_⟩)
    have := h2.len
    cases ds <;> cases xs <;> first | rfl | cases this
  | tup ds =>
    rw [ed] at h; cases h
    obtain ⟨a, xs, rfl, h1, h2⟩ := vw_tup hd ed
    refine .inl (.inr (.inl ⟨xs, by rw [hK]; exact h1, ?_⟩))
    have := h2.len
    cases ds <;> cases xs <;> first | rfl | cases this
  | dct ks vs =>
    rw [ed] at h; cases h
    obtain ⟨a, kvs, rfl, h1, h2, _⟩ := vw_dct r hd ed
    refine .inr ⟨a, kvs, rfl, h1, ?_⟩
    cases ks <;> cases kvs <;> first | rfl | cases h2
  | _ => rw [ed] at h; cases h

theorem tru_dict {X : Cx} {pins : List (Addr × Obj)} {s : Shared} {σ : L2.St} {H : Hp} {p : Addr} {kvs : List (Key × V)} {Q : Bool → Hp → Prop} (I : Inv X pins σ H s) (h : Rd H p (.dK kvs)) (q : Q (!kvs.isEmpty) H) :
    wpAny (model X.prog X.w) X.A (truthy (.ref p)) (TP X pins σ Q) X.xe s := by
  obtain ⟨hz, hS, vs, r, m⟩ := dk_rd I.hok h
  have hlen : kvs.length = vs.length := Paired.length r
  have hl := line63
  have hs : sizeLine = 16777216 := sizeLine_eq
  exact wpAny_truthy_dict hS m (by omega) ⟨H, I.tok _, by rw [isEmpty_kv r]; exact q⟩
/-- an expression as a test -/
theorem s_tst (o : Xok G T N C lv Wx sc X) {p : Expr} {e : E} (h : PE X p (rdE G C Wx e)) (he : ∀ whole, isTrue p X.env whole = (do let v ← whole; standAt p.pos; holding [v] (truthy v))) : PT X p (rdT G C Wx e) := by
  refine ⟨fun pins s σ H Q I q => ?_⟩
  refine isTrue_plain (thn (h.run pins s σ H _ I (rd.bind (rel := DV G) q)) fun v s1 ⟨x, H1, I1, r1, q1⟩ => ?_) (he _)
  obtain ⟨W, bd, base, ρ, st, d, r, en, dv, a⟩ := q1
  have a' : Ans eqRl G bd base Wx σ W H1 st ((opt (truth (vw st d)) st).bind fun k st => .ok k st) Q := by
    cases e : truth (vw st d) with
    | none => rw [e] at a; exact a.elim
    | some k => rw [e] at a; exact a
  obtain ⟨k, hk, a⟩ := Ans.opt a'
  have fin : Q k H1 := a k W H1 (Post.refl r) rfl
  rcases tru_val o.K r dv hk with z | ⟨p, kvs, rfl, z, rfl⟩
  · exact tru_ok pins s1 σ H1 x v Q I1 r1 ⟨k, z, fin⟩
  · cases r1
    exact tru_dict I1 z fin
theorem s_cst (o : Xok G T N C lv Wx sc X) {d : D} {c : Const} {j : Nat} {pos : Pos} (h : cstOk c d = true) : PE X (.Constant c j pos) (rdE G C Wx (.cst d)) := by
  have fin : ∀ {σ : L2.St} {H : Hp} {Q : VK} {v : V}, rdE G C Wx (.cst d) σ H Q → (∀ W n, DV G W n H d v) → Q v H := fun ⟨W, bd, base, ρ, st, r, en, a⟩ hv => Ans.here r a (hv W _)
  cases c with
  | none => cases d with
    | non => exact PE.weak pe_non fun σ H Q q => fin q fun _ _ => rfl
    | _ => cases h
  | bool b => cases d with
    | bl b' =>
      have e : b = b' := by simpa [cstOk] using h
      subst e
      exact PE.weak pe_bl fun σ H Q q => fin q fun _ _ => rfl
    | _ => cases h
  | int b => cases d with
    | int b' =>
      have e : b = b' := of_decide_eq_true h
      subst e
      exact PE.weak pe_int fun σ H Q q => fin q fun _ _ => rfl
    | _ => cases h
  | str b => cases d with
    | str b' =>
      have e : b.cps.toList = b' := of_decide_eq_true h
      subst e
      exact PE.weak pe_str fun σ H Q q => fin q fun _ _ => by show V.str b = V.str ⟨b.cps.toList.toArray⟩; simp
    | _ => cases h
  | _ => cases h
theorem getV_ok {ρ : En} {i : Nat} {d : D} (h : getV ρ i = some d) : ρ[i]? = some (some d) := by
  unfold getV at h
  split at h
  · rename_i e; cases h; exact e
  · cases h
theorem varB_ok (o : Xok G T N C lv Wx sc X) {i : Nat} {x : Str} (h : varB N sc i x = true) : X.N[i]? = some x ∧ Vis X.env.scope x ∧ (x == ("__debug__" : Str)) = false ∧ (x == ("__classdict__" : Str)) = false := by
  obtain ⟨h1, h2⟩ := and2 h
  obtain ⟨h2, h3⟩ := and2 h2
  obtain ⟨h3, h4⟩ := and2 h3
  refine ⟨?_, by rw [o.hsc]; exact visB_ok h2, by simpa using h3, by simpa using h4⟩
  rw [o.hN]
  split at h1
  · rename_i e
    rw [e, of_decide_eq_true h1]
  · cases h1
theorem s_var (o : Xok G T N C lv Wx sc X) {i : Nat} {x : Str} {pos : Pos} (h : varB N sc i x = true) : PE X (.Name x pos) (rdE G C Wx (.var i)) := by
  obtain ⟨h1, h2, h3, h4⟩ := varB_ok o h
  refine PE.weak (pe_var h1 h2 h3 h4) fun σ H Q ⟨W, bd, base, ρ, st, r, en, a⟩ => ?_
  obtain ⟨d, hd, a⟩ := opt_end a
  obtain ⟨v, hv, dv⟩ := en.2 i d (getV_ok hd)
  exact ⟨v, hv, a.here r dv⟩
theorem s_glf (o : Xok G T N C lv Wx sc X) {f : Nat} {x : Str} {pos : Pos} (h1 : glB sc x = true) (h2 : T.fname f = some x) : PE X (.Name x pos) (rdE G C Wx (.glf f)) := by
  obtain ⟨g, hd⟩ := glB_ok o h1
  refine PE.weak (pe_glob g (by rw [o.mg]; exact o.g.fn f x h2) (v := .ref (G.fa f)) rfl hd) fun σ H Q ⟨W, bd, base, ρ, st, r, en, a⟩ => ?_
  exact Ans.here r a rfl
theorem s_glc (o : Xok G T N C lv Wx sc X) {y : String} {d : D} {pos : Pos} (h1 : glB sc (Str.ofString y) = true) (h2 : (y, d) ∈ T.consts) : PE X (.Name (Str.ofString y) pos) (rdE G C Wx (.glc y d)) := by
  obtain ⟨g, hd⟩ := glB_ok o h1
  refine ⟨fun pins s σ H Q I q => ?_⟩
  obtain ⟨W, bd, base, ρ, st, r, en, a⟩ := q
  obtain ⟨u, v, e1, rv, dv⟩ := o.g.cst _ h2 W st.length H
  exact ld_glob I g (by rw [o.mg]; exact e1) ⟨v, H, I, rv, a.here r dv⟩ hd
theorem s_bin (o : Xok G T N C lv Wx sc X) {op : Op} {bx : Bool} {a b : E} {pa pb : Expr} {pos : Pos} (ha : PE X pa (rdE G C Wx a)) (hb : PE X pb (rdE G C Wx b)) : PE X (.BinOp pa (opR op) pb pos) (rdE G C Wx (.bin op bx a b)) := by
  refine PE.weak (pe_op (bin_ok (Wx := Wx) o.K op bx) ha hb) fun σ H Q q => ?_
  refine (fun (z : rdE G C Wx a σ H _) => z) ?_
  obtain ⟨W, bd, base, ρ, st, r, en, q⟩ := rd.bind (rel := DV G) q
  refine ⟨W, bd, base, ρ, st, r, en, q.mono ?_⟩
  rintro x H1 ⟨W1, bd1, base1, ρ1, st1, d, r1, en1, dv1, q1⟩
  obtain ⟨W, bd, base, ρ, st, r, en, q⟩ := rd.bind2 (rel := DV G) (rel0 := DV G) (f := fun base ρ st => evE C base b ρ st) (g := fun base ρ y st => binR op bx (vw st d) (vw st y) st) r1 en1 (fun W H st P => P.dv r1 dv1) q1
  refine ⟨W, bd, base, ρ, st, r, en, q.mono ?_⟩
  rintro y H2 ⟨W2, bd2, base2, ρ2, st2, e, r2, en2, dv2, de, q2⟩
  exact ⟨bd2, base2, σ, W2, st2, d, e, r2, dv2, de, q2⟩
end
end Rf

namespace Rf
open PySem PySem.Spec PyProof.Rows L2
section
variable {G : Gx} {T : Tx} {N : List Str} {C : Call} {lv : Nat} {Wx : WX} {sc : Scope} {X : Cx} {σ : L2.St} {H : Hp}
theorem bind_assoc' {α β γ : Type} (r : R α) (f : α → Sto → R β) (g : β → Sto → R γ) : (r.bind f).bind g = r.bind fun a st => (f a st).bind g := by cases r <;> rfl
/-- two expressions, one behind the other -/
theorem rd_two {a b : E} {δ γ : Type} {rel' : Rl γ δ} {g : Nat → En → D → D → Sto → R γ} {Q : δ → Hp → Prop} (q : rd G Wx rel' (fun base ρ st => (evE C base a ρ st).bind fun x st => (evE C base b ρ st).bind fun y st => g base ρ x y st) σ H Q) :
    rdE G C Wx a σ H fun x H1 => rdE G C Wx b σ H1 fun y H2 => ∃ W bd base ρ st d e, RS G bd base W H2 st ∧ EnR G W st.length H2 ρ σ ∧ DV G W st.length H2 d x ∧ DV G W st.length H2 e y ∧ Ans rel' G bd base Wx σ W H2 st (g base ρ d e st) Q := by
  obtain ⟨W, bd, base, ρ, st, r, en, q⟩ := rd.bind (rel := DV G) q
  refine ⟨W, bd, base, ρ, st, r, en, q.mono ?_⟩
  rintro x H1 ⟨W1, bd1, base1, ρ1, st1, d, r1, en1, dv1, q1⟩
  obtain ⟨W, bd, base, ρ, st, r, en, q⟩ := rd.bind2 (rel := DV G) (rel0 := DV G) (f := fun base ρ st => evE C base b ρ st) (g := fun base ρ y st => g base ρ d y st) r1 en1 (fun W H st P => P.dv r1 dv1) q1
  refine ⟨W, bd, base, ρ, st, r, en, q.mono ?_⟩
  rintro y H2 ⟨W2, bd2, base2, ρ2, st2, e, r2, en2, dv2, de, q2⟩
  exact ⟨W2, bd2, base2, ρ2, st2, d, e, r2, en2, dv2, de, q2⟩
theorem s_neg (o : Xok G T N C lv Wx sc X) {a : E} {pa : Expr} {pos : Pos} (ha : PE X pa (rdE G C Wx a)) : PE X (.UnaryOp .USub pa pos) (rdE G C Wx (.neg a)) := by
  refine PE.weak (pe_un un_neg ha) fun σ H Q q => ?_
  obtain ⟨W, bd, base, ρ, st, r, en, q⟩ := rd.bind (rel := DV G) q
  refine ⟨W, bd, base, ρ, st, r, en, q.mono ?_⟩
  rintro x H1 ⟨W1, bd1, base1, ρ1, st1, d, r1, en1, dv1, q1⟩
  cases d with
  | int i => exact ⟨i, dv1, Ans.here r1 q1 rfl⟩
  | _ => exact q1.elim
theorem asB_ok {d : D} {k : Bool} (h : asB d = some k) : d = .bl k := by
  cases d <;> cases h; rfl
/-- the parts of and, or, not -/
theorem rd_bool {a : E} {δ γ : Type} {rel' : Rl γ δ} {g : Nat → En → Bool → Sto → R γ} {Q : δ → Hp → Prop} (q : rd G Wx rel' (fun base ρ st => (evE C base a ρ st).bind fun x st => (opt (asB x) st).bind fun k st => g base ρ k st) σ H Q) :
    rdE G C Wx a σ H fun x H1 => ∃ k, x = .bl k ∧ rd G Wx rel' (fun base ρ st => g base ρ k st) σ H1 Q := by
  obtain ⟨W, bd, base, ρ, st, r, en, q⟩ := rd.bind (rel := DV G) q
  refine ⟨W, bd, base, ρ, st, r, en, q.mono ?_⟩
  rintro x H1 ⟨W1, bd1, base1, ρ1, st1, d, r1, en1, dv1, q1⟩
  obtain ⟨k, hk, q1⟩ := Ans.opt q1
  cases asB_ok hk
  exact ⟨k, dv1, W1, bd1, base1, ρ1, st1, r1, en1, q1⟩
theorem rd_boolT {a : E} {δ γ : Type} {rel' : Rl γ δ} {g : Nat → En → Bool → Sto → R γ} {Q : δ → Hp → Prop} (q : rd G Wx rel' (fun base ρ st => (evE C base a ρ st).bind fun x st => (opt (asB x) st).bind fun k st => g base ρ k st) σ H Q) :
    rdT G C Wx a σ H fun k H1 => rd G Wx rel' (fun base ρ st => g base ρ k st) σ H1 Q := by
  obtain ⟨W, bd, base, ρ, st, r, en, q⟩ := q
  refine ⟨W, bd, base, ρ, st, r, en, ?_⟩
  dsimp only at q
  unfold tstE
  dsimp only
  cases e : evE C base a ρ st with
  | ok x st1 =>
    rw [e] at q
    cases x with
    | bl k =>
      intro v W' H' P hv
      cases hv
      exact ⟨W', bd, base, ρ, st1, P.rs, en.post P r, Ans.shift P q⟩
    | _ => exact q.elim
  | exc d st1 => rw [e] at q; exact q
  | bad => rw [e] at q; exact q
theorem rd_tst {a : E} {δ γ : Type} {rel' : Rl γ δ} {g : Nat → En → Bool → Sto → R γ} {Q : δ → Hp → Prop} (q : rd G Wx rel' (fun base ρ st => (evE C base a ρ st).bind fun x st => (opt (truth (vw st x)) st).bind fun k st => g base ρ k st) σ H Q) :
    rdT G C Wx a σ H fun k H1 => rd G Wx rel' (fun base ρ st => g base ρ k st) σ H1 Q := by
  obtain ⟨W, bd, base, ρ, st, r, en, q⟩ := q
  refine ⟨W, bd, base, ρ, st, r, en, ?_⟩
  dsimp only at q
  unfold tstE
  dsimp only
  cases e : evE C base a ρ st with
  | ok x st1 =>
    rw [e] at q
    have q' : Ans rel' G bd base Wx σ W H st ((opt (truth (vw st1 x)) st1).bind fun k st => g base ρ k st) Q := q
    show Ans eqRl G bd base Wx σ W H st (opt (truth (vw st1 x)) st1) _
    cases z : truth (vw st1 x) with
    | none => rw [z] at q'; exact q'.elim
    | some k =>
      rw [z] at q'
      intro v W' H' P hv
      cases hv
      exact ⟨W', bd, base, ρ, st1, P.rs, en.post P r, Ans.shift P q'⟩
  | exc d st1 => rw [e] at q; exact q
  | bad => rw [e] at q; exact q
theorem rd_here {α : Type} {β : Type} {rel : Rl α β} {a : α} {v : β} {Q : β → Hp → Prop} (q : rd G Wx rel (fun _ _ st => .ok a st) σ H Q) (hv : ∀ W n, rel W n H a v) : Q v H := by
  obtain ⟨W, bd, base, ρ, st, r, en, q⟩ := q
  exact q v W H (Post.refl r) (hv _ _)
theorem s_land (o : Xok G T N C lv Wx sc X) {a b : E} {pa pb : Expr} {rest : List Expr} {pos : Pos} (ha : PE X pa (rdE G C Wx a)) (hb : PE X (boolOpOf .And pb rest pos) (rdE G C Wx b)) : PE X (.BoolOp .And (pa :: pb :: rest) pos) (rdE G C Wx (.land a b)) := by
  have hb' : PE X (.BoolOp .And (pb :: rest) pos) (rdE G C Wx b) := by
    cases rest with
    | nil => exact pe_one hb
    | cons _ _ => exact hb
  refine PE.weak (pe_and ha hb') fun σ H Q q => ?_
  obtain ⟨W, bd, base, ρ, st, r, en, q⟩ := rd_bool q
  refine ⟨W, bd, base, ρ, st, r, en, q.mono ?_⟩
  rintro x H1 ⟨k, e, q1⟩
  refine ⟨k, e, ?_⟩
  cases k with
  | true => exact q1
  | false => exact rd_here (rel := DV G) q1 fun _ _ => rfl
theorem s_lor (o : Xok G T N C lv Wx sc X) {a b : E} {pa pb : Expr} {rest : List Expr} {pos : Pos} (ha : PE X pa (rdE G C Wx a)) (hb : PE X (boolOpOf .Or pb rest pos) (rdE G C Wx b)) : PE X (.BoolOp .Or (pa :: pb :: rest) pos) (rdE G C Wx (.lor a b)) := by
  have hb' : PE X (.BoolOp .Or (pb :: rest) pos) (rdE G C Wx b) := by
    cases rest with
    | nil => exact pe_one hb
    | cons _ _ => exact hb
  refine PE.weak (pe_or ha hb') fun σ H Q q => ?_
  obtain ⟨W, bd, base, ρ, st, r, en, q⟩ := rd_bool q
  refine ⟨W, bd, base, ρ, st, r, en, q.mono ?_⟩
  rintro x H1 ⟨k, e, q1⟩
  refine ⟨k, e, ?_⟩
  cases k with
  | false => exact q1
  | true => exact rd_here (rel := DV G) q1 fun _ _ => rfl
theorem s_lnot (o : Xok G T N C lv Wx sc X) {a : E} {pa : Expr} {pos : Pos} (ha : PE X pa (rdE G C Wx a)) : PE X (.UnaryOp .Not pa pos) (rdE G C Wx (.lnot a)) := by
  refine PE.weak (pe_not ha) fun σ H Q q => ?_
  obtain ⟨W, bd, base, ρ, st, r, en, q⟩ := rd_bool q
  refine ⟨W, bd, base, ρ, st, r, en, q.mono ?_⟩
  rintro x H1 ⟨k, e, q1⟩
  exact ⟨k, e, rd_here (rel := DV G) q1 fun _ _ => rfl⟩
/-- truth of a truth -/
theorem tst_bl {k : Bool} {st : Sto} : opt (truth (vw st (.bl k))) st = .ok k st := rfl
theorem t_land {a b : E} {pa pb : Expr} {rest : List Expr} {pos : Pos} (ha : PT X pa (rdT G C Wx a)) (hb : PW X (.BoolOp .And (pb :: rest) pos) (rdT G C Wx b)) : PW X (.BoolOp .And (pa :: pb :: rest) pos) (rdT G C Wx (.land a b)) := by
  refine PW.weak (pw_and ha hb) fun σ H Q q => ?_
  have q' : rd G Wx eqRl (fun base ρ st => (evE C base a ρ st).bind fun x st => (opt (asB x) st).bind fun k st => (if k then evE C base b ρ st else .ok (.bl false) st).bind fun x st => opt (truth (vw st x)) st) σ H Q := by
    obtain ⟨W, bd, base, ρ, st, r, en, q⟩ := q
    refine ⟨W, bd, base, ρ, st, r, en, ?_⟩
    have e : tstE C (.land a b) base ρ st = (evE C base a ρ st).bind fun x st => (opt (asB x) st).bind fun k st => (if k then evE C base b ρ st else .ok (.bl false) st).bind fun x st => opt (truth (vw st x)) st := by
      show ((evE C base a ρ st).bind _).bind _ = _
      rw [bind_assoc']
      congr 1; funext x st1
      rw [bind_assoc']
    dsimp only
    rw [← e]; exact q
  obtain ⟨W, bd, base, ρ, st, r, en, q⟩ := rd_boolT q'
  refine ⟨W, bd, base, ρ, st, r, en, q.mono ?_⟩
  rintro k H1 q1
  cases k with
  | true => exact q1
  | false => exact rd_here (rel := eqRl) q1 fun _ _ => rfl
theorem t_lor {a b : E} {pa pb : Expr} {rest : List Expr} {pos : Pos} (ha : PT X pa (rdT G C Wx a)) (hb : PW X (.BoolOp .Or (pb :: rest) pos) (rdT G C Wx b)) : PW X (.BoolOp .Or (pa :: pb :: rest) pos) (rdT G C Wx (.lor a b)) := by
  refine PW.weak (pw_or ha hb) fun σ H Q q => ?_
  have q' : rd G Wx eqRl (fun base ρ st => (evE C base a ρ st).bind fun x st => (opt (asB x) st).bind fun k st => (if k then .ok (.bl true) st else evE C base b ρ st).bind fun x st => opt (truth (vw st x)) st) σ H Q := by
    obtain ⟨W, bd, base, ρ, st, r, en, q⟩ := q
    refine ⟨W, bd, base, ρ, st, r, en, ?_⟩
    have e : tstE C (.lor a b) base ρ st = (evE C base a ρ st).bind fun x st => (opt (asB x) st).bind fun k st => (if k then .ok (.bl true) st else evE C base b ρ st).bind fun x st => opt (truth (vw st x)) st := by
      show ((evE C base a ρ st).bind _).bind _ = _
      rw [bind_assoc']
      congr 1; funext x st1
      rw [bind_assoc']
    dsimp only
    rw [← e]; exact q
  obtain ⟨W, bd, base, ρ, st, r, en, q⟩ := rd_boolT q'
  refine ⟨W, bd, base, ρ, st, r, en, q.mono ?_⟩
  rintro k H1 q1
  cases k with
  | false => exact q1
  | true => exact rd_here (rel := eqRl) q1 fun _ _ => rfl
theorem t_lnot {a : E} {pa : Expr} {pos : Pos} (ha : PT X pa (rdT G C Wx a)) : PT X (.UnaryOp .Not pa pos) (rdT G C Wx (.lnot a)) := by
  refine PT.weak (pt_not ha) fun σ H Q q => ?_
  have q' : rd G Wx eqRl (fun base ρ st => (evE C base a ρ st).bind fun x st => (opt (asB x) st).bind fun k st => .ok (!k) st) σ H Q := by
    obtain ⟨W, bd, base, ρ, st, r, en, q⟩ := q
    refine ⟨W, bd, base, ρ, st, r, en, ?_⟩
    have e : tstE C (.lnot a) base ρ st = (evE C base a ρ st).bind fun x st => (opt (asB x) st).bind fun k st => .ok (!k) st := by
      show ((evE C base a ρ st).bind _).bind _ = _
      rw [bind_assoc']
      congr 1; funext x st1
      rw [bind_assoc']
      rfl
    dsimp only
    rw [← e]; exact q
  obtain ⟨W, bd, base, ρ, st, r, en, q⟩ := rd_boolT q'
  refine ⟨W, bd, base, ρ, st, r, en, q.mono ?_⟩
  rintro k H1 q1
  exact rd_here (rel := eqRl) q1 fun _ _ => rfl
theorem s_ife (o : Xok G T N C lv Wx sc X) {c a b : E} {pc pa pb : Expr} {pos : Pos} (hc : PT X pc (rdT G C Wx c)) (ha : PE X pa (rdE G C Wx a)) (hb : PE X pb (rdE G C Wx b)) : PE X (.IfExp pc pa pb pos) (rdE G C Wx (.ife c a b)) := by
  refine PE.weak (pe_ifExp hc ha hb) fun σ H Q q => ?_
  obtain ⟨W, bd, base, ρ, st, r, en, q⟩ := rd_tst q
  refine ⟨W, bd, base, ρ, st, r, en, q.mono ?_⟩
  rintro k H1 q1
  cases k with
  | true => exact q1
  | false => exact q1
theorem pt_ifExp {tc ta tb : TT} {pc pa pb : Expr} {pos : Pos} (hc : PT X pc tc) (ha : PT X pa ta) (hb : PT X pb tb) : PT X (.IfExp pc pa pb pos) (fun σ H Q => tc σ H fun k H1 => if k = true then ta σ H1 Q else tb σ H1 Q) := by
  refine ⟨fun pins s σ H Q I h => ?_⟩
  show wpAny _ _ (do if ← isTrue pc X.env (eval pc X.env) then isTrue pa X.env (eval pa X.env) else isTrue pb X.env (eval pb X.env)) _ _ _
  refine wpAny_bind (thn (hc.run pins s σ H _ I h) fun k s1 ⟨H1, I1, q1⟩ => ?_)
  cases k with
  | true => exact ha.run pins s1 σ H1 Q I1 q1
  | false => exact hb.run pins s1 σ H1 Q I1 q1
theorem t_ife {c a b : E} {pc pa pb : Expr} {pos : Pos} (hc : PT X pc (rdT G C Wx c)) (ha : PT X pa (rdT G C Wx a)) (hb : PT X pb (rdT G C Wx b)) : PT X (.IfExp pc pa pb pos) (rdT G C Wx (.ife c a b)) := by
  refine PT.weak (pt_ifExp hc ha hb) fun σ H Q q => ?_
  have q' : rd G Wx eqRl (fun base ρ st => (evE C base c ρ st).bind fun x st => (opt (truth (vw st x)) st).bind fun k st => (if k then evE C base a ρ st else evE C base b ρ st).bind fun x st => opt (truth (vw st x)) st) σ H Q := by
    obtain ⟨W, bd, base, ρ, st, r, en, q⟩ := q
    refine ⟨W, bd, base, ρ, st, r, en, ?_⟩
    have e : tstE C (.ife c a b) base ρ st = (evE C base c ρ st).bind fun x st => (opt (truth (vw st x)) st).bind fun k st => (if k then evE C base a ρ st else evE C base b ρ st).bind fun x st => opt (truth (vw st x)) st := by
      show ((evE C base c ρ st).bind _).bind _ = _
      rw [bind_assoc']
      congr 1; funext x st1
      rw [bind_assoc']
    dsimp only
    rw [← e]; exact q
  obtain ⟨W, bd, base, ρ, st, r, en, q⟩ := rd_tst q'
  refine ⟨W, bd, base, ρ, st, r, en, q.mono ?_⟩
  rintro k H1 q1
  cases k with
  | true => exact q1
  | false => exact q1
/-! ### comparisons -/
def noSet : Expr → Bool
  | .Set _ _ _ => false
  | _ => true
theorem nomarkS {b : Expr} {op : CmpOp} (h : noSet b = true) : behindInMarks op b = false := by
  cases b <;> first | rfl | cases h
theorem chkE_set {e : E} {ps : List Expr} {k : Nat} {pos : Pos} : chkE T N sc e (.Set ps k pos) = false := by
  unfold chkE
  split <;> first | rfl | (rename_i h; cases h)
theorem chkE_noset {e : E} {p : Expr} (h : chkE T N sc e p = true) : noSet p = true := by
  cases p with
  | Set _ _ _ => rw [chkE_set] at h; cases h
  | _ => rfl
theorem room65 (o : Xok G T N C lv Wx sc X) : X.A.units + 65 < cLine := by have := o.room.un; omega
theorem room1 (o : Xok G T N C lv Wx sc X) : X.A.units + 1 < cLine := by have := o.room.un; omega
theorem s_cmp (o : Xok G T N C lv Wx sc X) {op : Cm} {a b : E} {pa pb : Expr} {pos : Pos} (ha : PE X pa (rdE G C Wx a)) (hb : PE X pb (rdE G C Wx b)) (hs : noSet pb = true) :
    PE X (.Compare pa [cmR op] [pb] pos) (rdE G C Wx (.cmp op a b)) ∧ PT X (.Compare pa [cmR op] [pb] pos) (rdT G C Wx (.cmp op a b)) := by
  refine ⟨PE.weak (pe_cmpR (cmp_ok (Wx := Wx) o.K (room65 o) op) ha hb (nomarkS hs)) fun σ H Q q => ?_, PT.weak (pt_cmpR (cmp_ok (Wx := Wx) o.K (room65 o) op) ha hb (nomarkS hs)) fun σ H Q q => ?_⟩
  · obtain ⟨W, bd, base, ρ, st, r, en, q⟩ := rd_two q
    refine ⟨W, bd, base, ρ, st, r, en, q.mono ?_⟩
    rintro x H1 ⟨W, bd, base, ρ, st, r, en, q⟩
    refine ⟨W, bd, base, ρ, st, r, en, q.mono ?_⟩
    rintro y H2 ⟨W, bd, base, ρ, st, d, e, r, en, d1, d2, q⟩
    exact ⟨bd, base, σ, W, st, d, e, r, d1, d2, q⟩
  · have q' : rd G Wx eqRl (fun base ρ st => (evE C base a ρ st).bind fun x st => (evE C base b ρ st).bind fun y st => (opt (cmpD op (vw st x) (vw st y)) st).bind fun k st => .ok k st) σ H Q := by
      obtain ⟨W, bd, base, ρ, st, r, en, q⟩ := q
      refine ⟨W, bd, base, ρ, st, r, en, ?_⟩
      have e : tstE C (.cmp op a b) base ρ st = (evE C base a ρ st).bind fun x st => (evE C base b ρ st).bind fun y st => (opt (cmpD op (vw st x) (vw st y)) st).bind fun k st => .ok k st := by
        show ((evE C base a ρ st).bind _).bind _ = _
        rw [bind_assoc']
        congr 1; funext x st1
        rw [bind_assoc']
        congr 1; funext y st2
        rw [bind_assoc']
        rfl
      dsimp only
      rw [← e]; exact q
    obtain ⟨W, bd, base, ρ, st, r, en, q⟩ := rd_two q'
    refine ⟨W, bd, base, ρ, st, r, en, q.mono ?_⟩
    rintro x H1 ⟨W, bd, base, ρ, st, r, en, q⟩
    refine ⟨W, bd, base, ρ, st, r, en, q.mono ?_⟩
    rintro y H2 ⟨W, bd, base, ρ, st, d, e, r, en, d1, d2, q⟩
    refine ⟨bd, base, σ, W, st, d, e, r, d1, d2, ?_⟩
    dsimp only
    cases z : cmpD op (vw st d) (vw st e) with
    | none => rw [z] at q; exact q.elim
    | some k =>
      rw [z] at q
      intro v W' H' P hv
      rw [show v = V.bl k from hv]
      exact ⟨k, rfl, q k W' H' P rfl⟩
end
end Rf

namespace Rf
open PySem PySem.Spec PyProof.Rows L2
section
variable {G : Gx} {T : Tx} {N : List Str} {C : Call} {lv : Nat} {Wx : WX} {sc : Scope} {X : Cx} {σ : L2.St} {H : Hp}
theorem lastNo {op op' : CmpOp} {b c : Expr} (h : noSet c = true) : lastMarks [op, op'] [b, c] = false := by
  show lastMarks [op'] [c] = false
  exact nomarkS h
/-- a < b < c -/
theorem rd_chain {a b c : E} {op op' : Cm} {δ γ : Type} {rel' : Rl γ δ} {g : Bool → Sto → R γ} {Q : δ → Hp → Prop} {P : Bool → δ} {F : Bool → γ} (hg : ∀ k st, g k st = .ok (F k) st) (hF : ∀ W n H k, rel' W n H (F k) (P k))
    (q : rd G Wx rel' (fun base ρ st => (evE C base a ρ st).bind fun x st => (evE C base b ρ st).bind fun y st => (opt (cmpD op (vw st x) (vw st y)) st).bind fun k st =>
      if k then (evE C base c ρ st).bind fun z st => (opt (cmpD op' (vw st y) (vw st z)) st).bind g else g false st) σ H Q) :
    rdE G C Wx a σ H fun x H1 => rdE G C Wx b σ H1 fun y H2 => rCmp G Wx op x y H2 fun z H3 => ∃ k, z = .bl k ∧ (if k = true then rdE G C Wx c σ H3 fun w' H4 => rCmp G Wx op' y w' H4 (fun v H5 => ∃ k, v = .bl k ∧ Q (P k) H5) else Q (P false) H3) := by
  obtain ⟨W, bd, base, ρ, st, r, en, q⟩ := rd_two q
  refine ⟨W, bd, base, ρ, st, r, en, q.mono ?_⟩
  rintro x H1 ⟨W, bd, base, ρ, st, r, en, q⟩
  refine ⟨W, bd, base, ρ, st, r, en, q.mono ?_⟩
  rintro y H2 ⟨W, bd, base, ρ, st, d, e, r, en, d1, d2, q⟩
  obtain ⟨k, hk, q⟩ := Ans.opt q
  refine ⟨bd, base, σ, W, st, d, e, r, d1, d2, ?_⟩
  dsimp only
  rw [hk]
  intro v W' H' p hv
  refine ⟨k, hv, ?_⟩
  cases k with
  | false =>
    rw [if_neg Bool.false_ne_true]
    have q2 : Ans rel' G bd base Wx σ W H2 st (g false st) Q := q
    rw [hg] at q2
    exact q2 _ W' H' p (hF _ _ _ _)
  | true =>
    rw [if_pos rfl]
    have q1 : Ans rel' G bd base Wx σ W' H' st ((evE C base c ρ st).bind fun z st => (opt (cmpD op' (vw st e) (vw st z)) st).bind g) Q := Ans.shift p q
    obtain ⟨W, bd, base, ρ, st, r, en, q⟩ := rd.bind2 (rel := DV G) (rel0 := DV G) (f := fun base ρ st => evE C base c ρ st) (g := fun base ρ z st => (opt (cmpD op' (vw st e) (vw st z)) st).bind g) p.rs (en.post p r) (fun W H st P => P.dv p.rs (p.dv r d2)) q1
    refine ⟨W, bd, base, ρ, st, r, en, q.mono ?_⟩
    rintro z H4 ⟨W, bd, base, ρ, st, f, r, en, d2, d3, q⟩
    obtain ⟨k, hk, q⟩ := Ans.opt q
    refine ⟨bd, base, σ, W, st, e, f, r, d2, d3, ?_⟩
    dsimp only
    rw [hk]
    intro v W' H' p hv
    refine ⟨k, hv, ?_⟩
    rw [hg] at q
    exact q _ W' H' p (hF _ _ _ _)
theorem s_chain (o : Xok G T N C lv Wx sc X) {op op' : Cm} {a b c : E} {pa pb pc : Expr} {pos : Pos} (ha : PE X pa (rdE G C Wx a)) (hb : PE X pb (rdE G C Wx b)) (hc : PE X pc (rdE G C Wx c)) (hs : noSet pc = true) :
    PE X (.Compare pa [cmR op, cmR op'] [pb, pc] pos) (rdE G C Wx (.chain op op' a b c)) ∧ PT X (.Compare pa [cmR op, cmR op'] [pb, pc] pos) (rdT G C Wx (.chain op op' a b c)) := by
  refine ⟨PE.weak (pe_chain (cmp_ok (Wx := Wx) o.K (room65 o) op) (cmp_ok (Wx := Wx) o.K (room65 o) op') ha hb hc (lastNo hs)) fun σ H Q q => ?_, PT.weak (pt_chain (cmp_ok (Wx := Wx) o.K (room65 o) op) (cmp_ok (Wx := Wx) o.K (room65 o) op') ha hb hc (lastNo hs)) fun σ H Q q => ?_⟩
  · have q' := rd_chain (rel' := DV G) (g := fun k st => .ok (.bl k) st) (F := .bl) (P := .bl) (fun _ _ => rfl) (fun _ _ _ _ => rfl) q
    obtain ⟨W, bd, base, ρ, st, r, en, q⟩ := q'
    refine ⟨W, bd, base, ρ, st, r, en, q.mono ?_⟩
    rintro x H1 ⟨W, bd, base, ρ, st, r, en, q⟩
    refine ⟨W, bd, base, ρ, st, r, en, q.mono ?_⟩
    rintro y H2 ⟨bd, base, σ', W, st, d, e, r, d1, d2, q⟩
    refine ⟨bd, base, σ', W, st, d, e, r, d1, d2, q.mono ?_⟩
    rintro z H3 ⟨k, rfl, q⟩
    refine ⟨k, rfl, ?_⟩
    cases k with
    | false => exact q
    | true =>
      rw [if_pos rfl] at q ⊢
      obtain ⟨W, bd, base, ρ, st, r, en, q⟩ := q
      refine ⟨W, bd, base, ρ, st, r, en, q.mono ?_⟩
      rintro z H4 ⟨bd, base, σ', W, st, d, e, r, d1, d2, q⟩
      refine ⟨bd, base, σ', W, st, d, e, r, d1, d2, q.mono ?_⟩
      rintro w' H5 ⟨k, rfl, q⟩
      exact q
  · have q0 : rd G Wx eqRl (fun base ρ st => (evE C base a ρ st).bind fun x st => (evE C base b ρ st).bind fun y st => (opt (cmpD op (vw st x) (vw st y)) st).bind fun k st =>
      if k then (evE C base c ρ st).bind fun z st => (opt (cmpD op' (vw st y) (vw st z)) st).bind (fun k st => .ok k st) else .ok false st) σ H Q := by
      obtain ⟨W, bd, base, ρ, st, r, en, q⟩ := q
      refine ⟨W, bd, base, ρ, st, r, en, ?_⟩
      have e : tstE C (.chain op op' a b c) base ρ st = (evE C base a ρ st).bind fun x st => (evE C base b ρ st).bind fun y st => (opt (cmpD op (vw st x) (vw st y)) st).bind fun k st =>
        if k then (evE C base c ρ st).bind fun z st => (opt (cmpD op' (vw st y) (vw st z)) st).bind (fun k st => .ok k st) else .ok false st := by
        show ((evE C base a ρ st).bind _).bind _ = _
        rw [bind_assoc']
        congr 1; funext x st1
        rw [bind_assoc']
        congr 1; funext y st2
        rw [bind_assoc']
        congr 1; funext k st3
        cases k with
        | false => rfl
        | true =>
          rw [if_pos rfl, if_pos rfl, bind_assoc']
          congr 1; funext z st4
          rw [bind_assoc']
          rfl
      dsimp only
      rw [← e]; exact q
    have q' := rd_chain (rel' := eqRl) (g := fun k st => .ok k st) (F := id) (P := id) (fun _ _ => rfl) (fun _ _ _ _ => rfl) q0
    obtain ⟨W, bd, base, ρ, st, r, en, q⟩ := q'
    refine ⟨W, bd, base, ρ, st, r, en, q.mono ?_⟩
    rintro x H1 ⟨W, bd, base, ρ, st, r, en, q⟩
    refine ⟨W, bd, base, ρ, st, r, en, q.mono ?_⟩
    rintro y H2 ⟨bd, base, σ', W, st, d, e, r, d1, d2, q⟩
    refine ⟨bd, base, σ', W, st, d, e, r, d1, d2, q.mono ?_⟩
    rintro z H3 ⟨k, rfl, q⟩
    refine ⟨k, rfl, ?_⟩
    cases k with
    | false => exact ⟨false, rfl, q⟩
    | true =>
      rw [if_pos rfl] at q ⊢
      obtain ⟨W, bd, base, ρ, st, r, en, q⟩ := q
      refine ⟨W, bd, base, ρ, st, r, en, q.mono ?_⟩
      rintro z H4 ⟨bd, base, σ', W, st, d, e, r, d1, d2, q⟩
      exact ⟨bd, base, σ', W, st, d, e, r, d1, d2, q⟩
/-! ### lists of expressions -/
theorem s_nil : PA X [] (rdEs G C Wx []) := PA.weak pa_nil fun σ H Q q => rd_here (rel := DVs G) q fun _ _ => rfl
theorem s_cons {e : E} {es : List E} {p : Expr} {ps : List Expr} (h : PE X p (rdE G C Wx e)) (hs : PA X ps (rdEs G C Wx es)) (ns : noStar p = true) : PA X (p :: ps) (rdEs G C Wx (e :: es)) := by
  refine PA.weak (pa_cons h hs (star_cons ns)) fun σ H Q q => ?_
  obtain ⟨W, bd, base, ρ, st, r, en, q⟩ := rd.bind (rel := DV G) q
  refine ⟨W, bd, base, ρ, st, r, en, q.mono ?_⟩
  rintro x H1 ⟨W1, bd1, base1, ρ1, st1, d, r1, en1, dv1, q1⟩
  obtain ⟨W, bd, base, ρ, st, r, en, q⟩ := rd.bind2 (rel := DVs G) (rel0 := DV G) (f := fun base ρ st => evEs C base es ρ st) (g := fun base ρ xs st => .ok (d :: xs) st) r1 en1 (fun W H st P => P.dv r1 dv1) q1
  refine ⟨W, bd, base, ρ, st, r, en, q.mono ?_⟩
  rintro xs H2 ⟨W2, bd2, base2, ρ2, st2, ds, r2, en2, dv2, de, q2⟩
  exact q2 _ W2 H2 (Post.refl r2) ⟨x, xs, rfl, dv2, de⟩
theorem s_tup {es : List E} {ps : List Expr} {k : Nat} {pos : Pos} (h : PA X ps (rdEs G C Wx es)) : PE X (.Tuple ps k pos) (rdE G C Wx (.tup es)) := by
  refine PE.weak (pe_tup h) fun σ H Q q => ?_
  obtain ⟨W, bd, base, ρ, st, r, en, q⟩ := rd.bind (rel := DVs G) q
  refine ⟨W, bd, base, ρ, st, r, en, q.mono ?_⟩
  rintro xs H1 ⟨W1, bd1, base1, ρ1, st1, ds, r1, en1, dv1, q1⟩
  exact ans_tup r1 dv1 q1
theorem s_lst {bx : Bool} {es : List E} {ps : List Expr} {pos : Pos} (h : PA X ps (rdEs G C Wx es)) : PE X (.List ps pos) (rdE G C Wx (.lst bx es)) := by
  refine PE.weak (pe_lst h) fun σ H Q q => ?_
  obtain ⟨W, bd, base, ρ, st, r, en, q⟩ := rd.bind (rel := DVs G) q
  refine ⟨W, bd, base, ρ, st, r, en, q.mono ?_⟩
  rintro xs H1 ⟨W1, bd1, base1, ρ1, st1, ds, r1, en1, dv1, q1⟩
  exact ans_lst r1 dv1 q1
theorem s_dct {bx : Bool} {pos : Pos} : PE X (.Dict [] [] pos) (rdE G C Wx (.dct bx [] [])) := by
  refine PE.weak pe_dnewK fun σ H Q ⟨W, bd, base, ρ, st, r, en, q⟩ => ?_
  exact (ans_dct (kvs := []) (ks := []) (vs := []) r rfl rfl q).2
theorem s_sub (o : Xok G T N C lv Wx sc X) {a i : E} {pa pi : Expr} {pos : Pos} (ha : PE X pa (rdE G C Wx a)) (hi : PE X pi (rdE G C Wx i)) (hs : PlainIx pi) : PE X (.Subscript pa pi pos) (rdE G C Wx (.sub a i)) := by
  refine PE.weak (pe_ix (sub_ok (Wx := Wx) o.K (room1 o)) ha hi hs) fun σ H Q q => ?_
  obtain ⟨W, bd, base, ρ, st, r, en, q⟩ := rd_two q
  refine ⟨W, bd, base, ρ, st, r, en, q.mono ?_⟩
  rintro x H1 ⟨W, bd, base, ρ, st, r, en, q⟩
  refine ⟨W, bd, base, ρ, st, r, en, q.mono ?_⟩
  rintro y H2 ⟨W, bd, base, ρ, st, d, e, r, en, d1, d2, q⟩
  exact ⟨bd, base, σ, W, st, d, e, r, d1, d2, q⟩
theorem s_oNone : PO X none (rdO G C Wx none) := ⟨fun pins s σ H Q I q => po_none.run pins s σ H Q I (rd_here (rel := eqRl) q fun _ _ => rfl)⟩
theorem s_oSome {e : E} {p : Expr} (h : PE X p (rdE G C Wx e)) : PO X (some p) (rdO G C Wx (some e)) := ⟨fun pins s σ H Q I q => (po_some h).run pins s σ H Q I (by
  obtain ⟨W, bd, base, ρ, st, r, en, q⟩ := rd.bind (rel := DV G) q
  refine ⟨W, bd, base, ρ, st, r, en, q.mono ?_⟩
  rintro x H1 ⟨W1, bd1, base1, ρ1, st1, d, r1, en1, dv1, q1⟩
  cases d with
  | int i => exact ⟨i, dv1, q1 _ W1 H1 (Post.refl r1) rfl⟩
  | _ => exact q1.elim)⟩
theorem s_slc (o : Xok G T N C lv Wx sc X) {bx : Bool} {a : E} {lo hi : Option E} {pa : Expr} {plo phi : Option Expr} {pos p2 : Pos} (ha : PE X pa (rdE G C Wx a)) (hl : PO X plo (rdO G C Wx lo)) (hh : PO X phi (rdO G C Wx hi)) :
    PE X (.Subscript pa (.Slice plo phi none p2) pos) (rdE G C Wx (.slc bx a lo hi)) := by
  refine PE.weak (pe_slice (slc_ok (Wx := Wx) o.K bx) ha hl hh) fun σ H Q q => ?_
  obtain ⟨W, bd, base, ρ, st, r, en, q⟩ := rd.bind (rel := DV G) q
  refine ⟨W, bd, base, ρ, st, r, en, q.mono ?_⟩
  rintro x H1 ⟨W1, bd1, base1, ρ1, st1, d, r1, en1, dv1, q1⟩
  obtain ⟨W, bd, base, ρ, st, r, en, q⟩ := rd.bind2 (rel := eqRl) (rel0 := DV G) (f := fun base ρ st => evO C base lo ρ st) (g := fun base ρ l st => (evO C base hi ρ st).bind fun h st => slcR bx (vw st d) l h st) r1 en1 (fun W H st P => P.dv r1 dv1) q1
  refine ⟨W, bd, base, ρ, st, r, en, q.mono ?_⟩
  rintro l H2 ⟨W2, bd2, base2, ρ2, st2, l', r2, en2, dv2, rfl, q2⟩
  obtain ⟨W, bd, base, ρ, st, r, en, q⟩ := rd.bind2 (rel := eqRl) (rel0 := DV G) (f := fun base ρ st => evO C base hi ρ st) (g := fun base ρ h st => slcR bx (vw st d) l' h st) r2 en2 (fun W H st P => P.dv r2 dv2) q2
  refine ⟨W, bd, base, ρ, st, r, en, q.mono ?_⟩
  rintro h H3 ⟨W3, bd3, base3, ρ3, st3, h', r3, en3, dv3, rfl, q3⟩
  exact ⟨bd3, base3, σ, W3, st3, d, r3, dv3, q3⟩
/-! ### calls of defs -/
theorem post_scoped {W W' : Wd} {bd : Nat → Nat} {base : Nat} {H H' : Hp} {st st' : Sto} (r : RS G bd base W H st) (p : Post G (bdOf bd base st.length) st.length W H st W' H' st') : Post G bd base W H st W' H' (st'.take st.length) := by
  have hl : st.length ≤ st'.length := p.ext.len
  have lt : (st'.take st.length).length = st.length := by rw [List.length_take]; omega
  have lv : ∀ k, live (st'.take st.length) k → k < st.length ∧ live st' k := fun k ⟨ob, e, nd⟩ => by
    rw [List.getElem?_take] at e
    split at e
    · rename_i h; exact ⟨h, ob, e, nd⟩
    · cases e
  refine ⟨⟨p.ext.fr, p.ext.F, p.ext.m, fun k hk h => p.ext.dd k hk (lv k h).2, fun k hk h => absurd (lv k h).1 (by omega), p.ext.tr, by omega, p.ext.nF⟩, ?_⟩
  refine ⟨fun k ob e => ?_, fun j k hj hk => p.rs.inj j k (lv j hj).2 (lv k hk).2, fun k hk => p.rs.fF k (lv k hk).2, p.rs.fH, r.bdl, by rw [lt]; exact r.bl⟩
  rw [List.getElem?_take] at e
  split at e
  · rename_i h
    have q := p.rs.obj k ob e
    rw [lt]
    unfold bdOf at q
    rw [if_pos h] at q
    exact q
  · cases e
theorem scope_in {W : Wd} {bd : Nat → Nat} {base : Nat} {H : Hp} {st : Sto} (r : RS G bd base W H st) : RS G (bdOf bd base st.length) st.length W H st := by
  refine ⟨fun k ob e => ?_, r.inj, r.fF, r.fH, fun k hk => bdOf_le r, Nat.le_refl _⟩
  have h := (List.getElem?_eq_some_iff.mp e).1
  have : bdOf (bdOf bd base st.length) st.length st.length k = bdOf bd base st.length k := if_pos h
  rw [this]
  exact r.obj k ob e
/-- what a call asks -/
theorem call_ok (o : Xok G T N C lv Wx sc X) {scp : Bool} {f : Nat} {W : Wd} {bd : Nat → Nat} {base : Nat} {st : Sto} {ds : List D} {vs : List V} {Q : VK} (r : RS G bd base W H st) (hd : DVs G W st.length H ds vs)
    (q : Ans (DV G) G bd base Wx σ W H st (callR C base scp f ds st) Q) : spF G C f vs H Q (WE Wx σ) := by
  cases scp with
  | false =>
    have q' : Ans (DV G) G bd base Wx σ W H st (C f ds st base) Q := q
    refine ⟨W, bd, base, st, ds, r, hd, ?_, ?_⟩
    · rw [hd.len]
      refine o.ar f ds st base fun z => ?_
      rw [z] at q'; exact q'
    · cases e : C f ds st base with
      | ok d st' => rw [e] at q'; exact q'
      | exc d st' => rw [e] at q'; exact q'
      | bad => rw [e] at q'; exact q'
  | true =>
    have q' : Ans (DV G) G bd base Wx σ W H st (match C f ds st st.length with
      | .ok d st' => if plain d then .ok d (st'.take st.length) else .bad
      | .exc d st' => .exc d (st'.take st.length)
      | .bad => .bad) Q := q
    refine ⟨W, bdOf bd base st.length, st.length, st, ds, scope_in r, hd, ?_, ?_⟩
    · rw [hd.len]
      refine o.ar f ds st st.length fun z => ?_
      rw [z] at q'; exact q'
    · cases e : C f ds st st.length with
      | ok d st' =>
        rw [e] at q'
        have q2 : Ans (DV G) G bd base Wx σ W H st (if plain d then .ok d (st'.take st.length) else .bad) Q := q'
        split at q2
        · rename_i hp
          exact fun v W' H' p dv => q2 v W' H' (post_scoped r p) (DV.plain hp dv)
        · exact q2.elim
      | exc d st' =>
        rw [e] at q'
        exact fun cls dd W' H' p x => q' cls dd W' H' (post_scoped r p) x
      | bad => rw [e] at q'; exact q'
theorem s_call (o : Xok G T N C lv Wx sc X) {scp : Bool} {f : Nat} {x : Str} {es : List E} {p : Expr} {ps : List Expr} {p0 pos : Pos} (h1 : glB sc x = true) (h2 : T.fname f = some x) (h : PA X (p :: ps) (rdEs G C Wx es)) (ns : ∀ q ∈ p :: ps, noStar q = true) :
    PE X (.Call (.Name x p0) (p :: ps) [] pos) (rdE G C Wx (.call scp f es)) := by
  obtain ⟨g, hd⟩ := glB_ok o h1
  have F := o.calls f
  rw [← o.prog, ← o.w, ← o.K, ← o.mg, ← o.base] at F
  have hb := o.g.binds f x h2
  have hk := o.g.keep f x h2
  rw [← o.K] at hb hk
  refine PE.weak (pe_callS F o.room g (by rw [o.mg]; exact o.g.fn f x h2) hk hb (fun σ => passAt o.tk σ) h hd (star_cons (ns p List.mem_cons_self)) (star_any fun q hq => ns q (List.mem_cons_of_mem _ hq))) fun σ H Q q => ?_
  obtain ⟨W, bd, base, ρ, st, r, en, q⟩ := rd.bind (rel := DVs G) q
  refine ⟨W, bd, base, ρ, st, r, en, q.mono ?_⟩
  rintro vs H1 ⟨W1, bd1, base1, ρ1, st1, ds, r1, en1, dv1, q1⟩
  exact call_ok o r1 dv1 q1
/-- the callee runs, its keywords among its arguments -/
theorem run_at {X : Cx} {CX : CXT} {k n : Nat} {f : Addr} {fd : FuncData} {ps ks : List Str} {sp : Sp} {E : XK} {g : List Value → List Value → List Value} {gV : List V → List V → List V} {pins : List (Addr × Obj)} {σ : L2.St} {H : Hp} {s : Shared} {Q : VK} {us ws : List Value} {vs zs : List V}
    (F : FnOk X.prog X.w X.K X.mg X.base CX k f fd ps sp) (hr : Room k X.A) (hb : KBn X.K fd ps n ks g gV) (hx : PassesAt CX X σ E)
    (I : Inv X pins σ H s) (r : Vals vs us) (rz : Vals zs ws) (l1 : vs.length = n) (l2 : zs.length = ks.length) (h : sp (gV vs zs) H Q E) : wpAny (model X.prog X.w) X.A (call (.ref f) us (ks.zip ws)) (EP X pins σ Q) X.xe s := by
  have r2 := hb.rel r rz
  refine wpAny_call (codeAny_mono (F.run X.A X.stack s H ⟨us, ks.zip ws⟩ (g us ws) (gV vs zs) Q E hr I.env0 (hb.to s us ws I.kIn (r.length.symm.trans l1) (rz.length.symm.trans l2)) r2 h) fun r s' hq => ?_)
  cases r with
  | error e => exact hx pins H s e s' I hq
  | ok fl =>
    cases fl with
    | ret u => exact I.after hq
    | next => exact False.elim hq
    | brk => exact False.elim hq
    | cont => exact False.elim hq
theorem s_call0 (o : Xok G T N C lv Wx sc X) {scp : Bool} {f : Nat} {x : Str} {p0 pos : Pos} (h1 : glB sc x = true) (h2 : T.fname f = some x) :
    PE X (.Call (.Name x p0) [] [] pos) (rdE G C Wx (.call scp f [])) := by
  obtain ⟨g, hd⟩ := glB_ok o h1
  have F := o.calls f
  rw [← o.prog, ← o.w, ← o.K, ← o.mg, ← o.base] at F
  have hb := o.g.binds f x h2
  have hk := o.g.keep f x h2
  rw [← o.K] at hb hk
  refine ⟨fun pins s σ H Q I q => ?_⟩
  obtain ⟨W, bd, base, ρ, st, r, en, q⟩ := rd.bind (rel := DVs G) q
  obtain ⟨W1, bd1, base1, ρ1, st1, ds, r1, en1, dv1, q1⟩ := q [] W H (Post.refl r) rfl
  refine wpAny_Call_Name_kw (ld_glob I g (by rw [o.mg]; exact o.g.fn f x h2) ?_ hd)
  exact PySem.W.callWith_K0 I.kIn hk (run_fnS (E := WE Wx) (us := []) F o.room hb (passAt o.tk σ) I .nil (call_ok o r1 dv1 q1))
/-! ### with keywords -/
inductive KwOk (G : Gx) (C : Call) (Wx : WX) (X : Cx) : List E → List Keyword → Prop where
  | nil : KwOk G C Wx X [] []
  | cons {e : E} {es : List E} {nm : Option Str} {p : Expr} {kp : Pos} {ps : List Keyword} : PE X p (rdE G C Wx e) → KwOk G C Wx X es ps → KwOk G C Wx X (e :: es) (⟨nm, p, kp⟩ :: ps)
theorem s_kw {es : List E} {ps : List Keyword} (h : KwOk G C Wx X es ps) : PK X ps (rdEs G C Wx es) := by
  induction h with
  | nil => exact ⟨fun pos pins s σ H Q I q => pk_nil.run pos pins s σ H Q I (rd_here (rel := DVs G) q fun _ _ => rfl)⟩
  | @cons e es nm p kp ps h _ ih =>
    refine ⟨fun pos pins s σ H Q I q => (pk_cons (nm := nm) (kpos := kp) h ih).run pos pins s σ H Q I ?_⟩
    obtain ⟨W, bd, base, ρ, st, r, en, q⟩ := rd.bind (rel := DV G) q
    refine ⟨W, bd, base, ρ, st, r, en, q.mono ?_⟩
    rintro x H1 ⟨W1, bd1, base1, ρ1, st1, d, r1, en1, dv1, q1⟩
    obtain ⟨W, bd, base, ρ, st, r, en, q⟩ := rd.bind2 (rel := DVs G) (rel0 := DV G) (f := fun base ρ st => evEs C base es ρ st) (g := fun base ρ xs st => .ok (d :: xs) st) r1 en1 (fun W H st P => P.dv r1 dv1) q1
    refine ⟨W, bd, base, ρ, st, r, en, q.mono ?_⟩
    rintro xs H2 ⟨W2, bd2, base2, ρ2, st2, ds, r2, en2, dv2, de, q2⟩
    exact q2 _ W2 H2 (Post.refl r2) ⟨x, xs, rfl, dv2, de⟩
theorem kw_facts {pos : Pos} {env : Env} : ∀ {kws : List Keyword} {names : List Str}, kws.map (·.arg) = names.map some →
    (backToKw pos (keywordEach kws env)).all (·.1.isSome) = true ∧ (backToKw pos (keywordEach kws env)).filterMap (·.1) = names ∧ (backToKw pos (keywordEach kws env)).any (·.1.isNone) = false
  | [], [], _ => ⟨rfl, rfl, rfl⟩
  | [], _ :: _, h => by cases h
  | _ :: _, [], h => by cases h
  | ⟨nm, p, kp⟩ :: kws, n :: names, h => by
    injection h with h1 h2
    have h1' : nm = some n := h1
    subst h1'
    obtain ⟨a, b, c⟩ := kw_facts (pos := pos) (env := env) h2
    refine ⟨?_, ?_, ?_⟩
    · show (true && (backToKw pos (keywordEach kws env)).all (·.1.isSome)) = true
      rw [a]; rfl
    · show n :: (backToKw pos (keywordEach kws env)).filterMap (·.1) = _
      rw [b]
    · show (false || (backToKw pos (keywordEach kws env)).any (·.1.isNone)) = false
      rw [c]; rfl
theorem getD_dv {W : Wd} {n : Nat} : ∀ {perm : List Nat} {ws : List D} {zs : List V}, DVs G W n H ws zs → DVs G W n H (perm.map fun i => ws.getD i .non) (perm.map fun i => zs.getD i .non)
  | [], _, _, _ => rfl
  | i :: perm, ws, zs, h => by
    refine ⟨_, _, rfl, ?_, getD_dv h⟩
    cases e : ws[i]? with
    | none =>
      have e2 : zs[i]? = none := by
        rw [List.getElem?_eq_none_iff] at e ⊢
        rw [h.len]; exact e
      simp only [List.getD, e, e2]
      rfl
    | some d =>
      obtain ⟨v, e2, hv⟩ := h.get e
      simp only [List.getD, e, e2]
      exact hv
theorem evEs_len {C : Call} {base : Nat} : ∀ {es : List E} {ρ : En} {st st' : Sto} {ds : List D}, evEs C base es ρ st = .ok ds st' → ds.length = es.length
  | [], _, _, _, _, h => by cases h; rfl
  | e :: es, ρ, st, st', ds, h => by
    have h' : ((evE C base e ρ st).bind fun x st => (evEs C base es ρ st).bind fun xs st => .ok (x :: xs) st) = .ok ds st' := h
    cases e1 : evE C base e ρ st with
    | ok x st1 =>
      rw [e1] at h'
      have h2 : ((evEs C base es ρ st1).bind fun xs st => .ok (x :: xs) st) = .ok ds st' := h'
      cases e2 : evEs C base es ρ st1 with
      | ok xs st2 =>
        rw [e2] at h2
        cases h2
        rw [List.length_cons, List.length_cons, evEs_len e2]
      | exc _ _ => rw [e2] at h2; cases h2
      | bad => rw [e2] at h2; cases h2
    | exc _ _ => rw [e1] at h'; cases h'
    | bad => rw [e1] at h'; cases h'
theorem callk_end (o : Xok G T N C lv Wx sc X) {scp : Bool} {f : Nat} {perm : List Nat} {ks : List E} {W : Wd} {bd : Nat → Nat} {base : Nat} {ρ : En} {st : Sto} {ds : List D} {vs : List V} {Q : VK} (r : RS G bd base W H st) (en : EnR G W st.length H ρ σ) (dv : DVs G W st.length H ds vs)
    (q : Ans (DV G) G bd base Wx σ W H st ((evEs C base ks ρ st).bind fun ws st => callR C base scp f (ds ++ perm.map fun i => ws.getD i .non) st) Q) :
    rdEs G C Wx ks σ H fun zs H2 => vs.length = ds.length ∧ zs.length = ks.length ∧ spF G C f (vs ++ perm.map fun i => zs.getD i .non) H2 Q (WE Wx σ) := by
  refine ⟨W, bd, base, ρ, st, r, en, (Ans.bind (rel := DVs G) q).mono ?_⟩
  rintro zs H2 ⟨ws, st2, W2, e2, P2, dw, q2⟩
  exact ⟨dv.len, by rw [dw.len, evEs_len e2], call_ok o P2.rs ((P2.dvs r dv).app (getD_dv dw)) q2⟩
theorem s_callk (o : Xok G T N C lv Wx sc X) {scp : Bool} {f : Nat} {x : Str} {perm : List Nat} {names : List Str} {es ks : List E} {p : Expr} {ps : List Expr} {kws : List Keyword} {p0 pos : Pos} (h1 : glB sc x = true) (h2 : T.fname f = some x) (hkb : (f, es.length, perm, names) ∈ T.kbs) (hn : kws.map (·.arg) = names.map some)
    (h : PA X (p :: ps) (rdEs G C Wx es)) (ns : ∀ q ∈ p :: ps, noStar q = true) (hk2 : PK X kws (rdEs G C Wx ks)) (hl : ks.length = names.length) :
    PE X (.Call (.Name x p0) (p :: ps) kws pos) (rdE G C Wx (.callk scp f perm es ks)) := by
  obtain ⟨g, hd⟩ := glB_ok o h1
  have F := o.calls f
  rw [← o.prog, ← o.w, ← o.K, ← o.mg, ← o.base] at F
  have hb := o.g.kb _ hkb
  have hk := o.g.keep f x h2
  rw [← o.K] at hb hk
  obtain ⟨f1, f2, f3⟩ := kw_facts (pos := pos) (env := X.env) hn
  refine ⟨fun pins s σ H Q I q => ?_⟩
  refine wpAny_Call_Name_kw (ld_glob I g (by rw [o.mg]; exact o.g.fn f x h2) ?_ hd)
  refine PySem.W.callWith_KW (h₀ := X.base) I.ok.mod.kin hk f1 (thn (h.run pos pins s σ H _ I (rd.bindE (rel := DVs G) q)) fun us s1 ⟨vs, H1, I1, rv, q1⟩ => ?_) (by rw [star_any (fun q hq => ns q hq), f3]; rfl) (star_cons (ns p List.mem_cons_self))
  obtain ⟨W1, bd1, base1, ρ1, st1, ds, r1, en1, dv1, ⟨b', ρ', s', e1⟩, q1⟩ := q1
  have z := callk_end o r1 en1 dv1 q1
  rw [evEs_len e1, hl] at z
  refine thn (hk2.run pos pins s1 σ H1 _ I1 z) fun ws s2 ⟨zs, H2, I2, rz, l1, l2, q2⟩ => ⟨I2.kIn, ?_⟩
  rw [f2]
  exact run_at F o.room hb (passAt o.tk σ) I2 rv rz l1 l2 q2
theorem s_callk0 (o : Xok G T N C lv Wx sc X) {scp : Bool} {f : Nat} {x : Str} {perm : List Nat} {names : List Str} {ks : List E} {kws : List Keyword} {p0 pos : Pos} (h1 : glB sc x = true) (h2 : T.fname f = some x) (hkb : (f, 0, perm, names) ∈ T.kbs) (hn : kws.map (·.arg) = names.map some)
    (hk2 : PK X kws (rdEs G C Wx ks)) (hl : ks.length = names.length) :
    PE X (.Call (.Name x p0) [] kws pos) (rdE G C Wx (.callk scp f perm [] ks)) := by
  obtain ⟨g, hd⟩ := glB_ok o h1
  have F := o.calls f
  rw [← o.prog, ← o.w, ← o.K, ← o.mg, ← o.base] at F
  have hb := o.g.kb _ hkb
  have hk := o.g.keep f x h2
  rw [← o.K] at hb hk
  obtain ⟨f1, f2, f3⟩ := kw_facts (pos := pos) (env := X.env) hn
  refine ⟨fun pins s σ H Q I q => ?_⟩
  obtain ⟨W, bd, base, ρ, st, r, en, q⟩ := q
  have q' : Ans (DV G) G bd base Wx σ W H st ((evEs C base ks ρ st).bind fun ws st => callR C base scp f ([] ++ perm.map fun i => ws.getD i .non) st) Q := q
  have z := callk_end (vs := []) o r en (show DVs G W st.length H [] [] from rfl) q'
  rw [hl] at z
  refine wpAny_Call_Name_kw (ld_glob I g (by rw [o.mg]; exact o.g.fn f x h2) ?_ hd)
  refine PySem.W.callWith_KW0 (h₀ := X.base) I.ok.mod.kin hk f1 ?_ (by rw [f3]; rfl)
  refine thn (hk2.run pos pins s σ H _ I z) fun ws s2 ⟨zs, H2, I2, rz, l1, l2, q2⟩ => ⟨I2.kIn, ?_⟩
  rw [f2]
  exact run_at F o.room hb (passAt o.tk σ) I2 .nil rz l1 l2 q2
end
end Rf

namespace Rf
open PySem PySem.Spec PyProof.Rows L2
section
variable {G : Gx} {T : Tx} {N : List Str} {C : Call} {lv : Nat} {Wx : WX} {sc : Scope} {X : Cx} {σ : L2.St} {H : Hp}
theorem s_bi (o : Xok G T N C lv Wx sc X) {b : Bi} {bx : Bool} {x : Str} {es : List E} {p : Expr} {ps : List Expr} {p0 pos : Pos} (h1 : glB sc x = true) (h2 : biName b = x) (h : PA X (p :: ps) (rdEs G C Wx es)) (ns : ∀ q ∈ p :: ps, noStar q = true) :
    PE X (.Call (.Name x p0) (p :: ps) [] pos) (rdE G C Wx (.bi b bx es)) := by
  obtain ⟨g, hd⟩ := glB_ok o h1
  have hs := star_cons (es := ps) (env := X.env) (ns p List.mem_cons_self)
  have hp := star_any (env := X.env) (pos := pos) fun q hq => ns q (List.mem_cons_of_mem _ hq)
  have fin : ∀ σ H Q, rdE G C Wx (.bi b bx es) σ H Q → rdEs G C Wx es σ H fun vs H1 => rBi G Wx b bx vs H1 Q := fun σ H Q q => by
    obtain ⟨W, bd, base, ρ, st, r, en, q⟩ := rd.bind (rel := DVs G) q
    refine ⟨W, bd, base, ρ, st, r, en, q.mono ?_⟩
    rintro vs H1 ⟨W1, bd1, base1, ρ1, st1, ds, r1, en1, dv1, q1⟩
    exact ⟨bd1, base1, σ, W1, st1, ds, r1, dv1, q1⟩
  have ok := bi_ok (Wx := Wx) o.K o.calm b bx
  have hm : X.mg x = none := by
    rw [o.mg, ← h2]
    exact o.g.bi _ (by cases b <;> decide)
  subst h2
  cases b with
  | len => exact PE.weak (pe_callB ok g hm (by decide +kernel) h (by decide) hd hs hp) fin
  | abs => exact PE.weak (pe_callB ok g hm (by decide +kernel) h (by decide) hd hs hp) fin
  | sum => exact PE.weak (pe_callB ok g hm (by decide +kernel) h (by decide) hd hs hp) fin
  | all => exact PE.weak (pe_callB ok g hm (by decide +kernel) h (by decide) hd hs hp) fin
  | any => exact PE.weak (pe_callB ok g hm (by decide +kernel) h (by decide) hd hs hp) fin
  | max1 => exact PE.weak (pe_callB ok g hm (by decide +kernel) h (by decide) hd hs hp) fin
  | max2 => exact PE.weak (pe_callB ok g hm (by decide +kernel) h (by decide) hd hs hp) fin
  | min2 => exact PE.weak (pe_callB ok g hm (by decide +kernel) h (by decide) hd hs hp) fin
  | sorted => exact PE.weak (pe_callB ok g hm (by decide +kernel) h (by decide) hd hs hp) fin
  | divmod => exact PE.weak (pe_callB ok g hm (by decide +kernel) h (by decide) hd hs hp) fin
  | tuple => exact PE.weak (pe_callTy ok g hm (by decide +kernel) h (by decide) hd hs hp) fin
  | list => exact PE.weak (pe_callTy ok g hm (by decide +kernel) h (by decide) hd hs hp) fin
  | dict => exact PE.weak (pe_callTy ok g hm (by decide +kernel) h (by decide) hd hs hp) fin
  | int => exact PE.weak (pe_callTy ok g hm (by decide +kernel) h (by decide) hd hs hp) fin
  | str => exact PE.weak (pe_callTy ok g hm (by decide +kernel) h (by decide) hd hs hp) fin
  | bool => exact PE.weak (pe_callTy ok g hm (by decide +kernel) h (by decide) hd hs hp) fin
theorem s_isi (o : Xok G T N C lv Wx sc X) {k : Ki} {x y : Str} {e : E} {p : Expr} {p0 p1 pos : Pos} (h1 : glB sc x = true) (h2 : x = ("isinstance" : Str)) (h3 : glB sc y = true) (h4 : y = Str.ofString (kiN k)) (h : PE X p (rdE G C Wx e)) (ns : noStar p = true) :
    PE X (.Call (.Name x p0) [p, .Name y p1] [] pos) (rdE G C Wx (.isi [k] e)) := by
  obtain ⟨g, hd⟩ := glB_ok o h1
  obtain ⟨g2, hd2⟩ := glB_ok o h3
  have hm : X.mg x = none := by rw [o.mg, h2]; exact o.g.bi _ (by decide)
  have hy : PE X (.Name y p1) (tC (.ty (kiN k))) := by
    have hm2 : X.mg y = none := by rw [o.mg, h4]; exact o.g.bi _ (by cases k <;> decide)
    subst h4
    cases k with
    | int => exact pe_bltn g2 hm2 (u := .type "int") (by decide +kernel) rfl (by decide) hd2
    | bool => exact pe_bltn g2 hm2 (u := .type "bool") (by decide +kernel) rfl (by decide) hd2
    | str => exact pe_bltn g2 hm2 (u := .type "str") (by decide +kernel) rfl (by decide) hd2
    | tuple => exact pe_bltn g2 hm2 (u := .type "tuple") (by decide +kernel) rfl (by decide) hd2
    | list => exact pe_bltn g2 hm2 (u := .type "list") (by decide +kernel) rfl (by decide) hd2
    | dict => exact pe_bltn g2 hm2 (u := .type "dict") (by decide +kernel) rfl (by decide) hd2
  subst h2
  refine PE.weak (pe_callB call_isi g hm (by decide +kernel) (pa_cons h (pa_cons hy pa_nil) (star_cons ns)) (by decide) hd (star_cons ns) rfl) fun σ H Q q => ?_
  obtain ⟨W, bd, base, ρ, st, r, en, q⟩ := rd.bind (rel := DV G) q
  refine ⟨W, bd, base, ρ, st, r, en, q.mono ?_⟩
  rintro v H1 ⟨W1, bd1, base1, ρ1, st1, d, r1, en1, dv1, q1⟩
  obtain ⟨b, hb, q1⟩ := Ans.opt q1
  obtain ⟨t, t1, t2⟩ := isKi_ok o.K k r1 dv1 hb
  exact ⟨v, .ty (kiN k), .type t, .type (kiN k), b, rfl, .ty _, t1, kit_ty t2, Ans.here r1 q1 rfl⟩
/-! ### methods of dicts and lists -/
theorem base_ok {po : Expr} {m : Str} {env : Env} (h : plainBase po = true) : attributeBase po m env (eval po env) = eval po env := by
  cases po with
  | Call f as ks pos =>
    cases f with
    | Name x p => cases as with
      | nil => cases ks with
        | nil => cases h
        | cons _ _ => rfl
      | cons _ _ => rfl
    | _ => rfl
  | _ => rfl
theorem rd_recv {m : Mt} {a : E} {δ γ : Type} {rel' : Rl γ δ} {g : Nat → En → D → Sto → R γ} {Q : δ → Hp → Prop} (q : rd G Wx rel' (fun base ρ st => (evE C base a ρ st).bind fun x st => (opt (mtTy m (vw st x)) st).bind fun _ st => g base ρ x st) σ H Q) :
    rdE G C Wx a σ H fun x H1 => ∃ W bd base ρ st d, RS G bd base W H1 st ∧ EnR G W st.length H1 ρ σ ∧ DV G W st.length H1 d x ∧ mtTy m (vw st d) = some () ∧ Ans rel' G bd base Wx σ W H1 st (g base ρ d st) Q := by
  obtain ⟨W, bd, base, ρ, st, r, en, q⟩ := rd.bind (rel := DV G) q
  refine ⟨W, bd, base, ρ, st, r, en, q.mono ?_⟩
  rintro x H1 ⟨W1, bd1, base1, ρ1, st1, d, r1, en1, dv1, q1⟩
  obtain ⟨u, hu, q1⟩ := Ans.opt q1
  exact ⟨W1, bd1, base1, ρ1, st1, d, r1, en1, dv1, hu, q1⟩
theorem bind_ok {α β : Type} {r : R α} {f : α → Sto → R β} : (r.bind fun x st => (R.ok x st).bind f) = r.bind f := by cases r <;> rfl
theorem s_get2 (o : Xok G T N C lv Wx sc X) {bx : Bool} {a k d : E} {pa pk pd : Expr} {apos pos : Pos} (hpb : plainBase pa = true) (hl : apos.endLine = pos.line) (ha : PE X pa (rdE G C Wx a)) (hk : PE X pk (rdE G C Wx k)) (hd : PE X pd (rdE G C Wx d)) (nk : noStar pk = true) (nd : noStar pd = true) :
    PE X (.Call (.Attribute pa "get" apos) [pk, pd] [] pos) (rdE G C Wx (.mt .get2 bx a [k, d])) := by
  have hs : backTo pos (starEach [pk, pd] X.env) = [(false, eval pk X.env), (false, eval pd X.env)] := by rw [star_cons nk, star_cons nd]; rfl
  refine PE.weak (pe_dget2 (room1 o) ha hk hd ⟨base_ok hpb, by rw [hs]; rfl, by rw [hl]; simp, hs⟩) fun σ H Q q => ?_
  obtain ⟨W, bd, base, ρ, st, r, en, q⟩ := rd_recv q
  refine ⟨W, bd, base, ρ, st, r, en, q.mono ?_⟩
  rintro x H1 ⟨W1, bd1, base1, ρ1, st1, e, r1, en1, dv1, hty, q1⟩
  cases ee : vw st1 e with
  | dct ks vs =>
    obtain ⟨p, kvs, rfl, h1, h2, h3⟩ := vw_dct r1 dv1 ee
    refine ⟨p, rfl, .inl ⟨kvs, h1⟩, ?_⟩
    -- the arguments
    have q1' : Ans (DV G) G bd1 base1 Wx σ W1 H1 st1 ((evE C base1 k ρ1 st1).bind fun y st => (evE C base1 d ρ1 st).bind fun z st => mtR .get2 bx base1 e [y, z] st) Q := by
      have e2 : ((evEs C base1 [k, d] ρ1 st1).bind fun ds st => mtR .get2 bx base1 e ds st) = (evE C base1 k ρ1 st1).bind fun y st => (evE C base1 d ρ1 st).bind fun z st => mtR .get2 bx base1 e [y, z] st := by
        show (((evE C base1 k ρ1 st1).bind fun x st => (((evE C base1 d ρ1 st).bind fun y st => ((R.ok [] st).bind fun zs st => .ok (y :: zs) st)).bind fun xs st => .ok (x :: xs) st)).bind _) = _
        rw [bind_assoc']
        congr 1; funext y st2
        rw [bind_assoc', bind_assoc']
        rfl
      rw [← e2]; exact q1
    obtain ⟨W, bd, base, ρ, st, r, en, q⟩ := rd.bind2 (rel := DV G) (rel0 := DV G) (f := fun base ρ st => evE C base k ρ st) (g := fun base ρ y st => (evE C base d ρ st).bind fun z st => mtR .get2 bx base e [y, z] st) r1 en1 (fun W H st P => P.dv r1 dv1) q1'
    refine ⟨W, bd, base, ρ, st, r, en, q.mono ?_⟩
    rintro y H2 ⟨W2, bd2, base2, ρ2, st2, kd, r2, en2, dv2, dk, q2⟩
    obtain ⟨W, bd, base, ρ, st, r, en, q⟩ := rd.bind2 (rel := DV G) (rel0 := fun W n H (p : D × D) (q : V × V) => DV G W n H p.1 q.1 ∧ DV G W n H p.2 q.2) (d0 := (e, kd)) (v0 := (.ref p, y)) (f := fun base ρ st => evE C base d ρ st) (g := fun base ρ z st => mtR .get2 bx base e [kd, z] st) r2 en2 (fun W H st P => ⟨P.dv r2 dv2, P.dv r2 dk⟩) q2
    refine ⟨W, bd, base, ρ, st, r, en, q.mono ?_⟩
    rintro z H3 ⟨W3, bd3, base3, ρ3, st3, zd, r3, en3, ⟨dv3, dk3⟩, dz, q3⟩
    dsimp only at dv3 dk3
    have q3' : Ans (DV G) G bd3 base3 Wx σ W3 H3 st3 (match vw st3 e with
      | .dct ks vs => (opt (keyOf kd) st3).bind fun k st => .ok ((dGet ks vs k).getD zd) st
      | _ => .bad) Q := q3
    cases e3 : vw st3 e with
    | dct ks vs =>
      rw [e3] at q3'
      obtain ⟨ky, hky, q4⟩ := Ans.opt q3'
      obtain ⟨p', kvs', ep, h1, h2, h3⟩ := vw_dct r3 dv3 e3
      cases ep
      have g := dGet_ok (k := ky) h2 h3
      refine ⟨valV kvs' (kyR ky), .inl ⟨kvs', kyR ky, h1, key_val dk3 hky, rfl⟩, ?_⟩
      cases hg : dGet ks vs ky with
      | none =>
        rw [hg] at g q4
        dsimp only at g
        rw [g]
        exact Ans.here r3 q4 dz
      | some w =>
        rw [hg] at g q4
        obtain ⟨v, hv, dvv⟩ := g
        rw [hv]
        exact Ans.here r3 q4 dvv
    | _ => rw [e3] at q3'; exact q3'.elim
  | _ => rw [ee] at hty; cases hty
theorem s_append (o : Xok G T N C lv Wx sc X) {bx : Bool} {a x : E} {pa px : Expr} {apos pos : Pos} (hpb : plainBase pa = true) (hl : apos.endLine = pos.line) (ha : PE X pa (rdE G C Wx a)) (hx : PE X px (rdE G C Wx x)) (nx : noStar px = true) :
    PE X (.Call (.Attribute pa "append" apos) [px] [] pos) (rdE G C Wx (.mt .append bx a [x])) := by
  have hs : starEach [px] X.env = [(false, eval px X.env)] := star_cons nx
  refine PE.weak (pe_bm PySem.F.plainAttrs_list PySem.F.slot_list_append PySem.F.type_list_append mt_append ha (pa_cons hx pa_nil hs) (base_ok hpb) (by rw [hs]; rfl) (by rw [hl]; simp) hs rfl) fun σ H Q q => ?_
  obtain ⟨W, bd, base, ρ, st, r, en, q⟩ := rd_recv q
  refine ⟨W, bd, base, ρ, st, r, en, q.mono ?_⟩
  rintro v H1 ⟨W1, bd1, base1, ρ1, st1, e, r1, en1, dv1, hty, q1⟩
  cases ee : vw st1 e with
  | lst ds =>
    obtain ⟨p, xs, rfl, h1, h2⟩ := vw_lst r1 dv1 ee
    refine ⟨.inl ⟨rfl, xs, SqL.of h1⟩, ?_⟩
    have q1' : Ans (DV G) G bd1 base1 Wx σ W1 H1 st1 ((evE C base1 x ρ1 st1).bind fun y st => mtR .append bx base1 e [y] st) Q := by
      have e2 : ((evEs C base1 [x] ρ1 st1).bind fun ds st => mtR .append bx base1 e ds st) = (evE C base1 x ρ1 st1).bind fun y st => mtR .append bx base1 e [y] st := by
        show (((evE C base1 x ρ1 st1).bind fun y st => ((R.ok [] st).bind fun xs st => .ok (y :: xs) st)).bind _) = _
        rw [bind_assoc']
        rfl
      rw [← e2]; exact q1
    obtain ⟨W, bd, base, ρ, st, r, en, q⟩ := rd.bind2 (rel := DV G) (rel0 := DV G) (f := fun base ρ st => evE C base x ρ st) (g := fun base ρ y st => mtR .append bx base e [y] st) r1 en1 (fun W H st P => P.dv r1 dv1) q1'
    refine ⟨W, bd, base, ρ, st, r, en, q.mono ?_⟩
    rintro y H2 ⟨W2, bd2, base2, ρ2, st2, yd, r2, en2, dv2, dy, q2⟩
    cases e with
    | ref n =>
      have q2' : Ans (DV G) G bd2 base2 Wx σ W2 H2 st2 (match st2[n]? with
        | some (.lst ds) => if wOk base2 n yd && decide (ds.length < SL) then .ok .non (st2.set n (.lst (ds ++ [yd]))) else .bad
        | _ => .bad) Q := q2
      cases en' : st2[n]? with
      | none => rw [en'] at q2'; exact q2'.elim
      | some ob =>
        cases ob with
        | lst es =>
          rw [en'] at q2'
          dsimp only at q2'
          split at q2'
          · rename_i hw
            obtain ⟨w1, w2⟩ := and2 hw
            obtain ⟨ep, _⟩ := dv2
            obtain ⟨ys, g1, g2⟩ := r2.obj n _ en'
            refine ⟨_, ys, y, ep, rfl, g1, by rw [g2.len, ← SL_eq]; exact of_decide_eq_true w2, ?_⟩
            have hlv : live st2 n := ⟨_, en', by simp⟩
            obtain ⟨ex, rs⟩ := write_ob r2 hlv (.lst (ys ++ [y])) (ob := .lst (es ++ [yd])) (by simp) fun H' ex hh => by
              refine ⟨ys ++ [y], hh, DVs.app (DVs.keep ex r2 (bdOf_le r2) (Nat.le_refl _) g2) ⟨y, [], rfl, ?_, rfl⟩⟩
              rcases Bool.or_eq_true_iff.mp w1 with w1 | w1
              · have : bdOf bd2 base2 st2.length n = st2.length := if_neg (by have := of_decide_eq_true w1; omega)
                rw [this]
                exact DV.keep ex r2 (Nat.le_refl _) (Nat.le_refl _) dy
              · exact DV.plain w1 (DV.keep ex r2 (Nat.le_refl _) (Nat.le_refl _) dy)
            exact q2' _ _ _ ⟨ex, rs⟩ rfl
          · exact q2'.elim
        | _ => rw [en'] at q2'; exact q2'.elim
    | _ => exact q2.elim
  | _ => rw [ee] at hty; cases hty
/-! ### max(.., default=..) -/
theorem max_dflt {X : Cx} (hc : X.calm = true) (hu : X.A.units + 65 < cLine) : CallRK X (.builtin "max") [Str.ofString "default"] (fun xs zs H Q => ∃ a ns d, xs = [.ref a] ∧ zs = [.int d] ∧ SqL X.K H a (ns.map V.int) ∧ Q (.int ((maxL ns).getD d)) H) := by
  intro pins s σ H xs zs us ws Q I rx rz h
  obtain ⟨a, ns, d, rfl, rfl, hl, q⟩ := h
  obtain ⟨u, rfl, ru⟩ := vals1 rx
  obtain ⟨w, rfl, t, rfl⟩ := vals1 rz
  cases ru
  obtain ⟨its, rv, p, hz⟩ := I.list hl
  have hd : ∀ ns : List Int, DpAll X.K H (ns.map V.int) (ns.map PyData.int) := fun ns => by
    induction ns with
    | nil => exact .nil
    | cons i r ih => exact .cons (.int i) ih
  obtain ⟨as, hr⟩ := Dp.readsAll I _ _ _ (hd ns) rv
  have ha : PySem.W.AlikeAll (ns.map PyData.int) := by
    refine ⟨fun x hx y hy => ?_, fun x hx => ?_⟩
    · obtain ⟨i, _, rfl⟩ := List.mem_map.mp hx
      obtain ⟨j, _, rfl⟩ := List.mem_map.mp hy
      rfl
    · obtain ⟨i, _, rfl⟩ := List.mem_map.mp hx
      intro z; cases z
  refine PySem.W.max_list_default (I.ok.hd hc) p.isList (by simpa using hr) ha (by rw [PySem.W.ke_depthAll]; omega) (fun e0 h' tk hk => ?_) fun y ys i v h' tk bs e0 hi hrd hk => ?_
  · have en : ns = [] := by simpa using e0
    subst en
    exact ⟨.int d, H, I.kept hk, ⟨t, rfl⟩, q⟩
  · cases ns with
    | nil => cases e0
    | cons m ms =>
      rw [List.map_cons] at e0
      injection e0 with e1 e2
      subst e1 e2
      rw [PySem.W.maxD_ints] at hrd
      cases hrd with
      | int _ t2 => exact ⟨.int (ms.foldl max m), H, I.kept hk, ⟨t2, rfl⟩, q⟩
theorem s_maxd (o : Xok G T N C lv Wx sc X) {i : Int} {x : Str} {e : E} {p : Expr} {j : Nat} {p0 p1 p2 pos : Pos} (h1 : glB sc x = true) (h2 : x = ("max" : Str)) (h : PE X p (rdE G C Wx e)) (ns : noStar p = true) :
    PE X (.Call (.Name x p0) [p] [⟨some "default", .Constant (.int i) j p1, p2⟩] pos) (rdE G C Wx (.maxd e i)) := by
  obtain ⟨g, hd⟩ := glB_ok o h1
  have hm : X.mg x = none := by rw [o.mg, h2]; exact o.g.bi _ (by decide)
  subst h2
  have hs : starEach [p] X.env = [(false, eval p X.env)] := star_cons ns
  refine PE.weak (pe_callBK (max_dflt o.calm (room65 o)) g hm (by decide +kernel) (pa_cons h pa_nil hs) (pk_cons pe_int pk_nil) (by decide) hd (by rw [hs]; rfl) (by rw [hs]; rfl) rfl rfl rfl) fun σ H Q q => ?_
  obtain ⟨W, bd, base, ρ, st, r, en, q⟩ := rd.bind (rel := DV G) q
  refine ⟨W, bd, base, ρ, st, r, en, q.mono ?_⟩
  rintro v H1 ⟨W1, bd1, base1, ρ1, st1, d, r1, en1, dv1, q1⟩
  cases ee : vw st1 d with
  | lst ds =>
    rw [ee] at q1
    obtain ⟨a, xs, rfl, g1, g2⟩ := vw_lst r1 dv1 ee
    obtain ⟨ms, hms, q1⟩ := Ans.opt (f := fun ns st => R.ok (D.int ((maxL ns).getD i)) st) q1
    exact ⟨a, ms, i, rfl, rfl, SqL.of (by rw [g1, intsOf_ok g2 hms]), Ans.here r1 q1 rfl⟩
  | _ => rw [ee] at q1; exact q1.elim
end
end Rf

namespace Rf
open PySem PySem.Spec PyProof.Rows L2
section
variable {G : Gx} {T : Tx} {N : List Str} {C : Call} {lv : Nat} {Wx : WX} {sc : Scope} {X : Cx} {σ : L2.St} {H H' : Hp} {W W' W0 : Wd} {n : Nat} {bd : Nat → Nat} {base : Nat} {st st' st0 : Sto} {H0 : Hp}
mutual
/-- data stays where what it leans on stays -/
theorem DV.chg (hF : ∀ a u, W.F a → H a = some u → H' a = some u) (hT : ∀ a xs, H a = some (.tup xs) → H' a = some (.tup xs)) (hZ : ∀ a o xs, H a = some (.frz o (.tup xs)) → H' a = some (.frz o (.tup xs))) : ∀ {d : D} {v : V}, DV G W n H d v → DV G W n H' d v
  | .non, _, h => h
  | .bl _, _, h => h
  | .int _, _, h => h
  | .str _, _, h => h
  | .tup ds, v, h => by
    obtain ⟨a, xs, e1, hs, hd⟩ := h
    refine ⟨a, xs, e1, ?_, DVs.chg hF hT hZ hd⟩
    rcases hs with (hs | ⟨o, hs⟩) | hs
    · exact .inl (.inl (hT _ _ hs))
    · exact .inl (.inr ⟨o, hZ _ _ _ hs⟩)
    · exact .inr hs
  | .lst ds, v, h => by
    obtain ⟨a, xs, e1, f, hH, hd⟩ := h
    exact ⟨a, xs, e1, f, hF _ _ f hH, DVs.chg hF hT hZ hd⟩
  | .frz ds, v, h => by
    obtain ⟨a, xs, e1, hs, hd⟩ := h
    refine ⟨a, xs, e1, ?_, DVs.chg hF hT hZ hd⟩
    rcases hs with ⟨hs | ⟨o, hs⟩, q⟩ | hs
    · exact .inl ⟨.inl (hF _ _ q hs), q⟩
    · exact .inl ⟨.inr ⟨o, hF _ _ q hs⟩, q⟩
    · exact .inr hs
  | .dct ks vs, v, h => by
    obtain ⟨a, kvs, e1, f, hR, hk, hd⟩ := h
    refine ⟨a, kvs, e1, f, ?_, hk, DVs.chg hF hT hZ hd⟩
    rcases hR with hR | ⟨o, hR⟩
    · exact .inl (hF _ _ f hR)
    · exact .inr ⟨o, hF _ _ f hR⟩
  | .ref k, v, h => h
  | .fn f, v, h => h
  | .met k f, v, h => by
    obtain ⟨p, e1, hH, hk, f⟩ := h
    exact ⟨p, e1, hF _ _ f hH, hk, f⟩
  | .exc _ _, _, h => h.elim
theorem DVs.chg (hF : ∀ a u, W.F a → H a = some u → H' a = some u) (hT : ∀ a xs, H a = some (.tup xs) → H' a = some (.tup xs)) (hZ : ∀ a o xs, H a = some (.frz o (.tup xs)) → H' a = some (.frz o (.tup xs))) : ∀ {ds : List D} {xs : List V}, DVs G W n H ds xs → DVs G W n H' ds xs
  | [], _, h => h
  | d :: ds, xs, h => by
    obtain ⟨y, ys, e1, h1, h2⟩ := h
    exact ⟨y, ys, e1, DV.chg hF hT hZ h1, DVs.chg hF hT hZ h2⟩
end
/-- a list at D that nobody knows but we -/
structure Own (G : Gx) (W : Wd) (H : Hp) (st : Sto) (D : Addr) (xs : List V) : Prop where
  at_ : H D = some (.lst xs)
  nl : ∀ k, live st k → W.m k ≠ D
  nF : ¬ W.F D
theorem Own.post {D : Addr} {xs : List V} (w : Own G W H st D xs) (p : Post G bd base W H st W' H' st') : Own G W' H' st' D xs := by
  refine ⟨p.ext.fr _ _ w.at_ w.nl, fun k hk z => ?_, fun z => ?_⟩
  rotate_left
  · rcases p.ext.nF D z with q | q | ⟨k, hk, q⟩
    · exact w.nF q
    · rw [w.at_] at q; cases q
    · exact w.nl k hk q
  by_cases q : k < st.length
  · exact w.nl k (p.ext.dd k q hk) (by rw [← p.ext.m k q]; exact z)
  · have := p.ext.nw k (by omega) hk
    rw [z, w.at_] at this; cases this
theorem Own.chg {D : Addr} {xs : List V} {ho : HO} (w : Own G W H st D xs) {d : Rf.D} {v : V} (h : DV G W n H d v) : DV G W n (upd H D ho) d v := by
  refine DV.chg (fun a u f e => ?_) (fun a ys e => ?_) (fun a o ys e => ?_) h
  · rw [upd_ne (fun z : a = D => w.nF (by rw [← z]; exact f))]; exact e
  · rw [upd_ne fun z => by rw [z, w.at_] at e; cases e]; exact e
  · rw [upd_ne fun z => by rw [z, w.at_] at e; cases e]; exact e
theorem Own.chgs {D : Addr} {xs : List V} {ho : HO} (w : Own G W H st D xs) {d : List Rf.D} {v : List V} (h : DVs G W n H d v) : DVs G W n (upd H D ho) d v := by
  refine DVs.chg (fun a u f e => ?_) (fun a ys e => ?_) (fun a o ys e => ?_) h
  · rw [upd_ne (fun z : a = D => w.nF (by rw [← z]; exact f))]; exact e
  · rw [upd_ne fun z => by rw [z, w.at_] at e; cases e]; exact e
  · rw [upd_ne fun z => by rw [z, w.at_] at e; cases e]; exact e
theorem obR.chg {k : Nat} {ob : Ob} (hF : ∀ a u, W.F a → H a = some u → H' a = some u) (hT : ∀ a xs, H a = some (.tup xs) → H' a = some (.tup xs)) (hZ : ∀ a o xs, H a = some (.frz o (.tup xs)) → H' a = some (.frz o (.tup xs))) (hk : ob ≠ .dead → H' (W.m k) = H (W.m k)) (h : obR G W H n k ob) : obR G W H' n k ob := by
  cases ob with
  | lst ds =>
    obtain ⟨xs, h1, h2⟩ := h
    exact ⟨xs, (hk (by simp)).trans h1, DVs.chg hF hT hZ h2⟩
  | dct ks vs =>
    obtain ⟨xs, h1, h2, h3⟩ := h
    exact ⟨xs, (hk (by simp)).trans h1, h2, DVs.chg hF hT hZ h3⟩
  | ins c fs =>
    obtain ⟨dx, gs, h1, h2, h3⟩ := h
    exact ⟨dx, gs, (hk (by simp)).trans h1, h2, DVs.chg hF hT hZ h3⟩
  | dead => trivial
/-- our list is written: seen from ahead of it, nothing has changed -/
theorem Own.write {D : Addr} {xs ys : List V} (p : Post G bd base W0 H0 st0 W H st) (h0 : H0 D = none) (w : Own G W H st D xs) : Post G bd base W0 H0 st0 W (upd H D (.lst ys)) st ∧ Own G W (upd H D (.lst ys)) st D ys := by
  refine ⟨⟨⟨fun a o h hk => ?_, p.ext.F, p.ext.m, p.ext.dd, p.ext.nw, fun a h => ?_, p.ext.len, p.ext.nF⟩, ?_⟩, ⟨upd_same, w.nl, w.nF⟩⟩
  · rw [upd_ne (ne_of_none h h0)]; exact p.ext.fr a o h hk
  · by_cases q : a = D
    · rw [q, upd_same]; simp
    · rw [upd_ne q]; exact p.ext.tr a h
  · refine ⟨fun k ob e => ?_, p.rs.inj, p.rs.fF, fun a h => ?_, p.rs.bdl, p.rs.bl⟩
    · refine obR.chg (fun a u f e => ?_) (fun a ys e => ?_) (fun a o ys e => ?_) (fun nd => ?_) (p.rs.obj k ob e)
      · rw [upd_ne (fun z : a = D => w.nF (by rw [← z]; exact f))]; exact e
      · rw [upd_ne fun z => by rw [z, w.at_] at e; cases e]; exact e
      · rw [upd_ne fun z => by rw [z, w.at_] at e; cases e]; exact e
      · exact upd_ne (w.nl k (live_of e nd))
    · obtain ⟨u, q⟩ := p.rs.fH a h
      exact ⟨u, by rw [upd_ne (fun z : a = D => w.nF (by rw [← z]; exact h))]; exact q⟩
mutual
/-- .. and more handles, more that is never written -/
theorem DV.wm {n' : Nat} (hF : ∀ a, W.F a → W'.F a) (hm : ∀ k, k < n → W'.m k = W.m k) (hn : n ≤ n') : ∀ {d : Rf.D} {v : V}, DV G W n H d v → DV G W' n' H d v
  | .non, _, h => h
  | .bl _, _, h => h
  | .int _, _, h => h
  | .str _, _, h => h
  | .tup ds, v, h => by
    obtain ⟨a, xs, e1, hs, hd⟩ := h
    exact ⟨a, xs, e1, hs, DVs.wm hF hm hn hd⟩
  | .lst ds, v, h => by
    obtain ⟨a, xs, e1, f, hH, hd⟩ := h
    exact ⟨a, xs, e1, hF _ f, hH, DVs.wm hF hm hn hd⟩
  | .frz ds, v, h => by
    obtain ⟨a, xs, e1, hs, hd⟩ := h
    exact ⟨a, xs, e1, hs.elim (fun z => .inl ⟨z.1, hF _ z.2⟩) .inr, DVs.wm hF hm hn hd⟩
  | .dct ks vs, v, h => by
    obtain ⟨a, kvs, e1, f, hR, hk, hd⟩ := h
    exact ⟨a, kvs, e1, hF _ f, hR, hk, DVs.wm hF hm hn hd⟩
  | .ref k, v, h => ⟨by rw [h.1, hm k h.2], Nat.lt_of_lt_of_le h.2 hn⟩
  | .fn f, v, h => h
  | .met k f, v, h => by
    obtain ⟨p, e1, hH, hk, f⟩ := h
    exact ⟨p, e1, by rw [hm k hk]; exact hH, Nat.lt_of_lt_of_le hk hn, hF _ f⟩
  | .exc _ _, _, h => h.elim
theorem DVs.wm {n' : Nat} (hF : ∀ a, W.F a → W'.F a) (hm : ∀ k, k < n → W'.m k = W.m k) (hn : n ≤ n') : ∀ {ds : List Rf.D} {xs : List V}, DVs G W n H ds xs → DVs G W' n' H ds xs
  | [], _, h => h
  | d :: ds, xs, h => by
    obtain ⟨y, ys, e1, h1, h2⟩ := h
    exact ⟨y, ys, e1, DV.wm hF hm hn h1, DVs.wm hF hm hn h2⟩
end
theorem obR.wm {k n' : Nat} {ob : Ob} (hF : ∀ a, W.F a → W'.F a) (hm : ∀ k, k < n → W'.m k = W.m k) (hn : n ≤ n') (hk : W'.m k = W.m k) (h : obR G W H n k ob) : obR G W' H n' k ob := by
  cases ob with
  | lst ds =>
    obtain ⟨xs, h1, h2⟩ := h
    exact ⟨xs, by rw [hk]; exact h1, DVs.wm hF hm hn h2⟩
  | dct ks vs =>
    obtain ⟨xs, h1, h2, h3⟩ := h
    exact ⟨xs, by rw [hk]; exact h1, h2, DVs.wm hF hm hn h3⟩
  | ins c fs =>
    obtain ⟨dx, gs, h1, h2, h3⟩ := h
    exact ⟨dx, gs, by rw [hk]; exact h1, h2, DVs.wm hF hm hn h3⟩
  | dead => trivial
theorem Own.adopt_frz {D : Addr} {xs : List V} (p : Post G bd base W0 H0 st0 W H st) (h0 : H0 D = none) (w : Own G W H st D xs) : Post G bd base W0 H0 st0 ⟨W.m, fun a => W.F a ∨ a = D⟩ H st := by
  refine ⟨⟨p.ext.fr, fun a h => .inl (p.ext.F a h), p.ext.m, p.ext.dd, p.ext.nw, p.ext.tr, p.ext.len, fun a h => ?_⟩, fun k ob e => obR.wm (fun _ h => .inl h) (fun _ _ => rfl) (Nat.le_refl _) rfl (p.rs.obj k ob e), p.rs.inj, fun k hk z => ?_, fun a h => ?_, p.rs.bdl, p.rs.bl⟩
  · rcases h with h | h
    · exact p.ext.nF a h
    · exact .inr (.inl (by rw [h]; exact h0))
  · rcases z with z | z
    · exact p.rs.fF k hk z
    · exact w.nl k hk z
  · rcases h with h | h
    · exact p.rs.fH a h
    · exact ⟨_, by rw [h]; exact w.at_⟩
theorem Own.adopt_ob {D : Addr} {xs : List V} {ds : List Rf.D} (p : Post G bd base W0 H0 st0 W H st) (h0 : H0 D = none) (w : Own G W H st D xs) (hd : DVs G W st.length H ds xs) : Post G bd base W0 H0 st0 (W.add st.length D) H (st ++ [.lst ds]) := by
  have am : ∀ k, k < st.length → (W.add st.length D).m k = W.m k := fun k hk => if_neg (by omega)
  have an : (W.add st.length D).m st.length = D := if_pos rfl
  have r := p.rs
  refine ⟨⟨fun a o h hk => p.ext.fr a o h hk, p.ext.F, fun k hk => ?_, fun k hk h => ?_, fun k hk h => ?_, p.ext.tr, ?_, p.ext.nF⟩, fun k ob e => ?_, fun j k hj hk z => ?_, fun k hk z => ?_, p.rs.fH, p.rs.bdl, ?_⟩
  · rw [am k (Nat.lt_of_lt_of_le hk p.ext.len)]; exact p.ext.m k hk
  · rcases live_app h with z | z
    · exact p.ext.dd k hk z.2
    · have := p.ext.len; omega
  · rcases live_app h with z | z
    · rw [am k z.1]; exact p.ext.nw k hk z.2
    · rw [z, an]; exact h0
  · rw [List.length_append]; have := p.ext.len; omega
  · rcases get_app e with ⟨q, z⟩ | ⟨q, z⟩
    · have z1 := r.obj k ob z
      have hb : bdOf bd base st.length k ≤ st.length := bdOf_le r
      refine obR.wm (W := W) (W' := W.add st.length D) (fun _ h => h) (fun j hj => am j (by omega)) ?_ (am k q) z1
      unfold bdOf
      split <;> simp
    · subst q z
      have q : bdOf bd base (st ++ [Ob.lst ds]).length st.length = st.length.succ := by
        unfold bdOf
        rw [if_neg (by have := r.bl; omega)]
        simp
      rw [q]
      exact ⟨xs, by rw [an]; exact w.at_, DVs.wm (W := W) (W' := W.add st.length D) (fun _ h => h) am (Nat.le_succ _) hd⟩
  · rcases live_app hj with ⟨qj, lj⟩ | qj <;> rcases live_app hk with ⟨qk, lk⟩ | qk
    · rw [am j qj, am k qk] at z; exact r.inj j k lj lk z
    · rw [am j qj, qk, an] at z; exact absurd z (w.nl j lj)
    · rw [am k qk, qj, an] at z; exact absurd z.symm (w.nl k lk)
    · omega
  · rcases live_app hk with ⟨q, l⟩ | q
    · rw [am k q] at z; exact r.fF k l z
    · rw [q, an] at z; exact w.nF z
  · rw [List.length_append]; have := r.bl; omega
/-! ### targets -/
def gNames : List Nat → TGs
  | [] => gNil
  | i :: is => gCons (gName i) (gNames is)
def rdTn (K : PySem.W.Frag) : Tn → TG
  | .nm i => gName i
  | .tup is => gTup K is.length (gNames is)
theorem EnR.set {ρ : En} {i : Nat} {d : D} {v : V} (en : EnR G W n H ρ σ) (hv : DV G W n H d v) : EnR G W n H (ρ.set i (some d)) (σ.set i (some v)) := by
  refine ⟨by rw [List.length_set, List.length_set]; exact en.1, fun j e he => ?_⟩
  by_cases q : i = j
  · subst q
    by_cases z : i < ρ.length
    · rw [List.getElem?_set_self z] at he
      cases he
      exact ⟨v, List.getElem?_set_self (by rw [← en.1]; exact z), hv⟩
    · rw [List.getElem?_eq_none (by rw [List.length_set]; omega)] at he; cases he
  · rw [List.getElem?_set_ne q] at he ⊢
    exact en.2 j e he
theorem wipe_set {i : Nat} {o : Option V} : ∀ {vs : List Nat} {σ : L2.St}, i ∈ vs → L2.wipe (σ.set i o) vs = L2.wipe σ vs
  | v :: vs, σ, h => by
    unfold L2.wipe
    by_cases q : i ∈ vs
    · rw [wipe_set q]
    · have e : i = v := by
        rcases List.mem_cons.mp h with h | h
        · exact h
        · exact absurd h q
      subst e
      have comm : ∀ (vs : List Nat) (σ : L2.St), i ∉ vs → L2.wipe (σ.set i o) vs = (L2.wipe σ vs).set i o := by
        intro vs
        induction vs with
        | nil => intro σ _; rfl
        | cons w ws ih =>
          intro σ hn
          unfold L2.wipe
          rw [ih σ fun z => hn (List.mem_cons_of_mem _ z), List.set_comm]
          exact fun z => hn (z ▸ List.mem_cons_self)
      rw [comm vs σ q, List.set_set]
theorem names_ok {vs : List Nat} : ∀ {is : List Nat} {ds : List D} {xs : List V} {ρ : En} {σ : L2.St} {Q : L2.St → Hp → Prop}, is.length = ds.length → DVs G W n H ds xs → EnR G W n H ρ σ →
    (∀ σ', EnR G W n H ((is.zip ds).foldl (fun ρ p => ρ.set p.1 (some p.2)) ρ) σ' → ((∀ i ∈ is, i ∈ vs) → L2.wipe σ' vs = L2.wipe σ vs) → Q σ' H) → gNames is xs σ H Q
  | [], [], xs, ρ, σ, Q, _, hd, en, q => ⟨hd, q σ en fun _ => rfl⟩
  | [], _ :: _, _, _, _, _, h, _, _, _ => by cases h
  | _ :: _, [], _, _, _, _, h, _, _, _ => by cases h
  | i :: is, d :: ds, xs, ρ, σ, Q, hl, hd, en, q => by
    obtain ⟨y, ys, rfl, h1, h2⟩ := hd
    refine ⟨y, ys, rfl, ?_⟩
    show gNames is ys (σ.set i (some y)) H Q
    refine names_ok (vs := vs) (ρ := ρ.set i (some d)) (by simpa using hl) h2 (en.set h1) fun σ' en' hw => q σ' en' fun hi => ?_
    rw [hw fun j hj => hi j (List.mem_cons_of_mem _ hj)]
    exact wipe_set (hi i List.mem_cons_self)
def tnOf : Tn → List Nat
  | .nm i => [i]
  | .tup is => is
theorem tn_ok {K : PySem.W.Frag} (hK : K = G.K) {vs : List Nat} {t : Tn} {d : D} {v : V} {ρ ρ' : En} {Q : L2.St → Hp → Prop} (h : putN t d ρ = some ρ') (hd : DV G W n H d v) (en : EnR G W n H ρ σ)
    (q : ∀ σ', EnR G W n H ρ' σ' → ((∀ i ∈ tnOf t, i ∈ vs) → L2.wipe σ' vs = L2.wipe σ vs) → Q σ' H) : rdTn K t v σ H Q := by
  cases t with
  | nm i =>
    have h' : (if i < ρ.length then some (ρ.set i (some d)) else none) = some ρ' := h
    split at h'
    · cases h'
      exact q _ (en.set hd) fun hi => wipe_set (hi i (by simp [tnOf]))
    · cases h'
  | tup is =>
    cases d with
    | tup ds =>
      have h' : (if is.length = ds.length ∧ (∀ i ∈ is, i < ρ.length) then some ((is.zip ds).foldl (fun ρ p => ρ.set p.1 (some p.2)) ρ) else none) = some ρ' := h
      split at h'
      · rename_i hl
        cases h'
        obtain ⟨a, xs, rfl, h1, h2⟩ := hd
        exact ⟨a, xs, rfl, by rw [hK]; exact h1, by rw [h2.len, hl.1], names_ok (vs := vs) hl.1 h2 en q⟩
      · cases h'
    | _ => cases h
theorem EnR.wipe {ρ : En} (en : EnR G W n H ρ σ) : ∀ vs : List Nat, EnR G W n H (wipeE ρ vs) (L2.wipe σ vs)
  | [] => en
  | v :: vs => by
    have ih := EnR.wipe en vs
    refine ⟨by unfold wipeE L2.wipe; rw [List.length_set, List.length_set]; exact ih.1, fun j e he => ?_⟩
    unfold wipeE at he
    unfold L2.wipe
    by_cases q : v = j
    · subst q
      by_cases z : v < (wipeE ρ vs).length
      · rw [List.getElem?_set_self z] at he; cases he
      · rw [List.getElem?_eq_none (by rw [List.length_set]; omega)] at he; cases he
    · rw [List.getElem?_set_ne q] at he ⊢
      exact ih.2 j e he
end
end Rf

namespace Rf
open PySem PySem.Spec PyProof.Rows L2
section
variable {G : Gx} {T : Tx} {N : List Str} {C : Call} {lv : Nat} {Wx : WX} {sc : Scope} {X : Cx} {σ : L2.St} {H H' : Hp} {W W' W0 : Wd} {n : Nat} {bd : Nat → Nat} {base : Nat} {st st' st0 : Sto} {H0 : Hp}
/-! ### what is walked -/
/-- J walks these items -/
structure Src (G : Gx) (J : It) (items : List D) (P : Wd → Nat → Hp → Prop) (Gd : Hp → Prop) (Y : Nat → Hp → V → Hp → Prop) : Prop where
  walk : Walk J items.length Gd Y
  good : ∀ W n H, P W n H → Gd H
  keep : ∀ {bd : Nat → Nat} {base : Nat} {W W' : Wd} {H H' : Hp} {st st' : Sto}, RS G bd base W H st → Post G bd base W H st W' H' st' → P W st.length H → P W' st'.length H'
  chg : ∀ {W : Wd} {n : Nat} {H : Hp} {st : Sto} {D : Addr} {xs : List V} {ho : HO}, Own G W H st D xs → P W n H → P W n (upd H D ho)
  item : ∀ {bd : Nat → Nat} {base : Nat} {W : Wd} {H H' : Hp} {st : Sto} {i : Nat} {x : V} {d : D}, RS G bd base W H st → P W st.length H → items[i]? = some d → Y i H x H' → Post G bd base W H st W H' st ∧ DV G W st.length H' d x
def SrcOk (G : Gx) : Rl (List D × (Sto → Bool)) It := fun W n H p J => ∃ P Gd Y, Src G J p.1 P Gd Y ∧ P W n H
def rdI (G : Gx) (C : Call) (Wx : WX) (it : I) : TI := fun σ H R => rd G Wx (SrcOk G) (fun base ρ st => evI C base it ρ st) σ H R
theorem src_seq {J : It} {ds : List D} {xs : List V} {Gd : Hp → Prop} {S : Wd → Hp → Prop} (w : Walk J xs.length Gd (YAt xs)) (hg : ∀ W H, S W H → Gd H)
    (hk : ∀ {bd : Nat → Nat} {base : Nat} {W W' : Wd} {H H' : Hp} {st st' : Sto}, RS G bd base W H st → Post G bd base W H st W' H' st' → S W H → S W' H')
    (hc : ∀ {W : Wd} {H : Hp} {st : Sto} {D : Addr} {xs : List V} {ho : HO}, Own G W H st D xs → S W H → S W (upd H D ho)) (hl : xs.length = ds.length) :
    Src G J ds (fun W n H => S W H ∧ DVs G W n H ds xs) Gd (YAt xs) := by
  refine ⟨by rw [← hl]; exact w, fun W n H p => hg W H p.1, fun r p q => ⟨hk r p q.1, p.dvs r q.2⟩, fun o q => ⟨hc o q.1, o.chgs q.2⟩, fun {_ _ W H H' st i x d} r q hi hy => ?_⟩
  obtain ⟨e, hx⟩ := hy
  subst e
  obtain ⟨v, hv, dv⟩ := q.2.get hi
  rw [hx] at hv
  cases hv
  exact ⟨Post.refl r, dv⟩
theorem src_lst {a : Addr} {ds : List D} {xs : List V} {K : PySem.W.Frag} (hl : xs.length = ds.length) : Src G (Itl K a) ds (fun W n H => (W.F a ∧ H a = some (.lst xs)) ∧ DVs G W n H ds xs) (fun H => SqL K H a xs) (YAt xs) :=
  src_seq walk_list (fun W H s => SqL.of s.2) (fun r p s => ⟨p.ext.F _ s.1, F.keep p.ext r s.1 s.2⟩) (fun o s => ⟨s.1, by rw [upd_ne fun z => o.nF (by rw [← z]; exact s.1)]; exact s.2⟩) hl
theorem src_tup {a : Addr} {ds : List D} {xs : List V} (hl : xs.length = ds.length) : Src G (Itt G.K a) ds (fun W n H => SqT G.K H a xs ∧ DVs G W n H ds xs) (fun H => SqT G.K H a xs) (YAt xs) :=
  src_seq (S := fun _ H => SqT G.K H a xs) walk_tup (fun W H s => s) (fun r p s => SqT.keep p.ext r s) (fun {W H st D xs' ho} o s => by
    rcases s with (s | ⟨u, s⟩) | s
    · exact .inl (.inl (by rw [upd_ne fun z => by rw [z, o.at_] at s; cases s]; exact s))
    · exact .inl (.inr ⟨u, by rw [upd_ne fun z => by rw [z, o.at_] at s; cases s]; exact s⟩)
    · exact .inr s) hl
theorem src_frz {a : Addr} {ds : List D} {xs : List V} (hl : xs.length = ds.length) : Src G (Itl G.K a) ds (fun W n H => FzL G.K W H a xs ∧ DVs G W n H ds xs) (fun H => SqL G.K H a xs) (YAt xs) :=
  src_seq (S := fun W H => FzL G.K W H a xs) walk_list (fun W H s => s.sq) (fun r p s => by
    rcases s with ⟨hs | ⟨o, hs⟩, q⟩ | hs
    · exact .inl ⟨.inl (F.keep p.ext r q hs), p.ext.F _ q⟩
    · exact .inl ⟨.inr ⟨o, F.keep p.ext r q hs⟩, p.ext.F _ q⟩
    · exact .inr hs) (fun {W H st D xs' ho} o s => by
    rcases s with ⟨hs | ⟨u, hs⟩, q⟩ | hs
    · exact .inl ⟨.inl (by rw [upd_ne fun z => o.nF (by rw [← z]; exact q)]; exact hs), q⟩
    · exact .inl ⟨.inr ⟨u, by rw [upd_ne fun z => o.nF (by rw [← z]; exact q)]; exact hs⟩, q⟩
    · exact .inr hs) hl
theorem src_fn {J : It} {ds : List D} {f : Nat → V} (w : Walk J ds.length (fun _ => True) (YFn f)) (hf : ∀ (i : Nat) d, ds[i]? = some d → ∀ W n H, DV G W n H d (f i)) : Src G J ds (fun _ _ _ => True) (fun _ => True) (YFn f) := by
  refine ⟨w, fun _ _ _ _ => trivial, fun _ _ _ => trivial, fun _ _ => trivial, fun {_ _ W H H' st i x d} r _ hi hy => ?_⟩
  obtain ⟨e, hx⟩ := hy
  subst e hx
  exact ⟨Post.refl r, hf i d hi _ _ _⟩
theorem src_str {s : List Nat} : Src G (Its ⟨s.toArray⟩) (s.map fun c => D.str [c]) (fun _ _ _ => True) (fun _ => True) (fun i H v H' => H' = H ∧ ∃ c, (⟨s.toArray⟩ : Str).cps[i]? = some c ∧ v = .str ⟨#[c]⟩) := by
  have hw := walk_str (z := ⟨s.toArray⟩)
  refine ⟨by rw [List.length_map]; simpa using hw, fun _ _ _ _ => trivial, fun _ _ _ => trivial, fun _ _ => trivial, fun {_ _ W H H' st i x d} r _ hi hy => ?_⟩
  obtain ⟨e, c, hc, hx⟩ := hy
  subst e hx
  refine ⟨Post.refl r, ?_⟩
  rw [List.getElem?_map] at hi
  have hc' : s[i]? = some c := by simpa using hc
  rw [hc'] at hi
  cases hi
  rfl
theorem pi_end {X : Cx} {tg : Expr} {pins : List (Addr × Obj)} {σ : L2.St} {H : Hp} {s : Shared} {J : It} {R : It → Hp → Prop} {o : Obj} {tn : Nat → Heap → Prop} (I : Inv X pins σ H s) (T : Turn X.prog X.w X.K tg J [s.heap.objs.size] s.heap.objs.size tn) (st : tn 0 (s.heap.push o)) (q : R J H) :
    PIE X pins σ tg R (.ref s.heap.objs.size) { s with heap := s.heap.push o } := by
  refine ⟨s.heap.objs.size, [s.heap.objs.size], tn, J, H, rfl, I.kept (t' := s.toks) fun b o e => Heap.get?_push_of_some _ e, T, st, fun b hb => ?_, q⟩
  have e : b = s.heap.objs.size := by simpa using hb
  subst e
  exact I.fpOk (Nat.le_refl _) (I.hok.fresh (Nat.le_refl _))
/-- a list, a tuple, a text -/
theorem i_val (o : Xok G T N C lv Wx sc X) {e : E} {p tg : Expr} (h : PE X p (rdE G C Wx e)) : PI X tg p (rdI G C Wx (.val e)) := by
  refine ⟨fun pins s σ H R I q => ?_⟩
  refine thn (h.run pins s σ H _ I (rd.bind (rel := DV G) q)) fun v s1 ⟨x, H1, I1, r1, q1⟩ => ?_
  obtain ⟨W, bd, base, ρ, st, d, r, en, dv, a⟩ := q1
  have fin : ∀ {ds : List D} {J : It}, Ans (SrcOk G) G bd base Wx σ W H1 st (.ok (ds, fun _ => true) st) R → SrcOk G W st.length H1 (ds, fun _ => true) J → R J H1 := fun a hj => a _ W H1 (Post.refl r) hj
  cases d with
  | lst ds =>
    obtain ⟨p', xs, rfl, f, h1, h2⟩ := dv
    cases r1
    obtain ⟨its, rv, pl, hz⟩ := I1.list (SqL.of h1)
    refine wpAny_pyIter_list pl.isList ?_
    exact pi_end I1 (turn_list p' _) ⟨_, Heap.get?_push_size _ rfl, rfl, rfl⟩ (fin a ⟨_, _, _, src_lst h2.len, ⟨f, h1⟩, h2⟩)
  | tup ds =>
    obtain ⟨p', xs, rfl, h1, h2⟩ := dv
    cases r1
    have h1' : SqT X.K H1 p' xs := by rw [o.K]; exact h1
    obtain ⟨its, rv, pl, hz⟩ := I1.tuple h1'
    refine wpAny_pyIter_tuple (show s1.heap.IsTuple p' its.toArray from pl) ?_
    refine pi_end I1 (turn_tuple p' _) ⟨_, Heap.get?_push_size _ rfl, rfl, rfl⟩ (fin a ?_)
    rw [o.K]
    exact ⟨_, _, _, src_tup h2.len, h1, h2⟩
  | frz ds =>
    obtain ⟨p', xs, rfl, h1, h2⟩ := dv
    cases r1
    have h1' : SqL X.K H1 p' xs := by rw [o.K]; exact h1.sq
    obtain ⟨its, rv, pl, hz⟩ := I1.list h1'
    refine wpAny_pyIter_list pl.isList ?_
    refine pi_end I1 (turn_list p' _) ⟨_, Heap.get?_push_size _ rfl, rfl, rfl⟩ (fin a ?_)
    rw [o.K]
    exact ⟨_, _, _, src_frz h2.len, h1, h2⟩
  | str z =>
    have ex : x = .str ⟨z.toArray⟩ := dv
    subst ex
    obtain ⟨t, rfl⟩ := r1
    have j := fin a ⟨_, _, _, src_str, trivial⟩
    cases ha : (⟨z.toArray⟩ : Str).cps.all (· < 128)
    · exact wpAny_pyIter_wide ha (pi_one (tk := s1.toks) I1 _ (turn_str _ ⟨z.toArray⟩ t "str_iterator" (.inr rfl)) ⟨_, Heap.get?_push_size _ rfl, rfl, rfl⟩ j)
    · exact wpAny_pyIter_ascii ha (pi_one (tk := s1.toks) I1 _ (turn_str _ ⟨z.toArray⟩ t "str_ascii_iterator" (.inl rfl)) ⟨_, Heap.get?_push_size _ rfl, rfl, rfl⟩ j)
  | _ => exact a.elim
theorem pi_weak {X : Cx} {tg e : Expr} {t t' : TI} (h : PI X tg e t) (w : ∀ σ H R, t' σ H R → t σ H R) : PI X tg e t' := ⟨fun pins s σ H R I q => h.run pins s σ H R I (w σ H R q)⟩
theorem src_rng {a : Int} {m : Nat} : Src G (Itr a m) ((List.range m).map fun (i : Nat) => D.int (a + (i : Int))) (fun _ _ _ => True) (fun _ => True) (YFn fun k => .int (a + (k : Int))) := by
  refine src_fn ?_ ?_
  · rw [List.length_map, List.length_range]; exact walk_range
  · intro k d hk W n H
    rw [List.getElem?_map] at hk
    cases e : (List.range m)[k]? with
    | none => rw [e] at hk; cases hk
    | some j =>
      rw [e] at hk
      have : j = k := by
        obtain ⟨h1, h2⟩ := List.getElem?_eq_some_iff.mp e
        simpa using h2.symm
      subst this
      cases hk
      rfl
theorem src_rng0 {m : Nat} : Src G (Itr 0 m) ((List.range m).map fun (i : Nat) => D.int (i : Int)) (fun _ _ _ => True) (fun _ => True) (YFn fun k => .int (0 + (k : Int))) := by
  have e : ((List.range m).map fun (i : Nat) => D.int (i : Int)) = (List.range m).map fun (i : Nat) => D.int (0 + (i : Int)) := by
    congr 1; funext i; rw [Int.zero_add]
  rw [e]
  exact src_rng
theorem i_rng1 (o : Xok G T N C lv Wx sc X) {a : E} {x : Str} {pa tg : Expr} {p pos : Pos} (h1 : glB sc x = true) (h2 : x = ("range" : Str)) (ha : PE X pa (rdE G C Wx a)) (ns : noStar pa = true) : PI X tg (.Call (.Name x p) [pa] [] pos) (rdI G C Wx (.rng1 a)) := by
  obtain ⟨g, hd⟩ := glB_ok o h1
  have hm : X.mg x = none := by rw [o.mg, h2]; exact o.g.bi _ (by decide)
  subst h2
  have hs : starEach [pa] X.env = [(false, eval pa X.env)] := star_cons ns
  refine pi_weak (pi_range1 g hm (pa_cons ha pa_nil hs) hs) fun σ H R q => ?_
  obtain ⟨W, bd, base, ρ, st, r, en, q⟩ := rd.bind (rel := DV G) q
  refine ⟨W, bd, base, ρ, st, r, en, q.mono ?_⟩
  rintro v H1 ⟨W1, bd1, base1, ρ1, st1, d, r1, en1, dv1, q1⟩
  obtain ⟨xs, hx, q1⟩ := Ans.opt q1
  cases d with
  | int i =>
    have hx' : (if decide (i < 2 ^ 40) && decide (-(2 ^ 40) < i) then some ((List.range i.toNat).map fun (k : Nat) => D.int (k : Int)) else none) = some xs := hx
    split at hx'
    · rename_i hz
      obtain ⟨z1, z2⟩ := and2 hz
      have z1 := of_decide_eq_true z1
      have z2 := of_decide_eq_true z2
      cases hx'
      exact ⟨i, by rw [show v = V.int i from dv1], by omega, by omega, q1 _ W1 H1 (Post.refl r1) ⟨_, _, _, src_rng0, trivial⟩⟩
    · cases hx'
  | _ => cases hx
theorem i_rng2 (o : Xok G T N C lv Wx sc X) {a b : E} {x : Str} {pa pb tg : Expr} {p pos : Pos} (h1 : glB sc x = true) (h2 : x = ("range" : Str)) (ha : PE X pa (rdE G C Wx a)) (hb : PE X pb (rdE G C Wx b)) (ns : noStar pa = true) (nb : noStar pb = true) :
    PI X tg (.Call (.Name x p) [pa, pb] [] pos) (rdI G C Wx (.rng2 a b)) := by
  obtain ⟨g, hd⟩ := glB_ok o h1
  have hm : X.mg x = none := by rw [o.mg, h2]; exact o.g.bi _ (by decide)
  subst h2
  have hs : starEach [pa, pb] X.env = [(false, eval pa X.env), (false, eval pb X.env)] := by rw [star_cons ns, star_cons nb]; rfl
  have hs2 : starEach [pb] X.env = [(false, eval pb X.env)] := star_cons nb
  refine pi_weak (pi_range2 g hm (pa_cons ha (pa_cons hb pa_nil hs2) (star_cons ns)) hs hs2) fun σ H R q => ?_
  obtain ⟨W, bd, base, ρ, st, r, en, q⟩ := rd_two q
  refine ⟨W, bd, base, ρ, st, r, en, q.mono ?_⟩
  rintro v H1 ⟨W, bd, base, ρ, st, r, en, q⟩
  refine ⟨W, bd, base, ρ, st, r, en, q.mono ?_⟩
  rintro w H2 ⟨W1, bd1, base1, ρ1, st1, d, e, r1, en1, d1, d2, q1⟩
  obtain ⟨xs, hx, q1⟩ := Ans.opt q1
  cases d with
  | int i => cases e with
    | int j =>
      have hx' : (if decide (j < 2 ^ 40) && (decide (-(2 ^ 40) < j) && (decide (i < 2 ^ 40) && decide (-(2 ^ 40) < i))) then some ((List.range (j - i).toNat).map fun (k : Nat) => D.int (i + (k : Int))) else none) = some xs := hx
      split at hx'
      · rename_i hz
        obtain ⟨z1, hz⟩ := and2 hz
        obtain ⟨z2, hz⟩ := and2 hz
        obtain ⟨z3, z4⟩ := and2 hz
        have z1 := of_decide_eq_true z1
        have z2 := of_decide_eq_true z2
        have z3 := of_decide_eq_true z3
        have z4 := of_decide_eq_true z4
        cases hx'
        exact ⟨i, j, by rw [show v = V.int i from d1, show w = V.int j from d2], ⟨by omega, by omega, by omega, by omega⟩, q1 _ W1 H2 (Post.refl r1) ⟨_, _, _, src_rng, trivial⟩⟩
      · cases hx'
    | _ => cases hx
  | _ => cases hx
/-- pairs of two lists, of two tuples -/
theorem src_zip {J : It} {ds es : List D} {xs ys : List V} {Gd : Hp → Prop} {S : Wd → Hp → Prop} (w : Walk J (min xs.length ys.length) Gd (YPair (fun i => xs[i]?) (fun i => ys[i]?))) (hg : ∀ W H, S W H → Gd H)
    (hk : ∀ {bd : Nat → Nat} {base : Nat} {W W' : Wd} {H H' : Hp} {st st' : Sto}, RS G bd base W H st → Post G bd base W H st W' H' st' → S W H → S W' H')
    (hc : ∀ {W : Wd} {H : Hp} {st : Sto} {D : Addr} {xs : List V} {ho : HO}, Own G W H st D xs → S W H → S W (upd H D ho)) (h1 : xs.length = ds.length) (h2 : ys.length = es.length) :
    Src G J (ds.zipWith (fun d e => D.tup [d, e]) es) (fun W n H => S W H ∧ DVs G W n H ds xs ∧ DVs G W n H es ys) Gd (YPair (fun i => xs[i]?) (fun i => ys[i]?)) := by
  refine ⟨by rw [List.length_zipWith, ← h1, ← h2]; exact w, fun W n H p => hg W H p.1, fun r p q => ⟨hk r p q.1, p.dvs r q.2.1, p.dvs r q.2.2⟩, fun o q => ⟨hc o q.1, o.chgs q.2.1, o.chgs q.2.2⟩, fun {bd base W H H' st i x d} r q hi hy => ?_⟩
  obtain ⟨T, u, v, e1, e2, e3, e4, e5⟩ := hy
  subst e1 e3
  rw [List.getElem?_zipWith] at hi
  cases a1 : ds[i]? with
  | none => rw [a1] at hi; cases hi
  | some a =>
    cases a2 : es[i]? with
    | none => rw [a1, a2] at hi; cases hi
    | some b =>
      rw [a1, a2] at hi
      cases hi
      obtain ⟨u', hu, du⟩ := q.2.1.get a1
      obtain ⟨v', hv, dv⟩ := q.2.2.get a2
      dsimp only at e4 e5
      rw [hu] at e4; cases e4
      rw [hv] at e5; cases e5
      obtain ⟨ex, rs⟩ := alloc_any r e2 (.tup [u, v])
      exact ⟨⟨ex, rs⟩, T, _, rfl, SqT.of upd_same, DVs.keep ex r (Nat.le_refl _) (Nat.le_refl _) ⟨_, _, rfl, du, _, _, rfl, dv, rfl⟩⟩
theorem i_zip (o : Xok G T N C lv Wx sc X) {a b : E} {x : Str} {pa pb : Expr} {p pos tpos : Pos} {elts : List Expr} {kk : Nat} (h1 : glB sc x = true) (h2 : x = ("zip" : Str)) (ha : PE X pa (rdE G C Wx a)) (hb : PE X pb (rdE G C Wx b)) (ns : noStar pa = true) (nb : noStar pb = true) :
    PI X (.Tuple elts kk tpos) (.Call (.Name x p) [pa, pb] [] pos) (rdI G C Wx (.zip a b)) := by
  obtain ⟨g, hd⟩ := glB_ok o h1
  have hm : X.mg x = none := by rw [o.mg, h2]; exact o.g.bi _ (by decide)
  subst h2
  have hs : starEach [pa, pb] X.env = (false, eval pa X.env) :: starEach [pb] X.env := star_cons ns
  have hs2 : starEach [pb] X.env = [(false, eval pb X.env)] := star_cons nb
  refine pi_weak (RZ.pi_zipA g hm (pa_cons ha (pa_cons hb pa_nil hs2) hs) hs (by rw [hs2]; rfl)) fun σ H R q => ?_
  obtain ⟨W, bd, base, ρ, st, r, en, q⟩ := rd_two q
  refine ⟨W, bd, base, ρ, st, r, en, q.mono ?_⟩
  rintro v H1 ⟨W, bd, base, ρ, st, r, en, q⟩
  refine ⟨W, bd, base, ρ, st, r, en, q.mono ?_⟩
  rintro w H2 ⟨W1, bd1, base1, ρ1, st1, d, e, r1, en1, d1, d2, q1⟩
  cases d with
  | lst ds => cases e with
    | lst es =>
      obtain ⟨a1, xs, rfl, f1, g1, k1⟩ := d1
      obtain ⟨a2, ys, rfl, f2, g2, k2⟩ := d2
      refine ⟨a1, a2, xs, ys, rfl, .inl ⟨SqL.of g1, SqL.of g2, q1 _ W1 H2 (Post.refl r1) ⟨_, _, _, src_zip (S := fun W H => (W.F a1 ∧ H a1 = some (.lst xs)) ∧ (W.F a2 ∧ H a2 = some (.lst ys))) (walk_zip rfl) (fun W H s => ⟨SqL.of s.1.2, SqL.of s.2.2⟩) (fun r p s => ⟨⟨p.ext.F _ s.1.1, F.keep p.ext r s.1.1 s.1.2⟩, ⟨p.ext.F _ s.2.1, F.keep p.ext r s.2.1 s.2.2⟩⟩)
        (fun o s => ⟨⟨s.1.1, by rw [upd_ne fun z => o.nF (by rw [← z]; exact s.1.1)]; exact s.1.2⟩, ⟨s.2.1, by rw [upd_ne fun z => o.nF (by rw [← z]; exact s.2.1)]; exact s.2.2⟩⟩) k1.len k2.len, ⟨⟨f1, g1⟩, ⟨f2, g2⟩⟩, k1, k2⟩⟩⟩
    | _ => exact q1.elim
  | tup ds => cases e with
    | tup es =>
      obtain ⟨a1, xs, rfl, g1, k1⟩ := d1
      obtain ⟨a2, ys, rfl, g2, k2⟩ := d2
      have chg : ∀ {W : Wd} {H : Hp} {st : Sto} {D a : Addr} {xs' xs : List V} {ho : HO}, Own G W H st D xs' → SqT G.K H a xs → SqT G.K (upd H D ho) a xs := fun o s => by
        rcases s with (s | ⟨u, s⟩) | s
        · exact .inl (.inl (by rw [upd_ne fun z => by rw [z, o.at_] at s; cases s]; exact s))
        · exact .inl (.inr ⟨u, by rw [upd_ne fun z => by rw [z, o.at_] at s; cases s]; exact s⟩)
        · exact .inr s
      refine ⟨a1, a2, xs, ys, rfl, .inr ⟨by rw [o.K]; exact g1, by rw [o.K]; exact g2, q1 _ W1 H2 (Post.refl r1) ⟨_, _, _, src_zip (S := fun W H => SqT G.K H a1 xs ∧ SqT G.K H a2 ys) (Gd := fun H => SqT G.K H a1 xs ∧ SqT G.K H a2 ys) ?_ (fun W H s => s) (fun r p s => ⟨SqT.keep p.ext r s.1, SqT.keep p.ext r s.2⟩)
        (fun o s => ⟨chg o s.1, chg o s.2⟩) k1.len k2.len, ⟨g1, g2⟩, k1, k2⟩⟩⟩
      rw [o.K]
      refine ⟨fun i _ hi q => ?_, fun _ q => ⟨xs, ys, q.1, q.2, by omega⟩, fun i H v H' _ q y => ?_⟩
      · have h1 : i < xs.length := by omega
        have h2 : i < ys.length := by omega
        exact ⟨xs, ys, xs[i], ys[i], q.1, q.2, by simp [h1], by simp [h2]⟩
      · obtain ⟨T, x, z, h1, h2, h3, h4, h5⟩ := y
        exact ⟨T, x, z, h1, h2, h3, h4 xs q.1, h5 ys q.2⟩
    | _ => exact q1.elim
  | _ => exact q1.elim
/-! ### comprehensions -/
/-- nothing leaves a comprehension's block -/
abbrev wx0 : WX := fun _ _ _ _ => False
theorem blk_ok (o : Xok G T N C lv Wx sc X) {s : Shared} {H : Hp} {scope : Scope} {Cc : Addr} {cl : List (Str × Addr)} {fp : List Addr} : Xok G T N C lv wx0 (relS scope sc) (X.blk s H scope (compEnvC scope cl Cc X.env) fp) :=
  ⟨o.prog, o.w, o.K, o.mg, o.base, o.calm, o.room, o.hN, o.nd, by show relabel scope X.env = relS scope sc; rw [← o.hsc]; rfl, takes0, o.g, o.calls, o.ar⟩
def rdIf (G : Gx) (C : Call) (c : Option E) : TT := fun σ H Q => rd G wx0 eqRl (fun base ρ st => evT C base c ρ st) σ H Q
theorem s_if0 {X : Cx} : PTs X [] (rdIf G C none) := ⟨fun pins s σ H Q I q => pts_nil.run pins s σ H Q I (rd_here (rel := eqRl) q fun _ _ => rfl)⟩
theorem s_if1 {X : Cx} {e : E} {p : Expr} (h : PT X p (rdT G C wx0 e)) : PTs X [p] (rdIf G C (some e)) := pts_one h
theorem ownB_ok (o : Xok G T N C lv Wx sc X) {scope : Scope} {own : List Nat} {i : Nat} {x : Str} {pos : Pos} {s : Shared} {H : Hp} {Cc : Addr} {cl : List (Str × Addr)} {fp : List Addr} (h : ownB N scope (relS scope sc) own i x = true) :
    PG (X.blk s H scope (compEnvC scope cl Cc X.env) fp) (.Name x pos) (gName i) ∧ i ∈ own := by
  obtain ⟨h1, h2⟩ := and2 h
  obtain ⟨h2, h3⟩ := and2 h2
  have o' := blk_ok (s := s) (H := H) (scope := scope) (Cc := Cc) (cl := cl) (fp := fp) o
  have hi : N[i]? = some x := by
    split at h1
    · rename_i e
      rw [e, of_decide_eq_true h1]
    · cases h1
  refine ⟨?_, of_decide_eq_true h3⟩
  have hx : L2.Loc (relS scope sc) x ∧ ((scope.names.lookup x == some .cell) = true ∨ (relS scope sc).names.lookup x = some .local) := by
    unfold locC at h2
    split at h2
    · rename_i e
      exact ⟨.inl e, .inr e⟩
    · rename_i e
      split at h2
      · rename_i e2
        exact ⟨.inr e, .inl (by rw [e2]; rfl)⟩
      · cases h2
    · cases h2
  refine pg_name (X := X.blk s H scope (compEnvC scope cl Cc X.env) fp) (by rw [o'.hN]; exact o.nd) (by rw [o'.hN]; exact hi) (by rw [o'.hsc]; exact hx.1) ?_
  rcases hx.2 with z | z
  · exact .inl z
  · exact .inr (by rw [o'.hsc]; exact z)
theorem each_len {es : List Expr} {env : Env} {is : List Nat} {scope rel : Scope} {own : List Nat} (h : chkTns N scope rel own is es = true) : (assignEach es env).length = is.length ∧ (assignEach es env).findIdx? (·.1) = none := by
  induction es generalizing is with
  | nil => cases is with
    | nil => exact ⟨rfl, rfl⟩
    | cons _ _ => cases h
  | cons e es ih =>
    cases is with
    | nil => cases h
    | cons i is =>
      cases e with
      | Name x pos =>
        obtain ⟨_, h2⟩ := and2 (show (ownB N scope rel own i x && chkTns N scope rel own is es) = true from h)
        obtain ⟨h3, h4⟩ := ih h2
        have e1 : assignEach (.Name x pos :: es) env = (false, assign (.Name x pos) env) :: assignEach es env := rfl
        rw [e1]
        refine ⟨by rw [List.length_cons, List.length_cons, h3], ?_⟩
        rw [List.findIdx?_cons, h4]; rfl
      | _ => cases h
theorem tns_ok (o : Xok G T N C lv Wx sc X) {scope : Scope} {own : List Nat} {s : Shared} {H : Hp} {Cc : Addr} {cl : List (Str × Addr)} {fp : List Addr} : ∀ {is : List Nat} {ps : List Expr}, chkTns N scope (relS scope sc) own is ps = true →
    PGs (X.blk s H scope (compEnvC scope cl Cc X.env) fp) ps (gNames is) ∧ ∀ i ∈ is, i ∈ own
  | [], [], _ => ⟨pgs_nil, fun _ h => by cases h⟩
  | [], _ :: _, h => by cases h
  | _ :: _, [], h => by cases h
  | i :: is, p :: ps, h => by
    cases p with
    | Name x pos =>
      obtain ⟨h1, h2⟩ := and2 (show (ownB N scope (relS scope sc) own i x && chkTns N scope (relS scope sc) own is ps) = true from h)
      obtain ⟨a1, a2⟩ := ownB_ok (pos := pos) (s := s) (H := H) (Cc := Cc) (cl := cl) (fp := fp) o h1
      obtain ⟨b1, b2⟩ := tns_ok o h2
      refine ⟨pgs_cons a1 b1 rfl, fun j hj => ?_⟩
      rcases List.mem_cons.mp hj with rfl | hj
      · exact a2
      · exact b2 j hj
    | _ => cases h
theorem tn_pg (o : Xok G T N C lv Wx sc X) {scope : Scope} {own : List Nat} {t : Tn} {tg : Expr} {s : Shared} {H : Hp} {Cc : Addr} {cl : List (Str × Addr)} {fp : List Addr} (h : chkTn N scope (relS scope sc) own t tg = true) :
    PG (X.blk s H scope (compEnvC scope cl Cc X.env) fp) tg (rdTn X.K t) ∧ ∀ i ∈ tnOf t, i ∈ own := by
  cases t with
  | nm i => cases tg with
    | Name x pos =>
      obtain ⟨a1, a2⟩ := ownB_ok (pos := pos) (s := s) (H := H) (Cc := Cc) (cl := cl) (fp := fp) o h
      exact ⟨a1, fun j hj => by rw [show j = i by simpa [tnOf] using hj]; exact a2⟩
    | _ => cases h
  | tup is => cases tg with
    | Tuple ps k pos =>
      have h' : chkTns N scope (relS scope sc) own is ps = true := h
      obtain ⟨a1, a2⟩ := tns_ok (s := s) (H := H) (Cc := Cc) (cl := cl) (fp := fp) o h'
      obtain ⟨l1, l2⟩ := each_len (env := (X.blk s H scope (compEnvC scope cl Cc X.env) fp).env) h'
      exact ⟨pg_tup (X := X.blk s H scope (compEnvC scope cl Cc X.env) fp) o.calm a1 l1 l2, a2⟩
    | _ => cases h
theorem tn_sub {scope rel : Scope} {own : List Nat} {t : Tn} {tg : Expr} (h : chkTn N scope rel own t tg = true) : ∀ i ∈ tnOf t, i ∈ own := by
  have one : ∀ {i : Nat} {x : Str}, ownB N scope rel own i x = true → i ∈ own := fun h => of_decide_eq_true (and2 (and2 h).2).2
  have many : ∀ {is : List Nat} {ps : List Expr}, chkTns N scope rel own is ps = true → ∀ i ∈ is, i ∈ own := by
    intro is
    induction is with
    | nil => intro _ _ i h; cases h
    | cons i is ih =>
      intro ps h
      cases ps with
      | nil => cases h
      | cons p ps => cases p with
        | Name x pos =>
          obtain ⟨h1, h2⟩ := and2 (show (ownB N scope rel own i x && chkTns N scope rel own is ps) = true from h)
          intro j hj
          rcases List.mem_cons.mp hj with rfl | hj
          · exact one h1
          · exact ih h2 j hj
        | _ => cases h
  cases t with
  | nm i => cases tg with
    | Name x pos => exact fun j hj => by rw [show j = i by simpa [tnOf] using hj]; exact one h
    | _ => cases h
  | tup is => cases tg with
    | Tuple ps k pos => exact many h
    | _ => cases h
/-- one turn -/
def turnF (C : Call) (base : Nat) (own : List Nat) (t : Tn) (c : Option E) (e : E) (ρ : En) (x : D) (st : Sto) : R (Option D) := match putN t x (wipeE ρ own) with
  | some ρ' => (evT C base c ρ' st).bind fun k st => if k then (evE C base e ρ' st).bind fun y st => .ok (some y) st else .ok none st
  | none => .bad
/-- the walk of a comprehension whose items are known -/
theorem comp_core (o : Xok G T N C lv Wx sc X) {bx : Bool} {own : List Nat} {t : Tn} {c : Option E} {e : E} {J : It} {items : List Rf.D} {keep : Sto → Bool} {P : Wd → Nat → Hp → Prop} {Gd : Hp → Prop} {Y : Nat → Hp → V → Hp → Prop} {ρ : En} {H1 : Hp} {Q : VK}
    (hsub : ∀ i ∈ tnOf t, i ∈ own) (src : Src G J items P Gd Y) (r : RS G bd base W H1 st) (en : EnR G W st.length H1 ρ σ) (hP : P W st.length H1)
    (q : Ans (DV G) G bd base Wx σ W H1 st (match compD (turnF C base own t c e ρ) keep items st with
      | .ok ys st => mkL bx ys st
      | _ => .bad) Q) (D : Addr) (hD : H1 D = none) :
    ∃ Wv : Nat → Nat → Hp → Prop, (∃ m, Wv 0 m (upd H1 D (.lst []))) ∧ ∀ i m H, Wv i m H →
      (J.stop i H ∧ Q (.ref D) H) ∨ (J.go i H ∧ ∃ Nx : Hp → Prop, (∀ H', Nx H' → ∃ m', m' < m ∧ Wv (i + 1) m' H') ∧ ∀ x H', J.yld i H x H' → rdTn X.K t x (L2.wipe σ own) H' fun σ2 H2 => L2.wipe σ2 own = L2.wipe σ own ∧ rdIf G C c σ2 H2 fun b H3 =>
        if b = true then rdE G C wx0 e σ2 H3 fun y H4 => ∃ acc, H4 D = some (.lst acc) ∧ acc.length < sizeLine ∧ Nx (upd H4 D (.lst (acc ++ [y]))) else Nx H3) := by
  cases e0 : compD (turnF C base own t c e ρ) keep items st with
  | exc _ _ => rw [e0] at q; exact q.elim
  | bad => rw [e0] at q; exact q.elim
  | ok ys stf =>
  rw [e0] at q
  have qL : Ans (DV G) G bd base Wx σ W H1 st (mkL bx ys stf) Q := q
  have hlen : ys.length ≤ SL := by
    unfold mkL at qL
    split at qL
    · assumption
    · exact qL.elim
  obtain ⟨ex0, rs0⟩ := alloc_any r hD (.lst [])
  have own0 : Own G W (upd H1 D (.lst [])) st D [] := by
    refine ⟨upd_same, fun k hk z => ?_, fun z => ?_⟩
    · obtain ⟨u, h1, _⟩ := r.some hk
      rw [z, hD] at h1; cases h1
    · obtain ⟨u, h1⟩ := r.fH _ z
      rw [hD] at h1; cases h1
  refine lc_it src.walk (fun i H' => ∃ (W' : Wd) (st' : Sto) (acc : List Rf.D) (xs : List V) (ys' : List Rf.D), Post G bd base W H1 st W' H' st' ∧ Own G W' H' st' D xs ∧ DVs G W' st'.length H' acc xs ∧ P W' st'.length H' ∧ EnR G W' st'.length H' ρ σ ∧
    compD (turnF C base own t c e ρ) keep (items.drop i) st' = .ok ys' stf ∧ ys = acc ++ ys') ?_ ?_ ?_ ?_
  · exact ⟨W, st, [], [], ys, ⟨ex0, rs0⟩, own0, rfl, src.keep r ⟨ex0, rs0⟩ hP, en.post ⟨ex0, rs0⟩ r, by rw [List.drop_zero]; exact e0, rfl⟩
  · rintro i H' _ ⟨W', st', acc, xs, ys', p, w, hd, hp, en', _⟩
    exact src.good _ _ _ hp
  · rintro i x H2 H3 hlt ⟨W', st', acc, xs, ys', p, w, hd, hp, en', e1, e2⟩ hy
    have hx : items[i]? = some items[i] := List.getElem?_eq_getElem hlt
    obtain ⟨p2, dx⟩ := src.item p.rs hp hx hy
    rw [List.drop_eq_getElem_cons hlt] at e1
    have e1' : (if keep st' then (match turnF C base own t c e ρ items[i] st' with
      | .ok y st => (match compD (turnF C base own t c e ρ) keep (items.drop (i + 1)) st with
        | .ok ys st => .ok (match y with | some y => y :: ys | none => ys) st
        | _ => .bad)
      | _ => .bad) else R.bad) = .ok ys' stf := e1
    split at e1'
    rotate_left
    · cases e1'
    cases e3 : turnF C base own t c e ρ items[i] st' with
    | exc _ _ => rw [e3] at e1'; cases e1'
    | bad => rw [e3] at e1'; cases e1'
    | ok oy st1 =>
    rw [e3] at e1'
    dsimp only at e1'
    cases e4 : compD (turnF C base own t c e ρ) keep (items.drop (i + 1)) st1 with
    | exc _ _ => rw [e4] at e1'; cases e1'
    | bad => rw [e4] at e1'; cases e1'
    | ok ys2 st2 =>
    rw [e4] at e1'
    dsimp only at e1'
    injection e1' with e5 e6
    subst e6
    unfold turnF at e3
    cases e7 : putN t items[i] (wipeE ρ own) with
    | none => rw [e7] at e3; cases e3
    | some ρ' =>
    rw [e7] at e3
    dsimp only at e3
    refine tn_ok o.K (vs := own) e7 dx ((en'.post p2 p.rs).wipe own) fun σ2 en2 hw => ⟨?_, ?_⟩
    · rw [hw hsub]
      have : ∀ (vs ws : List Nat) (σ : L2.St), (∀ v ∈ vs, v ∈ ws) → L2.wipe (L2.wipe σ vs) ws = L2.wipe σ ws := by
        intro vs
        induction vs with
        | nil => intro ws σ _; rfl
        | cons v vs ih =>
          intro ws σ hv
          show L2.wipe ((L2.wipe σ vs).set v none) ws = _
          rw [wipe_set (hv v List.mem_cons_self)]
          exact ih ws σ fun u hu => hv u (List.mem_cons_of_mem _ hu)
      exact this own own σ fun _ h => h
    · cases e8 : evT C base c ρ' st' with
      | exc _ _ => rw [e8] at e3; cases e3
      | bad => rw [e8] at e3; cases e3
      | ok k stc =>
      rw [e8] at e3
      have e3' : (if k then (evE C base e ρ' stc).bind fun y st => .ok (some y) st else R.ok none stc) = .ok oy st1 := e3
      refine ⟨W', bd, base, ρ', st', p2.rs, en2, ?_⟩
      dsimp only
      rw [e8]
      intro k' W3 H4 p3 hk
      have hk' : k = k' := hk
      subst hk'
      cases k with
      | false =>
        rw [if_neg Bool.false_ne_true] at e3' ⊢
        injection e3' with e9 e10
        subst e9 e10
        have w3 := (w.post p2).post p3
        refine ⟨W3, stc, acc, xs, ys2, (p.trans p2).trans p3, w3, p3.dvs p2.rs (p2.dvs p.rs hd), src.keep p2.rs p3 (src.keep p.rs p2 hp), (en'.post p2 p.rs).post p3 p2.rs, e4, ?_⟩
        rw [e2, ← e5]
      | true =>
        rw [if_pos rfl] at e3' ⊢
        cases e9 : evE C base e ρ' stc with
        | exc _ _ => rw [e9] at e3'; cases e3'
        | bad => rw [e9] at e3'; cases e3'
        | ok y sty =>
        rw [e9] at e3'
        injection e3' with e10 e11
        subst e10 e11
        refine ⟨W3, bd, base, ρ', stc, p3.rs, en2.post p3 p2.rs, ?_⟩
        dsimp only
        rw [e9]
        intro v W4 H5 p4 dy
        have pa := ((p.trans p2).trans p3).trans p4
        have w4 := ((w.post p2).post p3).post p4
        have hd4 := p4.dvs p3.rs (p3.dvs p2.rs (p2.dvs p.rs hd))
        refine ⟨xs, w4.at_, ?_, ?_⟩
        · rw [hd4.len, ← SL_eq]
          rw [e2, ← e5] at hlen
          simp only [List.length_append, List.length_cons] at hlen
          omega
        · obtain ⟨pw, ww⟩ := w4.write (ys := xs ++ [v]) pa hD
          refine ⟨W4, sty, acc ++ [y], xs ++ [v], ys2, pw, ww, w4.chgs (DVs.app hd4 ⟨v, [], rfl, dy, rfl⟩), src.chg w4 (src.keep p3.rs p4 (src.keep p2.rs p3 (src.keep p.rs p2 hp))), ?_, e4, ?_⟩
          · have en4 := ((en'.post p2 p.rs).post p3 p2.rs).post p4 p3.rs
            exact ⟨en4.1, fun j d hj => let ⟨u, h1, h2⟩ := en4.2 j d hj; ⟨u, h1, w4.chg h2⟩⟩
          · rw [e2, ← e5, List.append_assoc]; rfl
  · rintro H' ⟨W', st', acc, xs, ys', p, w, hd, hp, en', e1, e2⟩
    rw [List.drop_length] at e1
    have e1' : (if keep st' then R.ok ([] : List Rf.D) st' else .bad) = .ok ys' stf := e1
    split at e1'
    · injection e1' with e3 e4
      subst e3 e4
      rw [List.append_nil] at e2
      subst e2
      unfold mkL at qL
      rw [if_pos hlen] at qL
      cases bx with
      | true =>
        refine qL (.ref D) _ H' (w.adopt_ob p hD hd) ⟨?_, by simp⟩
        show V.ref D = V.ref (if st'.length = st'.length then D else _)
        rw [if_pos rfl]
      | false =>
        exact qL (.ref D) _ H' (w.adopt_frz p hD) ⟨D, xs, rfl, .inr rfl, w.at_, DVs.wm (W := W') (W' := ⟨W'.m, fun a => W'.F a ∨ a = D⟩) (fun _ h => .inl h) (fun _ _ => rfl) (Nat.le_refl _) hd⟩
    · cases e1'
theorem comp_rd (o : Xok G T N C lv Wx sc X) {bx : Bool} {own : List Nat} {t : Tn} {it : I} {c : Option E} {e : E} {Q : VK} (hsub : ∀ i ∈ tnOf t, i ∈ own) (q : rdE G C Wx (.comp bx own t it c e) σ H Q) : tLc (rdI G C Wx it) (rdTn X.K t) (rdIf G C c) (rdE G C wx0 e) own σ H Q := by
  have q' : rd G Wx (DV G) (fun base ρ st => (evI C base it ρ st).bind fun p st => match compD (turnF C base own t c e ρ) p.2 p.1 st with
    | .ok ys st => mkL bx ys st
    | _ => .bad) σ H Q := q
  obtain ⟨W, bd, base, ρ, st, r, en, q⟩ := rd.bind (rel := SrcOk G) q'
  refine ⟨W, bd, base, ρ, st, r, en, q.mono ?_⟩
  rintro J H1 ⟨W, bd, base, ρ, st, d, r, en, ⟨P, Gd, Y, src, hP⟩, q⟩ D hD
  exact comp_core o hsub src r en hP q D hD
theorem s_comp (o : Xok G T N C lv Wx sc X) {bx : Bool} {own : List Nat} {t : Tn} {it : I} {c : Option E} {e : E} {pe tg pit : Expr} {ifs : List Expr} {scope : Scope} {pos : Pos} (hb : blkC N sc scope (own.map fun i => (N.getD i (Str.ofString ""), i)) = true)
    (hi : PI X tg pit (rdI G C Wx it)) (hset : noSet pit = true) (ht : chkTn N scope (relS scope sc) own t tg = true)
    (hc : ∀ X', Xok G T N C lv wx0 (relS scope sc) X' → PTs X' ifs (rdIf G C c)) (he : ∀ X', Xok G T N C lv wx0 (relS scope sc) X' → PE X' pe (rdE G C wx0 e)) :
    PE X (.ListComp pe [⟨tg, pit, ifs, 0⟩] scope pos) (rdE G C Wx (.comp bx own t it c e)) := by
  have hown : (own.map fun i => (N.getD i (Str.ofString ""), i)).map (·.2) = own := by rw [List.map_map]; exact List.map_id' _
  have hsub : ∀ i ∈ tnOf t, i ∈ own := tn_sub ht
  have bk : BlkOk X.N X.env.scope scope (own.map fun i => (N.getD i (Str.ofString ""), i)) := by rw [o.hN, o.hsc]; exact blkOk_by hb
  have P0 := pe_lc (pos := pos) o.calm (by rw [o.hN]; exact o.nd) hi bk (fun s H Cc cl fp => (tn_pg (s := s) (H := H) (Cc := Cc) (cl := cl) (fp := fp) o ht).1) (fun s H Cc cl fp => hc _ (blk_ok o)) (fun s H Cc cl fp => he _ (blk_ok o)) (fun x => by cases pit <;> first | rfl | cases hset)
  rw [hown] at P0
  exact PE.weak P0 fun σ H Q q => comp_rd o hsub q
/-! ### locked dicts -/
theorem PE.or {X : Cx} {e : Expr} {t u : TE} (h : PE X e t) (g : PE X e u) : PE X e (fun σ H Q => t σ H Q ∨ u σ H Q) := ⟨fun pins s σ H Q I q => q.elim (h.run pins s σ H Q I) (g.run pins s σ H Q I)⟩
/-- only dicts have changed, and to a reader not even these -/
structure Rdk (W : Wd) (H H' : Hp) : Prop where
  n : ∀ a u, H a = some u → (∀ kvs, u ≠ .dK kvs) → (∀ o kvs, u ≠ .frz o (.dK kvs)) → H' a = some u
  d : ∀ a kvs, W.F a → Rd H a (.dK kvs) → Rd H' a (.dK kvs)
mutual
theorem DV.rdk (h0 : Rdk W H H') : ∀ {d : D} {v : V}, DV G W n H d v → DV G W n H' d v
  | .non, _, h => h
  | .bl _, _, h => h
  | .int _, _, h => h
  | .str _, _, h => h
  | .tup ds, v, h => by
    obtain ⟨a, xs, e1, hs, hd⟩ := h
    refine ⟨a, xs, e1, ?_, DVs.rdk h0 hd⟩
    rcases hs with (hs | ⟨o, hs⟩) | hs
    · exact .inl (.inl (h0.n _ _ hs (by simp) (by simp)))
    · exact .inl (.inr ⟨o, h0.n _ _ hs (by simp) (by simp)⟩)
    · exact .inr hs
  | .lst ds, v, h => by
    obtain ⟨a, xs, e1, f, hH, hd⟩ := h
    exact ⟨a, xs, e1, f, h0.n _ _ hH (by simp) (by simp), DVs.rdk h0 hd⟩
  | .frz ds, v, h => by
    obtain ⟨a, xs, e1, hs, hd⟩ := h
    refine ⟨a, xs, e1, ?_, DVs.rdk h0 hd⟩
    rcases hs with ⟨hs | ⟨o, hs⟩, q⟩ | hs
    · exact .inl ⟨.inl (h0.n _ _ hs (by simp) (by simp)), q⟩
    · exact .inl ⟨.inr ⟨o, h0.n _ _ hs (by simp) (by simp)⟩, q⟩
    · exact .inr hs
  | .dct ks vs, v, h => by
    obtain ⟨a, kvs, e1, f, hR, hk, hd⟩ := h
    exact ⟨a, kvs, e1, f, h0.d _ _ f hR, hk, DVs.rdk h0 hd⟩
  | .ref k, v, h => h
  | .fn f, v, h => h
  | .met k f, v, h => by
    obtain ⟨p, e1, hH, hk, f⟩ := h
    exact ⟨p, e1, h0.n _ _ hH (by simp) (by simp), hk, f⟩
  | .exc _ _, _, h => h.elim
theorem DVs.rdk (h0 : Rdk W H H') : ∀ {ds : List D} {xs : List V}, DVs G W n H ds xs → DVs G W n H' ds xs
  | [], _, h => h
  | d :: ds, xs, h => by
    obtain ⟨y, ys, e1, h1, h2⟩ := h
    exact ⟨y, ys, e1, DV.rdk h0 h1, DVs.rdk h0 h2⟩
end
theorem obR.rdk {k : Nat} {ob : Ob} (h0 : Rdk W H H') (hk : ob ≠ .dead → H' (W.m k) = H (W.m k)) (h : obR G W H n k ob) : obR G W H' n k ob := by
  cases ob with
  | lst ds =>
    obtain ⟨xs, h1, h2⟩ := h
    exact ⟨xs, (hk (by simp)).trans h1, DVs.rdk h0 h2⟩
  | dct ks vs =>
    obtain ⟨xs, h1, h2, h3⟩ := h
    exact ⟨xs, (hk (by simp)).trans h1, h2, DVs.rdk h0 h3⟩
  | ins c fs =>
    obtain ⟨dx, gs, h1, h2, h3⟩ := h
    exact ⟨dx, gs, (hk (by simp)).trans h1, h2, DVs.rdk h0 h3⟩
  | dead => trivial
theorem rdk_lock {a : Addr} {od : Obj} {kvs : List (Key × V)} (h : H a = some (.dK kvs)) : Rdk W H (upd H a (.frz od (.dK kvs))) := by
  refine ⟨fun b u e h1 h2 => ?_, fun b ks f e => ?_⟩
  · rw [upd_ne (fun z => by rw [z, h] at e; cases e; exact h1 _ rfl)]; exact e
  · by_cases q : b = a
    · subst q
      rcases e with e | ⟨o, e⟩
      · rw [h] at e; cases e
        exact .inr ⟨od, upd_same⟩
      · rw [h] at e; cases e
    · rcases e with e | ⟨o, e⟩
      · exact .inl (by rw [upd_ne q]; exact e)
      · exact .inr ⟨o, by rw [upd_ne q]; exact e⟩
theorem rdk_unlock {a : Addr} {od : Obj} {kvs : List (Key × V)} (h : H a = some (.frz od (.dK kvs))) : Rdk W H (upd H a (.dK kvs)) := by
  refine ⟨fun b u e h1 h2 => ?_, fun b ks f e => ?_⟩
  · rw [upd_ne (fun z => by rw [z, h] at e; cases e; exact h2 _ _ rfl)]; exact e
  · by_cases q : b = a
    · subst q
      rcases e with e | ⟨o, e⟩
      · rw [h] at e; cases e
      · rw [h] at e; cases e
        exact .inl upd_same
    · rcases e with e | ⟨o, e⟩
      · exact .inl (by rw [upd_ne q]; exact e)
      · exact .inr ⟨o, by rw [upd_ne q]; exact e⟩
theorem RS.rdk {a : Addr} {u : HO} (r : RS G bd base W H st) (h0 : Rdk W H (upd H a u)) (f : W.F a) : RS G bd base W (upd H a u) st := by
  refine ⟨fun k ob e => obR.rdk h0 (fun nd => upd_ne fun z => r.fF k (live_of e nd) (by rw [z]; exact f)) (r.obj k ob e), r.inj, r.fF, fun b h => ?_, r.bdl, r.bl⟩
  by_cases q : b = a
  · exact ⟨u, by rw [q]; exact upd_same⟩
  · obtain ⟨o, e⟩ := r.fH b h
    exact ⟨o, by rw [upd_ne q]; exact e⟩
theorem EnR.rdk {ρ : En} (h0 : Rdk W H H') (en : EnR G W n H ρ σ) : EnR G W n H' ρ σ := ⟨en.1, fun i d e => let ⟨v, e1, e2⟩ := en.2 i d e; ⟨v, e1, DV.rdk h0 e2⟩⟩
theorem post_lock {a : Addr} {od : Obj} {kvs : List (Key × V)} (r : RS G bd base W H st) (f : W.F a) (h : H a = some (.dK kvs)) (p : Post G bd base W (upd H a (.frz od (.dK kvs))) st W' H' st') :
    H' a = some (.frz od (.dK kvs)) ∧ Post G bd base W H st W' (upd H' a (.dK kvs)) st' := by
  have r1 := r.rdk (rdk_lock (W := W) (od := od) h) f
  have ha : H' a = some (.frz od (.dK kvs)) := F.keep p.ext r1 f upd_same
  have f' := p.ext.F a f
  refine ⟨ha, ⟨fun b o e hk => ?_, p.ext.F, p.ext.m, p.ext.dd, fun k hk hl => ?_, fun b e => ?_, p.ext.len, fun b hb => ?_⟩, p.rs.rdk (rdk_unlock ha) f'⟩
  · by_cases q : b = a
    · subst q
      rw [h] at e; cases e
      exact upd_same
    · rw [upd_ne q]
      exact p.ext.fr b o (by rw [upd_ne q]; exact e) hk
  · have z := p.ext.nw k hk hl
    by_cases q : W'.m k = a
    · exact absurd f' (by rw [← q]; exact p.rs.fF k hl)
    · rw [upd_ne q] at z; exact z
  · by_cases q : b = a
    · rw [q, upd_same]; simp
    · rw [upd_ne q]
      exact p.ext.tr b (by rw [upd_ne q]; exact e)
  · rcases p.ext.nF b hb with z | z | z
    · exact .inl z
    · by_cases q : b = a
      · rw [q] at hb ⊢; exact .inl f
      · rw [upd_ne q] at z; exact .inr (.inl z)
    · exact .inr (.inr z)
theorem ans_lock {a : Addr} {od : Obj} {kvs : List (Key × V)} {rr : R Rf.D} {Q : VK} (r : RS G bd base W H st) (f : W.F a) (h : H a = some (.dK kvs)) (hx : ∀ d st, rr ≠ .exc d st) (q : Ans (DV G) G bd base Wx σ W H st rr Q) :
    Ans (DV G) G bd base Wx σ W (upd H a (.frz od (.dK kvs))) st rr fun v H' => H' a = some (.frz od (.dK kvs)) ∧ Q v (upd H' a (.dK kvs)) := by
  cases rr with
  | ok d st' =>
    intro v W' H' p dv
    obtain ⟨ha, p2⟩ := post_lock r f h p
    exact ⟨ha, q v W' _ p2 (DV.rdk (rdk_unlock ha) dv)⟩
  | exc d st' => exact absurd rfl (hx d st')
  | bad => exact q
theorem kV_ok (k : Ky) : DV G W n H (ofKey k) (kV (kyR k)) := by cases k <;> rfl
theorem src_keys {a : Addr} {od : Obj} {kvs : List (Key × V)} {ks : List Ky} (hk : kvs.map (·.1) = ks.map kyR) : Src G (Itk a od kvs) (ks.map ofKey) (fun W n H => W.F a ∧ H a = some (.frz od (.dK kvs))) (fun H => H a = some (.frz od (.dK kvs))) (fun i H x H' => H' = H ∧ ∃ k v, kvs[i]? = some (k, v) ∧ x = kV k) := by
  have hl : kvs.length = (ks.map ofKey).length := by
    have := congrArg List.length hk
    simpa using this
  refine ⟨by rw [← hl]; exact walk_keys, fun W n H p => p.2, fun r p s => ⟨p.ext.F _ s.1, F.keep p.ext r s.1 s.2⟩, fun o s => ⟨s.1, by rw [upd_ne fun z => o.nF (by rw [← z]; exact s.1)]; exact s.2⟩, fun {_ _ W H H' st i x d} r s hi hy => ?_⟩
  obtain ⟨e, k, v, e1, e2⟩ := hy
  subst e e2
  refine ⟨Post.refl r, ?_⟩
  rw [List.getElem?_map] at hi
  cases q : ks[i]? with
  | none => rw [q] at hi; cases hi
  | some ky =>
    rw [q] at hi
    cases hi
    have z := congrArg (fun l => l[i]?) hk
    simp only [List.getElem?_map, e1, q, Option.map_some, Option.some.injEq] at z
    rw [z]
    exact kV_ok ky
theorem compk_rd (o : Xok G T N C lv Wx sc X) {bx : Bool} {own : List Nat} {t : Tn} {i : Nat} {c : Option E} {e : E} {Q : VK} (hsub : ∀ i ∈ tnOf t, i ∈ own) (q : rdE G C Wx (.comp bx own t (.keys i) c e) σ H Q) :
    tLockE (tLc (iKeys (tVar i)) (rdTn X.K t) (rdIf G C c) (rdE G C wx0 e) own) σ H Q ∨ tLc (iKeys (tVar i)) (rdTn X.K t) (rdIf G C c) (rdE G C wx0 e) own σ H Q := by
  obtain ⟨W, bd, base, ρ, st, r, en, q⟩ := q
  have q' : Ans (DV G) G bd base Wx σ W H st ((show R (List Rf.D × (Sto → Bool)) from match getV ρ i with
    | some (.dct ks _) => R.ok (ks.map ofKey, fun (_ : Sto) => true) st
    | _ => .bad).bind fun (p : List Rf.D × (Sto → Bool)) st => match compD (turnF C base own t c e ρ) p.2 p.1 st with
    | .ok ys st => mkL bx ys st
    | _ => .bad) Q := q
  cases eg : getV ρ i with
  | none => rw [eg] at q'; exact q'.elim
  | some d => cases d with
    | dct ks vs =>
      rw [eg] at q'
      have q2 : Ans (DV G) G bd base Wx σ W H st (match compD (turnF C base own t c e ρ) (fun _ => true) (ks.map ofKey) st with
        | .ok ys st => mkL bx ys st
        | _ => .bad) Q := q'
      obtain ⟨v, hv, dv⟩ := en.2 i _ (getV_ok eg)
      obtain ⟨a, kvs, rfl, f, hR, hk, hd⟩ := dv
      rcases hR with hR | ⟨o', hR⟩
      · refine .inl ⟨a, .dK kvs, hR, trivial, fun od => ⟨.ref a, hv, a, od, rfl, .inl ⟨kvs, upd_same, fun D hD => ?_⟩⟩⟩
        have h0 := rdk_lock (W := W) (od := od) hR
        refine comp_core o hsub (src_keys hk) (r.rdk h0 f) (en.rdk h0) ⟨f, upd_same⟩ (ans_lock r f hR (fun d st' z => ?_) q2) D hD
        cases e1 : compD (turnF C base own t c e ρ) (fun _ => true) (ks.map ofKey) st with
        | ok ys st2 =>
          rw [e1] at z
          have z' : mkL bx ys st2 = .exc d st' := z
          unfold mkL at z'
          split at z'
          · cases bx <;> cases z'
          · cases z'
        | exc _ _ => rw [e1] at z; cases z
        | bad => rw [e1] at z; cases z
      · exact .inr ⟨.ref a, hv, a, o', rfl, .inl ⟨kvs, hR, fun D hD => comp_core o hsub (src_keys hk) r en ⟨f, hR⟩ q2 D hD⟩⟩
    | _ => rw [eg] at q'; exact q'.elim
theorem s_compk (o : Xok G T N C lv Wx sc X) {bx : Bool} {own : List Nat} {t : Tn} {i : Nat} {y : Str} {c : Option E} {e : E} {pe tg : Expr} {ifs : List Expr} {scope : Scope} {pos p0 : Pos} (hb : blkC N sc scope (own.map fun i => (N.getD i (Str.ofString ""), i)) = true)
    (hv : varB N sc i y = true) (ht : chkTn N scope (relS scope sc) own t tg = true)
    (hc : ∀ X', Xok G T N C lv wx0 (relS scope sc) X' → PTs X' ifs (rdIf G C c)) (he : ∀ X', Xok G T N C lv wx0 (relS scope sc) X' → PE X' pe (rdE G C wx0 e)) :
    PE X (.ListComp pe [⟨tg, .Name y p0, ifs, 0⟩] scope pos) (rdE G C Wx (.comp bx own t (.keys i) c e)) := by
  obtain ⟨h1, h2, h3, h4⟩ := varB_ok o hv
  have hown : (own.map fun i => (N.getD i (Str.ofString ""), i)).map (·.2) = own := by rw [List.map_map]; exact List.map_id' _
  have hsub : ∀ i ∈ tnOf t, i ∈ own := tn_sub ht
  have bk : BlkOk X.N X.env.scope scope (own.map fun i => (N.getD i (Str.ofString ""), i)) := by rw [o.hN, o.hsc]; exact blkOk_by hb
  have P0 := pe_lc (pos := pos) o.calm (by rw [o.hN]; exact o.nd) (pi_keys (tg := tg) (pe_var (pos := p0) h1 h2 h3 h4)) bk (fun s H Cc cl fp => (tn_pg (s := s) (H := H) (Cc := Cc) (cl := cl) (fp := fp) o ht).1) (fun s H Cc cl fp => hc _ (blk_ok o)) (fun s H Cc cl fp => he _ (blk_ok o)) (fun x => rfl)
  rw [hown] at P0
  exact PE.weak (PE.or (pe_lock P0) P0) fun σ H Q q => compk_rd o hsub q
/-! ### two clauses -/
def turn2F (C : Call) (base : Nat) (own own2 : List Nat) (t : Tn) (c : Option E) (t2 : Tn) (it2 : I) (c2 : Option E) (e : E) (ρ : En) (x : D) (st : Sto) : R (List D) := match putN t x (wipeE ρ own) with
  | some ρ' => (evT C base c ρ' st).bind fun k st => if k then (evI C base it2 ρ' st).bind fun p2 st => compD (turnF C base own2 t2 c2 e ρ') p2.2 p2.1 st else .ok [] st
  | none => .bad
theorem wipe_self (own : List Nat) (σ : L2.St) : L2.wipe (L2.wipe σ own) own = L2.wipe σ own := by
  have : ∀ (vs ws : List Nat) (σ : L2.St), (∀ v ∈ vs, v ∈ ws) → L2.wipe (L2.wipe σ vs) ws = L2.wipe σ ws := by
    intro vs
    induction vs with
    | nil => intro ws σ _; rfl
    | cons v vs ih =>
      intro ws σ hv
      show L2.wipe ((L2.wipe σ vs).set v none) ws = _
      rw [wipe_set (hv v List.mem_cons_self)]
      exact ih ws σ fun u hu => hv u (List.mem_cons_of_mem _ hu)
  exact this own own σ fun _ h => h
theorem comp2_core (o : Xok G T N C lv Wx sc X) {bx : Bool} {own own2 : List Nat} {t t2 : Tn} {c c2 : Option E} {it2 : I} {e : E} {J : It} {items : List Rf.D} {keep : Sto → Bool} {P : Wd → Nat → Hp → Prop} {Gd : Hp → Prop} {Y : Nat → Hp → V → Hp → Prop} {ρ : En} {H1 : Hp} {Q : VK}
    (hsub : ∀ i ∈ tnOf t, i ∈ own) (hsub2 : ∀ i ∈ tnOf t2, i ∈ own2) (src : Src G J items P Gd Y) (r : RS G bd base W H1 st) (en : EnR G W st.length H1 ρ σ) (hP : P W st.length H1)
    (q : Ans (DV G) G bd base Wx σ W H1 st (match compDD (turn2F C base own own2 t c t2 it2 c2 e ρ) keep items st with
      | .ok ys st => mkL bx ys st
      | _ => .bad) Q) (D : Addr) (hD : H1 D = none) :
    ∃ Wv : Nat → Nat → Hp → Prop, (∃ m, Wv 0 m (upd H1 D (.lst []))) ∧ ∀ i m H, Wv i m H →
      (J.stop i H ∧ Q (.ref D) H) ∨ (J.go i H ∧ ∃ Nx : Hp → Prop, (∀ H', Nx H' → ∃ m', m' < m ∧ Wv (i + 1) m' H') ∧ ∀ x H', J.yld i H x H' → rdTn X.K t x (L2.wipe σ own) H' fun σ2 H2 => L2.wipe σ2 own = L2.wipe σ own ∧ rdIf G C c σ2 H2 fun b H3 =>
        if b = true then rdI G C wx0 it2 σ2 H3 fun J1 H4 => ∃ W1 : Nat → Nat → Hp → Prop, (∃ m, W1 0 m H4) ∧ ∀ j k H, W1 j k H →
          (J1.stop j H ∧ Nx H) ∨ (J1.go j H ∧ ∃ Nx1 : Hp → Prop, (∀ H', Nx1 H' → ∃ k', k' < k ∧ W1 (j + 1) k' H') ∧ ∀ x H', J1.yld j H x H' → rdTn X.K t2 x (L2.wipe σ2 own2) H' fun σ3 H5 => L2.wipe σ3 own2 = L2.wipe σ2 own2 ∧ rdIf G C c2 σ3 H5 fun b H6 =>
            if b = true then rdE G C wx0 e σ3 H6 fun y H7 => ∃ acc, H7 D = some (.lst acc) ∧ acc.length < sizeLine ∧ Nx1 (upd H7 D (.lst (acc ++ [y]))) else Nx1 H6)
        else Nx H3) := by
  cases e0 : compDD (turn2F C base own own2 t c t2 it2 c2 e ρ) keep items st with
  | exc _ _ => rw [e0] at q; exact q.elim
  | bad => rw [e0] at q; exact q.elim
  | ok ys stf =>
  rw [e0] at q
  have qL : Ans (DV G) G bd base Wx σ W H1 st (mkL bx ys stf) Q := q
  have hlen : ys.length ≤ SL := by
    unfold mkL at qL
    split at qL
    · assumption
    · exact qL.elim
  obtain ⟨ex0, rs0⟩ := alloc_any r hD (.lst [])
  have own0 : Own G W (upd H1 D (.lst [])) st D [] := by
    refine ⟨upd_same, fun k hk z => ?_, fun z => ?_⟩
    · obtain ⟨u, h1, _⟩ := r.some hk
      rw [z, hD] at h1; cases h1
    · obtain ⟨u, h1⟩ := r.fH _ z
      rw [hD] at h1; cases h1
  refine ⟨fun i m H' => m = items.length - i ∧ i ≤ items.length ∧ ∃ (W' : Wd) (st' : Sto) (acc : List Rf.D) (xs : List V) (ys' : List Rf.D), Post G bd base W H1 st W' H' st' ∧ Own G W' H' st' D xs ∧ DVs G W' st'.length H' acc xs ∧ P W' st'.length H' ∧ EnR G W' st'.length H' ρ σ ∧
    compDD (turn2F C base own own2 t c t2 it2 c2 e ρ) keep (items.drop i) st' = .ok ys' stf ∧ ys = acc ++ ys', ⟨_, rfl, Nat.zero_le _, W, st, [], [], ys, ⟨ex0, rs0⟩, own0, rfl, src.keep r ⟨ex0, rs0⟩ hP, en.post ⟨ex0, rs0⟩ r, by rw [List.drop_zero]; exact e0, rfl⟩, ?_⟩
  rintro i m H2 ⟨rfl, hi, W', st', acc, xs, ys', p, w, hd, hp, en', e1, e2⟩
  have gd := src.good _ _ _ hp
  by_cases hlt : i < items.length
  rotate_left
  · have e : i = items.length := by omega
    subst e
    refine .inl ⟨src.walk.stops H2 gd, ?_⟩
    rw [List.drop_length] at e1
    have e1' : (if keep st' then R.ok ([] : List Rf.D) st' else .bad) = .ok ys' stf := e1
    split at e1'
    · injection e1' with e3 e4
      subst e3 e4
      rw [List.append_nil] at e2
      subst e2
      unfold mkL at qL
      rw [if_pos hlen] at qL
      cases bx with
      | true =>
        refine qL (.ref D) _ H2 (w.adopt_ob p hD hd) ⟨?_, by simp⟩
        show V.ref D = V.ref (if st'.length = st'.length then D else _)
        rw [if_pos rfl]
      | false =>
        exact qL (.ref D) _ H2 (w.adopt_frz p hD) ⟨D, xs, rfl, .inr rfl, w.at_, DVs.wm (W := W') (W' := ⟨W'.m, fun a => W'.F a ∨ a = D⟩) (fun _ h => .inl h) (fun _ _ => rfl) (Nat.le_refl _) hd⟩
    · cases e1'
  refine .inr ⟨src.walk.goes i H2 hlt gd, fun H' => ∃ (W' : Wd) (st' : Sto) (acc : List Rf.D) (xs : List V) (ys' : List Rf.D), Post G bd base W H1 st W' H' st' ∧ Own G W' H' st' D xs ∧ DVs G W' st'.length H' acc xs ∧ P W' st'.length H' ∧ EnR G W' st'.length H' ρ σ ∧
    compDD (turn2F C base own own2 t c t2 it2 c2 e ρ) keep (items.drop (i + 1)) st' = .ok ys' stf ∧ ys = acc ++ ys', fun H' z => ⟨items.length - (i + 1), by omega, rfl, hlt, z⟩, fun x H3 hy => ?_⟩
  have hy := src.walk.yields i H2 x H3 hlt gd hy
  have hx : items[i]? = some items[i] := List.getElem?_eq_getElem hlt
  obtain ⟨p2, dx⟩ := src.item p.rs hp hx hy
  rw [List.drop_eq_getElem_cons hlt] at e1
  have e1' : (if keep st' then (match turn2F C base own own2 t c t2 it2 c2 e ρ items[i] st' with
    | .ok y st => (match compDD (turn2F C base own own2 t c t2 it2 c2 e ρ) keep (items.drop (i + 1)) st with
      | .ok ys st => .ok (y ++ ys) st
      | _ => .bad)
    | _ => .bad) else R.bad) = .ok ys' stf := e1
  split at e1'
  rotate_left
  · cases e1'
  cases e3 : turn2F C base own own2 t c t2 it2 c2 e ρ items[i] st' with
  | exc _ _ => rw [e3] at e1'; cases e1'
  | bad => rw [e3] at e1'; cases e1'
  | ok oy st1 =>
  rw [e3] at e1'
  dsimp only at e1'
  cases e4 : compDD (turn2F C base own own2 t c t2 it2 c2 e ρ) keep (items.drop (i + 1)) st1 with
  | exc _ _ => rw [e4] at e1'; cases e1'
  | bad => rw [e4] at e1'; cases e1'
  | ok ys2 st2 =>
  rw [e4] at e1'
  dsimp only at e1'
  injection e1' with e5 e6
  subst e6
  unfold turn2F at e3
  cases e7 : putN t items[i] (wipeE ρ own) with
  | none => rw [e7] at e3; cases e3
  | some ρ' =>
  rw [e7] at e3
  dsimp only at e3
  refine tn_ok o.K (vs := own) e7 dx ((en'.post p2 p.rs).wipe own) fun σ2 en2 hw => ⟨by rw [hw hsub]; exact wipe_self own σ, ?_⟩
  cases e8 : evT C base c ρ' st' with
  | exc _ _ => rw [e8] at e3; cases e3
  | bad => rw [e8] at e3; cases e3
  | ok k stc =>
  rw [e8] at e3
  have e3' : (if k then (evI C base it2 ρ' stc).bind fun p2 st => compD (turnF C base own2 t2 c2 e ρ') p2.2 p2.1 st else R.ok [] stc) = .ok oy st1 := e3
  refine ⟨W', bd, base, ρ', st', p2.rs, en2, ?_⟩
  dsimp only
  rw [e8]
  intro k' W3 H4 p3 hk
  have hk' : k = k' := hk
  subst hk'
  cases k with
  | false =>
    rw [if_neg Bool.false_ne_true] at e3' ⊢
    injection e3' with e9 e10
    subst e9 e10
    exact ⟨W3, stc, acc, xs, ys2, (p.trans p2).trans p3, (w.post p2).post p3, p3.dvs p2.rs (p2.dvs p.rs hd), src.keep p2.rs p3 (src.keep p.rs p2 hp), (en'.post p2 p.rs).post p3 p2.rs, e4, by rw [e2, ← e5]; rfl⟩
  | true =>
    rw [if_pos rfl] at e3' ⊢
    cases e9 : evI C base it2 ρ' stc with
    | exc _ _ => rw [e9] at e3'; cases e3'
    | bad => rw [e9] at e3'; cases e3'
    | ok pp2 sti =>
    rw [e9] at e3'
    obtain ⟨items2, keep2⟩ := pp2
    have e3'' : compD (turnF C base own2 t2 c2 e ρ') keep2 items2 sti = .ok oy st1 := e3'
    refine ⟨W3, bd, base, ρ', stc, p3.rs, en2.post p3 p2.rs, ?_⟩
    dsimp only
    rw [e9]
    intro J1 W4 H5 p4 ⟨P1, Gd1, Y1, src1, hP1⟩
    have pa := ((p.trans p2).trans p3).trans p4
    have r3 := p3.rs
    -- the second clause's loop
    refine ⟨fun j k H' => k = items2.length - j ∧ j ≤ items2.length ∧ ∃ (W' : Wd) (st' : Sto) (acc' : List Rf.D) (xs : List V) (ys1 : List Rf.D), Post G bd base W H1 st W' H' st' ∧ Own G W' H' st' D xs ∧ DVs G W' st'.length H' acc' xs ∧ P W' st'.length H' ∧ EnR G W' st'.length H' ρ σ ∧ P1 W' st'.length H' ∧ EnR G W' st'.length H' ρ' σ2 ∧
      compD (turnF C base own2 t2 c2 e ρ') keep2 (items2.drop j) st' = .ok ys1 st1 ∧ ys = acc' ++ (ys1 ++ ys2), ⟨_, rfl, Nat.zero_le _, W4, sti, acc, xs, oy, pa, ((w.post p2).post p3).post p4, p4.dvs r3 (p3.dvs p2.rs (p2.dvs p.rs hd)), src.keep r3 p4 (src.keep p2.rs p3 (src.keep p.rs p2 hp)), ((en'.post p2 p.rs).post p3 p2.rs).post p4 r3, hP1, (en2.post p3 p2.rs).post p4 r3, by rw [List.drop_zero]; exact e3'', by rw [e2, ← e5]⟩, ?_⟩
    rintro j k H6 ⟨rfl, hj, W', st', acc', xs, ys1, p, w, hd, hp, en', hp1, en2', e1, e2⟩
    have gd1 := src1.good _ _ _ hp1
    by_cases hlt1 : j < items2.length
    rotate_left
    · have e : j = items2.length := by omega
      subst e
      refine .inl ⟨src1.walk.stops H6 gd1, ?_⟩
      rw [List.drop_length] at e1
      have e1' : (if keep2 st' then R.ok ([] : List Rf.D) st' else .bad) = .ok ys1 st1 := e1
      split at e1'
      · injection e1' with e3 e4'
        subst e3 e4'
        exact ⟨W', st', acc', xs, ys2, p, w, hd, hp, en', e4, by rw [e2]; rfl⟩
      · cases e1'
    refine .inr ⟨src1.walk.goes j H6 hlt1 gd1, fun H' => ∃ (W' : Wd) (st' : Sto) (acc' : List Rf.D) (xs : List V) (ys1 : List Rf.D), Post G bd base W H1 st W' H' st' ∧ Own G W' H' st' D xs ∧ DVs G W' st'.length H' acc' xs ∧ P W' st'.length H' ∧ EnR G W' st'.length H' ρ σ ∧ P1 W' st'.length H' ∧ EnR G W' st'.length H' ρ' σ2 ∧
      compD (turnF C base own2 t2 c2 e ρ') keep2 (items2.drop (j + 1)) st' = .ok ys1 st1 ∧ ys = acc' ++ (ys1 ++ ys2), fun H' z => ⟨items2.length - (j + 1), by omega, rfl, hlt1, z⟩, fun x H7 hy => ?_⟩
    have hy := src1.walk.yields j H6 x H7 hlt1 gd1 hy
    have hx : items2[j]? = some items2[j] := List.getElem?_eq_getElem hlt1
    obtain ⟨p2, dx⟩ := src1.item p.rs hp1 hx hy
    rw [List.drop_eq_getElem_cons hlt1] at e1
    have e1' : (if keep2 st' then (match turnF C base own2 t2 c2 e ρ' items2[j] st' with
      | .ok y st => (match compD (turnF C base own2 t2 c2 e ρ') keep2 (items2.drop (j + 1)) st with
        | .ok ys st => .ok (match y with | some y => y :: ys | none => ys) st
        | _ => .bad)
      | _ => .bad) else R.bad) = .ok ys1 st1 := e1
    split at e1'
    rotate_left
    · cases e1'
    cases f3 : turnF C base own2 t2 c2 e ρ' items2[j] st' with
    | exc _ _ => rw [f3] at e1'; cases e1'
    | bad => rw [f3] at e1'; cases e1'
    | ok oy1 sta =>
    rw [f3] at e1'
    dsimp only at e1'
    cases e4' : compD (turnF C base own2 t2 c2 e ρ') keep2 (items2.drop (j + 1)) sta with
    | exc _ _ => rw [e4'] at e1'; cases e1'
    | bad => rw [e4'] at e1'; cases e1'
    | ok ys3 stb =>
    rw [e4'] at e1'
    dsimp only at e1'
    injection e1' with e5' e6'
    subst e6'
    unfold turnF at f3
    cases e7' : putN t2 items2[j] (wipeE ρ' own2) with
    | none => rw [e7'] at f3; cases f3
    | some ρ2 =>
    rw [e7'] at f3
    dsimp only at f3
    refine tn_ok o.K (vs := own2) e7' dx ((en2'.post p2 p.rs).wipe own2) fun σ3 en3 hw3 => ⟨by rw [hw3 hsub2]; exact wipe_self own2 σ2, ?_⟩
    cases e8' : evT C base c2 ρ2 st' with
    | exc _ _ => rw [e8'] at f3; cases f3
    | bad => rw [e8'] at f3; cases f3
    | ok k2 std =>
    rw [e8'] at f3
    have f3' : (if k2 then (evE C base e ρ2 std).bind fun y st => .ok (some y) st else R.ok none std) = .ok oy1 sta := f3
    refine ⟨W', bd, base, ρ2, st', p2.rs, en3, ?_⟩
    dsimp only
    rw [e8']
    intro k' W5 H8 p5 hk
    have hk' : k2 = k' := hk
    subst hk'
    cases k2 with
    | false =>
      rw [if_neg Bool.false_ne_true] at f3' ⊢
      injection f3' with e9 e10
      subst e9 e10
      exact ⟨W5, std, acc', xs, ys3, (p.trans p2).trans p5, (w.post p2).post p5, p5.dvs p2.rs (p2.dvs p.rs hd), src.keep p2.rs p5 (src.keep p.rs p2 hp), (en'.post p2 p.rs).post p5 p2.rs, src1.keep p2.rs p5 (src1.keep p.rs p2 hp1), (en2'.post p2 p.rs).post p5 p2.rs, e4', by rw [e2, ← e5']⟩
    | true =>
      rw [if_pos rfl] at f3' ⊢
      cases e9' : evE C base e ρ2 std with
      | exc _ _ => rw [e9'] at f3'; cases f3'
      | bad => rw [e9'] at f3'; cases f3'
      | ok y sty =>
      rw [e9'] at f3'
      injection f3' with e10 e11
      subst e10 e11
      refine ⟨W5, bd, base, ρ2, std, p5.rs, en3.post p5 p2.rs, ?_⟩
      dsimp only
      rw [e9']
      intro v W6 H9 p6 dy
      have pb := ((p.trans p2).trans p5).trans p6
      have w6 := ((w.post p2).post p5).post p6
      have hd6 := p6.dvs p5.rs (p5.dvs p2.rs (p2.dvs p.rs hd))
      refine ⟨xs, w6.at_, ?_, ?_⟩
      · rw [hd6.len, ← SL_eq]
        rw [e2, ← e5'] at hlen
        simp only [List.length_append, List.length_cons] at hlen
        omega
      · obtain ⟨pw, ww⟩ := w6.write (ys := xs ++ [v]) pb hD
        have chgE : ∀ {ρ : En} {σ : L2.St}, EnR G W6 sty.length H9 ρ σ → EnR G W6 sty.length (upd H9 D (.lst (xs ++ [v]))) ρ σ := fun en4 => ⟨en4.1, fun j d hj => let ⟨u, h1, h2⟩ := en4.2 j d hj; ⟨u, h1, w6.chg h2⟩⟩
        refine ⟨W6, sty, acc' ++ [y], xs ++ [v], ys3, pw, ww, w6.chgs (DVs.app hd6 ⟨v, [], rfl, dy, rfl⟩), src.chg w6 (src.keep p5.rs p6 (src.keep p2.rs p5 (src.keep p.rs p2 hp))), chgE (((en'.post p2 p.rs).post p5 p2.rs).post p6 p5.rs), src1.chg w6 (src1.keep p5.rs p6 (src1.keep p2.rs p5 (src1.keep p.rs p2 hp1))), chgE (((en2'.post p2 p.rs).post p5 p2.rs).post p6 p5.rs), e4', ?_⟩
        rw [e2, ← e5', List.append_assoc]; rfl
theorem s_comp2 (o : Xok G T N C lv Wx sc X) {bx : Bool} {own own2 : List Nat} {t t2 : Tn} {it it2 : I} {c c2 : Option E} {e : E} {pe tg pit tg2 pit2 : Expr} {ifs ifs2 : List Expr} {scope : Scope} {pos : Pos} (hb : blkC N sc scope (own.map fun i => (N.getD i (Str.ofString ""), i)) = true)
    (ho : (own2.all fun i => decide (i ∈ own)) = true) (hi : PI X tg pit (rdI G C Wx it)) (hset : noSet pit = true) (ht : chkTn N scope (relS scope sc) own t tg = true)
    (hc : ∀ X', Xok G T N C lv wx0 (relS scope sc) X' → PTs X' ifs (rdIf G C c)) (hi2 : ∀ X', Xok G T N C lv wx0 (relS scope sc) X' → PI X' tg2 pit2 (rdI G C wx0 it2)) (hset2 : noSet pit2 = true) (ht2 : chkTn N scope (relS scope sc) own2 t2 tg2 = true)
    (hc2 : ∀ X', Xok G T N C lv wx0 (relS scope sc) X' → PTs X' ifs2 (rdIf G C c2)) (he : ∀ X', Xok G T N C lv wx0 (relS scope sc) X' → PE X' pe (rdE G C wx0 e)) :
    PE X (.ListComp pe [⟨tg, pit, ifs, 0⟩, ⟨tg2, pit2, ifs2, 0⟩] scope pos) (rdE G C Wx (.comp2 bx own own2 t it c t2 it2 c2 e)) := by
  have hown : (own.map fun i => (N.getD i (Str.ofString ""), i)).map (·.2) = own := by rw [List.map_map]; exact List.map_id' _
  have hsub : ∀ i ∈ tnOf t, i ∈ own := tn_sub ht
  have hsub2 : ∀ i ∈ tnOf t2, i ∈ own2 := tn_sub ht2
  have bk : BlkOk X.N X.env.scope scope (own.map fun i => (N.getD i (Str.ofString ""), i)) := by rw [o.hN, o.hsc]; exact blkOk_by hb
  have P0 := pe_lc2 (pos := pos) (vs1 := own2) o.calm (by rw [o.hN]; exact o.nd) hi bk (by rw [hown]; exact fun i hi => of_decide_eq_true (List.all_eq_true.mp ho i hi)) (fun s H Cc cl fp => (tn_pg (s := s) (H := H) (Cc := Cc) (cl := cl) (fp := fp) o ht).1) (fun s H Cc cl fp => hc _ (blk_ok o))
    (fun s H Cc cl fp => hi2 _ (blk_ok o)) (fun s H Cc cl fp => (tn_pg (s := s) (H := H) (Cc := Cc) (cl := cl) (fp := fp) o ht2).1) (fun s H Cc cl fp => hc2 _ (blk_ok o)) (fun s H Cc cl fp => he _ (blk_ok o)) (fun x => by cases pit <;> first | rfl | cases hset) (fun env x => by cases pit2 <;> first | rfl | cases hset2)
  rw [hown] at P0
  refine PE.weak P0 fun σ H Q q => ?_
  have q' : rd G Wx (DV G) (fun base ρ st => (evI C base it ρ st).bind fun p st => match compDD (turn2F C base own own2 t c t2 it2 c2 e ρ) p.2 p.1 st with
    | .ok ys st => mkL bx ys st
    | _ => .bad) σ H Q := q
  obtain ⟨W, bd, base, ρ, st, r, en, q⟩ := rd.bind (rel := SrcOk G) q'
  refine ⟨W, bd, base, ρ, st, r, en, q.mono ?_⟩
  rintro J H1 ⟨W, bd, base, ρ, st, d, r, en, ⟨P, Gd, Y, src, hP⟩, q⟩ D hD
  exact comp2_core o hsub hsub2 src r en hP q D hD
end
end Rf

namespace Rf
open PySem PySem.Spec PyProof.Rows L2
section
variable {G : Gx} {T : Tx} {N : List Str} {C : Call} {lv : Nat}
structure Sm (G : Gx) (C : Call) (Wx : WX) (X : Cx) (e : E) (p : Expr) : Prop where
  pe : PE X p (rdE G C Wx e)
  pt : PT X p (rdT G C Wx e)
  pw : ∀ op ps pos, p = .BoolOp op ps pos → PW X p (rdT G C Wx e)
theorem Sm.of {Wx : WX} {sc : Scope} {X : Cx} (o : Xok G T N C lv Wx sc X) {e : E} {p : Expr} (h : PE X p (rdE G C Wx e)) (he : ∀ whole, isTrue p X.env whole = (do let v ← whole; standAt p.pos; holding [v] (truthy v))) (hb : ∀ op ps pos, p ≠ .BoolOp op ps pos) : Sm G C Wx X e p :=
  ⟨h, s_tst o h he, fun op ps pos z => absurd z (hb op ps pos)⟩
theorem chk_ix {sc : Scope} {e : E} {p : Expr} (h : chkE T N sc e p = true) : PlainIx p := by
  cases p with
  | Slice a b c d =>
    unfold chkE at h
    split at h <;> contradiction
  | _ => exact fun _ _ => rfl
theorem Sm.bool {Wx : WX} {sc : Scope} {X : Cx} (o : Xok G T N C lv Wx sc X) {op : BoolOp} {e : E} {p : Expr} {rest : List Expr} {pos : Pos} (h : Sm G C Wx X e (boolOpOf op p rest pos)) : PW X (.BoolOp op (p :: rest) pos) (rdT G C Wx e) := by
  cases rest with
  | nil => cases op with
    | And => exact pw_and1 h.pt
    | Or => exact pw_or1 h.pt
  | cons q r => exact h.pw _ _ _ rfl
theorem chkEs_nil {sc : Scope} {es : List E} (h : chkEs T N sc es [] = true) : es = [] := by
  cases es with
  | nil => rfl
  | cons e es => unfold chkEs at h; contradiction
theorem chk_keys {sc : Scope} {i : Nat} {tg p : Expr} (h : chkI T N sc (.keys i) tg p = true) : ∃ y p0, p = .Name y p0 ∧ varB N sc i y = true := by
  unfold chkI at h
  split at h <;> first | contradiction | skip
  rename_i z; cases z
  exact ⟨_, _, rfl, h⟩
theorem s_callA {Wx : WX} {sc : Scope} {X : Cx} (o : Xok G T N C lv Wx sc X) {scp : Bool} {f : Nat} {x : Str} {es : List E} {ps : List Expr} {p0 pos : Pos} (h1 : glB sc x = true) (h2 : decide (T.fname f = some x) = true) (h3 : chkEs T N sc es ps = true) (h : PA X ps (rdEs G C Wx es)) :
    PE X (.Call (.Name x p0) ps [] pos) (rdE G C Wx (.call scp f es)) := by
  have ns := chkEs_star h3
  cases ps with
  | nil =>
    have : es = [] := chkEs_nil h3
    subst this
    exact s_call0 o h1 (of_decide_eq_true h2)
  | cons p ps => exact s_call o h1 (of_decide_eq_true h2) h ns
theorem s_callkA {Wx : WX} {sc : Scope} {X : Cx} (o : Xok G T N C lv Wx sc X) {scp : Bool} {f : Nat} {x : Str} {perm : List Nat} {es ks : List E} {ps : List Expr} {kws : List Keyword} {p0 pos : Pos} (h1 : glB sc x = true) (h2 : decide (T.fname f = some x) = true)
    (h3 : (T.kbs.any fun q => decide (q = (f, es.length, perm, q.2.2.2)) && decide (kws.map (·.arg) = q.2.2.2.map some)) = true) (h4 : chkEs T N sc es ps = true) (h : PA X ps (rdEs G C Wx es)) (hk : KwOk G C Wx X ks kws) (hl : ks.length = kws.length) :
    PE X (.Call (.Name x p0) ps kws pos) (rdE G C Wx (.callk scp f perm es ks)) := by
  obtain ⟨q, hq, h3⟩ := List.any_eq_true.mp h3
  obtain ⟨h6, h7⟩ := and2 h3
  have e6 := of_decide_eq_true h6
  have e7 := of_decide_eq_true h7
  have ns := chkEs_star h4
  have hl' : ks.length = q.2.2.2.length := by
    have := congrArg List.length e7
    rw [List.length_map, List.length_map] at this
    rw [hl, this]
  rw [e6] at hq
  cases ps with
  | nil =>
    have : es = [] := chkEs_nil h4
    subst this
    exact s_callk0 o h1 (of_decide_eq_true h2) hq e7 (s_kw hk) hl'
  | cons p ps => exact s_callk o h1 (of_decide_eq_true h2) hq e7 h ns (s_kw hk) hl'
theorem s_biA {Wx : WX} {sc : Scope} {X : Cx} (o : Xok G T N C lv Wx sc X) {b : Bi} {bx : Bool} {x : Str} {es : List E} {ps : List Expr} {p0 pos : Pos} (h1 : glB sc x = true) (h2 : decide (biName b = x) = true) (h3 : (!ps.isEmpty) = true) (h4 : chkEs T N sc es ps = true) (h : PA X ps (rdEs G C Wx es)) :
    PE X (.Call (.Name x p0) ps [] pos) (rdE G C Wx (.bi b bx es)) := by
  have ns := chkEs_star h4
  cases ps with
  | nil => cases h3
  | cons p ps => exact s_bi o h1 (of_decide_eq_true h2) h ns
theorem noKeys_ok {it : I} (h : noKeys it = true) : ¬ ∃ i, it = .keys i := by
  rintro ⟨i, rfl⟩
  cases h
theorem noSet_of {sc : Scope} {it : I} {tg p : Expr} (h : chkI T N sc it tg p = true) (hk : noKeys it = true) : noSet p = true := by
  cases it with
  | val e => unfold chkI at h; exact chkE_noset h
  | keys i => cases hk
  | enu e => unfold chkI at h; contradiction
  | items e => unfold chkI at h; contradiction
  | _ =>
    unfold chkI at h
    split at h <;> first | contradiction | rfl
mutual
theorem simE : (e : E) → {p : Expr} → {Wx : WX} → {sc : Scope} → {X : Cx} → Xok G T N C lv Wx sc X → chkE T N sc e p = true → Sm G C Wx X e p
  | E.bad, p, Wx, sc, X, o, h => by
    unfold chkE at h
    have z : PE X p (rdE G C Wx .bad) := ⟨fun pins s σ H Q I ⟨W, bd, base, ρ, st, r, en, q⟩ => q.elim⟩
    refine ⟨z, ⟨fun pins s σ H Q I ⟨W, bd, base, ρ, st, r, en, q⟩ => q.elim⟩, fun op ps pos e => ⟨fun wh pins s σ H Q I ⟨W, bd, base, ρ, st, r, en, q⟩ => q.elim⟩⟩
  | E.cst d, p, Wx, sc, X, o, h => by
    unfold chkE at h
    split at h <;> first | contradiction | skip
    rename_i z; cases z
    exact .of o (s_cst o h) (fun _ => rfl) (by simp)
  | E.var i, p, Wx, sc, X, o, h => by
    unfold chkE at h
    split at h <;> first | contradiction | skip
    rename_i z; cases z
    exact .of o (s_var o h) (fun _ => rfl) (by simp)
  | E.glc x d, p, Wx, sc, X, o, h => by
    unfold chkE at h
    split at h <;> first | contradiction | skip
    rename_i z; cases z
    obtain ⟨h1, h2⟩ := and2 h
    obtain ⟨h2, h3⟩ := and2 h2
    cases of_decide_eq_true h1
    obtain ⟨q, hq, h3⟩ := List.any_eq_true.mp h3
    obtain ⟨h4, h5⟩ := and2 h3
    have e : q = (x, d) := Prod.ext (of_decide_eq_true h4) (sameD_ok h5)
    exact .of o (s_glc o h2 (e ▸ hq)) (fun _ => rfl) (by simp)
  | E.glf f, p, Wx, sc, X, o, h => by
    unfold chkE at h
    split at h <;> first | contradiction | skip
    rename_i z; cases z
    obtain ⟨h1, h2⟩ := and2 h
    exact .of o (s_glf o h1 (of_decide_eq_true h2)) (fun _ => rfl) (by simp)
  | E.bin op bx a b, p, Wx, sc, X, o, h => by
    unfold chkE at h
    split at h <;> first | contradiction | skip
    rename_i z; cases z
    obtain ⟨h1, h2⟩ := and2 h
    obtain ⟨h2, h3⟩ := and2 h2
    cases of_decide_eq_true h1
    exact .of o (s_bin o (simE a o h2).pe (simE b o h3).pe) (fun _ => rfl) (by simp)
  | E.neg a, p, Wx, sc, X, o, h => by
    unfold chkE at h
    split at h <;> first | contradiction | skip
    rename_i z; cases z
    exact .of o (s_neg o (simE a o h).pe) (fun _ => rfl) (by simp)
  | E.land a b, p, Wx, sc, X, o, h => by
    unfold chkE at h
    split at h <;> first | contradiction | skip
    rename_i z; cases z
    obtain ⟨h1, h2⟩ := and2 h
    have ia := simE a o h1
    have ib := simE b o h2
    have w := t_land ia.pt (Sm.bool o ib)
    exact ⟨s_land o ia.pe ib.pe, w.pt, fun _ _ _ z => by cases z; exact w⟩
  | E.lor a b, p, Wx, sc, X, o, h => by
    unfold chkE at h
    split at h <;> first | contradiction | skip
    rename_i z; cases z
    obtain ⟨h1, h2⟩ := and2 h
    have ia := simE a o h1
    have ib := simE b o h2
    have w := t_lor ia.pt (Sm.bool o ib)
    exact ⟨s_lor o ia.pe ib.pe, w.pt, fun _ _ _ z => by cases z; exact w⟩
  | E.lnot a, p, Wx, sc, X, o, h => by
    unfold chkE at h
    split at h <;> first | contradiction | skip
    rename_i z; cases z
    have ia := simE a o h
    exact ⟨s_lnot o ia.pe, t_lnot ia.pt, by simp⟩
  | E.ife c a b, p, Wx, sc, X, o, h => by
    unfold chkE at h
    split at h <;> first | contradiction | skip
    rename_i z; cases z
    obtain ⟨h1, h2⟩ := and2 h
    obtain ⟨h2, h3⟩ := and2 h2
    have ic := simE c o h1
    have ia := simE a o h2
    have ib := simE b o h3
    exact ⟨s_ife o ic.pt ia.pe ib.pe, t_ife ic.pt ia.pt ib.pt, by simp⟩
  | E.cmp op a b, p, Wx, sc, X, o, h => by
    unfold chkE at h
    split at h <;> first | contradiction | skip
    rename_i z; cases z
    obtain ⟨h1, h2⟩ := and2 h
    obtain ⟨h2, h3⟩ := and2 h2
    cases of_decide_eq_true h1
    have z := s_cmp o (op := op) (pos := ‹Pos›) (simE a o h2).pe (simE b o h3).pe (chkE_noset h3)
    exact ⟨z.1, z.2, by simp⟩
  | E.chain op op' a b c, p, Wx, sc, X, o, h => by
    unfold chkE at h
    split at h <;> first | contradiction | skip
    rename_i z; cases z
    obtain ⟨h1, h2⟩ := and2 h
    obtain ⟨h2, h3⟩ := and2 h2
    obtain ⟨h3, h4⟩ := and2 h3
    obtain ⟨h4, h5⟩ := and2 h4
    cases of_decide_eq_true h1
    cases of_decide_eq_true h2
    have z := s_chain o (op := op) (op' := op') (pos := ‹Pos›) (simE a o h3).pe (simE b o h4).pe (simE c o h5).pe (chkE_noset h5)
    exact ⟨z.1, z.2, by simp⟩
  | E.tup es, p, Wx, sc, X, o, h => by
    unfold chkE at h
    split at h <;> first | contradiction | skip
    rename_i z; cases z
    exact .of o (s_tup (simEs es o h)) (fun _ => rfl) (by simp)
  | E.lst bx es, p, Wx, sc, X, o, h => by
    unfold chkE at h
    split at h <;> first | contradiction | skip
    rename_i z; cases z
    exact .of o (s_lst (simEs es o h)) (fun _ => rfl) (by simp)
  | E.dct bx ks vs, p, Wx, sc, X, o, h => by
    unfold chkE at h
    split at h <;> first | contradiction | skip
    rename_i z; cases z
    exact .of o s_dct (fun _ => rfl) (by simp)
  | E.sub a i, p, Wx, sc, X, o, h => by
    unfold chkE at h
    split at h <;> first | contradiction | skip
    rename_i z; cases z
    obtain ⟨h1, h2⟩ := and2 h
    exact .of o (s_sub o (simE a o h1).pe (simE i o h2).pe (chk_ix h2)) (fun _ => rfl) (by simp)
  | E.slc bx a lo hi, p, Wx, sc, X, o, h => by
    unfold chkE at h
    split at h <;> first | contradiction | skip
    rename_i z; cases z
    obtain ⟨h1, h2⟩ := and2 h
    obtain ⟨h2, h3⟩ := and2 h2
    exact .of o (s_slc o (simE a o h1).pe (simO lo o h2) (simO hi o h3)) (fun _ => rfl) (by simp)
  | E.fld a f, p, Wx, sc, X, o, h => by
    unfold chkE at h
    contradiction
  | E.callv k i es, p, Wx, sc, X, o, h => by
    unfold chkE at h
    contradiction
  | E.meth k a f es, p, Wx, sc, X, o, h => by
    unfold chkE at h
    contradiction
  | E.mk c f es, p, Wx, sc, X, o, h => by
    unfold chkE at h
    contradiction
  | E.comp2 bx own own2 t it c t2 it2 c2 e, p, Wx, sc, X, o, h => by
    unfold chkE at h
    split at h <;> first | contradiction | skip
    rename_i z; cases z
    obtain ⟨g1, h⟩ := and2 h
    obtain ⟨g2, h⟩ := and2 h
    obtain ⟨g3, h⟩ := and2 h
    obtain ⟨g4, h⟩ := and2 h
    obtain ⟨g5, h⟩ := and2 h
    obtain ⟨g6, h⟩ := and2 h
    obtain ⟨g7, h⟩ := and2 h
    obtain ⟨g8, h⟩ := and2 h
    obtain ⟨g9, h⟩ := and2 h
    obtain ⟨g10, g11⟩ := and2 h
    have z := simI it o (noKeys_ok g4) g3
    exact .of o (s_comp2 o g1 g2 z.1 z.2 g5 (fun X' o' => simIf c o' g6) (fun X' o' => (simI it2 o' (noKeys_ok g8) g7).1) (noSet_of g7 g8) g9 (fun X' o' => simIf c2 o' g10) (fun X' o' => (simE e o' g11).pe)) (fun _ => rfl) (by simp)
  | E.call k f es, p, Wx, sc, X, o, h => by
    unfold chkE at h
    split at h <;> first | contradiction | skip
    rename_i z; cases z
    obtain ⟨h1, h2⟩ := and2 h
    obtain ⟨h2, h3⟩ := and2 h2
    exact .of o (s_callA o h1 h2 h3 (simEs es o h3)) (fun _ => rfl) (by simp)
  | E.callk k f perm es ks, p, Wx, sc, X, o, h => by
    unfold chkE at h
    split at h <;> first | contradiction | skip
    rename_i z; cases z
    obtain ⟨h1, h2⟩ := and2 h
    obtain ⟨h2, h3⟩ := and2 h2
    obtain ⟨h3, h4⟩ := and2 h3
    obtain ⟨h4, h5⟩ := and2 h4
    obtain ⟨hk, hl⟩ := simKw ks o h5
    exact .of o (s_callkA o h1 h2 h3 h4 (simEs es o h4) hk hl) (fun _ => rfl) (by simp)
  | E.bi b bx es, p, Wx, sc, X, o, h => by
    unfold chkE at h
    split at h <;> first | contradiction | skip
    rename_i z; cases z
    obtain ⟨h1, h2⟩ := and2 h
    obtain ⟨h2, h3⟩ := and2 h2
    obtain ⟨h3, h4⟩ := and2 h3
    exact .of o (s_biA o h1 h2 h3 h4 (simEs es o h4)) (fun _ => rfl) (by simp)
  | E.maxd e i, p, Wx, sc, X, o, h => by
    unfold chkE at h
    split at h <;> first | contradiction | skip
    rename_i z; cases z
    obtain ⟨g1, k1⟩ := and2 h
    obtain ⟨g2, k2⟩ := and2 k1
    obtain ⟨g3, k3⟩ := and2 k2
    obtain ⟨g4, k4⟩ := and2 k3
    have e3 := of_decide_eq_true g3
    have e4 := of_decide_eq_true g4
    rw [e3, ← e4]
    exact .of o (s_maxd o g1 (of_decide_eq_true g2) (simE e o k4).pe (chkE_star k4)) (fun _ => rfl) (by simp)
  | E.isi ks e, p, Wx, sc, X, o, h => by
    unfold chkE at h
    split at h <;> first | contradiction | skip
    rename_i z; cases z
    obtain ⟨h1, h2⟩ := and2 h
    obtain ⟨h2, h3⟩ := and2 h2
    obtain ⟨h3, h4⟩ := and2 h3
    obtain ⟨h4, h5⟩ := and2 h4
    exact .of o (s_isi o h1 (of_decide_eq_true h2) h3 (of_decide_eq_true h4) (simE e o h5).pe (chkE_star h5)) (fun _ => rfl) (by simp)
  | E.comp bx own t it c e, p, Wx, sc, X, o, h => by
    unfold chkE at h
    split at h <;> first | contradiction | skip
    rename_i z; cases z
    obtain ⟨h1, h2⟩ := and2 h
    obtain ⟨h2, h3⟩ := and2 h2
    obtain ⟨h3, h4⟩ := and2 h3
    obtain ⟨h4, h5⟩ := and2 h4
    refine .of o ?_ (fun _ => rfl) (by simp)
    by_cases hk : ∃ i, it = .keys i
    · obtain ⟨i, rfl⟩ := hk
      obtain ⟨y, p0, rfl, hv⟩ := chk_keys h2
      exact s_compk o h1 hv h3 (fun X' o' => simIf c o' h4) (fun X' o' => (simE e o' h5).pe)
    · have z := simI it o hk h2
      exact s_comp o h1 z.1 z.2 h3 (fun X' o' => simIf c o' h4) (fun X' o' => (simE e o' h5).pe)
  | .mt m bx a es, p, Wx, sc, X, o, h => by
    unfold chkE at h
    split at h <;> first | contradiction | skip
    · rename_i z; cases z
      obtain ⟨g1, k1⟩ := and2 h
      obtain ⟨g2, k2⟩ := and2 k1
      obtain ⟨g3, k3⟩ := and2 k2
      obtain ⟨g4, k4⟩ := and2 k3
      obtain ⟨g5, g6⟩ := and2 k4
      have e1 := of_decide_eq_true g1
      rw [e1]
      exact .of o (s_get2 o g2 (of_decide_eq_true g3) (simE _ o g4).pe (simE _ o g5).pe (simE _ o g6).pe (chkE_star g5) (chkE_star g6)) (fun _ => rfl) (by simp)
    · rename_i z; cases z
      obtain ⟨g1, k1⟩ := and2 h
      obtain ⟨g2, k2⟩ := and2 k1
      obtain ⟨g3, k3⟩ := and2 k2
      obtain ⟨g4, g5⟩ := and2 k3
      have e1 := of_decide_eq_true g1
      rw [e1]
      exact .of o (s_append o g2 (of_decide_eq_true g3) (simE _ o g4).pe (simE _ o g5).pe (chkE_star g5)) (fun _ => rfl) (by simp)
theorem simEs : (es : List E) → {ps : List Expr} → {Wx : WX} → {sc : Scope} → {X : Cx} → Xok G T N C lv Wx sc X → chkEs T N sc es ps = true → PA X ps (rdEs G C Wx es)
  | [], [], Wx, sc, X, o, h => s_nil
  | [], _ :: _, Wx, sc, X, o, h => by unfold chkEs at h; contradiction
  | _ :: _, [], Wx, sc, X, o, h => by unfold chkEs at h; contradiction
  | e :: es, p :: ps, Wx, sc, X, o, h => by
    unfold chkEs at h
    obtain ⟨h1, h2⟩ := and2 h
    exact s_cons (simE e o h1).pe (simEs es o h2) (chkE_star h1)
theorem simKw : (es : List E) → {ps : List Keyword} → {Wx : WX} → {sc : Scope} → {X : Cx} → Xok G T N C lv Wx sc X → chkKw T N sc es ps = true → KwOk G C Wx X es ps ∧ es.length = ps.length
  | [], [], Wx, sc, X, o, h => ⟨.nil, rfl⟩
  | [], _ :: _, Wx, sc, X, o, h => by unfold chkKw at h; contradiction
  | _ :: _, [], Wx, sc, X, o, h => by unfold chkKw at h; contradiction
  | e :: es, ⟨nm, p, kp⟩ :: ps, Wx, sc, X, o, h => by
    unfold chkKw at h
    obtain ⟨h1, h2⟩ := and2 h
    obtain ⟨i1, i2⟩ := simKw es o h2
    exact ⟨.cons (simE e o h1).pe i1, by rw [List.length_cons, List.length_cons, i2]⟩
theorem simO : (oe : Option E) → {p : Option Expr} → {Wx : WX} → {sc : Scope} → {X : Cx} → Xok G T N C lv Wx sc X → chkO T N sc oe p = true → PO X p (rdO G C Wx oe)
  | none, none, Wx, sc, X, o, h => s_oNone
  | none, some _, Wx, sc, X, o, h => by unfold chkO at h; contradiction
  | some _, none, Wx, sc, X, o, h => by unfold chkO at h; contradiction
  | some e, some p, Wx, sc, X, o, h => by
    unfold chkO at h
    exact s_oSome (simE e o h).pe
theorem simIf : (oe : Option E) → {ps : List Expr} → {sc : Scope} → {X : Cx} → Xok G T N C lv wx0 sc X → chkIf T N sc oe ps = true → PTs X ps (rdIf G C oe)
  | none, [], sc, X, o, h => s_if0
  | none, _ :: _, sc, X, o, h => by unfold chkIf at h; contradiction
  | some _, [], sc, X, o, h => by unfold chkIf at h; contradiction
  | some _, _ :: _ :: _, sc, X, o, h => by unfold chkIf at h; contradiction
  | some e, [p], sc, X, o, h => by
    unfold chkIf at h
    exact s_if1 (simE e o h).pt
theorem simI : (it : I) → {tg p : Expr} → {Wx : WX} → {sc : Scope} → {X : Cx} → Xok G T N C lv Wx sc X → (¬ ∃ i, it = .keys i) → chkI T N sc it tg p = true → PI X tg p (rdI G C Wx it) ∧ noSet p = true
  | .val e, tg, p, Wx, sc, X, o, hk, h => by
    unfold chkI at h
    exact ⟨i_val o (simE e o h).pe, chkE_noset h⟩
  | .keys i, tg, p, Wx, sc, X, o, hk, h => absurd ⟨i, rfl⟩ hk
  | .rng1 a, tg, p, Wx, sc, X, o, hk, h => by
    unfold chkI at h
    split at h <;> first | contradiction | skip
    rename_i z; cases z
    obtain ⟨h1, h2⟩ := and2 h
    obtain ⟨h2, h3⟩ := and2 h2
    exact ⟨i_rng1 o h1 (of_decide_eq_true h2) (simE a o h3).pe (chkE_star h3), rfl⟩
  | .rng2 a b, tg, p, Wx, sc, X, o, hk, h => by
    unfold chkI at h
    split at h <;> first | contradiction | skip
    rename_i z; cases z
    obtain ⟨h1, h2⟩ := and2 h
    obtain ⟨h2, h3⟩ := and2 h2
    obtain ⟨h3, h4⟩ := and2 h3
    exact ⟨i_rng2 o h1 (of_decide_eq_true h2) (simE a o h3).pe (simE b o h4).pe (chkE_star h3) (chkE_star h4), rfl⟩
  | .zip a b, tg, p, Wx, sc, X, o, hk, h => by
    unfold chkI at h
    split at h <;> first | contradiction | skip
    rename_i z; cases z
    obtain ⟨h1, h2⟩ := and2 h
    obtain ⟨h2, h3⟩ := and2 h2
    obtain ⟨h3, h4⟩ := and2 h3
    exact ⟨i_zip o h1 (of_decide_eq_true h2) (simE a o h3).pe (simE b o h4).pe (chkE_star h3) (chkE_star h4), rfl⟩
  | .enu e, tg, p, Wx, sc, X, o, hk, h => by
    unfold chkI at h
    contradiction
  | .items e, tg, p, Wx, sc, X, o, hk, h => by
    unfold chkI at h
    contradiction
end
end
end Rf

namespace Rf
open PySem PySem.Spec PyProof.Rows L2
/-! ### the same statement -/
def tgB (N : List Str) (sc : Scope) (i : Nat) (x : Str) : Bool := (match N[i]? with
  | some y => decide (y = x)
  | none => false) && locB sc x
def noComp : Expr → Bool
  | .ListComp _ _ _ _ => false
  | .SetComp _ _ _ _ => false
  | .DictComp _ _ _ _ _ => false
  | _ => true
/-- the stores stand in their order -/
def swNo : Expr → Expr → Bool
  | .Tuple _ _ _, .Tuple vs _ _ => vs.all (foldedForSure 8)
  | .List _ _, .Tuple _ _ _ => false
  | _, _ => true
def isTgC : Expr → Bool
  | .Tuple _ _ _ => true
  | .Subscript _ _ _ => true
  | _ => false
section
variable (T : Tx) (N : List Str)
mutual
def chkTg : Scope → Tg → Expr → Bool
  | sc, .nm i, .Name x _ => tgB N sc i x
  | sc, .tup ts, .Tuple ps _ _ => chkTgs sc ts ps
  | sc, .sub o i, .Subscript po pi _ => chkE T N sc o po && chkE T N sc i pi
  | _, _, _ => false
def chkTgs : Scope → List Tg → List Expr → Bool
  | _, [], [] => true
  | sc, t :: ts, p :: ps => chkTg sc t p && chkTgs sc ts ps
  | _, _, _ => false
end
/-- name = [..], the name bound within the comprehension's own steps -/
def swT (sc : Scope) (y : Str) (py : Pos) : Expr → Bool
  | .ListComp _ [_] scope pos => (match sc.names.lookup y with | some .local => true | _ => false) && (py.line == pos.line && !(scope.names.any fun (n, k) => n == y && (k == .local || k == .cell)))
  | _ => false
def swF (sc : Scope) (y : Str) : Expr → Bool
  | .ListComp _ _ scope pos => (match sc.names.lookup y with | some .cell => true | _ => false)
  | p => noComp p
def isLoc (sc : Scope) (x : Str) : Bool := match sc.names.lookup x with | some .local => true | _ => false
def parB (sc : Scope) (i j : Nat) (x y : Str) (px py : Pos) (a b : Expr) : Bool :=
  tgB N sc i x && (tgB N sc j y && (isLoc sc x && (isLoc sc y && (px.line == py.line && (decide (i ≠ j) && (decide (x ≠ y) && (!(foldedForSure 8 a && foldedForSure 8 b) && !(constantsAlone 8 a && constantsAlone 8 b))))))))
mutual
def chkS : Scope → S → Stmt → Bool
  | sc, .asg (.nm i) e, .Assign [.Name x px] p _ => tgB N sc i x && (chkE T N sc e p && (swF sc x p || swT sc x px p))
  | sc, .asg t e, .Assign [tg] p _ => isTgC tg && (chkTg T N sc t tg && (chkE T N sc e p && (noComp p && swNo tg p)))
  | sc, .par [i, j] [a, b], .Assign [.Tuple [.Name x px, .Name y py] _ _] (.Tuple [pa, pb] _ _) _ => parB N sc i j x y px py pa pb && (chkE T N sc a pa && chkE T N sc b pb)
  | sc, .expr e, .Expr p _ => chkE T N sc e p && noComp p
  | sc, .ret e, .Return (some p) _ => chkE T N sc e p
  | _, .retN, .Return none _ => true
  | sc, .ife c a b, .If pc pa pb _ => chkE T N sc c pc && (chkSs sc a pa && chkSs sc b pb)
  | sc, .forS t it b, .For tg pit pb [] _ => chkTn N sc sc (tnOf t) t tg && (chkI T N sc it tg pit && (noKeys it && chkSs sc b pb))
  | sc, .forK t i b, .For tg (.Name x _) pb [] _ => chkTn N sc sc (tnOf t) t tg && (varB N sc i x && chkSs sc b pb)
  | sc, .whl c b, .While pc pb [] _ => chkE T N sc c pc && chkSs sc b pb
  | _, .brk, .Break _ => true
  | _, .cnt, .Continue _ => true
  | _, .pass, .Pass _ => true
  | _, .never, _ => true
  | _, _, _ => false
def chkSs : Scope → List S → List Stmt → Bool
  | _, [], [] => true
  | sc, .freeze _ :: ss, ps => chkSs sc ss ps
  | sc, s :: ss, p :: ps => chkS sc s p && chkSs sc ss ps
  | _, _, _ => false
end
end
/-! ### readings of statements -/
structure Xs (X : Cx) : Prop where
  owns : PassesOwn (model X.prog X.w) X.A X.env X.xe
  fn : ∀ x, X.fn x = true
  kind : X.env.scope.kind = .function
def AnsS (G : Gx) (bd : Nat → Nat) (base : Nat) (Wx : WX) (W : Wd) (H : Hp) (st : Sto) (r : Fl) (D : Ends) : Prop := match r with
  | .nx ρ' st' => ∀ (σ' : L2.St) (W' : Wd) (H' : Hp), Post G bd base W H st W' H' st' → EnR G W' st'.length H' ρ' σ' → D.nx σ' H'
  | .ret d st' => ∀ (v : V) (W' : Wd) (H' : Hp), Post G bd base W H st W' H' st' → DV G W' st'.length H' d v → D.rt v H'
  | .brk ρ' st' => ∀ (σ' : L2.St) (W' : Wd) (H' : Hp), Post G bd base W H st W' H' st' → EnR G W' st'.length H' ρ' σ' → D.bk σ' H'
  | .cnt ρ' st' => ∀ (σ' : L2.St) (W' : Wd) (H' : Hp), Post G bd base W H st W' H' st' → EnR G W' st'.length H' ρ' σ' → D.ct σ' H'
  | .exc d ρ' st' => ∀ (σ' : L2.St) (cls : Value) (dd : Option Addr) (W' : Wd) (H' : Hp), Post G bd base W H st W' H' st' → EnR G W' st'.length H' ρ' σ' → ExcR G W' H' d cls dd → Wx cls dd σ' H'
  | .bad => False
def rdS (G : Gx) (Wx : WX) (f : Nat → En → Sto → Fl) : TS := fun D σ H => ∃ W bd base ρ st, RS G bd base W H st ∧ EnR G W st.length H ρ σ ∧ AnsS G bd base Wx W H st (f base ρ st) D
def AnsG (G : Gx) (bd : Nat → Nat) (base : Nat) (W : Wd) (H : Hp) (st : Sto) (r : R En) (Q : L2.St → Hp → Prop) : Prop := match r with
  | .ok ρ' st' => ∀ (σ' : L2.St) (W' : Wd) (H' : Hp), Post G bd base W H st W' H' st' → EnR G W' st'.length H' ρ' σ' → Q σ' H'
  | _ => False
def rdTg (G : Gx) (C : Call) (t : Tg) : TG := fun v σ H Q => ∃ W bd base ρ st d, RS G bd base W H st ∧ EnR G W st.length H ρ σ ∧ DV G W st.length H d v ∧ AnsG G bd base W H st (asgR C base t d ρ st) Q
def rdTgs (G : Gx) (C : Call) (ts : List Tg) : TGs := fun vs σ H Q => ∃ W bd base ρ st ds, RS G bd base W H st ∧ EnR G W st.length H ρ σ ∧ DVs G W st.length H ds vs ∧ ds.length = ts.length ∧ AnsG G bd base W H st (asgRs C base ts ds ρ st) Q
section
variable {G : Gx} {T : Tx} {N : List Str} {C : Call} {lv : Nat} {Wx : WX} {sc : Scope} {X : Cx} {σ : L2.St} {H H' H1 : Hp} {W W' W1 : Wd} {n : Nat} {bd : Nat → Nat} {base : Nat} {st st' st1 : Sto} {ρ : En}
theorem AnsS.shift {r : Fl} {D : Ends} (p : Post G bd base W H st W1 H1 st1) (h : AnsS G bd base Wx W H st r D) : AnsS G bd base Wx W1 H1 st1 r D := by
  cases r with
  | nx ρ' st' => exact fun σ' W' H' q e => h σ' W' H' (p.trans q) e
  | ret d st' => exact fun v W' H' q e => h v W' H' (p.trans q) e
  | brk ρ' st' => exact fun σ' W' H' q e => h σ' W' H' (p.trans q) e
  | cnt ρ' st' => exact fun σ' W' H' q e => h σ' W' H' (p.trans q) e
  | exc d ρ' st' => exact fun σ' cls dd W' H' q e x => h σ' cls dd W' H' (p.trans q) e x
  | bad => exact h
theorem AnsG.shift {r : R En} {Q : L2.St → Hp → Prop} (p : Post G bd base W H st W1 H1 st1) (h : AnsG G bd base W H st r Q) : AnsG G bd base W1 H1 st1 r Q := by
  cases r with
  | ok ρ' st' => exact fun σ' W' H' q e => h σ' W' H' (p.trans q) e
  | exc d st' => exact h
  | bad => exact h
theorem AnsG.mono {r : R En} {Q Q' : L2.St → Hp → Prop} (h : AnsG G bd base W H st r Q) (hq : ∀ σ' H', Q σ' H' → Q' σ' H') : AnsG G bd base W H st r Q' := by
  cases r with
  | ok ρ' st' => exact fun σ' W' H' q e => hq _ _ (h σ' W' H' q e)
  | exc d st' => exact h
  | bad => exact h
/-- first r, then a target -/
theorem AnsG.bind {α β : Type} {rel : Rl α β} {r : R α} {f : α → Sto → R En} {Q : L2.St → Hp → Prop} (h : AnsG G bd base W H st (r.bind f) Q) :
    Ans rel G bd base Wx σ W H st r fun v H1 => ∃ (d : α) (st1 : Sto) (W1 : Wd), r = .ok d st1 ∧ Post G bd base W H st W1 H1 st1 ∧ rel W1 st1.length H1 d v ∧ AnsG G bd base W1 H1 st1 (f d st1) Q := by
  cases r with
  | ok d st' => exact fun v W' H' p dv => ⟨d, st', W', rfl, p, dv, AnsG.shift p h⟩
  | exc d st' => exact h.elim
  | bad => exact h.elim
theorem PG.weak {X : Cx} {e : Expr} {t t' : TG} (h : PG X e t) (w : ∀ v σ H Q, t' v σ H Q → t v σ H Q) : PG X e t' := ⟨fun pins s σ H v u Q I r q => h.run pins s σ H v u Q I r (w v σ H Q q)⟩
theorem PGs.weak {X : Cx} {e : List Expr} {t t' : TGs} (h : PGs X e t) (w : ∀ v σ H Q, t' v σ H Q → t v σ H Q) : PGs X e t' := ⟨fun pins s σ H v u Q I r q => h.run pins s σ H v u Q I r (w v σ H Q q)⟩
theorem PS.weak {X : Cx} {e : Stmt} {t t' : TS} (h : PS X e t) (w : ∀ D σ H, t' D σ H → t D σ H) : PS X e t' := ⟨fun pins s σ H D I q => h.run pins s σ H D I (w D σ H q)⟩
theorem PSs.weak {X : Cx} {e : List Stmt} {t t' : TS} (h : PSs X e t) (w : ∀ D σ H, t' D σ H → t D σ H) : PSs X e t' := ⟨fun pins s σ H D I q => h.run pins s σ H D I (w D σ H q)⟩
theorem PSet.or {X : Cx} {t u : TSet} (h : PSet X t) (g : PSet X u) : PSet X (fun o i v H Q => t o i v H Q ∨ u o i v H Q) := fun pins s σ H o i v ov iv u Q I r1 r2 r3 q => q.elim (h pins s σ H o i v ov iv u Q I r1 r2 r3) (g pins s σ H o i v ov iv u Q I r1 r2 r3)
theorem tgB_ok (o : Xok G T N C lv Wx sc X) {i : Nat} {x : Str} (h : tgB N sc i x = true) : X.N[i]? = some x ∧ L2.Loc X.env.scope x := by
  obtain ⟨h1, h2⟩ := and2 h
  refine ⟨?_, by rw [o.hsc]; exact locB_ok h2⟩
  rw [o.hN]
  split at h1
  · rename_i e; rw [e, of_decide_eq_true h1]
  · cases h1
theorem isLoc_ok {x : Str} (h : isLoc sc x = true) : sc.names.lookup x = some .local := by
  unfold isLoc at h
  split at h
  · assumption
  · cases h
/-! ### targets -/
theorem g_nm (o : Xok G T N C lv Wx sc X) (xs : Xs X) {i : Nat} {x : Str} {pos : Pos} (h : tgB N sc i x = true) : PG X (.Name x pos) (rdTg G C (.nm i)) := by
  obtain ⟨h1, h2⟩ := tgB_ok o h
  refine PG.weak (pg_name (by rw [o.hN]; exact o.nd) h1 h2 (.inl (xs.fn x))) fun v σ H Q ⟨W, bd, base, ρ, st, d, r, en, dv, q⟩ => ?_
  have q' : AnsG G bd base W H st (if i < ρ.length then .ok (ρ.set i (some d)) st else .bad) Q := q
  split at q'
  · exact q' _ W H (Post.refl r) (en.set dv)
  · exact q'.elim
theorem g_nil {X : Cx} : PGs X [] (rdTgs G C []) := by
  refine PGs.weak pgs_nil fun vs σ H Q ⟨W, bd, base, ρ, st, ds, r, en, dv, hl, q⟩ => ?_
  have e : ds = [] := by simpa using hl
  subst e
  exact ⟨dv, q _ W H (Post.refl r) en⟩
theorem g_cons {X : Cx} {t : Tg} {ts : List Tg} {p : Expr} {ps : List Expr} (h : PG X p (rdTg G C t)) (hs : PGs X ps (rdTgs G C ts)) (ns : noStar p = true) : PGs X (p :: ps) (rdTgs G C (t :: ts)) := by
  refine PGs.weak (pgs_cons h hs (by cases p <;> first | rfl | cases ns)) fun vs σ H Q ⟨W, bd, base, ρ, st, ds, r, en, dv, hl, q⟩ => ?_
  cases ds with
  | nil => cases hl
  | cons d ds =>
    obtain ⟨v, vr, rfl, d1, d2⟩ := dv
    refine ⟨v, vr, rfl, W, bd, base, ρ, st, d, r, en, d1, ?_⟩
    have q' : AnsG G bd base W H st ((asgR C base t d ρ st).bind fun ρ st => asgRs C base ts ds ρ st) Q := q
    cases e : asgR C base t d ρ st with
    | ok ρ' st' =>
      rw [e] at q'
      exact fun σ' W' H' p en' => ⟨W', bd, base, ρ', st', ds, p.rs, en', p.dvs r d2, by simpa using hl, AnsG.shift p q'⟩
    | exc _ _ => rw [e] at q'; exact q'.elim
    | bad => rw [e] at q'; exact q'.elim
theorem g_tup (o : Xok G T N C lv Wx sc X) {ts : List Tg} {ps : List Expr} {k : Nat} {pos : Pos} (h : PGs X ps (rdTgs G C ts)) (hn : (assignEach ps X.env).length = ts.length) (hst : (assignEach ps X.env).findIdx? (·.1) = none) : PG X (.Tuple ps k pos) (rdTg G C (.tup ts)) := by
  refine PG.weak (pg_tup o.calm h hn hst) fun v σ H Q ⟨W, bd, base, ρ, st, d, r, en, dv, q⟩ => ?_
  cases d with
  | tup ds =>
    obtain ⟨a, xs, rfl, h1, h2⟩ := dv
    have q' : AnsG G bd base W H st (if ds.length = ts.length then asgRs C base ts ds ρ st else .bad) Q := q
    split at q'
    · rename_i hl
      exact ⟨a, xs, rfl, by rw [o.K]; exact h1, by rw [h2.len, hl], W, bd, base, ρ, st, ds, r, en, h2, hl, q'⟩
    · exact q'.elim
  | _ => exact q.elim
end
end Rf

namespace Rf
open PySem PySem.Spec PyProof.Rows L2
section
variable {G : Gx} {T : Tx} {N : List Str} {C : Call} {lv : Nat} {Wx : WX} {sc : Scope} {X : Cx} {σ : L2.St} {H H' H1 : Hp} {W W' W1 : Wd} {n : Nat} {bd : Nat → Nat} {base : Nat} {st st' st1 : Sto} {ρ : En}
/-- what may be written into the object k -/
theorem wr_dv (r : RS G bd base W H st) {k : Nat} {d : D} {v : V} {H' : Hp} {W' : Wd} {st' : Sto} (hw : wOk base k d = true) (ex : Ext W H st W' H' st') (dv : DV G W st.length H d v) : DV G W' (bdOf bd base st.length k) H' d v := by
  rcases Bool.or_eq_true_iff.mp hw with w1 | w1
  · have : bdOf bd base st.length k = st.length := if_neg (by have := of_decide_eq_true w1; omega)
    rw [this]
    exact DV.keep ex r (Nat.le_refl _) (Nat.le_refl _) dv
  · exact DV.plain w1 (DV.keep ex r (Nat.le_refl _) (Nat.le_refl _) dv)
theorem g_sub (o : Xok G T N C lv Wx sc X) {ob ix : E} {pb px : Expr} {pos : Pos} (hb : PE X pb (rdE G C Wx ob)) (hx : PE X px (rdE G C Wx ix)) (hns : ∀ v, assign (.Subscript pb px pos) X.env v = (do
      let ov ← holding [v] (eval pb X.env)
      let iv ← holding [v, ov] (eval px X.env)
      standAt pos
      holding [v, ov, iv] (setItem ov iv v)
      release [v, ov, iv] [])) : PG X (.Subscript pb px pos) (rdTg G C (.sub ob ix)) := by
  refine PG.weak (pg_sub hb hx (PSet.or set_list (set_dict (room1 o))) hns) fun v σ H Q ⟨W, bd, base, ρ, st, d, r, en, dv, q⟩ => ?_
  have q' : AnsG G bd base W H st ((evE C base ob ρ st).bind fun x st => (evE C base ix ρ st).bind fun y st => (match x with
    | .ref n => (match st[n]?, y with
      | some (.lst ds), .int k => (opt (ixN ds.length k) st).bind fun j st => if wOk base n d then .ok ρ (st.set n (.lst (ds.set j d))) else .bad
      | some (.dct ks vs), y => (opt (keyOf y) st).bind fun k st => if wOk base n d && decide (ks.length < SL) then .ok ρ (st.set n (let r := dPut ks vs k d; .dct r.1 r.2)) else .bad
      | _, _ => .bad)
    | _ => .bad)) Q := q
  refine ⟨W, bd, base, ρ, st, r, en, (AnsG.bind (rel := DV G) q').mono ?_⟩
  rintro x H1 ⟨xd, st1, W1, _, P1, dx, q1⟩
  have r1 := P1.rs
  refine ⟨W1, bd, base, ρ, st1, r1, en.post P1 r, (AnsG.bind (rel := DV G) q1).mono ?_⟩
  rintro y H2 ⟨yd, st2, W2, _, P2, dy, q2⟩
  have r2 := P2.rs
  have dx2 := P2.dv r1 dx
  have dv2 := P2.dv r1 (P1.dv r dv)
  have en2 := (en.post P1 r).post P2 r1
  cases xd with
  | ref k =>
    obtain ⟨ex, hk⟩ := dx2
    dsimp only at q2
    cases e : st2[k]? with
    | none => rw [e] at q2; exact q2.elim
    | some ob =>
      cases ob with
      | lst ds =>
        rw [e] at q2
        cases yd with
        | int i =>
          obtain ⟨xs, h1, h2⟩ := r2.obj k _ e
          have q3 : AnsG G bd base W2 H2 st2 ((opt (ixN ds.length i) st2).bind fun j st => if wOk base k d then .ok ρ (st.set k (.lst (ds.set j d))) else .bad) Q := q2
          cases ej : ixN ds.length i with
          | none => rw [ej] at q3; exact q3.elim
          | some j =>
            rw [ej] at q3
            have q4 : AnsG G bd base W2 H2 st2 (if wOk base k d then .ok ρ (st2.set k (.lst (ds.set j d))) else .bad) Q := q3
            split at q4
            · rename_i hw
              have hlv : live st2 k := ⟨_, e, by simp⟩
              obtain ⟨ext, rs⟩ := write_ob r2 hlv (.lst (xs.set j v)) (ob := .lst (ds.set j d)) (by simp) fun H' ext hh =>
                ⟨xs.set j v, hh, DVs.set j (DVs.keep ext r2 (bdOf_le r2) (Nat.le_refl _) h2) (wr_dv r2 hw ext dv2)⟩
              refine .inl ⟨W2.m k, xs, i, j, ex, dy, h1, by rw [h2.len, ixN_eq]; exact ej, ?_⟩
              exact q4 σ W2 _ ⟨ext, rs⟩ (en2.post ⟨ext, rs⟩ r2)
            · exact q4.elim
        | _ => exact q2.elim
      | dct ks vs =>
        rw [e] at q2
        obtain ⟨kvs, h1, h2, h3⟩ := r2.obj k _ e
        have q3 : AnsG G bd base W2 H2 st2 ((opt (keyOf yd) st2).bind fun ky st => if wOk base k d && decide (ks.length < SL) then .ok ρ (st.set k (.dct (dPut ks vs ky d).1 (dPut ks vs ky d).2)) else .bad) Q := by
          cases yd <;> exact q2
        cases ek : keyOf yd with
        | none => rw [ek] at q3; exact q3.elim
        | some ky =>
          rw [ek] at q3
          have q4 : AnsG G bd base W2 H2 st2 (if wOk base k d && decide (ks.length < SL) then .ok ρ (st2.set k (.dct (dPut ks vs ky d).1 (dPut ks vs ky d).2)) else .bad) Q := q3
          split at q4
          · rename_i hw
            obtain ⟨hw, hl⟩ := and2 hw
            have hlv : live st2 k := ⟨_, e, by simp⟩
            obtain ⟨ext, rs⟩ := write_ob r2 hlv (.dK (putK kvs (kyR ky) v)) (ob := .dct (dPut ks vs ky d).1 (dPut ks vs ky d).2) (by simp) fun H' ext hh =>
              let z := dPut_ok (wr_dv r2 hw ext dv2) h2 (DVs.keep ext r2 (bdOf_le r2) (Nat.le_refl _) h3)
              ⟨putK kvs (kyR ky) v, hh, z.1, z.2⟩
            have hlen : kvs.length < sizeLine := by
              have := congrArg List.length h2
              rw [List.length_map, List.length_map] at this
              rw [this, ← SL_eq]
              exact of_decide_eq_true hl
            refine .inr ⟨W2.m k, _, ex, by rw [key_val dy ek]; exact DPut.k h1 hlen, ?_⟩
            exact q4 σ W2 _ ⟨ext, rs⟩ (en2.post ⟨ext, rs⟩ r2)
          · exact q4.elim
      | _ => rw [e] at q2; exact q2.elim
  | _ => exact q2.elim
theorem asg_plain {pb px : Expr} {pos : Pos} {env : Env} (h : ∀ a b c d, px ≠ .Slice a b c d) : ∀ v, assign (.Subscript pb px pos) env v = (do
      let ov ← holding [v] (eval pb env)
      let iv ← holding [v, ov] (eval px env)
      standAt pos
      holding [v, ov, iv] (setItem ov iv v)
      release [v, ov, iv] []) := by
  intro v
  cases px with
  | Slice a b c d => exact absurd rfl (h a b c d)
  | _ => rfl
theorem chk_noslice {e : E} {p : Expr} (h : chkE T N sc e p = true) : ∀ a b c d, p ≠ .Slice a b c d := by
  rintro a b c d rfl
  unfold chkE at h
  split at h <;> contradiction
theorem chkTg_star {t : Tg} {p : Expr} (h : chkTg T N sc t p = true) : noStar p = true := by
  cases p with
  | Starred a b => cases t <;> (unfold chkTg at h; contradiction)
  | _ => rfl
theorem chkTgs_each : ∀ {ts : List Tg} {ps : List Expr} {env : Env}, chkTgs T N sc ts ps = true → (assignEach ps env).length = ts.length ∧ (assignEach ps env).findIdx? (·.1) = none
  | [], [], _, _ => ⟨rfl, rfl⟩
  | [], _ :: _, _, h => by unfold chkTgs at h; contradiction
  | _ :: _, [], _, h => by unfold chkTgs at h; contradiction
  | t :: ts, p :: ps, env, h => by
    unfold chkTgs at h
    obtain ⟨h1, h2⟩ := and2 h
    obtain ⟨h3, h4⟩ := chkTgs_each (env := env) h2
    have ns := chkTg_star h1
    have e1 : assignEach (p :: ps) env = (false, assign p env) :: assignEach ps env := by cases p <;> first | rfl | cases ns
    rw [e1]
    refine ⟨by rw [List.length_cons, List.length_cons, h3], ?_⟩
    rw [List.findIdx?_cons, h4]; rfl
theorem chkTg_tup {ts : List Tg} {p : Expr} (h : chkTg T N sc (.tup ts) p = true) : ∃ ps k pos, p = .Tuple ps k pos ∧ chkTgs T N sc ts ps = true := by
  unfold chkTg at h
  split at h <;> first | contradiction | skip
  rename_i z; cases z
  exact ⟨_, _, _, rfl, h⟩
mutual
theorem simTg : (t : Tg) → {p : Expr} → Xok G T N C lv Wx sc X → Xs X → chkTg T N sc t p = true → PG X p (rdTg G C t)
  | .nm i, p, o, xs, h => by
    unfold chkTg at h
    split at h <;> first | contradiction | skip
    rename_i z; cases z
    exact g_nm o xs h
  | .tup ts, p, o, xs, h =>
    let ⟨ps, k, pos, e, h'⟩ := chkTg_tup h
    let z := chkTgs_each (env := X.env) h'
    e ▸ g_tup o (simTgs ts o xs h') z.1 z.2
  | .sub ob ix, p, o, xs, h => by
    unfold chkTg at h
    split at h <;> first | contradiction | skip
    rename_i z; cases z
    obtain ⟨h1, h2⟩ := and2 h
    exact g_sub o (simE ob o h1).pe (simE ix o h2).pe (asg_plain (chk_noslice h2))
  | .fld ob f, p, o, xs, h => by
    unfold chkTg at h
    contradiction
theorem simTgs : (ts : List Tg) → {ps : List Expr} → Xok G T N C lv Wx sc X → Xs X → chkTgs T N sc ts ps = true → PGs X ps (rdTgs G C ts)
  | [], [], o, xs, h => g_nil
  | [], _ :: _, o, xs, h => by unfold chkTgs at h; contradiction
  | _ :: _, [], o, xs, h => by unfold chkTgs at h; contradiction
  | t :: ts, p :: ps, o, xs, h => by
    unfold chkTgs at h
    obtain ⟨h1, h2⟩ := and2 h
    exact g_cons (simTg t o xs h1) (simTgs ts o xs h2) (chkTg_star h1)
end
/-! ### statements -/
/-- an expression, then what is done with its value -/
theorem rdS_bind {e : E} {f : Nat → En → D → Sto → Fl} {D : Ends} (h : rdS G Wx (fun base ρ st => match evE C base e ρ st with
    | .ok d st => f base ρ d st
    | .exc d st => .exc d ρ st
    | .bad => .bad) D σ H) : rdE G C Wx e σ H fun v H1 => ∃ W bd base ρ st d, RS G bd base W H1 st ∧ EnR G W st.length H1 ρ σ ∧ DV G W st.length H1 d v ∧ AnsS G bd base Wx W H1 st (f base ρ d st) D := by
  obtain ⟨W, bd, base, ρ, st, r, en, h⟩ := h
  refine ⟨W, bd, base, ρ, st, r, en, ?_⟩
  dsimp only at h ⊢
  cases e1 : evE C base e ρ st with
  | ok d st1 =>
    rw [e1] at h
    exact fun v W' H' p dv => ⟨W', bd, base, ρ, st1, d, p.rs, en.post p r, dv, AnsS.shift p h⟩
  | exc d st1 =>
    rw [e1] at h
    exact fun cls dd W' H' p x => h σ cls dd W' H' p (en.post p r) x
  | bad => rw [e1] at h; exact h
theorem noSw {p : Expr} {t : Option Expr} {l : Nat} {env : Env} (h : noComp p = true) : swapsWith p t l env = pure false := by
  cases p <;> first | rfl | cases h
theorem swNo_ok {tg p : Expr} {env : Env} (h : swNo tg p = true) : swappedStores [tg] p env = pure none := by
  have key : ∀ (es vs : List Expr) (k1 k2 : Nat) (p1 p2 : Pos), vs.all (foldedForSure 8) = true → swappedStores [.Tuple es k1 p1] (.Tuple vs k2 p2) env = pure none := by
    intro es vs k1 k2 p1 p2 hf
    unfold swappedStores
    simp only [hf, if_true]
    repeat' split
    all_goals rfl
  cases tg with
  | Tuple es k1 p1 => cases p with
    | Tuple vs k2 p2 => exact key es vs k1 k2 p1 p2 h
    | _ => rfl
  | List es p1 => cases p with
    | Tuple vs k2 p2 => cases h
    | _ => rfl
  | _ => rfl
theorem st_asg (o : Xok G T N C lv Wx sc X) {t : Tg} {e : E} {tg p : Expr} {pos : Pos} (he : PE X p (rdE G C Wx e)) (hg : PG X tg (rdTg G C t)) (hs : swapsWith p (some tg) pos.line X.env = pure false) (hw : swappedStores [tg] p X.env = pure none) (hn : noStar tg = true) :
    PS X (.Assign [tg] p pos) (rdS G Wx fun base ρ st => evS C base (.asg t e) ρ st) := by
  refine PS.weak (ps_asg he hg hs hw (by cases tg <;> first | rfl | cases hn)) fun D σ H q => ?_
  have q1 := rdS_bind (f := fun base ρ d st => match asgR C base t d ρ st with | .ok ρ st => .nx ρ st | _ => .bad) q
  obtain ⟨W, bd, base, ρ, st, r, en, q⟩ := q1
  refine ⟨W, bd, base, ρ, st, r, en, q.mono ?_⟩
  rintro v H1 ⟨W1, bd1, base1, ρ1, st1, d, r1, en1, dv, q1⟩
  refine ⟨W1, bd1, base1, ρ1, st1, d, r1, en1, dv, ?_⟩
  cases e1 : asgR C base1 t d ρ1 st1 with
  | ok ρ' st' => rw [e1] at q1; exact q1
  | exc _ _ => rw [e1] at q1; exact q1.elim
  | bad => rw [e1] at q1; exact q1.elim
theorem st_expr (o : Xok G T N C lv Wx sc X) {e : E} {p : Expr} {pos : Pos} (he : PE X p (rdE G C Wx e)) (hn : noComp p = true) : PS X (.Expr p pos) (rdS G Wx fun base ρ st => evS C base (.expr e) ρ st) := by
  refine PS.weak (ps_expr he (noSw hn)) fun D σ H q => ?_
  have q1 := rdS_bind (f := fun base ρ d st => .nx ρ st) q
  obtain ⟨W, bd, base, ρ, st, r, en, q⟩ := q1
  refine ⟨W, bd, base, ρ, st, r, en, q.mono ?_⟩
  rintro v H1 ⟨W1, bd1, base1, ρ1, st1, d, r1, en1, dv, q1⟩
  exact q1 σ W1 H1 (Post.refl r1) en1
theorem st_ret {e : E} {p : Expr} {pos : Pos} (he : PE X p (rdE G C Wx e)) : PS X (.Return (some p) pos) (rdS G Wx fun base ρ st => evS C base (.ret e) ρ st) := by
  refine PS.weak (ps_ret he) fun D σ H q => ?_
  have q1 := rdS_bind (f := fun base ρ d st => .ret d st) q
  obtain ⟨W, bd, base, ρ, st, r, en, q⟩ := q1
  refine ⟨W, bd, base, ρ, st, r, en, q.mono ?_⟩
  rintro v H1 ⟨W1, bd1, base1, ρ1, st1, d, r1, en1, dv, q1⟩
  exact q1 v W1 H1 (Post.refl r1) dv
theorem st_retN {pos : Pos} : PS X (.Return none pos) (rdS G Wx fun base ρ st => evS C base .retN ρ st) := by
  refine PS.weak ps_retN fun D σ H ⟨W, bd, base, ρ, st, r, en, q⟩ => ?_
  exact q .non W H (Post.refl r) rfl
theorem st_brk {pos : Pos} : PS X (.Break pos) (rdS G Wx fun base ρ st => evS C base .brk ρ st) := PS.weak ps_break fun D σ H ⟨W, bd, base, ρ, st, r, en, q⟩ => q σ W H (Post.refl r) en
theorem st_cnt {pos : Pos} : PS X (.Continue pos) (rdS G Wx fun base ρ st => evS C base .cnt ρ st) := PS.weak ps_continue fun D σ H ⟨W, bd, base, ρ, st, r, en, q⟩ => q σ W H (Post.refl r) en
theorem st_pass {pos : Pos} : PS X (.Pass pos) (rdS G Wx fun base ρ st => evS C base .pass ρ st) := PS.weak ps_pass fun D σ H ⟨W, bd, base, ρ, st, r, en, q⟩ => q σ W H (Post.refl r) en
/-- a test, then what it leads to -/
theorem rdS_tst {e : E} {f g : Nat → En → Sto → Fl} {D : Ends} (h : rdS G Wx (fun base ρ st => match evE C base e ρ st with
    | .ok x st => (match truth (vw st x) with
      | some true => f base ρ st
      | some false => g base ρ st
      | none => .bad)
    | .exc d st => .exc d ρ st
    | .bad => .bad) D σ H) : rdT G C Wx e σ H fun b H1 => if b = true then rdS G Wx f D σ H1 else rdS G Wx g D σ H1 := by
  obtain ⟨W, bd, base, ρ, st, r, en, h⟩ := h
  refine ⟨W, bd, base, ρ, st, r, en, ?_⟩
  unfold tstE
  dsimp only at h ⊢
  cases e1 : evE C base e ρ st with
  | ok x st1 =>
    rw [e1] at h
    show Ans eqRl G bd base Wx σ W H st (opt (truth (vw st1 x)) st1) _
    dsimp only at h
    cases e2 : truth (vw st1 x) with
    | none => rw [e2] at h; exact h
    | some b =>
      rw [e2] at h
      intro v W' H' p hv
      have hv' : b = v := hv
      subst hv'
      cases b with
      | true => exact ⟨W', bd, base, ρ, st1, p.rs, en.post p r, AnsS.shift p h⟩
      | false => exact ⟨W', bd, base, ρ, st1, p.rs, en.post p r, AnsS.shift p h⟩
  | exc d st1 =>
    rw [e1] at h
    exact fun cls dd W' H' p x => h σ cls dd W' H' p (en.post p r) x
  | bad => rw [e1] at h; exact h
theorem st_ife {c : E} {a b : List S} {pc : Expr} {pa pb : List Stmt} {pos : Pos} (hc : PT X pc (rdT G C Wx c)) (ha : PSs X pa (rdS G Wx fun base ρ st => evSs C base a ρ st)) (hb : PSs X pb (rdS G Wx fun base ρ st => evSs C base b ρ st)) :
    PS X (.If pc pa pb pos) (rdS G Wx fun base ρ st => evS C base (.ife c a b) ρ st) := PS.weak (ps_if hc ha hb) fun D σ H q => rdS_tst q
theorem st_nil : PSs X [] (rdS G Wx fun base ρ st => evSs C base [] ρ st) := PSs.weak pss_nil fun D σ H ⟨W, bd, base, ρ, st, r, en, q⟩ => q σ W H (Post.refl r) en
theorem st_cons {s : S} {ss : List S} {p : Stmt} {ps : List Stmt} (h : PS X p (rdS G Wx fun base ρ st => evS C base s ρ st)) (hs : PSs X ps (rdS G Wx fun base ρ st => evSs C base ss ρ st)) : PSs X (p :: ps) (rdS G Wx fun base ρ st => evSs C base (s :: ss) ρ st) := by
  refine PSs.weak (pss_cons h hs) fun D σ H ⟨W, bd, base, ρ, st, r, en, q⟩ => ?_
  refine ⟨W, bd, base, ρ, st, r, en, ?_⟩
  have q' : AnsS G bd base Wx W H st (match evS C base s ρ st with
    | .nx ρ st => evSs C base ss ρ st
    | r => r) D := q
  dsimp only
  cases e : evS C base s ρ st with
  | nx ρ' st' =>
    rw [e] at q'
    exact fun σ' W' H' p en' => ⟨W', bd, base, ρ', st', p.rs, en', AnsS.shift p q'⟩
  | ret d st' => rw [e] at q'; exact q'
  | brk ρ' st' => rw [e] at q'; exact q'
  | cnt ρ' st' => rw [e] at q'; exact q'
  | exc d ρ' st' => rw [e] at q'; exact q'
  | bad => rw [e] at q'; exact q'
end
end Rf

namespace Rf
open PySem PySem.Spec PyProof.Rows L2
section
variable {G : Gx} {T : Tx} {N : List Str} {C : Call} {lv : Nat} {Wx : WX} {sc : Scope} {X : Cx} {σ : L2.St} {H H' H1 : Hp} {W W' W1 : Wd} {n : Nat} {bd : Nat → Nat} {base : Nat} {st st' st1 : Sto} {ρ : En}
/-! ### name = e -/
/-- the value, then the name -/
theorem asg_rd {e : E} {i : Nat} {D : Ends} (q : rdS G Wx (fun base ρ st => evS C base (.asg (.nm i) e) ρ st) D σ H) : rdE G C Wx e σ H fun v H1 => D.nx (σ.set i (some v)) H1 := by
  obtain ⟨W, bd, base, ρ, st, r, en, q⟩ := rdS_bind (f := fun base ρ d st => match asgR C base (.nm i) d ρ st with | .ok ρ st => .nx ρ st | _ => .bad) q
  refine ⟨W, bd, base, ρ, st, r, en, q.mono ?_⟩
  rintro v H1 ⟨W1, bd1, base1, ρ1, st1, d, r1, en1, dv, q1⟩
  have q2 : AnsS G bd1 base1 Wx W1 H1 st1 (match (if i < ρ1.length then R.ok (ρ1.set i (some d)) st1 else R.bad) with | .ok ρ st => .nx ρ st | _ => .bad) D := q1
  by_cases hl : i < ρ1.length
  · rw [if_pos hl] at q2
    exact q2 _ W1 H1 (Post.refl r1) (en1.set dv)
  · rw [if_neg hl] at q2
    exact q2.elim
theorem st_set (o : Xok G T N C lv Wx sc X) (xs : Xs X) {e : E} {i : Nat} {x : Str} {p : Expr} {px pos : Pos} (h : tgB N sc i x = true) (he : PE X p (rdE G C Wx e)) (hs : swapsWith p (some (.Name x px)) pos.line X.env = pure false) :
    PS X (.Assign [.Name x px] p pos) (rdS G Wx fun base ρ st => evS C base (.asg (.nm i) e) ρ st) := by
  obtain ⟨h1, h2⟩ := tgB_ok o h
  exact PS.weak (ps_set (by rw [o.hN]; exact o.nd) h1 h2 he hs (.inl (xs.fn x))) fun D σ H q => asg_rd q
theorem swF_ok {x : Str} {p : Expr} {px : Pos} {l : Nat} (hk : X.env.scope.kind = .function) (hsc : X.env.scope = sc) (h : swF sc x p = true) : swapsWith p (some (.Name x px)) l X.env = pure false := by
  cases p with
  | ListComp elt gs scope pos =>
    have h' : (match sc.names.lookup x with | some .cell => true | _ => false) = true := h
    have hy : sc.names.lookup x = some .cell := by
      split at h'
      · assumption
      · cases h'
    have ky : X.env.kindOf x = some .cell := by rw [← hsc] at hy; exact hy
    unfold swapsWith
    simp only [ky]
    have : (some NameKind.cell == some NameKind.local) = false := rfl
    simp only [this, Bool.and_false, Bool.false_and]
  | SetComp _ _ _ _ => cases h
  | DictComp _ _ _ _ _ => cases h
  | _ => rfl
theorem PS.or {X : Cx} {e : Stmt} {t u : TS} (h : PS X e t) (g : PS X e u) : PS X e (fun D σ H => t D σ H ∨ u D σ H) := ⟨fun pins s σ H D I q => q.elim (h.run pins s σ H D I) (g.run pins s σ H D I)⟩
/-- name = [..] on one line -/
theorem st_comp (o : Xok G T N C lv Wx sc X) (xs : Xs X) {j : Nat} {y : Str} {py : Pos} {bx : Bool} {own : List Nat} {t : Tn} {it : I} {c : Option E} {e : E} {pe tg pit : Expr} {ifs : List Expr} {scope : Scope} {pos spos : Pos} (htg : tgB N sc j y = true) (hsw : swT sc y py (.ListComp pe [⟨tg, pit, ifs, 0⟩] scope pos) = true)
    (hb : blkC N sc scope (own.map fun i => (N.getD i (Str.ofString ""), i)) = true)
    (hi : (∃ i x p0, it = .keys i ∧ pit = .Name x p0 ∧ varB N sc i x = true) ∨ (PI X tg pit (rdI G C Wx it) ∧ noSet pit = true)) (ht : chkTn N scope (relS scope sc) own t tg = true)
    (hc : ∀ X', Xok G T N C lv wx0 (relS scope sc) X' → PTs X' ifs (rdIf G C c)) (he : ∀ X', Xok G T N C lv wx0 (relS scope sc) X' → PE X' pe (rdE G C wx0 e)) :
    PS X (.Assign [.Name y py] (.ListComp pe [⟨tg, pit, ifs, 0⟩] scope pos) spos) (rdS G Wx fun base ρ st => evS C base (.asg (.nm j) (.comp bx own t it c e)) ρ st) := by
  obtain ⟨h1, h2⟩ := tgB_ok o htg
  have hown : (own.map fun i => (N.getD i (Str.ofString ""), i)).map (·.2) = own := by rw [List.map_map]; exact List.map_id' _
  have hsub : ∀ i ∈ tnOf t, i ∈ own := tn_sub ht
  have bk : BlkOk X.N X.env.scope scope (own.map fun i => (N.getD i (Str.ofString ""), i)) := by rw [o.hN, o.hsc]; exact blkOk_by hb
  obtain ⟨g1, g2⟩ := and2 (show ((match sc.names.lookup y with | some .local => true | _ => false) && (py.line == pos.line && !(scope.names.any fun (n, k) => n == y && (k == .local || k == .cell)))) = true from hsw)
  obtain ⟨g2, g3⟩ := and2 g2
  have hy : X.env.scope.names.lookup y = some .local := by
    rw [o.hsc]
    split at g1
    · assumption
    · cases g1
  have hw := sw_true (elt := pe) (gs := [⟨tg, pit, ifs, 0⟩]) (l := spos.line) xs.kind hy g2 (by simpa using g3)
  rcases hi with ⟨i, x, p0, rfl, rfl, hv⟩ | ⟨hi, hset⟩
  · obtain ⟨k1, k2, k3, k4⟩ := varB_ok o hv
    have P0 := ps_setLc (spos := spos) o.calm (by rw [o.hN]; exact o.nd) h1 hy hw (pi_keys (tg := tg) (pe_var (pos := p0) k1 k2 k3 k4)) bk (fun s H Cc cl fp => (tn_pg (s := s) (H := H) (Cc := Cc) (cl := cl) (fp := fp) o ht).1) (fun s H Cc cl fp => hc _ (blk_ok o)) (fun s H Cc cl fp => he _ (blk_ok o)) (fun x => rfl)
    rw [hown] at P0
    refine PS.weak (PS.or (ps_lock P0) P0) fun D σ H q => ?_
    exact compk_rd (bx := bx) o hsub (asg_rd q)
  · have P0 := ps_setLc (spos := spos) o.calm (by rw [o.hN]; exact o.nd) h1 hy hw hi bk (fun s H Cc cl fp => (tn_pg (s := s) (H := H) (Cc := Cc) (cl := cl) (fp := fp) o ht).1) (fun s H Cc cl fp => hc _ (blk_ok o)) (fun s H Cc cl fp => he _ (blk_ok o)) (fun x => by cases pit <;> first | rfl | cases hset)
    rw [hown] at P0
    exact PS.weak P0 fun D σ H q => comp_rd (bx := bx) o hsub (asg_rd q)
/-! ### a, b = x, y -/
theorem swPar {env : Env} {x y : Str} {px py p1 p2 : Pos} {k1 k2 : Nat} {a b : Expr} (hk : env.scope.kind = .function) (hx : env.scope.names.lookup x = some .local) (hy : env.scope.names.lookup y = some .local) (hl : (px.line == py.line) = true) (hxy : x ≠ y) (na : noStar a = true) (nb : noStar b = true)
    (hf : (foldedForSure 8 a && foldedForSure 8 b) = false) (hcn : (constantsAlone 8 a && constantsAlone 8 b) = false) : swappedStores [.Tuple [.Name x px, .Name y py] k1 p1] (.Tuple [a, b] k2 p2) env = pure (some [x, y]) := by
  have kx : env.kindOf x = some .local := hx
  have ky : env.kindOf y = some .local := hy
  have hb : env.blockKind = .function := by unfold Env.blockKind; rw [hk]; rfl
  have hl' : py.line = px.line := (eq_of_beq hl).symm
  have e1 : [a, b].all (foldedForSure 8) = false := by simpa using hf
  have e2 : [a, b].all (constantsAlone 8) = false := by simpa using hcn
  have xy' : (x == y) = false := by simpa using hxy
  have yx' : (y == x) = false := by simpa using Ne.symm hxy
  unfold swappedStores
  simp only [hb, e1, e2]
  simp [kx, ky, hl', xy', yx', List.eraseDups, List.eraseDupsBy, List.eraseDupsBy.loop, Expr.pos]
  rintro (h | h)
  · cases a <;> first | (cases na; done) | (cases h; done)
  · cases b <;> first | (cases nb; done) | (cases h; done)
theorem st_par (o : Xok G T N C lv Wx sc X) (xs : Xs X) {i j : Nat} {x y : Str} {a b : E} {pa pb : Expr} {px py p1 p2 pos : Pos} {k1 k2 : Nat} (h : parB N sc i j x y px py pa pb = true) (ha : chkE T N sc a pa = true) (hb : chkE T N sc b pb = true) (hp : PA X [pa, pb] (rdEs G C Wx [a, b])) :
    PS X (.Assign [.Tuple [.Name x px, .Name y py] k1 p1] (.Tuple [pa, pb] k2 p2) pos) (rdS G Wx fun base ρ st => evS C base (.par [i, j] [a, b]) ρ st) := by
  unfold parB at h
  obtain ⟨g1, h⟩ := and2 h
  obtain ⟨g2, h⟩ := and2 h
  obtain ⟨g3, h⟩ := and2 h
  obtain ⟨g4, h⟩ := and2 h
  obtain ⟨g5, h⟩ := and2 h
  obtain ⟨g6, h⟩ := and2 h
  obtain ⟨g7, h⟩ := and2 h
  obtain ⟨g8, g9⟩ := and2 h
  obtain ⟨n1, l1⟩ := tgB_ok o g1
  obtain ⟨n2, l2⟩ := tgB_ok o g2
  have lx : X.env.scope.names.lookup x = some .local := by rw [o.hsc]; exact isLoc_ok g3
  have ly : X.env.scope.names.lookup y = some .local := by rw [o.hsc]; exact isLoc_ok g4
  have P0 := ps_par (pos := pos) (kt := k1) (k2 := k2) (pt := p1) (pt2 := p2) (px := px) (py := py) o.calm (by rw [o.hN]; exact o.nd) n1 n2 (of_decide_eq_true g6) lx ly hp (swPar xs.kind lx ly g5 (of_decide_eq_true g7) (chkE_star ha) (chkE_star hb) (Bool.not_eq_true' _ |>.mp g8) (Bool.not_eq_true' _ |>.mp g9))
  refine PS.weak P0 fun D σ H ⟨W, bd, base, ρ, st, r, en, q⟩ => ?_
  refine ⟨W, bd, base, ρ, st, r, en, ?_⟩
  have q' : AnsS G bd base Wx W H st (match evEs C base [a, b] ρ st with
    | .ok ds st => if [i, j].length = ds.length ∧ (∀ k ∈ [i, j], k < ρ.length) then .nx (([i, j].zip ds).foldl (fun ρ p => ρ.set p.1 (some p.2)) ρ) st else .bad
    | .exc d st => .exc d ρ st
    | .bad => .bad) D := q
  dsimp only
  cases e : evEs C base [a, b] ρ st with
  | ok ds st' =>
    rw [e] at q'
    have q2 : AnsS G bd base Wx W H st (if [i, j].length = ds.length ∧ (∀ k ∈ [i, j], k < ρ.length) then .nx (([i, j].zip ds).foldl (fun ρ p => ρ.set p.1 (some p.2)) ρ) st' else .bad) D := q'
    intro vs W' H' p dv
    split at q2
    · rename_i hl
      have hl2 : ds.length = 2 := hl.1.symm
      match ds, hl2, dv, q2 with
      | [d1, d2], _, dv, q2 =>
        obtain ⟨v1, r1, rfl, dv1, v2, r2, rfl, dv2, rfl⟩ := dv
        exact ⟨v1, v2, rfl, q2 _ W' H' p (((en.post p r).set dv1).set dv2)⟩
    · exact q2.elim
  | exc d st' =>
    rw [e] at q'
    exact fun cls dd W' H' p x => q' σ cls dd W' H' p (en.post p r) x
  | bad => rw [e] at q'; exact q'
/-! ### loops -/
theorem st_whl (o : Xok G T N C lv Wx sc X) (xs : Xs X) {c : E} {b : List S} {pc : Expr} {pb : List Stmt} {pos : Pos} (hc : PT X pc (rdT G C Wx c)) (hb : PSs X pb (rdS G Wx fun base ρ st => evSs C base b ρ st)) :
    PS X (.While pc pb [] pos) (rdS G Wx fun base ρ st => evS C base (.whl c b) ρ st) := by
  refine PS.weak (ps_while xs.owns hc hb) fun D σ H ⟨W, bd, base, ρ, st, r, en, q⟩ => ?_
  have q' : AnsS G bd base Wx W H st (whlD (fun ρ st => (match evE C base c ρ st with
    | .ok x st => (match truth (vw st x) with
      | some true => (match evSs C base b ρ st with
        | .nx ρ st => .go ρ st
        | .cnt ρ st => .go ρ st
        | .brk ρ st => .done (.nx ρ st)
        | r => .done r)
      | some false => .done (.nx ρ st)
      | none => .done .bad)
    | .exc d st => .done (.exc d ρ st)
    | .bad => .done .bad)) ρ st) D := q
  generalize hf : (fun (ρ : En) (st : Sto) => (match evE C base c ρ st with
    | .ok x st => (match truth (vw st x) with
      | some true => (match evSs C base b ρ st with
        | .nx ρ st => Ws.go ρ st
        | .cnt ρ st => .go ρ st
        | .brk ρ st => .done (.nx ρ st)
        | r => .done r)
      | some false => .done (.nx ρ st)
      | none => .done .bad)
    | .exc d st => .done (.exc d ρ st)
    | .bad => .done .bad)) = f at q'
  have nb : whlD f ρ st ≠ .bad := fun z => by rw [z] at q'; exact q'
  obtain ⟨m, hm⟩ := whlD_run nb
  rw [hm] at q'
  refine ⟨fun m σ H => ∃ W ρ st, RS G bd base W H st ∧ EnR G W st.length H ρ σ ∧ AnsS G bd base Wx W H st (whlN f m ρ st) D, ⟨m, W, ρ, st, r, en, q'⟩, ?_⟩
  rintro m σ H ⟨W, ρ, st, r, en, q⟩
  cases m with
  | zero => exact q.elim
  | succ m =>
    have q2 : AnsS G bd base Wx W H st (match f ρ st with
      | .go ρ st => whlN f m ρ st
      | .done r => r) D := q
    rw [← hf] at q2
    refine ⟨W, bd, base, ρ, st, r, en, ?_⟩
    unfold tstE
    dsimp only at q2 ⊢
    cases e1 : evE C base c ρ st with
    | ok x st1 =>
      rw [e1] at q2
      show Ans eqRl G bd base Wx σ W H st (opt (truth (vw st1 x)) st1) _
      dsimp only at q2
      cases e2 : truth (vw st1 x) with
      | none => rw [e2] at q2; exact q2
      | some k =>
        rw [e2] at q2
        intro v W' H' p hv
        have hv' : k = v := hv
        subst hv'
        cases k with
        | false => exact q2 σ W' H' p (en.post p r)
        | true =>
          refine ⟨fun σ' H' => ∃ W ρ st, RS G bd base W H' st ∧ EnR G W st.length H' ρ σ' ∧ AnsS G bd base Wx W H' st (whlN f m ρ st) D, fun σ' H' z => ⟨m, Nat.lt_succ_self m, z⟩, ?_⟩
          refine ⟨W', bd, base, ρ, st1, p.rs, en.post p r, ?_⟩
          dsimp only at q2 ⊢
          rw [hf] at q2
          cases e3 : evSs C base b ρ st1 with
          | nx ρ2 st2 =>
            rw [e3] at q2
            exact fun σ' W2 H2 p2 en2 => ⟨W2, ρ2, st2, p2.rs, en2, AnsS.shift (p.trans p2) q2⟩
          | cnt ρ2 st2 =>
            rw [e3] at q2
            exact fun σ' W2 H2 p2 en2 => ⟨W2, ρ2, st2, p2.rs, en2, AnsS.shift (p.trans p2) q2⟩
          | brk ρ2 st2 =>
            rw [e3] at q2
            exact fun σ' W2 H2 p2 en2 => q2 σ' W2 H2 (p.trans p2) en2
          | ret d st2 =>
            rw [e3] at q2
            exact fun v W2 H2 p2 dv => q2 v W2 H2 (p.trans p2) dv
          | exc d ρ2 st2 =>
            rw [e3] at q2
            exact fun σ' cls dd W2 H2 p2 en2 x => q2 σ' cls dd W2 H2 (p.trans p2) en2 x
          | bad => rw [e3] at q2; exact q2
    | exc d st1 =>
      rw [e1] at q2
      exact fun cls dd W' H' p x => q2 σ cls dd W' H' p (en.post p r) x
    | bad => rw [e1] at q2; exact q2
/-- the items known -/
theorem for_core (o : Xok G T N C lv Wx sc X) {t : Tn} {b : List S} {J : It} {items : List Rf.D} {keep : Sto → Bool} {P : Wd → Nat → Hp → Prop} {Gd : Hp → Prop} {Y : Nat → Hp → V → Hp → Prop} {D : Ends}
    (src : Src G J items P Gd Y) (r : RS G bd base W H1 st) (en : EnR G W st.length H1 ρ σ) (hP : P W st.length H1)
    (q : AnsS G bd base Wx W H1 st (forD (fun x ρ st => (match putN t x ρ with
      | some ρ => evSs C base b ρ st
      | none => .bad)) keep items ρ st) D) :
    ∃ Wv : Nat → Nat → L2.St → Hp → Prop, (∃ m, Wv 0 m σ H1) ∧ ∀ i m σ H, Wv i m σ H →
      (J.stop i H ∧ D.nx σ H) ∨ (J.go i H ∧ ∃ Nn : L2.St → Hp → Prop, (∀ σ' H', Nn σ' H' → ∃ m', m' < m ∧ Wv (i + 1) m' σ' H') ∧ ∀ x H', J.yld i H x H' → rdTn X.K t x σ H' fun σ2 H2 => rdS G Wx (fun base ρ st => evSs C base b ρ st) { D with nx := Nn, ct := Nn, bk := D.nx } σ2 H2) := by
  generalize hf : (fun (x : Rf.D) (ρ : En) (st : Sto) => (match putN t x ρ with
      | some ρ => evSs C base b ρ st
      | none => Fl.bad)) = f at q
  refine for_it src.walk (fun i σ' H' => ∃ (W' : Wd) (ρ' : En) (st' : Sto), Post G bd base W H1 st W' H' st' ∧ P W' st'.length H' ∧ EnR G W' st'.length H' ρ' σ' ∧
    AnsS G bd base Wx W' H' st' (forD f keep (items.drop i) ρ' st') D) ?_ ?_ ?_ ?_
  · exact ⟨W, ρ, st, Post.refl r, hP, en, by rw [List.drop_zero]; exact q⟩
  · rintro i σ' H' _ ⟨W', ρ', st', p, hp, en', _⟩
    exact src.good _ _ _ hp
  · rintro i x σ' H2 H3 hlt ⟨W', ρ', st', p, hp, en', q'⟩ hy
    have hx : items[i]? = some items[i] := List.getElem?_eq_getElem hlt
    obtain ⟨p2, dx⟩ := src.item p.rs hp hx hy
    rw [List.drop_eq_getElem_cons hlt] at q'
    have q2 : AnsS G bd base Wx W' H2 st' (if keep st' then (match f items[i] ρ' st' with
      | .nx ρ st => forD f keep (items.drop (i + 1)) ρ st
      | .cnt ρ st => forD f keep (items.drop (i + 1)) ρ st
      | .brk ρ st => .nx ρ st
      | .ret d st => .ret d st
      | .exc d ρ st => .exc d ρ st
      | .bad => .bad) else .bad) D := q'
    split at q2
    rotate_left
    · exact q2.elim
    rw [← hf] at q2
    dsimp only at q2
    cases e7 : putN t items[i] ρ' with
    | none => rw [e7] at q2; exact q2.elim
    | some ρ2 =>
    rw [e7] at q2
    dsimp only at q2
    rw [hf] at q2
    refine tn_ok o.K (vs := []) e7 dx (en'.post p2 p.rs) fun σ2 en2 _ => ?_
    refine ⟨W', bd, base, ρ2, st', p2.rs, en2, ?_⟩
    dsimp only
    have q3 := AnsS.shift p2 q2
    cases e8 : evSs C base b ρ2 st' with
    | nx ρ3 st3 =>
      rw [e8] at q3
      exact fun σ4 W4 H4 p4 en4 => ⟨W4, ρ3, st3, (p.trans p2).trans p4, src.keep p2.rs p4 (src.keep p.rs p2 hp), en4, AnsS.shift p4 q3⟩
    | cnt ρ3 st3 =>
      rw [e8] at q3
      exact fun σ4 W4 H4 p4 en4 => ⟨W4, ρ3, st3, (p.trans p2).trans p4, src.keep p2.rs p4 (src.keep p.rs p2 hp), en4, AnsS.shift p4 q3⟩
    | brk ρ3 st3 => rw [e8] at q3; exact q3
    | ret d st3 => rw [e8] at q3; exact q3
    | exc d ρ3 st3 => rw [e8] at q3; exact q3
    | bad => rw [e8] at q3; exact q3
  · rintro σ' H' ⟨W', ρ', st', p, hp, en', q'⟩
    rw [List.drop_length] at q'
    have q2 : AnsS G bd base Wx W' H' st' (if keep st' then .nx ρ' st' else .bad) D := q'
    split at q2
    · exact q2 σ' W' H' (Post.refl p.rs) en'
    · exact q2.elim
theorem tg_pg (o : Xok G T N C lv Wx sc X) (xs : Xs X) {own : List Nat} {t : Tn} {tg : Expr} (h : chkTn N sc sc own t tg = true) : PG X tg (rdTn X.K t) := by
  have one : ∀ {i : Nat} {x : Str} {pos : Pos}, ownB N sc sc own i x = true → PG X (.Name x pos) (gName i) := fun {i x pos} h => by
    obtain ⟨h1, h2⟩ := and2 h
    obtain ⟨h2, h3⟩ := and2 h2
    have hi : X.N[i]? = some x := by
      rw [o.hN]
      split at h1
      · rename_i e; rw [e, of_decide_eq_true h1]
      · cases h1
    have hx : L2.Loc X.env.scope x := by
      rw [o.hsc]
      unfold locC at h2
      split at h2
      · rename_i e; exact .inl e
      · rename_i e
        exact .inr e
      · cases h2
    exact pg_name (by rw [o.hN]; exact o.nd) hi hx (.inl (xs.fn x))
  have many : ∀ {is : List Nat} {ps : List Expr}, chkTns N sc sc own is ps = true → PGs X ps (gNames is) := by
    intro is
    induction is with
    | nil => intro ps h; cases ps with
      | nil => exact pgs_nil
      | cons _ _ => cases h
    | cons i is ih =>
      intro ps h
      cases ps with
      | nil => cases h
      | cons p ps => cases p with
        | Name x pos =>
          obtain ⟨h1, h2⟩ := and2 (show (ownB N sc sc own i x && chkTns N sc sc own is ps) = true from h)
          exact pgs_cons (one h1) (ih h2) rfl
        | _ => cases h
  cases t with
  | nm i => cases tg with
    | Name x pos => exact one h
    | _ => cases h
  | tup is => cases tg with
    | Tuple ps k pos =>
      have h' : chkTns N sc sc own is ps = true := h
      obtain ⟨l1, l2⟩ := each_len (env := X.env) h'
      exact pg_tup o.calm (many h') l1 l2
    | _ => cases h
theorem for_rd (o : Xok G T N C lv Wx sc X) {t : Tn} {it : I} {b : List S} {D : Ends} (q : rdS G Wx (fun base ρ st => evS C base (.forS t it b) ρ st) D σ H) :
    tFor (rdI G C Wx it) (rdTn X.K t) (rdS G Wx fun base ρ st => evSs C base b ρ st) D σ H := by
  obtain ⟨W, bd, base, ρ, st, r, en, q⟩ := q
  have q' : AnsS G bd base Wx W H st (match evI C base it ρ st with
    | .ok p st => forD (fun x ρ st => (match putN t x ρ with
      | some ρ => evSs C base b ρ st
      | none => .bad)) p.2 p.1 ρ st
    | .exc d st => .exc d ρ st
    | .bad => .bad) D := q
  refine ⟨W, bd, base, ρ, st, r, en, ?_⟩
  dsimp only
  cases e : evI C base it ρ st with
  | ok p st' =>
    rw [e] at q'
    intro J W' H' pp ⟨P, Gd, Y, src, hP⟩
    exact for_core o src pp.rs (en.post pp r) hP (AnsS.shift pp q')
  | exc d st' =>
    rw [e] at q'
    exact fun cls dd W' H' p x => q' σ cls dd W' H' p (en.post p r) x
  | bad => rw [e] at q'; exact q'
theorem st_for (o : Xok G T N C lv Wx sc X) (xs : Xs X) {own : List Nat} {t : Tn} {it : I} {b : List S} {tg pit : Expr} {pb : List Stmt} {pos : Pos} (ht : chkTn N sc sc own t tg = true) (hi : PI X tg pit (rdI G C Wx it)) (hset : noSet pit = true) (hb : PSs X pb (rdS G Wx fun base ρ st => evSs C base b ρ st)) :
    PS X (.For tg pit pb [] pos) (rdS G Wx fun base ρ st => evS C base (.forS t it b) ρ st) :=
  PS.weak (ps_for xs.owns o.calm hi (tg_pg o xs ht) hb (fun x => by cases pit <;> first | rfl | cases hset)) fun D σ H q => for_rd o q
end
end Rf

namespace Rf
open PySem PySem.Spec PyProof.Rows L2
section
variable {G : Gx} {T : Tx} {N : List Str} {C : Call} {lv : Nat} {Wx : WX} {sc : Scope} {X : Cx} {σ : L2.St} {H H' H1 : Hp} {W W' W1 : Wd} {n : Nat} {bd : Nat → Nat} {base : Nat} {st st' st1 : Sto} {ρ : En}
/-! ### for k in d -/
theorem anss_lock {a : Addr} {od : Obj} {kvs : List (Key × V)} {rr : Fl} {D : Ends} (r : RS G bd base W H st) (f : W.F a) (h : H a = some (.dK kvs)) (hx : (∃ ρ st, rr = .nx ρ st) ∨ ∃ d st, rr = .ret d st) (q : AnsS G bd base Wx W H st rr D) :
    AnsS G bd base Wx W (upd H a (.frz od (.dK kvs))) st rr ⟨fun σ' H' => H' a = some (.frz od (.dK kvs)) ∧ D.nx σ' (upd H' a (.dK kvs)), fun v H' => H' a = some (.frz od (.dK kvs)) ∧ D.rt v (upd H' a (.dK kvs)),
      fun σ' H' => H' a = some (.frz od (.dK kvs)) ∧ D.bk σ' (upd H' a (.dK kvs)), fun σ' H' => H' a = some (.frz od (.dK kvs)) ∧ D.ct σ' (upd H' a (.dK kvs))⟩ := by
  rcases hx with ⟨ρ', st', rfl⟩ | ⟨d, st', rfl⟩
  · intro σ' W' H' p en
    obtain ⟨ha, p2⟩ := post_lock r f h p
    exact ⟨ha, q σ' W' _ p2 (en.rdk (rdk_unlock ha))⟩
  · intro v W' H' p dv
    obtain ⟨ha, p2⟩ := post_lock r f h p
    exact ⟨ha, q v W' _ p2 (DV.rdk (rdk_unlock ha) dv)⟩
theorem fork_rd (o : Xok G T N C lv Wx sc X) {t : Tn} {i : Nat} {b : List S} {D : Ends} (q : rdS G Wx (fun base ρ st => evS C base (.forK t i b) ρ st) D σ H) :
    tLock (tFor (iKeys (tVar i)) (rdTn X.K t) (rdS G Wx fun base ρ st => evSs C base b ρ st)) D σ H ∨ tFor (iKeys (tVar i)) (rdTn X.K t) (rdS G Wx fun base ρ st => evSs C base b ρ st) D σ H := by
  obtain ⟨W, bd, base, ρ, st, r, en, q⟩ := q
  have q' : AnsS G bd base Wx W H st (match getV ρ i with
    | some (.dct ks _) => (match forD (fun x ρ st => (match putN t x ρ with
      | some ρ => evSs C base b ρ st
      | none => .bad)) (fun _ => true) (ks.map ofKey) ρ st with
      | .nx ρ st => .nx ρ st
      | .ret d st => .ret d st
      | _ => .bad)
    | _ => .bad) D := q
  cases eg : getV ρ i with
  | none => rw [eg] at q'; exact q'.elim
  | some d => cases d with
    | dct ks vs =>
      rw [eg] at q'
      have q2 : AnsS G bd base Wx W H st (match forD (fun x ρ st => (match putN t x ρ with
        | some ρ => evSs C base b ρ st
        | none => Fl.bad)) (fun _ => true) (ks.map ofKey) ρ st with
        | .nx ρ st => .nx ρ st
        | .ret d st => .ret d st
        | _ => .bad) D := q'
      have q3 : AnsS G bd base Wx W H st (forD (fun x ρ st => (match putN t x ρ with
        | some ρ => evSs C base b ρ st
        | none => Fl.bad)) (fun _ => true) (ks.map ofKey) ρ st) D ∧ ((∃ ρ' st', forD (fun x ρ st => (match putN t x ρ with
        | some ρ => evSs C base b ρ st
        | none => Fl.bad)) (fun _ => true) (ks.map ofKey) ρ st = .nx ρ' st') ∨ ∃ d st', forD (fun x ρ st => (match putN t x ρ with
        | some ρ => evSs C base b ρ st
        | none => Fl.bad)) (fun _ => true) (ks.map ofKey) ρ st = .ret d st') := by
        cases e : forD (fun x ρ st => (match putN t x ρ with
          | some ρ => evSs C base b ρ st
          | none => Fl.bad)) (fun _ => true) (ks.map ofKey) ρ st with
        | nx ρ' st' => rw [e] at q2; exact ⟨q2, .inl ⟨_, _, rfl⟩⟩
        | ret d st' => rw [e] at q2; exact ⟨q2, .inr ⟨_, _, rfl⟩⟩
        | _ => rw [e] at q2; exact q2.elim
      obtain ⟨q3, q4⟩ := q3
      obtain ⟨v, hv, dv⟩ := en.2 i _ (getV_ok eg)
      obtain ⟨a, kvs, rfl, f, hR, hk, hd⟩ := dv
      rcases hR with hR | ⟨o', hR⟩
      · refine .inl ⟨a, .dK kvs, hR, trivial, fun od => ⟨.ref a, hv, a, od, rfl, .inl ⟨kvs, upd_same, ?_⟩⟩⟩
        have h0 := rdk_lock (W := W) (od := od) hR
        exact for_core o (src_keys hk) (r.rdk h0 f) (en.rdk h0) ⟨f, upd_same⟩ (anss_lock r f hR q4 q3)
      · exact .inr ⟨.ref a, hv, a, o', rfl, .inl ⟨kvs, hR, for_core o (src_keys hk) r en ⟨f, hR⟩ q3⟩⟩
    | _ => rw [eg] at q'; exact q'.elim
theorem st_fork (o : Xok G T N C lv Wx sc X) (xs : Xs X) {own : List Nat} {t : Tn} {i : Nat} {b : List S} {tg : Expr} {x : Str} {pb : List Stmt} {p0 pos : Pos} (ht : chkTn N sc sc own t tg = true) (hv : varB N sc i x = true) (hb : PSs X pb (rdS G Wx fun base ρ st => evSs C base b ρ st)) :
    PS X (.For tg (.Name x p0) pb [] pos) (rdS G Wx fun base ρ st => evS C base (.forK t i b) ρ st) := by
  obtain ⟨k1, k2, k3, k4⟩ := varB_ok o hv
  have P0 := ps_for (pos := pos) xs.owns o.calm (pi_keys (tg := tg) (pe_var (pos := p0) k1 k2 k3 k4)) (tg_pg o xs ht) hb (fun x => rfl)
  exact PS.weak (PS.or (ps_lock P0) P0) fun D σ H q => fork_rd o q
/-! ### an object that is never written from here on -/
theorem rs_freeze (r : RS G bd base W H st) {k : Nat} (hl : live st k) : Ext W H st ⟨W.m, fun a => W.F a ∨ a = W.m k⟩ H (st.set k .dead) ∧ RS G bd base ⟨W.m, fun a => W.F a ∨ a = W.m k⟩ H (st.set k .dead) := by
  have lv : ∀ j, live (st.set k .dead) j → j ≠ k ∧ live st j := by
    rintro j ⟨ob, e, nd⟩
    by_cases q : k = j
    · subst q
      rw [List.getElem?_set_self hl.lt] at e
      cases e
      exact absurd rfl nd
    · rw [List.getElem?_set_ne q] at e
      exact ⟨Ne.symm q, ob, e, nd⟩
  refine ⟨⟨fun a o h _ => h, fun a h => .inl h, fun _ _ => rfl, fun j _ h => (lv j h).2, fun j hj h => absurd (lv j h).2.lt (by omega), fun a h => h, by simp, fun a h => ?_⟩, fun j ob e => ?_, fun i j hi hj z => r.inj i j (lv i hi).2 (lv j hj).2 z, fun j hj z => ?_, fun a h => ?_, r.bdl, by simpa using r.bl⟩
  · rcases h with h | h
    · exact .inl h
    · exact .inr (.inr ⟨k, hl, h.symm⟩)
  · rw [List.length_set]
    by_cases q : k = j
    · subst q
      rw [List.getElem?_set_self hl.lt] at e
      cases e
      trivial
    · rw [List.getElem?_set_ne q] at e
      exact obR.wm (fun _ h => .inl h) (fun _ _ => rfl) (Nat.le_refl _) rfl (r.obj j ob e)
  · rcases z with z | z
    · exact r.fF j (lv j hj).2 z
    · exact (lv j hj).1 (r.inj j k (lv j hj).2 hl z)
  · rcases h with h | h
    · exact r.fH a h
    · obtain ⟨o, e, _⟩ := r.some hl
      exact ⟨o, by rw [h]; exact e⟩
theorem st_freeze {i : Nat} {ss : List S} {ps : List Stmt} (h : PSs X ps (rdS G Wx fun base ρ st => evSs C base ss ρ st)) : PSs X ps (rdS G Wx fun base ρ st => evSs C base (.freeze i :: ss) ρ st) := by
  refine PSs.weak h fun D σ H ⟨W, bd, base, ρ, st, r, en, q⟩ => ?_
  have q' : AnsS G bd base Wx W H st (match (match getV ρ i with
    | some (.ref n) => if base ≤ n then (match st[n]? with
      | some (.lst ds) => Fl.nx (ρ.set i (some (.lst ds))) (st.set n .dead)
      | some (.dct ks vs) => .nx (ρ.set i (some (.dct ks vs))) (st.set n .dead)
      | _ => .bad) else .bad
    | _ => .bad) with
    | .nx ρ st => evSs C base ss ρ st
    | r => r) D := q
  cases eg : getV ρ i with
  | none => rw [eg] at q'; exact q'.elim
  | some d => cases d with
    | ref k =>
      rw [eg] at q'
      dsimp only at q'
      by_cases hb : base ≤ k
      · rw [if_pos hb] at q'
        obtain ⟨v, hv, ev, hk⟩ := en.2 i _ (getV_ok eg)
        cases e : st[k]? with
        | none => rw [e] at q'; exact q'.elim
        | some ob => cases ob with
          | lst ds =>
            rw [e] at q'
            have hl : live st k := ⟨_, e, by simp⟩
            obtain ⟨ex, rs⟩ := rs_freeze r hl
            obtain ⟨xs, h1, h2⟩ := r.obj k _ e
            have P : Post G bd base W H st _ H _ := ⟨ex, rs⟩
            refine ⟨_, bd, base, _, _, rs, ⟨by rw [List.length_set]; exact en.1, fun j d hj => ?_⟩, AnsS.shift P q'⟩
            by_cases z : i = j
            · subst z
              have hi : i < ρ.length := by
                have := (List.getElem?_eq_some_iff.mp (getV_ok eg)).1; exact this
              rw [List.getElem?_set_self hi] at hj
              cases hj
              refine ⟨v, hv, _, xs, ev, .inr rfl, h1, DVs.wm (W := W) (W' := ⟨W.m, fun a => W.F a ∨ a = W.m k⟩) (fun _ h => .inl h) (fun _ _ => rfl) ?_ h2⟩
              rw [List.length_set]; exact bdOf_le r
            · rw [List.getElem?_set_ne z] at hj
              obtain ⟨u, e1, e2⟩ := en.2 j d hj
              exact ⟨u, e1, DV.wm (W := W) (W' := ⟨W.m, fun a => W.F a ∨ a = W.m k⟩) (fun _ h => .inl h) (fun _ _ => rfl) (by simp) e2⟩
          | dct ks vs =>
            rw [e] at q'
            have hl : live st k := ⟨_, e, by simp⟩
            obtain ⟨ex, rs⟩ := rs_freeze r hl
            obtain ⟨kvs, h1, h2, h3⟩ := r.obj k _ e
            have P : Post G bd base W H st _ H _ := ⟨ex, rs⟩
            refine ⟨_, bd, base, _, _, rs, ⟨by rw [List.length_set]; exact en.1, fun j d hj => ?_⟩, AnsS.shift P q'⟩
            by_cases z : i = j
            · subst z
              have hi : i < ρ.length := by
                have := (List.getElem?_eq_some_iff.mp (getV_ok eg)).1; exact this
              rw [List.getElem?_set_self hi] at hj
              cases hj
              refine ⟨v, hv, _, kvs, ev, .inr rfl, .inl h1, h2, DVs.wm (W := W) (W' := ⟨W.m, fun a => W.F a ∨ a = W.m k⟩) (fun _ h => .inl h) (fun _ _ => rfl) ?_ h3⟩
              rw [List.length_set]; exact bdOf_le r
            · rw [List.getElem?_set_ne z] at hj
              obtain ⟨u, e1, e2⟩ := en.2 j d hj
              exact ⟨u, e1, DV.wm (W := W) (W' := ⟨W.m, fun a => W.F a ∨ a = W.m k⟩) (fun _ h => .inl h) (fun _ _ => rfl) (by simp) e2⟩
          | _ => rw [e] at q'; exact q'.elim
      · rw [if_neg hb] at q'; exact q'.elim
    | _ => rw [eg] at q'; exact q'.elim
end
end Rf

namespace Rf
open PySem PySem.Spec PyProof.Rows L2
section
variable {G : Gx} {T : Tx} {N : List Str} {C : Call} {lv : Nat} {sc : Scope}
theorem chkTg_nm {i : Nat} {p : Expr} (h : chkTg T N sc (.nm i) p = true) : ∃ x pos, p = .Name x pos := by
  unfold chkTg at h
  split at h <;> first | contradiction | skip
  exact ⟨_, _, rfl⟩
theorem tgC_comp {p : Expr} (h : noComp p = true) {tg : Expr} {l : Nat} {env : Env} : swapsWith p (some tg) l env = pure false := noSw h
theorem chk_comp {e : E} {pe : Expr} {g : Comprehension} {scope : Scope} {pos : Pos} (h : chkE T N sc e (.ListComp pe [g] scope pos) = true) : ∃ bx own t it c e' tg pit ifs, e = .comp bx own t it c e' ∧ g = ⟨tg, pit, ifs, 0⟩ ∧
    blkC N sc scope (own.map fun i => (N.getD i (Str.ofString ""), i)) = true ∧ chkI T N sc it tg pit = true ∧ chkTn N scope (relS scope sc) own t tg = true ∧ chkIf T N (relS scope sc) c ifs = true ∧ chkE T N (relS scope sc) e' pe = true := by
  unfold chkE at h
  split at h <;> first | contradiction | skip
  · rename_i z; cases z
    obtain ⟨h1, h2⟩ := and2 h
    obtain ⟨h2, h3⟩ := and2 h2
    obtain ⟨h3, h4⟩ := and2 h3
    obtain ⟨h4, h5⟩ := and2 h4
    exact ⟨_, _, _, _, _, _, _, _, _, rfl, rfl, h1, h2, h3, h4, h5⟩
  · rename_i z
    injection z with z1 z2
    injection z2 with z3 z4
    cases z4
theorem st_asgN {Wx : WX} {X : Cx} (o : Xok G T N C lv Wx sc X) (xs : Xs X) {i : Nat} {e : E} {x : Str} {p : Expr} {px pos : Pos} (h1 : tgB N sc i x = true) (h2 : chkE T N sc e p = true) (h3 : (swF sc x p || swT sc x px p) = true) :
    PS X (.Assign [.Name x px] p pos) (rdS G Wx fun base ρ st => evS C base (.asg (.nm i) e) ρ st) := by
  rcases Bool.or_eq_true_iff.mp h3 with h | h
  · exact st_set o xs h1 (simE e o h2).pe (swF_ok xs.kind o.hsc h)
  · cases p with
    | ListComp pe gs scope ppos =>
      have hg : ∃ g, gs = [g] := by
        cases gs with
        | nil => cases h
        | cons g r => cases r with
          | nil => exact ⟨g, rfl⟩
          | cons _ _ => cases h
      obtain ⟨g, rfl⟩ := hg
      obtain ⟨bx, own, t, it, c, e', tg, pit, ifs, rfl, rfl, g1, g2, g3, g4, g5⟩ := chk_comp h2
      refine st_comp o xs h1 h g1 ?_ g3 (fun X' o' => simIf c o' g4) (fun X' o' => (simE e' o' g5).pe)
      by_cases hk : ∃ i, it = .keys i
      · obtain ⟨i, rfl⟩ := hk
        obtain ⟨y, p0, rfl, hv⟩ := chk_keys g2
        exact .inl ⟨i, y, p0, rfl, rfl, hv⟩
      · exact .inr (simI it o hk g2)
    | _ => cases h
mutual
theorem simS : (s : S) → {p : Stmt} → {Wx : WX} → {sc : Scope} → {X : Cx} → Xok G T N C lv Wx sc X → Xs X → chkS T N sc s p = true → PS X p (rdS G Wx fun base ρ st => evS C base s ρ st)
  | .asg t e, p, Wx, sc, X, o, xs, h => by
    unfold chkS at h
    split at h <;> first | contradiction | skip
    · rename_i z; cases z
      obtain ⟨h1, h2⟩ := and2 h
      obtain ⟨h2, h3⟩ := and2 h2
      exact st_asgN o xs h1 h2 h3
    · rename_i z; cases z
      obtain ⟨h1, h2⟩ := and2 h
      obtain ⟨h2, h3⟩ := and2 h2
      obtain ⟨h3, h4⟩ := and2 h3
      obtain ⟨h4, h5⟩ := and2 h4
      exact st_asg o (simE e o h3).pe (simTg t o xs h2) (noSw h4) (swNo_ok h5) (chkTg_star h2)
  | .par is es, p, Wx, sc, X, o, xs, h => by
    unfold chkS at h
    split at h <;> first | contradiction | skip
    rename_i z; cases z
    obtain ⟨h1, h2⟩ := and2 h
    obtain ⟨h2, h3⟩ := and2 h2
    exact st_par o xs h1 h2 h3 (s_cons (simE _ o h2).pe (s_cons (simE _ o h3).pe s_nil (chkE_star h3)) (chkE_star h2))
  | .expr e, p, Wx, sc, X, o, xs, h => by
    unfold chkS at h
    split at h <;> first | contradiction | skip
    rename_i z; cases z
    obtain ⟨h1, h2⟩ := and2 h
    exact st_expr o (simE e o h1).pe h2
  | .ret e, p, Wx, sc, X, o, xs, h => by
    unfold chkS at h
    split at h <;> first | contradiction | skip
    rename_i z; cases z
    exact st_ret (simE e o h).pe
  | .retN, p, Wx, sc, X, o, xs, h => by
    unfold chkS at h
    split at h <;> first | contradiction | skip
    exact st_retN
  | .ife c a b, p, Wx, sc, X, o, xs, h => by
    unfold chkS at h
    split at h <;> first | contradiction | skip
    rename_i z; cases z
    obtain ⟨h1, h2⟩ := and2 h
    obtain ⟨h2, h3⟩ := and2 h2
    exact st_ife (simE c o h1).pt (simSs a o xs h2) (simSs b o xs h3)
  | .forS t it b, p, Wx, sc, X, o, xs, h => by
    unfold chkS at h
    split at h <;> first | contradiction | skip
    rename_i z; cases z
    obtain ⟨h1, h2⟩ := and2 h
    obtain ⟨h2, h3⟩ := and2 h2
    obtain ⟨h3, h4⟩ := and2 h3
    have z := simI it o (noKeys_ok h3) h2
    exact st_for o xs h1 z.1 z.2 (simSs b o xs h4)
  | .forK t i b, p, Wx, sc, X, o, xs, h => by
    unfold chkS at h
    split at h <;> first | contradiction | skip
    rename_i z; cases z
    obtain ⟨h1, h2⟩ := and2 h
    obtain ⟨h2, h3⟩ := and2 h2
    exact st_fork o xs h1 h2 (simSs b o xs h3)
  | .whl c b, p, Wx, sc, X, o, xs, h => by
    unfold chkS at h
    split at h <;> first | contradiction | skip
    rename_i z; cases z
    obtain ⟨h1, h2⟩ := and2 h
    exact st_whl o xs (simE c o h1).pt (simSs b o xs h2)
  | .brk, p, Wx, sc, X, o, xs, h => by
    unfold chkS at h
    split at h <;> first | contradiction | skip
    exact st_brk
  | .cnt, p, Wx, sc, X, o, xs, h => by
    unfold chkS at h
    split at h <;> first | contradiction | skip
    exact st_cnt
  | .pass, p, Wx, sc, X, o, xs, h => by
    unfold chkS at h
    split at h <;> first | contradiction | skip
    exact st_pass
  | .never, p, Wx, sc, X, o, xs, h => ⟨fun pins s σ H D I ⟨W, bd, base, ρ, st, r, en, q⟩ => q.elim⟩
  | .raise c es, p, Wx, sc, X, o, xs, h => by
    unfold chkS at h
    contradiction
  | .tryS b hs, p, Wx, sc, X, o, xs, h => by
    unfold chkS at h
    contradiction
  | .del a b, p, Wx, sc, X, o, xs, h => by
    unfold chkS at h
    contradiction
  | .freeze i, p, Wx, sc, X, o, xs, h => by
    unfold chkS at h
    contradiction
theorem simSs : (ss : List S) → {ps : List Stmt} → {Wx : WX} → {sc : Scope} → {X : Cx} → Xok G T N C lv Wx sc X → Xs X → chkSs T N sc ss ps = true → PSs X ps (rdS G Wx fun base ρ st => evSs C base ss ρ st)
  | [], ps, Wx, sc, X, o, xs, h => by
    unfold chkSs at h
    split at h <;> first | contradiction | skip
    exact st_nil
  | s :: ss, ps, Wx, sc, X, o, xs, h => by
    unfold chkSs at h
    split at h <;> first | contradiction | skip
    · rename_i z; cases z
      exact st_freeze (simSs _ o xs h)
    · rename_i z; cases z
      obtain ⟨h1, h2⟩ := and2 h
      exact st_cons (simS _ o xs h1) (simSs _ o xs h2)
end
end
/-! ### defs -/
structure Dok (G : Gx) (T : Tx) (f : Nat) (fd : Fd) : Prop where
  ex : ∃ x qual params body scope dvs kws N, FunD G.K x qual params body scope dvs kws (G.fa f) (G.fd f) ∧ FnScope N (G.ps f) scope ∧ fd.np = (G.ps f).length ∧ fd.ns = N.length ∧ chkSs T N scope fd.body body = true
theorem start_ok {G : Gx} {W : Wd} {n : Nat} {H : Hp} {N : List Str} : ∀ {ds : List D} {vs : List V}, DVs G W n H ds vs → ∀ m, EnR G W n H (ds.map some ++ List.replicate m none) (vs.map some ++ List.replicate m none) := by
  intro ds vs h m
  refine ⟨by simp [h.len], fun i d e => ?_⟩
  by_cases q : i < ds.length
  · rw [List.getElem?_append_left (by simpa using q)] at e
    rw [List.getElem?_map] at e
    cases e1 : ds[i]? with
    | none => rw [e1] at e; cases e
    | some d' =>
      rw [e1] at e
      cases e
      obtain ⟨v, e2, hv⟩ := h.get e1
      refine ⟨v, ?_, hv⟩
      rw [List.getElem?_append_left (by rw [List.length_map, h.len]; exact q), List.getElem?_map, e2]
      rfl
  · rw [List.getElem?_append_right (by simp; omega)] at e
    rw [List.getElem?_replicate] at e
    split at e <;> cases e
theorem fn_bad {G : Gx} {C : Call} {lv f : Nat} (h : ∀ ds st b, C f ds st b = .bad) : FnOk G.P G.w G.K G.mg G.base (L2.CX G.P G.w) lv (G.fa f) (G.fd f) (G.ps f) (spF G C f) := by
  have no : ∀ vs H Q E, ¬ spF G C f vs H Q E := by
    rintro vs H Q E ⟨W, bd, base, st, ds, _, _, _, a⟩
    rw [h] at a
    exact a
  exact ⟨fun vs H Q E q => absurd q (no _ _ _ _), fun A outer s H args us vs Q E _ _ _ _ q => absurd q (no _ _ _ _)⟩
theorem calls_all {G : Gx} {T : Tx} (g : Gok G T) (Tb : Nat → Option Fd) (hd : ∀ f fd, Tb f = some fd → Dok G T f fd) : ∀ n, Calls G (callN Tb n) n
  | 0, f => fn_bad fun _ _ _ => rfl
  | n + 1, f => by
    cases e : Tb f with
    | none =>
      refine fn_bad fun ds st b => ?_
      show (match Tb f with | some fd => runFd (callN Tb n) fd ds st b | none => .bad) = _
      rw [e]
    | some fd =>
      have ih := calls_all g Tb hd n
      obtain ⟨x, qual, params, body, scope, dvs, kws, N, F, S, hnp, hns, hc⟩ := (hd f fd e).ex
      refine F.ok S (fun vs H Q E h => ?_) fun cdv A outer s H vs Q E hr h => ?_
      · obtain ⟨_, _, _, _, _, _, _, hl, _⟩ := h
        exact hl
      · obtain ⟨W, bd, base, st, ds, r, dv, hl, a⟩ := h
        have a' : Ans (DV G) G bd base (fun cls dd _ H' => E cls dd H') [] W H st (runFd (callN Tb n) fd ds st base) Q := by
          have : callN Tb (n + 1) f ds st base = runFd (callN Tb n) fd ds st base := by
            show (match Tb f with | some fd => runFd (callN Tb n) fd ds st base | none => .bad) = _
            rw [e]
          rw [← this]; exact a
        unfold runFd at a'
        split at a'
        rotate_left
        · exact a'.elim
        rename_i hlen
        refine ⟨rdS G (fun cls dd _ H' => E cls dd H') fun base ρ st => evSs (callN Tb n) base fd.body ρ st, ?_, ?_⟩
        · refine simSs (G := G) (T := T) (N := N) (C := callN Tb n) (lv := n) (sc := scope) fd.body ?_ ?_ hc
          · refine ⟨rfl, rfl, rfl, rfl, rfl, rfl, hr, rfl, S.nd, rfl, ?_, g, ih, ?_⟩
            · exact takes_of (X := cxOf (L2.CX G.P G.w) G.P G.w G.K G.mg G.base N qual scope (G.fa f) cdv A outer s H E) (E := E) rfl rfl rfl rfl
            · intro f' ds' st' b' hb
              cases n with
              | zero => exact absurd rfl hb
              | succ m =>
                have hb' : (match Tb f' with | some fd => runFd (callN Tb m) fd ds' st' b' | none => .bad) ≠ .bad := hb
                cases e2 : Tb f' with
                | none => rw [e2] at hb'; exact absurd rfl hb'
                | some fd2 =>
                  rw [e2] at hb'
                  obtain ⟨_, _, _, _, _, _, _, _, _, _, hnp2, _⟩ := (hd f' fd2 e2).ex
                  have hb2 : runFd (callN Tb m) fd2 ds' st' b' ≠ .bad := hb'
                  unfold runFd at hb2
                  split at hb2
                  · rename_i z; rw [z.1, hnp2]
                  · exact absurd rfl hb2
          · exact ⟨passes_of (X := cxOf (L2.CX G.P G.w) G.P G.w G.K G.mg G.base N qual scope (G.fa f) cdv A outer s H E) rfl, fun _ => rfl, S.kind⟩
        · refine ⟨W, bd, base, ds.map some ++ List.replicate (fd.ns - fd.np) none, st, r, ?_, ?_⟩
          · show EnR G W st.length H (ds.map some ++ List.replicate (fd.ns - fd.np) none) (vs.map some ++ List.replicate (N.length - vs.length) none)
            have : fd.ns - fd.np = N.length - vs.length := by rw [hns, hnp, hl]
            rw [this]
            exact start_ok (N := N) dv _
          · dsimp only
            cases e3 : evSs (callN Tb n) base fd.body (ds.map some ++ List.replicate (fd.ns - fd.np) none) st with
            | ret d st' => rw [e3] at a'; exact a'
            | nx ρ' st' => rw [e3] at a'; exact fun σ' W' H' p en => a' .non W' H' p rfl
            | exc d ρ' st' => rw [e3] at a'; exact fun σ' cls dd W' H' p en x => a' cls dd W' H' p x
            | brk _ _ => rw [e3] at a'; exact a'.elim
            | cnt _ _ => rw [e3] at a'; exact a'.elim
            | bad => rw [e3] at a'; exact a'.elim
end Rf

/-! From the head's facts and the evaluator's answer to the law. -/
namespace Rf
open PySem PySem.Spec PyProof.Rows L2
def BindsOk (d : He.DefD) (ps : List Str) : Prop := ∀ (kV doc pm : Value) (an : Option Addr) (cdv ct : Value) (us : List Value), us.length = ps.length → bindArgs (PySem.W.fnOf d.name d.qual d.params d.body d.scope .none kV doc pm an cdv ct) ⟨us, []⟩ = pure (ps.zip us)
structure DefOk (T : Tx) (d : He.DefD) (ps N : List Str) (fd : Fd) : Prop where
  b : BindsOk d ps
  sc : FnScope N ps d.scope
  np : fd.np = ps.length
  ns : fd.ns = N.length
  ck : chkSs T N d.scope fd.body d.body = true
  dfl : d.dfl = []
  kwd : d.kwd = []
  at_ : d.at_.2 = none
/-- a law's defs -/
structure Df where
  d : He.DefD
  ps : List Str
  N : List Str
  fd : Fd
def AllD (T : Tx) : List Df → Prop
  | [] => True
  | x :: xs => DefOk T x.d x.ps x.N x.fd ∧ AllD T xs
theorem AllD.get {T : Tx} : ∀ {xs : List Df} {i : Nat} {x : Df}, AllD T xs → xs[i]? = some x → DefOk T x.d x.ps x.N x.fd
  | [], i, _, _, e => by simp at e
  | y :: ys, 0, x, h, e => by
    simp at e; subst e
    exact h.1
  | y :: ys, i + 1, x, h, e => AllD.get h.2 (by simpa using e)
def KbOk (xs : List Df) (q : Nat × Nat × List Nat × List Str) : Prop := ∃ x, xs[q.1]? = some x ∧ ∀ (kV doc pm : Value) (an : Option Addr) (cdv ct : Value) (us ws : List Value), us.length = q.2.1 → ws.length = q.2.2.2.length →
  bindArgs (PySem.W.fnOf x.d.name x.d.qual x.d.params x.d.body x.d.scope .none kV doc pm an cdv ct) ⟨us, q.2.2.2.zip ws⟩ = pure (x.ps.zip (us ++ q.2.2.1.map fun i => ws.getD i .none))
def AllK (xs : List Df) : List (Nat × Nat × List Nat × List Str) → Prop
  | [] => True
  | q :: qs => KbOk xs q ∧ AllK xs qs
theorem AllK.get {xs : List Df} : ∀ {qs : List (Nat × Nat × List Nat × List Str)} {q : Nat × Nat × List Nat × List Str}, AllK xs qs → q ∈ qs → KbOk xs q
  | p :: qs, q, h, e => by
    rcases List.mem_cons.mp e with rfl | e
    · exact h.1
    · exact AllK.get h.2 e
def facts (xs : List Df) (more : List He.Fa) : List He.Fa := xs.map (fun x => He.Fa.glo x.d.at_.1) ++ (biNames.map He.Fa.free ++ more)
def defs (xs : List Df) : List He.DefD := xs.map Df.d
def txOf (xs : List Df) (consts : List (String × D)) (kbs : List (Nat × Nat × List Nat × List Str)) : Tx := ⟨fun i => (xs[i]?).map fun x => x.d.at_.1, fun _ => none, consts, kbs⟩
def tbOf (xs : List Df) : Nat → Option Fd := fun i => (xs[i]?).map Df.fd
theorem factM {fa : List He.Fa} {fn : List He.DefD} {K : PySem.W.Frag} (c : He.SaysD fa fn K) {f : He.Fa} (h : f ∈ fa) : f.ok K = true := by
  obtain ⟨i, hi, e⟩ := List.getElem_of_mem h
  exact c.fact i (by rw [List.getElem?_eq_getElem hi, e])
theorem getD_vals : ∀ {perm : List Nat} {zs : List V} {ws : List Value}, Vals zs ws → Vals (perm.map fun i => zs.getD i .non) (perm.map fun i => ws.getD i .none)
  | [], _, _, _ => .nil
  | i :: perm, zs, ws, h => by
    refine .cons ?_ (getD_vals h)
    cases e : zs[i]? with
    | none =>
      have e2 : ws[i]? = none := by
        rw [List.getElem?_eq_none_iff] at e ⊢
        rw [← h.length]; exact e
      simp only [List.getD, e, e2]
      rfl
    | some v =>
      obtain ⟨u, e2, hv⟩ := h.get e
      simp only [List.getD, e, e2]
      exact hv
/-! ### another base -/
structure SameG (G G' : Gx) : Prop where
  K : G'.K = G.K
  fa : G'.fa = G.fa
  ca : G'.ca = G.ca
  fn : G'.fn = G.fn
  ps : G'.ps = G.ps
theorem SameG.symm {G G' : Gx} (s : SameG G G') : SameG G' G := ⟨s.K.symm, s.fa.symm, s.ca.symm, s.fn.symm, s.ps.symm⟩
section
variable {G G' : Gx} {W : Wd} {n : Nat} {H : Hp}
mutual
theorem DV.gx (s : SameG G G') : ∀ {d : D} {v : V}, DV G W n H d v → DV G' W n H d v
  | .non, _, h => h
  | .bl _, _, h => h
  | .int _, _, h => h
  | .str _, _, h => h
  | .tup ds, v, h => by
    obtain ⟨a, xs, e1, hs, hd⟩ := h
    exact ⟨a, xs, e1, by rw [s.K]; exact hs, DVs.gx s hd⟩
  | .lst ds, v, h => by
    obtain ⟨a, xs, e1, f, hH, hd⟩ := h
    exact ⟨a, xs, e1, f, hH, DVs.gx s hd⟩
  | .frz ds, v, h => by
    obtain ⟨a, xs, e1, hs, hd⟩ := h
    exact ⟨a, xs, e1, by rw [s.K]; exact hs, DVs.gx s hd⟩
  | .dct ks vs, v, h => by
    obtain ⟨a, kvs, e1, f, hR, hk, hd⟩ := h
    exact ⟨a, kvs, e1, f, hR, hk, DVs.gx s hd⟩
  | .ref k, v, h => h
  | .fn f, v, h => by show v = _; rw [s.fa]; exact h
  | .met k f, v, h => by
    obtain ⟨p, e1, hH, hk, f⟩ := h
    exact ⟨p, e1, by rw [s.fa]; exact hH, hk, f⟩
  | .exc _ _, _, h => h.elim
theorem DVs.gx (s : SameG G G') : ∀ {ds : List D} {xs : List V}, DVs G W n H ds xs → DVs G' W n H ds xs
  | [], _, h => h
  | d :: ds, xs, h => by
    obtain ⟨y, ys, e1, h1, h2⟩ := h
    exact ⟨y, ys, e1, DV.gx s h1, DVs.gx s h2⟩
end
theorem obR.gx (s : SameG G G') {k : Nat} {ob : Ob} (h : obR G W H n k ob) : obR G' W H n k ob := by
  cases ob with
  | lst ds => obtain ⟨xs, h1, h2⟩ := h; exact ⟨xs, h1, DVs.gx s h2⟩
  | dct ks vs => obtain ⟨xs, h1, h2, h3⟩ := h; exact ⟨xs, h1, h2, DVs.gx s h3⟩
  | ins c fs => obtain ⟨dx, gs, h1, h2, h3⟩ := h; exact ⟨dx, gs, by rw [s.ca]; exact h1, by rw [s.fn]; exact h2, DVs.gx s h3⟩
  | dead => trivial
theorem RS.gx (s : SameG G G') {bd : Nat → Nat} {base : Nat} {st : Sto} (r : RS G bd base W H st) : RS G' bd base W H st := ⟨fun k ob e => obR.gx s (r.obj k ob e), r.inj, r.fF, r.fH, r.bdl, r.bl⟩
theorem ExcR.gx (s : SameG G G') {d : D} {cls : Value} {dd : Option Addr} (h : ExcR G W H d cls dd) : ExcR G' W H d cls dd := by
  cases d with
  | exc c ds =>
    obtain ⟨h1, h2⟩ := h
    refine ⟨by rw [s.ca]; exact h1, ?_⟩
    rcases h2 with h2 | ⟨dx, gs, e1, e2, e3, e4⟩
    · exact .inl h2
    · exact .inr ⟨dx, gs, e1, e2, e3, DVs.gx s e4⟩
  | _ => exact h
theorem spF.gx (s : SameG G G') {C : Call} {f : Nat} {vs : List V} {Q : VK} {E : XK} (h : spF G C f vs H Q E) : spF G' C f vs H Q E := by
  obtain ⟨W, bd, base, st, ds, r, dv, hl, a⟩ := h
  refine ⟨W, bd, base, st, ds, RS.gx s r, DVs.gx s dv, by rw [s.ps]; exact hl, ?_⟩
  cases e : C f ds st base with
  | ok d st' =>
    rw [e] at a
    exact fun v W' H' p dv => a v W' H' ⟨p.ext, RS.gx s.symm p.rs⟩ (DV.gx s.symm dv)
  | exc d st' =>
    rw [e] at a
    exact fun cls dd W' H' p x => a cls dd W' H' ⟨p.ext, RS.gx s.symm p.rs⟩ (ExcR.gx s.symm x)
  | bad => rw [e] at a; exact a
end
/-- the program's facts, and the law's promise -/
theorem law_facts {P : Program} {w : World} {K : PySem.W.Frag} {h : Heap} {mg : Str → Option Value} {f : Addr} {xs : List Df} {more : List He.Fa} {consts : List (String × D)} {kbs : List (Nat × Nat × List Nat × List Str)} {i0 lv : Nat} {x0 : Df}
    (all : AllD (txOf xs consts kbs) xs) (allK : AllK xs kbs) (e0 : xs[i0]? = some x0) (hn0 : x0.d.at_.1 = ("law" : Str)) (hp0 : x0.ps = [("script" : Str)])
    (hcst : ∀ p, p ∈ consts → ∀ (G : Gx), G.K = K → G.mg = mg → ∀ W n H, ∃ u v, mg (Str.ofString p.1) = some u ∧ RelV v u ∧ DV G W n H p.2 v)
    (KX : K.In h) (hG : h.Ns mainGlobals mg) (hfa : mg ("law" : Str) = some (.ref f)) (c : He.SaysD (facts xs more) (defs xs) K) :
    ∃ (G : Nat → FuncData) (gx0 : Gx), gx0.K = K ∧ (gx0.ps i0).length = 1 ∧ (∀ (s : Shared) (v : Value), BindsTo s (G i0) ⟨[v], []⟩ [("script", v)]) ∧ ∀ base : Heap, K.In base → base.Ns mainGlobals mg → 
      FnOk P w K mg base (L2.CX P w) lv f (G i0) [("script" : Str)] (spF gx0 (callN (tbOf xs) lv) i0) := by
  have at0 : ∀ (i : Nat) (x : Df), xs[i]? = some x → He.fAd K x.d.at_ = He.ga K x.d.at_.1 := fun i x e => by
    unfold He.fAd
    rw [(all.get e).at_]
  have fns : ∀ (i : Nat) (x : Df), xs[i]? = some x → mg x.d.at_.1 = some (.ref (He.ga K x.d.at_.1)) := fun i x e =>
    He.glo_ok KX hG (factM c (List.mem_append_left _ (List.mem_map.mpr ⟨x, List.mem_of_getElem? e, rfl⟩)))
  have ex : ∀ i : Nat, ∃ fd : FuncData, ∀ x : Df, xs[i]? = some x → FunD K x.d.name x.d.qual x.d.params x.d.body x.d.scope [] [] (He.ga K x.d.at_.1) fd := by
    have one : ∀ (i : Nat) (x : Df), xs[i]? = some x → ∃ fd, FunD K x.d.name x.d.qual x.d.params x.d.body x.d.scope [] [] (He.ga K x.d.at_.1) fd := fun i x e => by
      obtain ⟨fd, F⟩ := c.def_ i (d := x.d) (by unfold defs; rw [List.getElem?_map, e]; rfl)
      have z := all.get e
      unfold He.DefD.dvs He.DefD.kws at F
      rw [z.dfl, z.kwd, at0 i x e] at F
      exact ⟨fd, F⟩
    intro i
    cases e : xs[i]? with
    | none =>
      obtain ⟨fd, _⟩ := one i0 x0 e0
      exact ⟨fd, fun x z => by cases z⟩
    | some x =>
      obtain ⟨fd, F⟩ := one i x e
      exact ⟨fd, fun y z => by cases z; exact F⟩
  obtain ⟨fd, hfd⟩ := Classical.skolem.mp ex
  have bnd : ∀ (i : Nat) (x : Df), xs[i]? = some x → Binds K (fd i) x.ps [] := fun i x e => FunD.bindsN (hfd i x e) ((all.get e).b)
  refine ⟨fd, ⟨P, w, K, mg, h, fun i => match xs[i]? with | some x => He.ga K x.d.at_.1 | none => 0, fun _ => 0, fun _ => "", fd, fun i => match xs[i]? with | some x => x.ps | none => []⟩, rfl, by dsimp only; rw [e0]; show x0.ps.length = 1; rw [hp0]; rfl, fun s v => ?_, fun base _ _ => ?_⟩
  · have z := FunD.bindsA (ps := x0.ps) (hfd i0 x0 e0) (all.get e0).b s [v] (by rw [hp0]; rfl)
    rw [hp0] at z
    exact z
  generalize hgx : (⟨P, w, K, mg, base, fun i => match xs[i]? with | some x => He.ga K x.d.at_.1 | none => 0, fun _ => 0, fun _ => "", fd, fun i => match xs[i]? with | some x => x.ps | none => []⟩ : Gx) = gx
  have hfa1 : ∀ (i : Nat) (x : Df), xs[i]? = some x → gx.fa i = He.ga K x.d.at_.1 := fun i x e => by
    rw [← hgx]; dsimp only; rw [e]
  have hps1 : ∀ (i : Nat) (x : Df), xs[i]? = some x → gx.ps i = x.ps := fun i x e => by
    rw [← hgx]; dsimp only; rw [e]
  have hK : gx.K = K := by rw [← hgx]
  have hmg : gx.mg = mg := by rw [← hgx]
  have hfdg : gx.fd = fd := by rw [← hgx]
  have g : Gok gx (txOf xs consts kbs) := by
    refine ⟨fun i y e => ?_, fun i y e => ?_, fun i y e => ?_, fun y hy => ?_, fun q hq => ?_, fun p hp W n H => ?_⟩
    · cases e1 : xs[i]? with
      | none => simp [txOf, e1] at e
      | some x =>
        have : y = x.d.at_.1 := by simpa [txOf, e1] using e.symm
        rw [this, hmg, hfa1 i x e1]
        exact fns i x e1
    · cases e1 : xs[i]? with
      | none => simp [txOf, e1] at e
      | some x =>
        rw [hK, hfa1 i x e1]
        exact (hfd i x e1).kp
    · cases e1 : xs[i]? with
      | none => simp [txOf, e1] at e
      | some x =>
        rw [hK, hfdg, hps1 i x e1]
        exact bnd i x e1
    · rw [hmg]
      exact He.free_ok KX hG (factM c (List.mem_append_right _ (List.mem_append_left _ (List.mem_map.mpr ⟨y, hy, rfl⟩))))
    · obtain ⟨x, e1, hb⟩ := allK.get hq
      rw [hK, hfdg, hps1 _ x e1]
      obtain ⟨oc, od, dV, kV, doc, pm, an, cdv, ct, osl, e2, lk, hcd, hD, _⟩ := (hfd _ x e1).ex
      refine ⟨fun s us ws X l1 l2 => ?_, fun r1 r2 => r1.append (getD_vals r2)⟩
      rw [e2]
      rcases hD with ⟨_, rfl⟩ | ⟨z, _⟩
      · exact .of_eq (hb kV doc pm an cdv ct us ws l1 l2)
      · exact absurd rfl z
    · rw [hmg]
      exact hcst p hp gx hK hmg W n H
  have hd : ∀ i fd', tbOf xs i = some fd' → Dok gx (txOf xs consts kbs) i fd' := fun i fd' e => by
    cases e1 : xs[i]? with
    | none => simp [tbOf, e1] at e
    | some x =>
      have e2 : fd' = x.fd := by simpa [tbOf, e1] using e.symm
      have z := all.get e1
      refine ⟨x.d.name, x.d.qual, x.d.params, x.d.body, x.d.scope, [], [], x.N, ?_, ?_, ?_, ?_, ?_⟩
      · rw [hK, hfdg, hfa1 i x e1]; exact hfd i x e1
      · rw [hps1 i x e1]; exact z.sc
      · rw [hps1 i x e1, e2]; exact z.np
      · rw [e2]; exact z.ns
      · rw [e2]; exact z.ck
  have F := calls_all g (tbOf xs) hd lv i0
  have hfa0 : gx.fa i0 = f := by
    rw [hfa1 i0 x0 e0, hn0]
    have := fns i0 x0 e0
    rw [hn0, hfa] at this
    injection this with this
    injection this with this
    exact this.symm
  rw [hfa0, hps1 i0 x0 e0, hp0, hfdg, hK, hmg] at F
  have hP : gx.P = P := by rw [← hgx]
  have hw : gx.w = w := by rw [← hgx]
  have hb : gx.base = base := by rw [← hgx]
  rw [hP, hw, hb] at F
  refine F.imp fun vs H Q E q => spF.gx ?_ q
  rw [← hgx]
  exact ⟨rfl, rfl, rfl, rfl, rfl⟩
/-- the law's answer -/
theorem law_sp {gx : Gx} {C : Call} {i0 : Nat} {H : Hp} {a : Addr} {ns : List Int} (hps : (gx.ps i0).length = 1) (hS : SqL gx.K H a (ns.map V.int)) (hev : ∃ st, C i0 [.frz (ns.map D.int)] [] 0 = .ok (.bl true) st) :
    spF gx C i0 [.ref a] H (fun v _ => v = .bl true) fun _ _ _ => False := by
  obtain ⟨st, hev⟩ := hev
  refine ⟨⟨fun _ => 0, fun b => b = a ∧ H a ≠ none⟩, fun _ => 0, 0, [], [.frz (ns.map D.int)], ⟨fun k ob e => by simp at e, fun j k hj => ?_, fun k hk => ?_, fun b hb => ?_, fun k hk => by omega, by simp⟩, ?_, ?_, ?_⟩
  · obtain ⟨_, e, _⟩ := hj; simp at e
  · obtain ⟨_, e, _⟩ := hk; simp at e
  · obtain ⟨rfl, hb⟩ := hb
    cases e : H b with
    | none => exact absurd e hb
    | some o => exact ⟨o, rfl⟩
  · refine ⟨.ref a, [], rfl, ⟨a, ns.map V.int, rfl, ?_, ?_⟩, rfl⟩
    · rcases hS with h | h
      · refine .inl ⟨h, rfl, ?_⟩
        rcases h with h | ⟨o, h⟩ <;> (rw [h]; simp)
      · exact .inr h
    · induction ns with
      | nil => rfl
      | cons n ns ih =>
        clear hev hS
        have : ∀ ms : List Int, DVs gx ⟨fun _ => 0, fun b => b = a ∧ H a ≠ none⟩ ([] : Sto).length H (ms.map D.int) (ms.map V.int) := by
          intro ms
          induction ms with
          | nil => rfl
          | cons m ms ih => exact ⟨_, _, rfl, rfl, ih⟩
        exact this (n :: ns)
  · rw [hps]; rfl
  · rw [hev]
    intro v W' H' p dv
    exact dv
/-- THE END: what the head's Hook says, and the evaluator's answer, are the law's walk -/
theorem law_walk {l : PySem.W.OpenLaw} {n lv : Nat} {q : Program} {loose : List Str} {XP : (Str → Option Value) → Heap → Prop} {d : DefRec} {xs : List Df} {more : List He.Fa} {consts : List (String × D)} {kbs : List (Nat × Nat × List Nat × List Str)} {i0 : Nat} {x0 : Df}
    (hn : l.most = some n) (hn2 : n ≤ sizeLine) (hdf : d.params.defaults = []) (hr : Room lv callerA) (hd : d.name = ("law" : Str))
    (all : AllD (txOf xs consts kbs) xs) (allK : AllK xs kbs) (e0 : xs[i0]? = some x0) (hn0 : x0.d.at_.1 = ("law" : Str)) (hp0 : x0.ps = [("script" : Str)])
    (hcst : ∀ (K : PySem.W.Frag) (h : Heap) (mg : Str → Option Value), K.In h → h.Ns mainGlobals mg → He.SaysD (facts xs more) (defs xs) K → ∀ p, p ∈ consts → ∀ (G : Gx), G.K = K → G.mg = mg → ∀ W n H, ∃ u v, mg (Str.ofString p.1) = some u ∧ RelV v u ∧ DV G W n H p.2 v)
    (hev : ∀ ns : List Int, ns.length ≤ n → (∀ z ∈ ns, Builtin.Int.intBits z ≤ 1048576) → ∃ st, callN (tbOf xs) lv i0 [.frz (ns.map D.int)] [] 0 = .ok (.bl true) st) :
    PySem.W.WalkO q loose XP (fun _ h => ∃ K : PySem.W.Frag, K.In h ∧ He.SaysD (facts xs more) (defs xs) K) l.row.toRowW d [] (fun f vs => PySem.call f vs) := by
  refine LamX.walk_ofTsE (k := lv) (n := n) (x := ("script" : Str)) (CX := fun w => L2.CX l.prog w) hn hn2 hdf hr (fun w mg fa h Y G hmg => ?_) (fun w H s e s' z => ?_)
  · obtain ⟨K, KX, c⟩ := Y
    rw [hd] at hmg
    obtain ⟨fd, gx0, hK, hps, hb, hF⟩ := law_facts (P := l.prog) (w := w) (lv := lv) all allK e0 hn0 hp0 (hcst K h mg KX G c) KX G hmg c
    refine ⟨K, KX, fd i0, [], spF gx0 (callN (tbOf xs) lv) i0, by simp, by simp, by simp, hb, fun H a ns hl hbits _ hS => law_sp hps (by rw [hK]; exact hS) (hev ns hl hbits), fun base hk hg _ => hF base hk hg⟩
  · obtain ⟨a, B, H', cls, dd, _, _, _, _, _, _, _, z⟩ := z
    exact z
end Rf

/-! Plain facts of the evaluator. -/
namespace Rf
@[simp] theorem bind_ok' {α β : Type} (a : α) (st : Sto) (f : α → Sto → R β) : (R.ok a st).bind f = f a st := rfl
@[simp] theorem bind_bad' {α β : Type} (f : α → Sto → R β) : (R.bad : R α).bind f = .bad := rfl
@[simp] theorem opt_some' {α : Type} (a : α) (st : Sto) : opt (some a) st = .ok a st := rfl
@[simp] theorem opt_none' {α : Type} (st : Sto) : opt (none : Option α) st = .bad := rfl
@[simp] theorem vw_int' (st : Sto) (i : Int) : vw st (.int i) = .int i := rfl
@[simp] theorem vw_bl' (st : Sto) (b : Bool) : vw st (.bl b) = .bl b := rfl
@[simp] theorem vw_non' (st : Sto) : vw st .non = .non := rfl
@[simp] theorem vw_str' (st : Sto) (s : List Nat) : vw st (.str s) = .str s := rfl
@[simp] theorem vw_tup' (st : Sto) (ds : List D) : vw st (.tup ds) = .tup ds := rfl
@[simp] theorem vw_lst' (st : Sto) (ds : List D) : vw st (.lst ds) = .lst ds := rfl
@[simp] theorem vw_frz' (st : Sto) (ds : List D) : vw st (.frz ds) = .frz ds := rfl
@[simp] theorem vw_dct' (st : Sto) (ks : List Ky) (ds : List D) : vw st (.dct ks ds) = .dct ks ds := rfl
/-- the turns of a comprehension, each with its answer -/
theorem compD_pure {f : D → Sto → R (Option D)} {st : Sto} (g : D → Option D) : ∀ {xs : List D}, (∀ x ∈ xs, f x st = .ok (g x) st) → compD f (fun _ => true) xs st = .ok (xs.filterMap g) st
  | [], _ => rfl
  | x :: xs, h => by
    show (if true = true then (match f x st with
      | .ok y st => (match compD f (fun _ => true) xs st with
        | .ok ys st => .ok (match y with | some y => y :: ys | none => ys) st
        | _ => .bad)
      | _ => .bad) else R.bad) = _
    rw [if_pos rfl, h x List.mem_cons_self]
    dsimp only
    rw [compD_pure g fun y hy => h y (List.mem_cons_of_mem _ hy)]
    dsimp only
    cases e : g x with
    | none => rw [List.filterMap_cons_none e]
    | some y => rw [List.filterMap_cons_some e]
/-- a loop's invariant by the items that are done -/
theorem forD_inv {f : D → En → Sto → Fl} (I : List D → En → Sto → Prop) : ∀ {xs done : List D} {ρ : En} {st : Sto}, I done ρ st →
    (∀ (d : List D) (x : D) (r : List D), done ++ xs = d ++ x :: r → done.length ≤ d.length → ∀ (ρ : En) (st : Sto), I d ρ st → ∃ ρ' st', (f x ρ st = .nx ρ' st' ∨ f x ρ st = .cnt ρ' st') ∧ I (d ++ [x]) ρ' st') →
    ∃ ρ' st', forD f (fun _ => true) xs ρ st = .nx ρ' st' ∧ I (done ++ xs) ρ' st'
  | [], done, ρ, st, h, _ => ⟨ρ, st, rfl, by rw [List.append_nil]; exact h⟩
  | x :: xs, done, ρ, st, h, step => by
    obtain ⟨ρ1, st1, e, h1⟩ := step done x xs rfl (Nat.le_refl _) ρ st h
    obtain ⟨ρ2, st2, e2, h2⟩ := forD_inv I (xs := xs) (done := done ++ [x]) (ρ := ρ1) (st := st1) h1 fun d y r hd hl ρ st hi => step d y r (by rw [← hd]; simp) (by simp at hl; omega) ρ st hi
    refine ⟨ρ2, st2, ?_, by rw [List.append_assoc] at h2; exact h2⟩
    show (if true = true then (match f x ρ st with
      | .nx ρ st => forD f (fun _ => true) xs ρ st
      | .cnt ρ st => forD f (fun _ => true) xs ρ st
      | .brk ρ st => .nx ρ st
      | .ret d st => .ret d st
      | .exc d ρ st => .exc d ρ st
      | .bad => .bad) else Fl.bad) = _
    rw [if_pos rfl]
    rcases e with e | e <;> (rw [e]; exact e2)
/-- a call whose answer is plain, what it made being dropped -/
theorem callR_sc {C : Call} {base f : Nat} {ds : List D} {st : Sto} {d : D} {g : Sto} (h : C f ds st st.length = .ok d (st ++ g)) (hp : plain d = true) : callR C base true f ds st = .ok d st := by
  show (match C f ds st st.length with
      | .ok d st' => if plain d then R.ok d (st'.take st.length) else R.bad
      | .exc d st' => R.exc d (st'.take st.length)
      | .bad => R.bad) = _
  rw [h]
  dsimp only
  rw [if_pos hp]
  simp
theorem callR_un {C : Call} {base f : Nat} {ds : List D} {st : Sto} : callR C base false f ds st = C f ds st base := rfl
theorem compD_map {α : Type} {f : D → Sto → R (Option D)} {st : Sto} {φ : α → D} (g : α → Option D) {xs : List α} (h : ∀ x ∈ xs, f (φ x) st = .ok (g x) st) : compD f (fun _ => true) (xs.map φ) st = .ok (xs.filterMap g) st := by
  induction xs with
  | nil => rfl
  | cons x xs ih =>
    show (if true = true then (match f (φ x) st with
      | .ok y st => (match compD f (fun _ => true) (xs.map φ) st with
        | .ok ys st => .ok (match y with | some y => y :: ys | none => ys) st
        | _ => .bad)
      | _ => .bad) else R.bad) = _
    rw [if_pos rfl, h x List.mem_cons_self]
    dsimp only
    rw [ih fun y hy => h y (List.mem_cons_of_mem _ hy)]
    dsimp only
    cases e : g x with
    | none => rw [List.filterMap_cons_none e]
    | some y => rw [List.filterMap_cons_some e]
theorem intsOf_map {α : Type} (f : α → Int) : ∀ xs : List α, intsOf (xs.map fun x => .int (f x)) = some (xs.map f)
  | [] => rfl
  | x :: xs => by show (intsOf (xs.map fun x => .int (f x))).map (f x :: ·) = _; rw [intsOf_map f xs]; rfl
theorem boolsOf_map {α : Type} (f : α → Bool) : ∀ xs : List α, boolsOf (xs.map fun x => .bl (f x)) = some (xs.map f)
  | [] => rfl
  | x :: xs => by show (boolsOf (xs.map fun x => .bl (f x))).map (f x :: ·) = _; rw [boolsOf_map f xs]; rfl
theorem filterMap_some' {α β : Type} (f : α → β) (xs : List α) : xs.filterMap (fun x => some (f x)) = xs.map f := by simp
theorem compDD_map {α : Type} {f : D → Sto → R (List D)} {st : Sto} {φ : α → D} (g : α → List D) {xs : List α} (h : ∀ x ∈ xs, f (φ x) st = .ok (g x) st) : compDD f (fun _ => true) (xs.map φ) st = .ok (xs.flatMap g) st := by
  induction xs with
  | nil => rfl
  | cons x xs ih =>
    show (if true = true then (match f (φ x) st with
      | .ok y st => (match compDD f (fun _ => true) (xs.map φ) st with
        | .ok ys st => .ok (y ++ ys) st
        | _ => .bad)
      | _ => .bad) else R.bad) = _
    rw [if_pos rfl, h x List.mem_cons_self]
    dsimp only
    rw [ih fun y hy => h y (List.mem_cons_of_mem _ hy)]
    rw [List.flatMap_cons]
/-- the pairs of neighbours -/
theorem zip_next {α : Type} (φ : α → D) (xs : List α) : (xs.map φ).zipWith (fun d e => D.tup [d, e]) (cutL (xs.map φ) (some 1) none) = (xs.zip xs.tail).map fun p => D.tup [φ p.1, φ p.2] := by
  have e : cutL (xs.map φ) (some 1) none = xs.tail.map φ := by
    cases xs with
    | nil => rfl
    | cons x xs =>
      show ((φ x :: xs.map φ).drop (min (1 : Int).toNat (φ x :: xs.map φ).length)).take _ = _
      have : min (1 : Int).toNat (φ x :: xs.map φ).length = 1 := by simp
      rw [this]
      simp [sIx]
      exact List.take_of_length_le (by simp)
  rw [e, List.zipWith_map]
  rw [List.zip, List.map_zipWith]
theorem forD_map {α : Type} {f : D → En → Sto → Fl} {φ : α → D} (I : List α → En → Sto → Prop) {xs : List α} {ρ : En} {st : Sto} (h0 : I [] ρ st)
    (step : ∀ (d : List α) (x : α) (r : List α), xs = d ++ x :: r → ∀ (ρ : En) (st : Sto), I d ρ st → ∃ ρ' st', (f (φ x) ρ st = .nx ρ' st' ∨ f (φ x) ρ st = .cnt ρ' st') ∧ I (d ++ [x]) ρ' st') :
    ∃ ρ' st', forD f (fun _ => true) (xs.map φ) ρ st = .nx ρ' st' ∧ I xs ρ' st' := by
  have key : ∀ (r d : List α) (ρ : En) (st : Sto), xs = d ++ r → I d ρ st → ∃ ρ' st', forD f (fun _ => true) (r.map φ) ρ st = .nx ρ' st' ∧ I xs ρ' st' := by
    intro r
    induction r with
    | nil => intro d ρ st e h; exact ⟨ρ, st, rfl, by rw [e, List.append_nil]; exact h⟩
    | cons x r ih =>
      intro d ρ st e h
      obtain ⟨ρ1, st1, e1, h1⟩ := step d x r e ρ st h
      obtain ⟨ρ2, st2, e2, h2⟩ := ih (d ++ [x]) ρ1 st1 (by rw [e]; simp) h1
      refine ⟨ρ2, st2, ?_, h2⟩
      show (if true = true then (match f (φ x) ρ st with
        | .nx ρ st => forD f (fun _ => true) (r.map φ) ρ st
        | .cnt ρ st => forD f (fun _ => true) (r.map φ) ρ st
        | .brk ρ st => .nx ρ st
        | .ret d st => .ret d st
        | .exc d ρ st => .exc d ρ st
        | .bad => .bad) else Fl.bad) = _
      rw [if_pos rfl]
      rcases e1 with e1 | e1 <;> (rw [e1]; exact e2)
  exact key xs [] ρ st rfl h0
@[simp] theorem last_get (st : Sto) (o : Ob) : (st ++ [o])[st.length]? = some o := by simp
@[simp] theorem last_set (st : Sto) (o o' : Ob) : (st ++ [o]).set st.length o' = st ++ [o'] := by simp
@[simp] theorem vw_last_lst (st : Sto) (ds : List D) : vw (st ++ [.lst ds]) (.ref st.length) = .lst ds := by simp [vw]
@[simp] theorem vw_last_dct (st : Sto) (ks : List Ky) (ds : List D) : vw (st ++ [.dct ks ds]) (.ref st.length) = .dct ks ds := by simp [vw]
@[simp] theorem two_get0 (st : Sto) (a b : Ob) : (st ++ [a, b])[st.length]? = some a := by simp
@[simp] theorem two_get1 (st : Sto) (a b : Ob) : (st ++ [a, b])[st.length + 1]? = some b := by
  rw [List.getElem?_append_right (by omega)]
  simp
@[simp] theorem two_set0 (st : Sto) (a b c : Ob) : (st ++ [a, b]).set st.length c = st ++ [c, b] := by simp
@[simp] theorem two_set1 (st : Sto) (a b c : Ob) : (st ++ [a, b]).set (st.length + 1) c = st ++ [a, c] := by
  rw [List.set_append_right _ _ (by omega)]
  simp
@[simp] theorem vw_two0 (st : Sto) (ks : List Ky) (ds : List D) (b : Ob) : vw (st ++ [.dct ks ds, b]) (.ref st.length) = .dct ks ds := by simp [vw]
@[simp] theorem vw_two1 (st : Sto) (ds : List D) (a : Ob) : vw (st ++ [a, .lst ds]) (.ref (st.length + 1)) = .lst ds := by
  have e := two_get1 st a (.lst ds)
  show (match (st ++ [a, Ob.lst ds])[st.length + 1]? with
    | some (.lst ds) => D.lst ds
    | some (.dct ks vs) => .dct ks vs
    | _ => .ref (st.length + 1)) = _
  rw [e]
@[simp] theorem len_snoc (st : Sto) (a : Ob) : (st ++ [a]).length = st.length + 1 := by simp
@[simp] theorem app_two (st : Sto) (a b : Ob) : st ++ [a] ++ [b] = st ++ [a, b] := by simp
@[simp] theorem mkL_nil (st : Sto) : mkL true [] st = .ok (.ref st.length) (st ++ [.lst []]) := by
  unfold mkL
  rw [if_pos (by simp)]
  rfl
@[simp] theorem mkD_nil (st : Sto) : mkD true [] [] st = .ok (.ref st.length) (st ++ [.dct [] []]) := by
  unfold mkD
  rw [if_pos (by simp)]
  rfl
theorem mkL_unb {ds : List D} {st : Sto} (h : ds.length ≤ SL) : mkL false ds st = .ok (.lst ds) st := by
  unfold mkL
  rw [if_pos h]
  rfl
end Rf

/-! dicts from numbers to numbers -/
namespace Rf
abbrev Wt := List (Int × Int)
def wks (w : Wt) : List Ky := w.map fun p => .inl p.1
def wvs (w : Wt) : List D := w.map fun p => .int p.2
def wget : Wt → Int → Option Int
  | [], _ => none
  | p :: w, k => if p.1 = k then some p.2 else wget w k
def wput (w : Wt) (k v : Int) : Wt := if (wget w k).isSome then w.map fun p => (p.1, if p.1 = k then v else p.2) else w ++ [(k, v)]
theorem dGet_w : ∀ (w : Wt) (k : Int), dGet (wks w) (wvs w) (.inl k) = (wget w k).map .int
  | [], _ => rfl
  | p :: w, k => by
    show (if (Sum.inl p.1 : Ky) = .inl k then some (D.int p.2) else dGet (wks w) (wvs w) (.inl k)) = _
    unfold wget
    by_cases h : p.1 = k
    · rw [if_pos (by rw [h]), if_pos h]; rfl
    · rw [if_neg (by simpa using h), if_neg h]; exact dGet_w w k
theorem hasK_w : ∀ (w : Wt) (k : Int), hasK (wks w) (.inl k) = (wget w k).isSome
  | [], _ => rfl
  | p :: w, k => by
    show (decide ((Sum.inl p.1 : Ky) = .inl k) || hasK (wks w) (.inl k)) = _
    unfold wget
    by_cases h : p.1 = k
    · rw [if_pos h]; simp [h]
    · rw [if_neg h, hasK_w w k]; simp [h]
theorem putVs_w : ∀ (w : Wt) (k v : Int), putVs (wks w) (wvs w) (.inl k) (.int v) = w.map fun p => .int (if p.1 = k then v else p.2)
  | [], _, _ => rfl
  | p :: w, k, v => by
    show (if (Sum.inl p.1 : Ky) = .inl k then D.int v else .int p.2) :: putVs (wks w) (wvs w) (.inl k) (.int v) = _
    rw [putVs_w w k v]
    by_cases h : p.1 = k <;> simp [h]
theorem dPut_w (w : Wt) (k v : Int) : dPut (wks w) (wvs w) (.inl k) (.int v) = (wks (wput w k v), wvs (wput w k v)) := by
  unfold dPut wput
  rw [hasK_w]
  by_cases h : (wget w k).isSome = true
  · rw [if_pos h, if_pos h, putVs_w]
    simp [wks, wvs, Function.comp_def]
  · rw [if_neg h, if_neg h]
    simp [wks, wvs]
theorem wput_len (w : Wt) (k v : Int) : (wput w k v).length ≤ w.length + 1 := by
  unfold wput
  split <;> simp
theorem keyInts_w : ∀ w : Wt, keyInts (wks w) = some (w.map (·.1))
  | [] => rfl
  | p :: w => by
    show (keyInts (wks w)).map (p.1 :: ·) = _
    rw [keyInts_w w]; rfl
/-- its keys, each once -/
def keysOk (w : Wt) : Prop := (w.map (·.1)).Nodup
theorem wget_none {w : Wt} {k : Int} (h : wget w k = none) : k ∉ w.map (·.1) := by
  induction w with
  | nil => simp
  | cons p w ih =>
    unfold wget at h
    split at h
    · cases h
    · rename_i hn
      simp only [List.map_cons, List.mem_cons, not_or]
      exact ⟨fun z => hn z.symm, ih h⟩
theorem wput_keys {w : Wt} {k v : Int} (h : keysOk w) : keysOk (wput w k v) := by
  unfold wput
  split
  · unfold keysOk at h ⊢
    rw [List.map_map]
    exact h
  · rename_i hn
    have hn' : wget w k = none := by cases e : wget w k with
      | none => rfl
      | some _ => rw [e] at hn; exact absurd rfl hn
    unfold keysOk at h ⊢
    rw [List.map_append, List.nodup_append]
    exact ⟨h, by simp, fun a ha b hb => by
      simp at hb; subst hb
      intro z; subst z
      exact wget_none hn' ha⟩
/-- a sum over a dict: Σ f key value -/
def wsum (f : Int → Int → Int) (w : Wt) : Int := (w.map fun p => f p.1 p.2).sum
theorem wsum_app (f : Int → Int → Int) (a b : Wt) : wsum f (a ++ b) = wsum f a + wsum f b := by simp [wsum]
/-- writing changes a linear sum by the difference -/
theorem wsum_put {f : Int → Int → Int} (h0 : ∀ k, f k 0 = 0) {w : Wt} (hk : keysOk w) (k v : Int) : wsum f (wput w k v) = wsum f w + f k v - f k ((wget w k).getD 0) := by
  unfold wput
  by_cases h : (wget w k).isSome = true
  · rw [if_pos h]
    induction w with
    | nil => cases h
    | cons p w ih =>
      unfold keysOk at hk
      rw [List.map_cons, List.nodup_cons] at hk
      unfold wget at h ⊢
      by_cases e : p.1 = k
      · simp only [e, if_true]
        have hn : ∀ q ∈ w, q.1 ≠ k := fun q hq z => hk.1 (by rw [e, ← z]; exact List.mem_map.mpr ⟨q, hq, rfl⟩)
        have : (w.map fun p => (p.1, if p.1 = k then v else p.2)) = w := by
          have : ∀ w : Wt, (∀ q ∈ w, q.1 ≠ k) → (w.map fun p => (p.1, if p.1 = k then v else p.2)) = w := by
            intro w
            induction w with
            | nil => intro _; rfl
            | cons q w ih => intro hq; rw [List.map_cons, ih fun x hx => hq x (List.mem_cons_of_mem _ hx), if_neg (hq q List.mem_cons_self)]
          exact this w hn
        simp only [wsum, List.map_cons, List.sum_cons, e, if_true, this, Option.getD_some]
        omega
      · simp only [e, if_false] at h ⊢
        have ih := ih hk.2 h
        simp only [wsum, List.map_cons, List.sum_cons, e, if_false] at ih ⊢
        omega
  · rw [if_neg h]
    have hn' : wget w k = none := by cases e : wget w k with
      | none => rfl
      | some _ => rw [e] at h; exact absurd rfl h
    rw [hn', wsum_app]
    simp [wsum, h0]
/-! sorted -/
theorem insI_prm (x : Int) : ∀ xs : List Int, (insI x xs).Perm (x :: xs)
  | [] => .refl _
  | y :: ys => by
    unfold insI
    split
    · exact .refl _
    · exact ((insI_prm x ys).cons y).trans (.swap x y ys)
theorem sortI_prm : ∀ xs : List Int, (sortI xs).Perm xs
  | [] => .refl _
  | x :: xs => (insI_prm x (sortI xs)).trans ((sortI_prm xs).cons x)
def ascOr : List Int → Prop
  | [] => True
  | x :: xs => (∀ y ∈ xs, x ≤ y) ∧ ascOr xs
theorem insI_ascO {x : Int} : ∀ {xs : List Int}, ascOr xs → ascOr (insI x xs)
  | [], _ => ⟨by simp, trivial⟩
  | y :: ys, h => by
    unfold insI
    split
    · rename_i hl
      exact ⟨fun z hz => by
        rcases List.mem_cons.mp hz with rfl | hz
        · exact hl
        · have := h.1 z hz; omega, h⟩
    · rename_i hl
      refine ⟨fun z hz => ?_, insI_ascO h.2⟩
      rcases List.mem_cons.mp ((insI_prm x ys).mem_iff.mp hz) with rfl | hz
      · omega
      · exact h.1 z hz
theorem sortI_ascO : ∀ xs : List Int, ascOr (sortI xs)
  | [] => trivial
  | x :: xs => insI_ascO (sortI_ascO xs)
end Rf

namespace K25
open PySem PySem.Spec PyProof.Rows L2 Rf
def top (i : Nat) : Stmt := PySem.Challenge.pw_provenpicks_k25_whole_plain_rows_at_all.main.body.getD i (.Pass ⟨0, 0, 0, 0⟩)
def bl_weights_by_0 : List S := [.asg (.nm 5) (.bi .abs false [(.var 4)]),
    .asg (.sub (.var 2) (.var 5)) (.bin .add false (.mt .get2 false (.var 2) [(.var 5), (.cst (.int 0))]) (.ife (.cmp .gt (.var 4) (.cst (.int 0))) (.var 3) (.neg (.var 3)))),
    .asg (.nm 1) (.ife (.cmp .gt (.var 4) (.cst (.int 0))) (.var 1) (.bin .sub false (.var 1) (.var 3)))]
def b_weights_by : List S := [.asg (.nm 2) (.dct true [] []),
    .forS (.tup [3, 4]) (.val (.var 0)) bl_weights_by_0,
    .ret (.tup [(.var 2), (.var 1)])]
def df_weights_by : Df := ⟨⟨("weights_by", none), "weights_by", "weights_by", defArgs (top 5), defBody (top 5), defScope (top 5), [], []⟩, [("terms" : Str), ("least" : Str)], [("terms" : Str), ("least" : Str), ("found" : Str), ("weight" : Str), ("literal" : Str), ("number" : Str)], ⟨2, 6, b_weights_by⟩⟩
def bl_gathered_0 : List S := [.asg (.nm 5) (.sub (.var 4) (.var 3)),
    .ife (.cmp .gt (.var 5) (.cst (.int 0))) [.expr (.mt .append false (.var 2) [(.tup [(.var 5), (.var 3)])])] [],
    .ife (.cmp .lt (.var 5) (.cst (.int 0))) [.expr (.mt .append false (.var 2) [(.tup [(.neg (.var 5)), (.neg (.var 3))])]),
    .asg (.nm 1) (.bin .sub false (.var 1) (.var 5))] []]
def b_gathered : List S := [.asg (.tup [(.nm 4), (.nm 1)]) (.call false 0 [(.var 0), (.var 1)]),
    .asg (.nm 2) (.lst true []),
    .forS (.nm 3) (.val (.bi .sorted false [(.var 4)])) bl_gathered_0,
    .ret (.tup [(.bi .tuple false [(.var 2)]), (.var 1)])]
def df_gathered : Df := ⟨⟨("gathered", none), "gathered", "gathered", defArgs (top 6), defBody (top 6), defScope (top 6), [], []⟩, [("terms" : Str), ("least" : Str)], [("terms" : Str), ("least" : Str), ("found" : Str), ("number" : Str), ("weights" : Str), ("weight" : Str)], ⟨2, 6, b_gathered⟩⟩
def b_plain_by : List S := [.asg (.tup [(.nm 2), (.nm 1)]) (.call true 1 [(.var 0), (.var 1)]),
    .ret (.tup [(.var 2), (.bi .max2 false [(.var 1), (.cst (.int 0))])])]
def df_plain_by : Df := ⟨⟨("plain_by", none), "plain_by", "plain_by", defArgs (top 7), defBody (top 7), defScope (top 7), [], []⟩, [("terms" : Str), ("least" : Str)], [("terms" : Str), ("least" : Str), ("found" : Str)], ⟨2, 3, b_plain_by⟩⟩
def b_numbers_in : List S := [.ret (.comp false [1, 2] (.tup [1, 2]) (.val (.sub (.var 0) (.cst (.int 0)))) none (.bi .abs false [(.var 2)]))]
def df_numbers_in : Df := ⟨⟨("numbers_in", none), "numbers_in", "numbers_in", defArgs (top 8), defBody (top 8), defScope (top 8), [], []⟩, [("row" : Str)], [("row" : Str), ("_" : Str), ("literal" : Str)], ⟨1, 3, b_numbers_in⟩⟩
def b_total_of : List S := [.ret (.bi .sum false [(.comp false [1, 2] (.tup [1, 2]) (.val (.sub (.var 0) (.cst (.int 0)))) none (.var 1))])]
def df_total_of : Df := ⟨⟨("total_of", none), "total_of", "total_of", defArgs (top 9), defBody (top 9), defScope (top 9), [], []⟩, [("row" : Str)], [("row" : Str), ("weight" : Str), ("_" : Str)], ⟨1, 3, b_total_of⟩⟩
def b_is_contradiction_by : List S := [.ret (.cmp .lt (.call true 4 [(.var 0)]) (.sub (.var 0) (.cst (.int 1))))]
def df_is_contradiction_by : Df := ⟨⟨("is_contradiction_by", none), "is_contradiction_by", "is_contradiction_by", defArgs (top 10), defBody (top 10), defScope (top 10), [], []⟩, [("row" : Str)], [("row" : Str)], ⟨1, 1, b_is_contradiction_by⟩⟩
def b_is_true_by : List S := [.ret (.cmp .eq (.sub (.var 1) (.bin .sub false (.bi .abs false [(.var 0)]) (.cst (.int 1)))) (.cmp .gt (.var 0) (.cst (.int 0))))]
def df_is_true_by : Df := ⟨⟨("is_true_by", none), "is_true_by", "is_true_by", defArgs (top 11), defBody (top 11), defScope (top 11), [], []⟩, [("literal" : Str), ("assignment" : Str)], [("literal" : Str), ("assignment" : Str)], ⟨2, 2, b_is_true_by⟩⟩
def b_meets_by : List S := [.ret (.cmp .ge (.bi .sum false [(.comp false [2, 3] (.tup [2, 3]) (.val (.sub (.var 0) (.cst (.int 0)))) (some (.call true 6 [(.var 3), (.var 1)])) (.var 2))]) (.sub (.var 0) (.cst (.int 1))))]
def df_meets_by : Df := ⟨⟨("meets_by", none), "meets_by", "meets_by", defArgs (top 12), defBody (top 12), defScope (top 12), [], []⟩, [("row" : Str), ("assignment" : Str)], [("row" : Str), ("assignment" : Str), ("weight" : Str), ("literal" : Str)], ⟨2, 4, b_meets_by⟩⟩
def b_greatest_number : List S := [.ret (.maxd (.comp2 false [1, 2] [2] (.nm 1) (.val (.var 0)) none (.nm 2) (.val (.call true 3 [(.var 1)])) none (.var 2)) 0)]
def df_greatest_number : Df := ⟨⟨("greatest_number", none), "greatest_number", "greatest_number", defArgs (top 13), defBody (top 13), defScope (top 13), [], []⟩, [("rows" : Str)], [("rows" : Str), ("row" : Str), ("number" : Str)], ⟨1, 3, b_greatest_number⟩⟩
def b_is_number : List S := [.ret (.land (.isi [.int] (.var 0)) (.lnot (.isi [.bool] (.var 0))))]
def df_is_number : Df := ⟨⟨("is_number", none), "is_number", "is_number", defArgs (top 15), defBody (top 15), defScope (top 15), [], []⟩, [("value" : Str)], [("value" : Str)], ⟨1, 1, b_is_number⟩⟩
def b_is_from : List S := [.ret (.land (.call true 9 [(.var 0)]) (.cmp .ge (.var 0) (.var 1)))]
def df_is_from : Df := ⟨⟨("is_from", none), "is_from", "is_from", defArgs (top 16), defBody (top 16), defScope (top 16), [], []⟩, [("value" : Str), ("least" : Str)], [("value" : Str), ("least" : Str)], ⟨2, 2, b_is_from⟩⟩
def b_is_tuple_of : List S := [.ret (.land (.isi [.tuple] (.var 0)) (.cmp .eq (.bi .len false [(.var 0)]) (.var 1)))]
def df_is_tuple_of : Df := ⟨⟨("is_tuple_of", none), "is_tuple_of", "is_tuple_of", defArgs (top 17), defBody (top 17), defScope (top 17), [], []⟩, [("value" : Str), ("many" : Str)], [("value" : Str), ("many" : Str)], ⟨2, 2, b_is_tuple_of⟩⟩
def b_are_ascending : List S := [.ret (.bi .all false [(.comp false [1, 2] (.tup [1, 2]) (.zip (.var 0) (.slc false (.var 0) (some (.cst (.int 1))) none)) none (.cmp .lt (.var 1) (.var 2)))])]
def df_are_ascending : Df := ⟨⟨("are_ascending", none), "are_ascending", "are_ascending", defArgs (top 18), defBody (top 18), defScope (top 18), [], []⟩, [("values" : Str)], [("values" : Str), ("one" : Str), ("other" : Str)], ⟨1, 3, b_are_ascending⟩⟩
def b_is_literal : List S := [.ret (.land (.call true 9 [(.var 0)]) (.cmp .ne (.var 0) (.cst (.int 0))))]
def df_is_literal : Df := ⟨⟨("is_literal", none), "is_literal", "is_literal", defArgs (top 20), defBody (top 20), defScope (top 20), [], []⟩, [("value" : Str)], [("value" : Str)], ⟨1, 1, b_is_literal⟩⟩
def b_are_any_terms : List S := [.ret (.land (.isi [.tuple] (.var 0)) (.bi .all false [(.comp false [1] (.nm 1) (.val (.var 0)) none (.land (.call true 11 [(.var 1), (.cst (.int 2))]) (.land (.call true 9 [(.sub (.var 1) (.cst (.int 0)))]) (.call true 13 [(.sub (.var 1) (.cst (.int 1)))]))))]))]
def df_are_any_terms : Df := ⟨⟨("are_any_terms", none), "are_any_terms", "are_any_terms", defArgs (top 21), defBody (top 21), defScope (top 21), [], []⟩, [("value" : Str)], [("value" : Str), ("term" : Str)], ⟨1, 2, b_are_any_terms⟩⟩
def b_is_row : List S := [.ife (.lor (.lnot (.call true 11 [(.var 0), (.cst (.int 2))])) (.lor (.lnot (.call true 14 [(.sub (.var 0) (.cst (.int 0)))])) (.lnot (.call true 10 [(.sub (.var 0) (.cst (.int 1))), (.cst (.int 0))])))) [.ret (.cst (.bl false))] [],
    .ret (.land (.bi .all false [(.comp false [1, 2] (.tup [1, 2]) (.val (.sub (.var 0) (.cst (.int 0)))) none (.cmp .gt (.var 1) (.cst (.int 0))))]) (.call true 12 [(.call true 3 [(.var 0)])]))]
def df_is_row : Df := ⟨⟨("is_row", none), "is_row", "is_row", defArgs (top 22), defBody (top 22), defScope (top 22), [], []⟩, [("value" : Str)], [("value" : Str), ("weight" : Str), ("_" : Str)], ⟨1, 3, b_is_row⟩⟩
def b_check_terms : List S := [.ife (.lor (.lnot (.call true 14 [(.var 0)])) (.lnot (.call true 9 [(.var 1)]))) [.never] []]
def df_check_terms : Df := ⟨⟨("check_terms", none), "check_terms", "check_terms", defArgs (top 23), defBody (top 23), defScope (top 23), [], []⟩, [("terms" : Str), ("least" : Str)], [("terms" : Str), ("least" : Str)], ⟨2, 2, b_check_terms⟩⟩
def b_check_row : List S := [.ife (.lnot (.call true 15 [(.var 0)])) [.never] []]
def df_check_row : Df := ⟨⟨("check_row", none), "check_row", "check_row", defArgs (top 24), defBody (top 24), defScope (top 24), [], []⟩, [("value" : Str)], [("value" : Str)], ⟨1, 1, b_check_row⟩⟩
def b_are_truths : List S := [.ret (.land (.isi [.tuple] (.var 0)) (.bi .all false [(.comp false [1] (.nm 1) (.val (.var 0)) none (.isi [.bool] (.var 1)))]))]
def df_are_truths : Df := ⟨⟨("are_truths", none), "are_truths", "are_truths", defArgs (top 25), defBody (top 25), defScope (top 25), [], []⟩, [("value" : Str)], [("value" : Str), ("each" : Str)], ⟨1, 2, b_are_truths⟩⟩
def b_check_assignment_for : List S := [.ife (.lor (.lnot (.call true 18 [(.var 0)])) (.cmp .lt (.bi .len false [(.var 0)]) (.call true 8 [(.lst false [(.var 1)])]))) [.never] []]
def df_check_assignment_for : Df := ⟨⟨("check_assignment_for", none), "check_assignment_for", "check_assignment_for", defArgs (top 26), defBody (top 26), defScope (top 26), [], []⟩, [("value" : Str), ("row" : Str)], [("value" : Str), ("row" : Str)], ⟨2, 2, b_check_assignment_for⟩⟩
def b_plain_row : List S := [.expr (.call true 16 [(.var 0), (.var 1)]),
    .ret (.call true 2 [(.var 0), (.var 1)])]
def df_plain_row : Df := ⟨⟨("plain_row", none), "plain_row", "plain_row", defArgs (top 28), defBody (top 28), defScope (top 28), [], []⟩, [("terms" : Str), ("least" : Str)], [("terms" : Str), ("least" : Str)], ⟨2, 2, b_plain_row⟩⟩
def b_is_contradiction : List S := [.expr (.call true 17 [(.var 0)]),
    .ret (.call true 5 [(.var 0)])]
def df_is_contradiction : Df := ⟨⟨("is_contradiction", none), "is_contradiction", "is_contradiction", defArgs (top 29), defBody (top 29), defScope (top 29), [], []⟩, [("row" : Str)], [("row" : Str)], ⟨1, 1, b_is_contradiction⟩⟩
def b_meets : List S := [.expr (.call true 17 [(.var 0)]),
    .expr (.call true 19 [(.var 1), (.var 0)]),
    .ret (.call true 7 [(.var 0), (.var 1)])]
def df_meets : Df := ⟨⟨("meets", none), "meets", "meets", defArgs (top 30), defBody (top 30), defScope (top 30), [], []⟩, [("row" : Str), ("assignment" : Str)], [("row" : Str), ("assignment" : Str)], ⟨2, 2, b_meets⟩⟩
def bl__law_pool_0 : List S := [.asg (.nm 3) (.bin .mod false (.bi .int false [(.bin .add false (.bin .add false (.bin .mul false (.var 3) (.cst (.int 48111))) (.bin .mod false (.bi .int false [(.var 4)]) (.cst (.int 2147483587)))) (.cst (.int 37)))]) (.cst (.int 2147483647)))]
def b__law_pool : List S := [.asg (.nm 2) (.ife (.cmp .lt (.var 1) (.bi .len false [(.var 0)])) (.bi .int false [(.sub (.var 0) (.var 1))]) (.bin .add false (.bin .mul false (.cst (.int 6037)) (.var 1)) (.cst (.int 169)))),
    .asg (.nm 3) (.bin .add false (.cst (.int 81529)) (.bin .mul false (.cst (.int 5837)) (.var 1))),
    .forS (.nm 4) (.val (.slc false (.var 0) none (some (.cst (.int 12))))) bl__law_pool_0,
    .asg (.nm 3) (.bin .mod false (.bi .int false [(.bin .add false (.bin .add false (.bin .mul false (.var 3) (.cst (.int 67))) (.bin .mul false (.bin .mod false (.bi .int false [(.var 2)]) (.cst (.int 2147483587))) (.cst (.int 27449)))) (.cst (.int 11)))]) (.cst (.int 2147483647))),
    .ret (.lst true [(.ife (.lor (.cmp .lt (.var 2) (.cst (.int 0))) (.cmp .ge (.var 2) (.bin .pow false (.cst (.int 10)) (.cst (.int 15))))) (.bin .mod false (.bi .int false [(.bi .abs false [(.var 2)])]) (.bin .pow false (.cst (.int 10)) (.cst (.int 60)))) (.cst (.int 0))), (.var 3), (.cst (.int 0))])]
def df__law_pool : Df := ⟨⟨("_law_pool", none), "_law_pool", "_law_pool", defArgs (top 32), defBody (top 32), defScope (top 32), [], []⟩, [("script" : Str), ("lap" : Str)], [("script" : Str), ("lap" : Str), ("cell" : Str), ("stirred" : Str), ("each" : Str)], ⟨2, 5, b__law_pool⟩⟩
def b__law_below : List S := [.ife (.cmp .gt (.sub (.var 0) (.cst (.int 0))) (.cst (.int 0))) [.asg (.tup [(.sub (.var 0) (.cst (.int 0))), (.nm 3)]) (.bi .divmod false [(.sub (.var 0) (.cst (.int 0))), (.var 1)]),
    .ret (.var 3)] [],
    .asg (.sub (.var 0) (.cst (.int 2))) (.bin .add false (.sub (.var 0) (.cst (.int 2))) (.cst (.int 1))),
    .asg (.nm 2) (.bin .mod false (.bi .int false [(.bin .add false (.bin .add false (.bin .mul false (.sub (.var 0) (.cst (.int 1))) (.cst (.int 39941))) (.bin .mul false (.cst (.int 7285)) (.sub (.var 0) (.cst (.int 2))))) (.cst (.int 71)))]) (.cst (.int 2147483563))),
    .asg (.sub (.var 0) (.cst (.int 1))) (.bin .mod false (.bi .int false [(.bin .add false (.bin .mul false (.var 2) (.bin .add false (.bin .mod false (.bi .int false [(.var 2)]) (.cst (.int 3989))) (.cst (.int 18471)))) (.sub (.var 0) (.cst (.int 2))))]) (.cst (.int 2147483563))),
    .ret (.bin .mod false (.bi .int false [(.bin .fdiv false (.sub (.var 0) (.cst (.int 1))) (.cst (.int 359)))]) (.var 1))]
def df__law_below : Df := ⟨⟨("_law_below", none), "_law_below", "_law_below", defArgs (top 33), defBody (top 33), defScope (top 33), [], []⟩, [("pool" : Str), ("many" : Str)], [("pool" : Str), ("many" : Str), ("stirred" : Str), ("figure" : Str)], ⟨2, 4, b__law_below⟩⟩
def b__law_one : List S := [.ret (.sub (.var 1) (.call true 24 [(.var 0), (.bi .len false [(.var 1)])]))]
def df__law_one : Df := ⟨⟨("_law_one", none), "_law_one", "_law_one", defArgs (top 34), defBody (top 34), defScope (top 34), [], []⟩, [("pool" : Str), ("some" : Str)], [("pool" : Str), ("some" : Str)], ⟨2, 2, b__law_one⟩⟩
def bl__law_unsigned_0 : List S := [.asg (.sub (.var 2) (.bi .abs false [(.var 4)])) (.bin .add false (.mt .get2 false (.var 2) [(.bi .abs false [(.var 4)]), (.cst (.int 0))]) (.ife (.cmp .gt (.var 4) (.cst (.int 0))) (.var 3) (.bin .sub false (.cst (.int 0)) (.var 3)))),
    .asg (.nm 1) (.bin .sub false (.var 1) (.ife (.cmp .lt (.var 4) (.cst (.int 0))) (.var 3) (.cst (.int 0))))]
def b__law_unsigned : List S := [.asg (.nm 2) (.dct true [] []),
    .forS (.tup [3, 4]) (.val (.var 0)) bl__law_unsigned_0,
    .freeze 2,
    .asg (.nm 1) (.bin .add false (.var 1) (.bi .sum false [(.comp false [5] (.nm 5) (.keys 2) (some (.cmp .lt (.sub (.var 2) (.var 5)) (.cst (.int 0)))) (.bin .sub false (.cst (.int 0)) (.sub (.var 2) (.var 5))))])),
    .ret (.tup [(.bi .tuple false [(.comp false [5] (.nm 5) (.val (.bi .sorted false [(.var 2)])) (some (.cmp .ne (.sub (.var 2) (.var 5)) (.cst (.int 0)))) (.tup [(.bi .abs false [(.sub (.var 2) (.var 5))]), (.ife (.cmp .gt (.sub (.var 2) (.var 5)) (.cst (.int 0))) (.var 5) (.bin .sub false (.cst (.int 0)) (.var 5)))]))]), (.var 1)])]
def df__law_unsigned : Df := ⟨⟨("_law_unsigned", none), "_law_unsigned", "_law_unsigned", defArgs (top 35), defBody (top 35), defScope (top 35), [], []⟩, [("terms" : Str), ("least" : Str)], [("terms" : Str), ("least" : Str), ("found" : Str), ("weight" : Str), ("literal" : Str), ("number" : Str)], ⟨2, 6, b__law_unsigned⟩⟩
def b__law_row : List S := [.asg (.tup [(.nm 2), (.nm 3)]) (.call true 26 [(.var 0), (.var 1)]),
    .ret (.tup [(.var 2), (.bi .max2 false [(.cst (.int 0)), (.var 3)])])]
def df__law_row : Df := ⟨⟨("_law_row", none), "_law_row", "_law_row", defArgs (top 36), defBody (top 36), defScope (top 36), [], []⟩, [("terms" : Str), ("least" : Str)], [("terms" : Str), ("least" : Str), ("found" : Str), ("number" : Str)], ⟨2, 4, b__law_row⟩⟩
def b__law_same : List S := [.ife (.cmp .isN (.var 1) (.cst (.non))) [.ret (.cmp .isN (.var 0) (.cst (.non)))] [],
    .ife (.isi [.bool] (.var 1)) [.ret (.land (.isi [.bool] (.var 0)) (.cmp .eq (.var 0) (.var 1)))] [],
    .ife (.isi [.int] (.var 1)) [.ret (.land (.isi [.int] (.var 0)) (.land (.lnot (.isi [.bool] (.var 0))) (.cmp .eq (.var 0) (.var 1))))] [],
    .ife (.isi [.str] (.var 1)) [.ret (.land (.isi [.str] (.var 0)) (.cmp .eq (.var 0) (.var 1)))] [],
    .ife (.isi [.dict] (.var 1)) [.ife (.lor (.lnot (.isi [.dict] (.var 0))) (.cmp .ne (.bi .len false [(.var 0)]) (.bi .len false [(.var 1)]))) [.ret (.cst (.bl false))] [],
    .ret (.bi .all false [(.comp false [2] (.nm 2) (.val (.var 1)) none (.land (.cmp .isIn (.var 2) (.var 0)) (.call true 28 [(.sub (.var 0) (.var 2)), (.sub (.var 1) (.var 2))])))])] [],
    .ife (.lor (.cmp .ne (.isi [.tuple] (.var 1)) (.isi [.tuple] (.var 0))) (.cmp .ne (.isi [.list] (.var 1)) (.isi [.list] (.var 0)))) [.ret (.cst (.bl false))] [],
    .ret (.land (.cmp .eq (.bi .len false [(.var 0)]) (.bi .len false [(.var 1)])) (.bi .all false [(.comp false [3, 4] (.tup [3, 4]) (.zip (.var 0) (.var 1)) none (.call true 28 [(.var 3), (.var 4)]))]))]
def df__law_same : Df := ⟨⟨("_law_same", none), "_law_same", "_law_same", defArgs (top 40), defBody (top 40), defScope (top 40), [], []⟩, [("told" : Str), ("due" : Str)], [("told" : Str), ("due" : Str), ("key" : Str), ("x" : Str), ("y" : Str)], ⟨2, 5, b__law_same⟩⟩
def bl__law_assignments_0 : List S := [.asg (.nm 1) (.call true 30 [(.var 1)])]
def b__law_assignments : List S := [.asg (.nm 1) (.lst false [(.tup [])]),
    .forS (.nm 2) (.rng1 (.var 0)) bl__law_assignments_0,
    .ret (.var 1)]
def df__law_assignments : Df := ⟨⟨("_law_assignments", none), "_law_assignments", "_law_assignments", defArgs (top 41), defBody (top 41), defScope (top 41), [], []⟩, [("many" : Str)], [("many" : Str), ("found" : Str), ("lap" : Str)], ⟨1, 3, b__law_assignments⟩⟩
def b__law_doubled : List S := [.ret (.bin .add false (.comp false [1] (.nm 1) (.val (.var 0)) none (.bin .add false (.var 1) (.tup [(.cst (.bl false))]))) (.comp false [1] (.nm 1) (.val (.var 0)) none (.bin .add false (.var 1) (.tup [(.cst (.bl true))]))))]
def df__law_doubled : Df := ⟨⟨("_law_doubled", none), "_law_doubled", "_law_doubled", defArgs (top 42), defBody (top 42), defScope (top 42), [], []⟩, [("rows" : Str)], [("rows" : Str), ("row" : Str)], ⟨1, 2, b__law_doubled⟩⟩
def bl__law_right_0 : List S := [.asg (.nm 9) (.bin .add false (.cst (.int 1)) (.call true 24 [(.var 0), (.cst (.int 5))])),
    .expr (.mt .append false (.var 3) [(.tup [(.bin .sub false (.call true 24 [(.var 0), (.bin .add false (.bin .mul false (.cst (.int 2)) (.var 2)) (.cst (.int 1)))]) (.var 2)), (.ife (.cmp .eq (.call true 24 [(.var 0), (.cst (.int 2))]) (.cst (.int 0))) (.var 9) (.bin .sub false (.cst (.int 0)) (.var 9)))])])]
def bl__law_right_1 : List S := [.asg (.nm 10) (.cmp .ge (.bi .sum false [(.comp false [11, 12] (.tup [11, 12]) (.val (.var 3)) (some (.cmp .eq (.sub (.var 8) (.bin .sub false (.bi .abs false [(.var 12)]) (.cst (.int 1)))) (.cmp .gt (.var 12) (.cst (.int 0))))) (.var 11))]) (.var 5)),
    .ife (.lnot (.call true 28 [(.ife (.cmp .eq (.var 1) (.cst (.int 1))) (.callk true 22 [1, 0] [] [(.var 8), (.var 6)]) (.call true 22 [(.var 6), (.var 8)])), (.var 10)])) [.ret (.cst (.bl false))] [],
    .asg (.nm 7) (.bin .add false (.var 7) (.ife (.var 10) (.cst (.int 1)) (.cst (.int 0))))]
def bl__law_right_2 : List S := [.asg (.nm 2) (.call true 25 [(.var 0), (.tup [(.cst (.int 2)), (.cst (.int 5)), (.bin .pow false (.cst (.int 10)) (.cst (.int 12)))])]),
    .asg (.nm 3) (.lst true []),
    .forS (.nm 4) (.rng1 (.call true 24 [(.var 0), (.cst (.int 7))])) bl__law_right_0,
    .asg (.nm 5) (.bin .sub false (.call true 24 [(.var 0), (.bin .add false (.bin .mul false (.cst (.int 4)) (.var 2)) (.cst (.int 1)))]) (.bin .mul false (.cst (.int 2)) (.var 2))),
    .freeze 3,
    .asg (.nm 6) (.ife (.cmp .eq (.var 1) (.cst (.int 1))) (.callk true 20 [1, 0] [] [(.var 5), (.bi .tuple false [(.var 3)])]) (.call true 20 [(.bi .tuple false [(.var 3)]), (.var 5)])),
    .ife (.lnot (.call true 28 [(.var 6), (.call true 27 [(.var 3), (.var 5)])])) [.ret (.cst (.bl false))] [],
    .asg (.nm 7) (.cst (.int 0)),
    .forS (.nm 8) (.val (.call true 29 [(.cst (.int 5))])) bl__law_right_1,
    .ife (.lnot (.call true 28 [(.ife (.cmp .eq (.var 1) (.cst (.int 1))) (.callk true 21 [0] [] [(.var 6)]) (.call true 21 [(.var 6)])), (.cmp .eq (.var 7) (.cst (.int 0)))])) [.ret (.cst (.bl false))] []]
def b__law_right : List S := [.forS (.nm 1) (.rng1 (.cst (.int 30))) bl__law_right_2,
    .ret (.call true 28 [(.tup [(.call true 20 [(.tup [(.tup [(.cst (.int 2)), (.cst (.int 1))]), (.tup [(.neg (.cst (.int 3))), (.cst (.int 2))])]), (.cst (.int 1))]), (.call true 20 [(.tup [(.tup [(.cst (.int 1)), (.cst (.int 4))]), (.tup [(.cst (.int 1)), (.neg (.cst (.int 4)))])]), (.cst (.int 1))]), (.call true 21 [(.tup [(.tup []), (.cst (.int 1))])])]), (.tup [(.tup [(.tup [(.tup [(.cst (.int 2)), (.cst (.int 1))]), (.tup [(.cst (.int 3)), (.neg (.cst (.int 2)))])]), (.cst (.int 4))]), (.tup [(.tup []), (.cst (.int 0))]), (.cst (.bl true))])])]
def df__law_right : Df := ⟨⟨("_law_right", none), "_law_right", "_law_right", defArgs (top 43), defBody (top 43), defScope (top 43), [], []⟩, [("pool" : Str)], [("pool" : Str), ("lap" : Str), ("high" : Str), ("terms" : Str), ("turn" : Str), ("least" : Str), ("told" : Str), ("met" : Str), ("row" : Str), ("number" : Str), ("due" : Str), ("weight" : Str), ("literal" : Str)], ⟨1, 13, b__law_right⟩⟩
def b_law : List S := [.ret (.bi .all false [(.comp false [1] (.nm 1) (.rng1 (.bi .max2 false [(.cst (.int 1)), (.bi .min2 false [(.bi .len false [(.var 0)]), (.cst (.int 2))])])) none (.call true 31 [(.call false 23 [(.var 0), (.var 1)])]))])]
def df_law : Df := ⟨⟨("law", none), "law", "law", defArgs (top 44), defBody (top 44), defScope (top 44), [], []⟩, [("script" : Str)], [("script" : Str), ("lap" : Str)], ⟨1, 2, b_law⟩⟩
def dfs : List Df := [df_weights_by, df_gathered, df_plain_by, df_numbers_in, df_total_of, df_is_contradiction_by, df_is_true_by, df_meets_by, df_greatest_number, df_is_number, df_is_from, df_is_tuple_of, df_are_ascending, df_is_literal, df_are_any_terms, df_is_row, df_check_terms, df_check_row, df_are_truths, df_check_assignment_for, df_plain_row, df_is_contradiction, df_meets, df__law_pool, df__law_below, df__law_one, df__law_unsigned, df__law_row, df__law_same, df__law_assignments, df__law_doubled, df__law_right, df_law]
def kbs : List (Nat × Nat × List Nat × List Str) := [(20, 0, [1, 0], [("least" : Str), ("terms" : Str)]), (22, 0, [1, 0], [("assignment" : Str), ("row" : Str)]), (21, 0, [0], [("row" : Str)])]
def consts : List (String × D) := []
abbrev T : Tx := txOf dfs consts kbs
theorem ok_weights_by : DefOk T df_weights_by.d df_weights_by.ps df_weights_by.N df_weights_by.fd := ⟨fun _ _ _ _ _ _ us hl => match us, hl with | [_, _], _ => rfl, ⟨rfl, rfl, rfl, by decide +kernel, rfl, by decide +kernel, by decide +kernel⟩, rfl, rfl, by decide +kernel, rfl, rfl, rfl⟩
theorem ok_gathered : DefOk T df_gathered.d df_gathered.ps df_gathered.N df_gathered.fd := ⟨fun _ _ _ _ _ _ us hl => match us, hl with | [_, _], _ => rfl, ⟨rfl, rfl, rfl, by decide +kernel, rfl, by decide +kernel, by decide +kernel⟩, rfl, rfl, by decide +kernel, rfl, rfl, rfl⟩
theorem ok_plain_by : DefOk T df_plain_by.d df_plain_by.ps df_plain_by.N df_plain_by.fd := ⟨fun _ _ _ _ _ _ us hl => match us, hl with | [_, _], _ => rfl, ⟨rfl, rfl, rfl, by decide +kernel, rfl, by decide +kernel, by decide +kernel⟩, rfl, rfl, by decide +kernel, rfl, rfl, rfl⟩
theorem ok_numbers_in : DefOk T df_numbers_in.d df_numbers_in.ps df_numbers_in.N df_numbers_in.fd := ⟨fun _ _ _ _ _ _ us hl => match us, hl with | [_], _ => rfl, ⟨rfl, rfl, rfl, by decide +kernel, rfl, by decide +kernel, by decide +kernel⟩, rfl, rfl, by decide +kernel, rfl, rfl, rfl⟩
theorem ok_total_of : DefOk T df_total_of.d df_total_of.ps df_total_of.N df_total_of.fd := ⟨fun _ _ _ _ _ _ us hl => match us, hl with | [_], _ => rfl, ⟨rfl, rfl, rfl, by decide +kernel, rfl, by decide +kernel, by decide +kernel⟩, rfl, rfl, by decide +kernel, rfl, rfl, rfl⟩
theorem ok_is_contradiction_by : DefOk T df_is_contradiction_by.d df_is_contradiction_by.ps df_is_contradiction_by.N df_is_contradiction_by.fd := ⟨fun _ _ _ _ _ _ us hl => match us, hl with | [_], _ => rfl, ⟨rfl, rfl, rfl, by decide +kernel, rfl, by decide +kernel, by decide +kernel⟩, rfl, rfl, by decide +kernel, rfl, rfl, rfl⟩
theorem ok_is_true_by : DefOk T df_is_true_by.d df_is_true_by.ps df_is_true_by.N df_is_true_by.fd := ⟨fun _ _ _ _ _ _ us hl => match us, hl with | [_, _], _ => rfl, ⟨rfl, rfl, rfl, by decide +kernel, rfl, by decide +kernel, by decide +kernel⟩, rfl, rfl, by decide +kernel, rfl, rfl, rfl⟩
theorem ok_meets_by : DefOk T df_meets_by.d df_meets_by.ps df_meets_by.N df_meets_by.fd := ⟨fun _ _ _ _ _ _ us hl => match us, hl with | [_, _], _ => rfl, ⟨rfl, rfl, rfl, by decide +kernel, rfl, by decide +kernel, by decide +kernel⟩, rfl, rfl, by decide +kernel, rfl, rfl, rfl⟩
theorem ok_greatest_number : DefOk T df_greatest_number.d df_greatest_number.ps df_greatest_number.N df_greatest_number.fd := ⟨fun _ _ _ _ _ _ us hl => match us, hl with | [_], _ => rfl, ⟨rfl, rfl, rfl, by decide +kernel, rfl, by decide +kernel, by decide +kernel⟩, rfl, rfl, by decide +kernel, rfl, rfl, rfl⟩
theorem ok_is_number : DefOk T df_is_number.d df_is_number.ps df_is_number.N df_is_number.fd := ⟨fun _ _ _ _ _ _ us hl => match us, hl with | [_], _ => rfl, ⟨rfl, rfl, rfl, by decide +kernel, rfl, by decide +kernel, by decide +kernel⟩, rfl, rfl, by decide +kernel, rfl, rfl, rfl⟩
theorem ok_is_from : DefOk T df_is_from.d df_is_from.ps df_is_from.N df_is_from.fd := ⟨fun _ _ _ _ _ _ us hl => match us, hl with | [_, _], _ => rfl, ⟨rfl, rfl, rfl, by decide +kernel, rfl, by decide +kernel, by decide +kernel⟩, rfl, rfl, by decide +kernel, rfl, rfl, rfl⟩
theorem ok_is_tuple_of : DefOk T df_is_tuple_of.d df_is_tuple_of.ps df_is_tuple_of.N df_is_tuple_of.fd := ⟨fun _ _ _ _ _ _ us hl => match us, hl with | [_, _], _ => rfl, ⟨rfl, rfl, rfl, by decide +kernel, rfl, by decide +kernel, by decide +kernel⟩, rfl, rfl, by decide +kernel, rfl, rfl, rfl⟩
theorem ok_are_ascending : DefOk T df_are_ascending.d df_are_ascending.ps df_are_ascending.N df_are_ascending.fd := ⟨fun _ _ _ _ _ _ us hl => match us, hl with | [_], _ => rfl, ⟨rfl, rfl, rfl, by decide +kernel, rfl, by decide +kernel, by decide +kernel⟩, rfl, rfl, by decide +kernel, rfl, rfl, rfl⟩
theorem ok_is_literal : DefOk T df_is_literal.d df_is_literal.ps df_is_literal.N df_is_literal.fd := ⟨fun _ _ _ _ _ _ us hl => match us, hl with | [_], _ => rfl, ⟨rfl, rfl, rfl, by decide +kernel, rfl, by decide +kernel, by decide +kernel⟩, rfl, rfl, by decide +kernel, rfl, rfl, rfl⟩
theorem ok_are_any_terms : DefOk T df_are_any_terms.d df_are_any_terms.ps df_are_any_terms.N df_are_any_terms.fd := ⟨fun _ _ _ _ _ _ us hl => match us, hl with | [_], _ => rfl, ⟨rfl, rfl, rfl, by decide +kernel, rfl, by decide +kernel, by decide +kernel⟩, rfl, rfl, by decide +kernel, rfl, rfl, rfl⟩
theorem ok_is_row : DefOk T df_is_row.d df_is_row.ps df_is_row.N df_is_row.fd := ⟨fun _ _ _ _ _ _ us hl => match us, hl with | [_], _ => rfl, ⟨rfl, rfl, rfl, by decide +kernel, rfl, by decide +kernel, by decide +kernel⟩, rfl, rfl, by decide +kernel, rfl, rfl, rfl⟩
theorem ok_check_terms : DefOk T df_check_terms.d df_check_terms.ps df_check_terms.N df_check_terms.fd := ⟨fun _ _ _ _ _ _ us hl => match us, hl with | [_, _], _ => rfl, ⟨rfl, rfl, rfl, by decide +kernel, rfl, by decide +kernel, by decide +kernel⟩, rfl, rfl, by decide +kernel, rfl, rfl, rfl⟩
theorem ok_check_row : DefOk T df_check_row.d df_check_row.ps df_check_row.N df_check_row.fd := ⟨fun _ _ _ _ _ _ us hl => match us, hl with | [_], _ => rfl, ⟨rfl, rfl, rfl, by decide +kernel, rfl, by decide +kernel, by decide +kernel⟩, rfl, rfl, by decide +kernel, rfl, rfl, rfl⟩
theorem ok_are_truths : DefOk T df_are_truths.d df_are_truths.ps df_are_truths.N df_are_truths.fd := ⟨fun _ _ _ _ _ _ us hl => match us, hl with | [_], _ => rfl, ⟨rfl, rfl, rfl, by decide +kernel, rfl, by decide +kernel, by decide +kernel⟩, rfl, rfl, by decide +kernel, rfl, rfl, rfl⟩
theorem ok_check_assignment_for : DefOk T df_check_assignment_for.d df_check_assignment_for.ps df_check_assignment_for.N df_check_assignment_for.fd := ⟨fun _ _ _ _ _ _ us hl => match us, hl with | [_, _], _ => rfl, ⟨rfl, rfl, rfl, by decide +kernel, rfl, by decide +kernel, by decide +kernel⟩, rfl, rfl, by decide +kernel, rfl, rfl, rfl⟩
theorem ok_plain_row : DefOk T df_plain_row.d df_plain_row.ps df_plain_row.N df_plain_row.fd := ⟨fun _ _ _ _ _ _ us hl => match us, hl with | [_, _], _ => rfl, ⟨rfl, rfl, rfl, by decide +kernel, rfl, by decide +kernel, by decide +kernel⟩, rfl, rfl, by decide +kernel, rfl, rfl, rfl⟩
theorem ok_is_contradiction : DefOk T df_is_contradiction.d df_is_contradiction.ps df_is_contradiction.N df_is_contradiction.fd := ⟨fun _ _ _ _ _ _ us hl => match us, hl with | [_], _ => rfl, ⟨rfl, rfl, rfl, by decide +kernel, rfl, by decide +kernel, by decide +kernel⟩, rfl, rfl, by decide +kernel, rfl, rfl, rfl⟩
theorem ok_meets : DefOk T df_meets.d df_meets.ps df_meets.N df_meets.fd := ⟨fun _ _ _ _ _ _ us hl => match us, hl with | [_, _], _ => rfl, ⟨rfl, rfl, rfl, by decide +kernel, rfl, by decide +kernel, by decide +kernel⟩, rfl, rfl, by decide +kernel, rfl, rfl, rfl⟩
theorem ok__law_pool : DefOk T df__law_pool.d df__law_pool.ps df__law_pool.N df__law_pool.fd := ⟨fun _ _ _ _ _ _ us hl => match us, hl with | [_, _], _ => rfl, ⟨rfl, rfl, rfl, by decide +kernel, rfl, by decide +kernel, by decide +kernel⟩, rfl, rfl, by decide +kernel, rfl, rfl, rfl⟩
theorem ok__law_below : DefOk T df__law_below.d df__law_below.ps df__law_below.N df__law_below.fd := ⟨fun _ _ _ _ _ _ us hl => match us, hl with | [_, _], _ => rfl, ⟨rfl, rfl, rfl, by decide +kernel, rfl, by decide +kernel, by decide +kernel⟩, rfl, rfl, by decide +kernel, rfl, rfl, rfl⟩
theorem ok__law_one : DefOk T df__law_one.d df__law_one.ps df__law_one.N df__law_one.fd := ⟨fun _ _ _ _ _ _ us hl => match us, hl with | [_, _], _ => rfl, ⟨rfl, rfl, rfl, by decide +kernel, rfl, by decide +kernel, by decide +kernel⟩, rfl, rfl, by decide +kernel, rfl, rfl, rfl⟩
theorem ok__law_unsigned : DefOk T df__law_unsigned.d df__law_unsigned.ps df__law_unsigned.N df__law_unsigned.fd := ⟨fun _ _ _ _ _ _ us hl => match us, hl with | [_, _], _ => rfl, ⟨rfl, rfl, rfl, by decide +kernel, rfl, by decide +kernel, by decide +kernel⟩, rfl, rfl, by decide +kernel, rfl, rfl, rfl⟩
theorem ok__law_row : DefOk T df__law_row.d df__law_row.ps df__law_row.N df__law_row.fd := ⟨fun _ _ _ _ _ _ us hl => match us, hl with | [_, _], _ => rfl, ⟨rfl, rfl, rfl, by decide +kernel, rfl, by decide +kernel, by decide +kernel⟩, rfl, rfl, by decide +kernel, rfl, rfl, rfl⟩
theorem ok__law_same : DefOk T df__law_same.d df__law_same.ps df__law_same.N df__law_same.fd := ⟨fun _ _ _ _ _ _ us hl => match us, hl with | [_, _], _ => rfl, ⟨rfl, rfl, rfl, by decide +kernel, rfl, by decide +kernel, by decide +kernel⟩, rfl, rfl, by decide +kernel, rfl, rfl, rfl⟩
theorem ok__law_assignments : DefOk T df__law_assignments.d df__law_assignments.ps df__law_assignments.N df__law_assignments.fd := ⟨fun _ _ _ _ _ _ us hl => match us, hl with | [_], _ => rfl, ⟨rfl, rfl, rfl, by decide +kernel, rfl, by decide +kernel, by decide +kernel⟩, rfl, rfl, by decide +kernel, rfl, rfl, rfl⟩
theorem ok__law_doubled : DefOk T df__law_doubled.d df__law_doubled.ps df__law_doubled.N df__law_doubled.fd := ⟨fun _ _ _ _ _ _ us hl => match us, hl with | [_], _ => rfl, ⟨rfl, rfl, rfl, by decide +kernel, rfl, by decide +kernel, by decide +kernel⟩, rfl, rfl, by decide +kernel, rfl, rfl, rfl⟩
theorem ok__law_right : DefOk T df__law_right.d df__law_right.ps df__law_right.N df__law_right.fd := ⟨fun _ _ _ _ _ _ us hl => match us, hl with | [_], _ => rfl, ⟨rfl, rfl, rfl, by decide +kernel, rfl, by decide +kernel, by decide +kernel⟩, rfl, rfl, by decide +kernel, rfl, rfl, rfl⟩
theorem ok_law : DefOk T df_law.d df_law.ps df_law.N df_law.fd := ⟨fun _ _ _ _ _ _ us hl => match us, hl with | [_], _ => rfl, ⟨rfl, rfl, rfl, by decide +kernel, rfl, by decide +kernel, by decide +kernel⟩, rfl, rfl, by decide +kernel, rfl, rfl, rfl⟩
theorem all_ok : AllD T dfs := ⟨ok_weights_by, ok_gathered, ok_plain_by, ok_numbers_in, ok_total_of, ok_is_contradiction_by, ok_is_true_by, ok_meets_by, ok_greatest_number, ok_is_number, ok_is_from, ok_is_tuple_of, ok_are_ascending, ok_is_literal, ok_are_any_terms, ok_is_row, ok_check_terms, ok_check_row, ok_are_truths, ok_check_assignment_for, ok_plain_row, ok_is_contradiction, ok_meets, ok__law_pool, ok__law_below, ok__law_one, ok__law_unsigned, ok__law_row, ok__law_same, ok__law_assignments, ok__law_doubled, ok__law_right, ok_law, trivial⟩
theorem allK : AllK dfs kbs := ⟨⟨df_plain_row, rfl, fun _ _ _ _ _ _ us ws h1 h2 => match us, ws, h1, h2 with | [], [_, _], _, _ => rfl⟩, ⟨df_meets, rfl, fun _ _ _ _ _ _ us ws h1 h2 => match us, ws, h1, h2 with | [], [_, _], _, _ => rfl⟩, ⟨df_is_contradiction, rfl, fun _ _ _ _ _ _ us ws h1 h2 => match us, ws, h1, h2 with | [], [_], _, _ => rfl⟩, trivial⟩
end K25

namespace K25
open Rf
abbrev Tb := tbOf dfs
abbrev Tm := List (Int × Int)
def enc (ts : Tm) : D := .tup (ts.map fun p => .tup [.int p.1, .int p.2])
def row (ts : Tm) (m : Int) : D := .tup [enc ts, .int m]
def absI (i : Int) : Int := if i < 0 then -i else i
def total (ts : Tm) : Int := (ts.map fun p => p.1).sum
def truth1 (bs : List Bool) (l : Int) : Bool := decide (bs.getD (absI l - 1).toNat false = decide (0 < l))
def value (ts : Tm) (bs : List Bool) : Int := ((ts.filter fun p => truth1 bs p.2).map fun p => p.1).sum
def encB (bs : List Bool) : D := .tup (bs.map .bl)
def litsOk (ts : Tm) (k : Nat) : Prop := ∀ p ∈ ts, p.2 ≠ 0 ∧ absI p.2 ≤ k
section
variable {n : Nat} {st : Sto} {base : Nat} {ts : Tm} {m : Int}
theorem is_number_i {i : Int} : callN Tb (n + 1) 9 [.int i] st base = .ok (.bl true) st := by
  show runFd (callN Tb n) ⟨1, 1, b_is_number⟩ _ st base = _
  simp [runFd, b_is_number, evSs, evS, evE, getV, isKi, asB]
theorem is_from_i {i j : Int} : callN Tb (n + 2) 10 [.int i, .int j] st base = .ok (.bl (decide (j ≤ i))) st := by
  show runFd (callN Tb (n + 1)) ⟨2, 2, b_is_from⟩ _ st base = _
  simp [runFd, b_is_from, evSs, evS, evE, evEs, getV, isKi, asB, callR, is_number_i, plain, cmpD]
theorem is_literal_i {i : Int} (h : i ≠ 0) : callN Tb (n + 2) 13 [.int i] st base = .ok (.bl true) st := by
  show runFd (callN Tb (n + 1)) ⟨1, 1, b_is_literal⟩ _ st base = _
  simp [runFd, b_is_literal, evSs, evS, evE, evEs, getV, isKi, asB, callR, is_number_i, plain, cmpD, eqD, sc2, sc, eqv, h]
theorem is_tuple_of_t {ds : List D} {k : Int} : callN Tb (n + 1) 11 [.tup ds, .int k] st base = .ok (.bl (decide ((ds.length : Int) = k))) st := by
  show runFd (callN Tb n) ⟨2, 2, b_is_tuple_of⟩ _ st base = _
  simp [runFd, b_is_tuple_of, evSs, evS, evE, evEs, getV, isKi, asB, cmpD, eqD, sc2, sc, eqv, biR, lenD]
  by_cases h : (ds.length : Int) = k <;> simp [h]
theorem numbers_in_row (hl : ts.length ≤ SL) : callN Tb (n + 1) 3 [row ts m] st base = .ok (.lst (ts.map fun p => .int (absI p.2))) st := by
  show runFd (callN Tb n) ⟨1, 3, b_numbers_in⟩ _ st base = _
  simp [runFd, b_numbers_in, evSs, evS, evE, evI, getV, row, enc, subD, atI, ixN]
  rw [compD_map (g := fun p => some (.int (absI p.2)))]
  · simp [mkL, hl]
  · intro p hp
    simp [putN, wipeE, evT, evE, evEs, getV, biR, absI]
theorem total_of_row (hl : ts.length ≤ SL) : callN Tb (n + 1) 4 [row ts m] st base = .ok (.int (total ts)) st := by
  show runFd (callN Tb n) ⟨1, 3, b_total_of⟩ _ st base = _
  simp [runFd, b_total_of, evSs, evS, evE, evEs, evI, getV, row, enc, subD, atI, ixN]
  rw [compD_map (g := fun p => some (.int p.1))]
  · rw [filterMap_some']
    simp [mkL, hl, biR, intsOf_map, total]
  · intro p hp
    simp [putN, wipeE, evT, evE, evEs, getV, biR]
theorem contra_by (hl : ts.length ≤ SL) : callN Tb (n + 2) 5 [row ts m] st base = .ok (.bl (decide (total ts < m))) st := by
  show runFd (callN Tb (n + 1)) ⟨1, 1, b_is_contradiction_by⟩ _ st base = _
  simp [runFd, b_is_contradiction_by, evSs, evS, evE, evEs, getV, callR, total_of_row hl, plain, row, subD, atI, ixN, cmpD]
  have := total_of_row (n := n) (st := st) (base := st.length) (m := m) hl
  simp only [row] at this
  simp [this, plain, cmpD]
theorem true_by {bs : List Bool} {l : Int} (h0 : l ≠ 0) (h1 : absI l ≤ bs.length) : callN Tb (n + 1) 6 [.int l, encB bs] st base = .ok (.bl (truth1 bs l)) st := by
  show runFd (callN Tb n) ⟨2, 2, b_is_true_by⟩ _ st base = _
  have hp : 0 ≤ absI l - 1 := by unfold absI; split <;> omega
  have e : atI (bs.map D.bl) (absI l - 1) = some (.bl (bs.getD (absI l - 1).toNat false)) := by
    have hb : (absI l - 1).toNat < bs.length := by omega
    unfold atI ixN
    rw [if_pos hp, if_pos (by simp; omega)]
    have hb' : (absI l).toNat - 1 < bs.length := by omega
    simp [hb']
  unfold absI at e
  simp [runFd, b_is_true_by, evSs, evS, evE, evEs, getV, biR, binR, encB, subD, e, cmpD, eqD, sc2, sc, eqv, truth1, absI]
  cases (bs[(if l < 0 then -l else l).toNat - 1]?.getD false) <;> cases decide (0 < l) <;> simp
theorem meets_by_row {bs : List Bool} (hl : ts.length ≤ SL) (h : litsOk ts bs.length) : callN Tb (n + 2) 7 [row ts m, encB bs] st base = .ok (.bl (decide (m ≤ value ts bs))) st := by
  show runFd (callN Tb (n + 1)) ⟨2, 4, b_meets_by⟩ _ st base = _
  simp [runFd, b_meets_by, evSs, evS, evE, evEs, evI, getV, row, enc, subD, atI, ixN]
  rw [compD_map (g := fun p => if truth1 bs p.2 then some (.int p.1) else none)]
  · have e : ts.filterMap (fun p => if truth1 bs p.2 then some (D.int p.1) else none) = (ts.filter fun p => truth1 bs p.2).map fun p => .int p.1 := by
      induction ts with
      | nil => rfl
      | cons p ts ih =>
        have ih := ih (by simp at hl; omega) fun q hq => h q (List.mem_cons_of_mem _ hq)
        by_cases hp : truth1 bs p.2 = true
        · simp [hp, ih]
        · simp [hp, ih]
    rw [e]
    have hl2 : ((ts.filter fun p => truth1 bs p.2).map fun p => D.int p.1).length ≤ SL := by
      rw [List.length_map]
      exact Nat.le_trans (List.length_filter_le _ _) hl
    simp only [mkL, hl2, if_true]
    simp [biR, intsOf_map, value, cmpD]
    rfl
  · intro p hp
    obtain ⟨h1, h2⟩ := h p hp
    have z := true_by (n := n) (st := st) (base := st.length) h1 h2
    simp [putN, wipeE, evT, evE, evEs, getV, callR, z, plain, truth]
    cases truth1 bs p.2 <;> simp
theorem greatest (hl : ts.length ≤ SL) : callN Tb (n + 2) 8 [.lst [row ts m]] st base = .ok (.int ((maxL (ts.map fun p => absI p.2)).getD 0)) st := by
  show runFd (callN Tb (n + 1)) ⟨1, 3, b_greatest_number⟩ _ st base = _
  simp [runFd, b_greatest_number, evSs, evS, evE, evEs, evI, getV]
  have e1 : ([row ts m] : List D) = [()].map fun _ => row ts m := rfl
  rw [e1, compDD_map (g := fun _ => ts.map fun p => D.int (absI p.2))]
  · simp [mkL, hl, intsOf_map]
  · intro x _
    have z := numbers_in_row (n := n) (st := st) (base := st.length) (m := m) hl
    have hp : plains (ts.map fun p => D.int (absI p.2)) = true := by
      have : ∀ xs : Tm, plains (xs.map fun p => D.int (absI p.2)) = true := by
        intro xs
        induction xs with
        | nil => rfl
        | cons x xs ih => simp [plains, plain, ih]
      exact this ts
    simp [putN, wipeE, evT, evE, evEs, getV, callR, z, plain, hp]
    rw [compD_map (g := fun p => some (.int (absI p.2)))]
    · simp
    · intro p hp
      simp
def ascB (xs : List Int) : Bool := (xs.zip xs.tail).all fun p => decide (p.1 < p.2)
theorem ascending {xs : List Int} (hl : xs.length ≤ SL) : callN Tb (n + 1) 12 [.lst (xs.map .int)] st base = .ok (.bl (ascB xs)) st := by
  show runFd (callN Tb n) ⟨1, 3, b_are_ascending⟩ _ st base = _
  have hc : (cutL (xs.map D.int) (some 1) none).length ≤ SL := by
    unfold cutL
    rw [List.length_take, List.length_drop, List.length_map]
    omega
  simp [runFd, b_are_ascending, evSs, evS, evE, evEs, evI, evO, getV, slcR, mkL, hc]
  rw [zip_next, compD_map (g := fun p => some (.bl (decide (p.1 < p.2))))]
  · rw [filterMap_some']
    have h2 : ((xs.zip xs.tail).map fun p => D.bl (decide (p.1 < p.2))).length ≤ SL := by
      rw [List.length_map, List.length_zip]
      omega
    simp only [mkL, h2, if_true]
    simp [biR, boolsOf_map, ascB, List.all_map]
  · intro p hp
    simp [putN, wipeE, evT, evE, evEs, getV, cmpD]
theorem any_terms (hl : ts.length ≤ SL) (h0 : ∀ p ∈ ts, p.2 ≠ 0) : callN Tb (n + 3) 14 [enc ts] st base = .ok (.bl true) st := by
  show runFd (callN Tb (n + 2)) ⟨1, 2, b_are_any_terms⟩ _ st base = _
  simp [runFd, b_are_any_terms, evSs, evS, evE, evEs, evI, getV, enc, isKi, asB]
  rw [compD_map (g := fun p => some (.bl true))]
  · rw [filterMap_some']
    have h2 : (ts.map fun _ => D.bl true).length ≤ SL := by rw [List.length_map]; exact hl
    simp only [mkL, h2, if_true]
    have := boolsOf_map (fun _ : Int × Int => true) ts
    simp [biR, this]
  · intro p hp
    have z1 := is_tuple_of_t (n := n + 1) (st := st) (base := st.length) (ds := [.int p.1, .int p.2]) (k := 2)
    have z2 := is_number_i (n := n + 1) (st := st) (base := st.length) (i := p.1)
    have z3 := is_literal_i (n := n) (st := st) (base := st.length) (h0 p hp)
    simp [putN, wipeE, evT, evE, evEs, getV, callR, z1, z2, z3, plain, asB, subD, atI, ixN]
theorem plains_enc : ∀ ts : Tm, plains (ts.map fun p => D.tup [.int p.1, .int p.2]) = true
  | [] => rfl
  | p :: ts => by simp [plains, plain, plains_enc ts]
theorem plain_enc : plain (enc ts) = true := plains_enc ts
theorem plain_row' : plain (row ts m) = true := by simp [row, plain, plains, plain_enc]
def rowOk (ts : Tm) (m : Int) : Prop := ts.length ≤ SL ∧ (∀ p ∈ ts, p.2 ≠ 0) ∧ 0 ≤ m ∧ (∀ p ∈ ts, 0 < p.1) ∧ ascB (ts.map fun p => absI p.2) = true
theorem plains_ints : ∀ xs : List Int, plains (xs.map D.int) = true
  | [] => rfl
  | x :: xs => by simp [plains, plain, plains_ints xs]
theorem is_row_ok (h : rowOk ts m) : callN Tb (n + 4) 15 [row ts m] st base = .ok (.bl true) st := by
  obtain ⟨h1, h2, h3, h4, h5⟩ := h
  show runFd (callN Tb (n + 3)) ⟨1, 3, b_is_row⟩ _ st base = _
  have z1 := is_tuple_of_t (n := n + 2) (st := st) (base := st.length) (ds := [enc ts, .int m]) (k := 2)
  have z2 := any_terms (n := n) (st := st) (base := st.length) h1 h2
  have z3 := is_from_i (n := n + 1) (st := st) (base := st.length) (i := m) (j := 0)
  have z4 := numbers_in_row (n := n + 2) (st := st) (base := st.length) (m := m) h1
  have z5 := ascending (n := n + 2) (st := st) (base := st.length) (xs := ts.map fun p => absI p.2) (by simpa using h1)
  have e1 : (ts.map fun p => D.int (absI p.2)) = (ts.map fun p => absI p.2).map D.int := by simp
  rw [e1] at z4
  rw [h5] at z5
  have hp := plains_ints (ts.map fun p => absI p.2)
  unfold row at z4 ⊢
  simp [runFd, b_is_row, evSs, evS, evE, evEs, evI, getV, callR, z1, plain, asB, subD, atI, ixN, z2, z3, h3, truth]
  unfold enc at z4 ⊢
  simp
  rw [compD_map (g := fun p => some (.bl true))]
  · rw [filterMap_some']
    have h2 : (ts.map fun _ => D.bl true).length ≤ SL := by rw [List.length_map]; exact h1
    simp only [mkL, h2, if_true]
    have := boolsOf_map (fun _ : Int × Int => true) ts
    simp [biR, this]
    simp only [List.map_map] at z4 z5 hp
    simp [z4, z5, hp, plain]
  · intro p hp
    simp [putN, wipeE, evT, evE, evEs, getV, cmpD, h4 p hp]
theorem check_terms_ok (hl : ts.length ≤ SL) (h0 : ∀ p ∈ ts, p.2 ≠ 0) : callN Tb (n + 4) 16 [enc ts, .int m] st base = .ok .non st := by
  show runFd (callN Tb (n + 3)) ⟨2, 2, b_check_terms⟩ _ st base = _
  have z1 := any_terms (n := n) (st := st) (base := st.length) hl h0
  have z2 := is_number_i (n := n + 2) (st := st) (base := st.length) (i := m)
  simp [runFd, b_check_terms, evSs, evS, evE, evEs, getV, callR, z1, z2, plain, asB, truth]
theorem check_row_ok (h : rowOk ts m) : callN Tb (n + 5) 17 [row ts m] st base = .ok .non st := by
  show runFd (callN Tb (n + 4)) ⟨1, 1, b_check_row⟩ _ st base = _
  have z1 := is_row_ok (n := n) (st := st) (base := st.length) h
  simp [runFd, b_check_row, evSs, evS, evE, evEs, getV, callR, z1, plain, asB, truth]
theorem are_truths_ok {bs : List Bool} (hl : bs.length ≤ SL) : callN Tb (n + 1) 18 [encB bs] st base = .ok (.bl true) st := by
  show runFd (callN Tb n) ⟨1, 2, b_are_truths⟩ _ st base = _
  simp [runFd, b_are_truths, evSs, evS, evE, evEs, evI, getV, encB, isKi, asB]
  rw [compD_map (g := fun p => some (.bl true))]
  · rw [filterMap_some']
    have h2 : (bs.map fun _ => D.bl true).length ≤ SL := by rw [List.length_map]; exact hl
    simp only [mkL, h2, if_true]
    have := boolsOf_map (fun _ : Bool => true) bs
    simp [biR, this]
  · intro p hp
    simp [putN, wipeE, evT, evE, evEs, getV, isKi]
theorem maxL_le {xs : List Int} {k : Int} (h : ∀ x ∈ xs, x ≤ k) (hk : 0 ≤ k) : (maxL xs).getD 0 ≤ k := by
  have key : ∀ (xs : List Int) (a : Int), a ≤ k → (∀ x ∈ xs, x ≤ k) → xs.foldl max a ≤ k := by
    intro xs
    induction xs with
    | nil => intro a ha _; exact ha
    | cons x xs ih => intro a ha hx; exact ih _ (by have := hx x List.mem_cons_self; omega) fun y hy => hx y (List.mem_cons_of_mem _ hy)
  cases xs with
  | nil => exact hk
  | cons x xs => exact key xs x (h x List.mem_cons_self) fun y hy => h y (List.mem_cons_of_mem _ hy)
theorem check_assignment_ok {bs : List Bool} (h : rowOk ts m) (hb : bs.length ≤ SL) (hs : ∀ p ∈ ts, absI p.2 ≤ bs.length) : callN Tb (n + 3) 19 [encB bs, row ts m] st base = .ok .non st := by
  show runFd (callN Tb (n + 2)) ⟨2, 2, b_check_assignment_for⟩ _ st base = _
  have z1 := are_truths_ok (n := n + 1) (st := st) (base := st.length) hb
  have z2 := greatest (n := n) (st := st) (base := st.length) (m := m) h.1
  have z3 : (maxL (ts.map fun p => absI p.2)).getD 0 ≤ bs.length := maxL_le (by
    intro x hx
    obtain ⟨p, hp, rfl⟩ := List.mem_map.mp hx
    exact hs p hp) (by omega)
  have z4 : mkL false [row ts m] st = .ok (.lst [row ts m]) st := by
    unfold mkL
    rw [if_pos (by simp [SL])]
    rfl
  have z5 : lenD (encB bs) = some (bs.length : Int) := by simp [encB, lenD]
  have z6 : vw st (encB bs) = encB bs := rfl
  simp [runFd, b_check_assignment_for, evSs, evS, evE, evEs, getV, callR, z1, z2, z4, z5, z6, plain, asB, truth, biR, cmpD]
  rw [decide_eq_false (by omega)]
theorem is_contradiction_ok (h : rowOk ts m) : callN Tb (n + 6) 21 [row ts m] st base = .ok (.bl (decide (total ts < m))) st := by
  show runFd (callN Tb (n + 5)) ⟨1, 1, b_is_contradiction⟩ _ st base = _
  have z1 := check_row_ok (n := n) (st := st) (base := st.length) h
  have z2 := contra_by (n := n + 3) (st := st) (base := st.length) (m := m) h.1
  simp [runFd, b_is_contradiction, evSs, evS, evE, evEs, getV, callR, z1, z2, plain, asB, truth]
theorem meets_ok {bs : List Bool} (h : rowOk ts m) (hb : bs.length ≤ SL) (hs : ∀ p ∈ ts, absI p.2 ≤ bs.length) : callN Tb (n + 6) 22 [row ts m, encB bs] st base = .ok (.bl (decide (m ≤ value ts bs))) st := by
  show runFd (callN Tb (n + 5)) ⟨2, 2, b_meets⟩ _ st base = _
  have z1 := check_row_ok (n := n) (st := st) (base := st.length) h
  have z2 := check_assignment_ok (n := n + 2) (st := st) (base := st.length) h hb hs
  have z3 := meets_by_row (n := n + 3) (st := st) (base := st.length) (m := m) (bs := bs) h.1 fun p hp => ⟨h.2.1 p hp, hs p hp⟩
  simp [runFd, b_meets, evSs, evS, evE, evEs, getV, callR, z1, z2, z3, plain, asB, truth]
/-! ### the weights -/
def wStep (w : Wt) (p : Int × Int) : Wt := wput w (absI p.2) ((wget w (absI p.2)).getD 0 + (if 0 < p.2 then p.1 else -p.1))
def wOf (ts : Tm) : Wt := ts.foldl wStep []
def negW (ts : Tm) : Int := (ts.map fun p => if 0 < p.2 then 0 else p.1).sum
theorem wOf_snoc (d : Tm) (p : Int × Int) : wOf (d ++ [p]) = wStep (wOf d) p := by simp [wOf]
theorem negW_snoc (d : Tm) (p : Int × Int) : negW (d ++ [p]) = negW d + (if 0 < p.2 then 0 else p.1) := by simp [negW]
theorem wOf_len : ∀ ts : Tm, (wOf ts).length ≤ ts.length := by
  have : ∀ (ts : Tm) (w : Wt), (ts.foldl wStep w).length ≤ w.length + ts.length := by
    intro ts
    induction ts with
    | nil => intro w; simp
    | cons p ts ih =>
      intro w
      have h1 := ih (wStep w p)
      have h2 := wput_len w (absI p.2) ((wget w (absI p.2)).getD 0 + (if 0 < p.2 then p.1 else -p.1))
      rw [List.foldl_cons, List.length_cons]
      unfold wStep at h1 ⊢
      omega
  intro ts
  have := this ts []
  simpa [wOf] using this
theorem getD_map_int (o : Option Int) : (o.map D.int).getD (.int 0) = .int (o.getD 0) := by cases o <;> rfl
theorem wks_len (w : Wt) : (wks w).length = w.length := by simp [wks]
theorem weights_ok (hl : ts.length < 64) : callN Tb (n + 1) 0 [enc ts, .int m] st base = .ok (.tup [.ref st.length, .int (m - negW ts)]) (st ++ [.dct (wks (wOf ts)) (wvs (wOf ts))]) := by
  show runFd (callN Tb n) ⟨2, 6, b_weights_by⟩ _ st base = _
  have hsl : (64 : Nat) < SL := by decide
  simp [runFd, b_weights_by, evSs, evS, evE, evEs, evI, getV, enc, mkD, asgR]
  obtain ⟨ρ', st', e, hst, a, b, c, hρ⟩ := forD_map (φ := fun p : Int × Int => D.tup [.int p.1, .int p.2]) (xs := ts) (f := forF (evSs (callN Tb n) base bl_weights_by_0) (.tup [3, 4]))
    (I := fun d ρ st' => st' = st ++ [.dct (wks (wOf d)) (wvs (wOf d))] ∧ ∃ a b c, ρ = [some (enc ts), some (.int (m - negW d)), some (.ref st.length), a, b, c])
    (ρ := [some (enc ts), some (.int m), some (.ref st.length), none, none, none]) (st := st ++ [.dct [] []]) ⟨rfl, none, none, none, by simp [negW]⟩ (by
      rintro d ⟨w, l⟩ r hd ρ st' ⟨rfl, a, b, c, rfl⟩
      have hdl : (wOf d).length < SL := by
        have h1 := wOf_len d
        have h2 := congrArg List.length hd
        simp at h2
        omega
      refine ⟨[some (enc ts), some (.int (m - negW (d ++ [(w, l)]))), some (.ref st.length), some (.int w), some (.int l), some (.int (absI l))], _, .inl ?_, rfl, _, _, _, rfl⟩
      by_cases h : 0 < l
      · simp [forF, putN, bl_weights_by_0, evSs, evS, evE, evEs, getV, biR, asgR, mtR, mtTy, keyOf, dGet_w, getD_map_int, cmpD, truth, binR, h, wOk, plain, wks_len, hdl, dPut_w, negW_snoc, wOf_snoc, wStep, absI]
      · simp [forF, putN, bl_weights_by_0, evSs, evS, evE, evEs, getV, biR, asgR, mtR, mtTy, keyOf, dGet_w, getD_map_int, cmpD, truth, binR, h, wOk, plain, wks_len, hdl, dPut_w, negW_snoc, wOf_snoc, wStep, absI]
        omega)
  subst hst hρ
  unfold enc at e
  rw [e]
  simp [evSs, evS, evE, evEs, getV, mkT, SL]
/-! ### the row -/
def cTerm (w : Wt) (k : Int) : Option (Int × Int) := if 0 < (wget w k).getD 0 then some ((wget w k).getD 0, k) else if (wget w k).getD 0 < 0 then some (-(wget w k).getD 0, -k) else none
def negK (w : Wt) (ks : List Int) : Int := (ks.map fun k => if (wget w k).getD 0 < 0 then (wget w k).getD 0 else 0).sum
def skeys (w : Wt) : List Int := sortI (w.map (·.1))
def canon (ts : Tm) : Tm := (skeys (wOf ts)).filterMap (cTerm (wOf ts))
def leastOf (ts : Tm) (m : Int) : Int := m - negW ts - negK (wOf ts) (skeys (wOf ts))
theorem wget_some {w : Wt} {k : Int} (h : k ∈ w.map (·.1)) : ∃ v, wget w k = some v := by
  cases e : wget w k with
  | some v => exact ⟨v, rfl⟩
  | none => exact absurd h (wget_none e)
theorem skeys_len (w : Wt) : (skeys w).length = w.length := by
  unfold skeys
  rw [(sortI_prm _).length_eq, List.length_map]
theorem gathered_ok (hl : ts.length < 64) : callN Tb (n + 2) 1 [enc ts, .int m] st base = .ok (.tup [enc (canon ts), .int (leastOf ts m)]) (st ++ [.dct (wks (wOf ts)) (wvs (wOf ts)), .lst ((canon ts).map fun p => .tup [.int p.1, .int p.2])]) := by
  show runFd (callN Tb (n + 1)) ⟨2, 6, b_gathered⟩ _ st base = _
  have hsl : (64 : Nat) < SL := by decide
  have z := weights_ok (n := n) (st := st) (base := base) (m := m) hl
  have hw := wOf_len ts
  have hkl : ((wOf ts).map (·.1)).length < 64 := by rw [List.length_map]; omega
  have hsk : (skeys (wOf ts)).length < 64 := by rw [skeys_len]; omega
  have e0 : mkL false ((sortI ((wOf ts).map (·.1))).map D.int) (st ++ [.dct (wks (wOf ts)) (wvs (wOf ts)), .lst []]) = .ok (.lst ((skeys (wOf ts)).map .int)) (st ++ [.dct (wks (wOf ts)) (wvs (wOf ts)), .lst []]) := by
    unfold mkL
    rw [if_pos (by rw [List.length_map]; unfold skeys at hsk; omega)]
    rfl
  simp only [List.length_map] at hkl
  have hks : ∀ k ∈ skeys (wOf ts), ∃ v, wget (wOf ts) k = some v := fun k hk => wget_some ((sortI_prm _).mem_iff.mp hk)
  simp [runFd, b_gathered, evSs, evS, evE, evEs, evI, getV, callR, z, asgR, asgRs, e0, biR, keyInts_w, hkl]
  obtain ⟨ρ', st', e, hst, a, c, hρ⟩ := forD_map (φ := D.int) (xs := skeys (wOf ts)) (f := forF (evSs (callN Tb (n + 1)) base bl_gathered_0) (.nm 3))
    (I := fun d ρ st' => st' = st ++ [.dct (wks (wOf ts)) (wvs (wOf ts)), .lst ((d.filterMap (cTerm (wOf ts))).map fun p => .tup [.int p.1, .int p.2])] ∧
      ∃ a c, ρ = [some (enc ts), some (.int (m - negW ts - negK (wOf ts) d)), some (.ref (st.length + 1)), a, some (.ref st.length), c])
    (ρ := [some (enc ts), some (.int (m - negW ts)), some (.ref (st.length + 1)), none, some (.ref st.length), none]) (st := st ++ [.dct (wks (wOf ts)) (wvs (wOf ts)), .lst []]) ⟨rfl, none, none, by simp [negK]⟩ (by
      rintro d k r hd ρ st' ⟨rfl, a, c, rfl⟩
      have hlen : (d.filterMap (cTerm (wOf ts))).length < 16777216 := by
        have h1 := List.length_filterMap_le (cTerm (wOf ts)) d
        have h2 := congrArg List.length hd
        simp at h2
        omega
      obtain ⟨v, hv⟩ := hks k (by rw [hd]; simp)
      have nk : negK (wOf ts) (d ++ [k]) = negK (wOf ts) d + if v < 0 then v else 0 := by simp [negK, hv]
      by_cases h1 : 0 < v
      · refine ⟨[some (enc ts), some (.int (m - negW ts - negK (wOf ts) (d ++ [k]))), some (.ref (st.length + 1)), some (.int k), some (.ref st.length), some (.int v)], _, .inl ?_, rfl, _, _, rfl⟩
        have h2 : ¬ v < 0 := by omega
        simp [forF, putN, bl_gathered_0, evSs, evS, evE, evEs, getV, asgR, mtR, mtTy, keyOf, subD, dGet_w, hv, cmpD, truth, binR, h1, h2, wOk, plain, plains, hlen, nk, cTerm, mkT, SL, vw, List.filterMap_append]
      · by_cases h2 : v < 0
        · refine ⟨[some (enc ts), some (.int (m - negW ts - negK (wOf ts) (d ++ [k]))), some (.ref (st.length + 1)), some (.int k), some (.ref st.length), some (.int v)], _, .inl ?_, rfl, _, _, rfl⟩
          simp [forF, putN, bl_gathered_0, evSs, evS, evE, evEs, getV, asgR, mtR, mtTy, keyOf, subD, dGet_w, hv, cmpD, truth, binR, h1, h2, wOk, plain, plains, hlen, nk, cTerm, mkT, SL, vw, List.filterMap_append]
          omega
        · refine ⟨[some (enc ts), some (.int (m - negW ts - negK (wOf ts) (d ++ [k]))), some (.ref (st.length + 1)), some (.int k), some (.ref st.length), some (.int v)], _, .inl ?_, rfl, _, _, rfl⟩
          simp [forF, putN, bl_gathered_0, evSs, evS, evE, evEs, getV, asgR, mtR, mtTy, keyOf, subD, dGet_w, hv, cmpD, truth, binR, h1, h2, wOk, plain, plains, hlen, nk, cTerm, mkT, SL, vw, List.filterMap_append])
  subst hst hρ
  rw [e]
  simp [evSs, evS, evE, evEs, getV, mkT, SL, biR, canon, enc, leastOf]
end
end K25

namespace K25
open Rf
section
variable {n : Nat} {st : Sto} {base : Nat} {ts : Tm} {m : Int}
def least0 (ts : Tm) (m : Int) : Int := if 0 > leastOf ts m then 0 else leastOf ts m
theorem canon_len (ts : Tm) : (canon ts).length ≤ ts.length := by
  have h1 := List.length_filterMap_le (cTerm (wOf ts)) (skeys (wOf ts))
  rw [skeys_len] at h1
  exact Nat.le_trans h1 (wOf_len ts)
theorem callR_sc2 {C : Call} {base f : Nat} {ds : List D} {st : Sto} {d : D} {g : Sto} (h : C f ds st st.length = .ok d (st ++ g)) (hp : plain d = true) : callR C base true f ds st = .ok d st := callR_sc h hp
theorem plain_by_ok (hl : ts.length < 64) : callN Tb (n + 3) 2 [enc ts, .int m] st base = .ok (row (canon ts) (least0 ts m)) st := by
  show runFd (callN Tb (n + 2)) ⟨2, 3, b_plain_by⟩ _ st base = _
  have z := callR_sc (base := base) (gathered_ok (n := n) (st := st) (base := st.length) (m := m) hl) (by simp [plain, plains, plain_enc])
  simp [runFd, b_plain_by, evSs, evS, evE, evEs, getV, z, asgR, asgRs, biR, mkT, SL, row, least0]
theorem plain_row_ok (hl : ts.length < 64) (h0 : ∀ p ∈ ts, p.2 ≠ 0) : callN Tb (n + 5) 20 [enc ts, .int m] st base = .ok (row (canon ts) (least0 ts m)) st := by
  show runFd (callN Tb (n + 4)) ⟨2, 2, b_plain_row⟩ _ st base = _
  have z1 := check_terms_ok (n := n) (st := st) (base := st.length) (m := m) (by have : SL = 16777216 := rfl; omega) h0
  have z2 := plain_by_ok (n := n + 1) (st := st) (base := st.length) (m := m) hl
  simp [runFd, b_plain_row, evSs, evS, evE, evEs, getV, callR, z1, z2, plain, plain_row']
/-! ### the law's own row -/
def encL (ts : Tm) : D := .lst (ts.map fun p => .tup [.int p.1, .int p.2])
theorem getD_int (o : Option Int) : (Option.map D.int o).getD (.int 0) = .int (o.getD 0) := by cases o <;> rfl
theorem negsum (w : Wt) (ks : List Int) : ((ks.filterMap fun k => if (wget w k).getD 0 < 0 then some (0 - (wget w k).getD 0) else none)).sum = - negK w ks := by
  induction ks with
  | nil => rfl
  | cons k ks ih =>
    unfold negK at ih ⊢
    by_cases h : (wget w k).getD 0 < 0
    · simp [h] at ih ⊢; omega
    · simp [h] at ih ⊢; omega
theorem negK_perm {w : Wt} {a b : List Int} (h : a.Perm b) : negK w a = negK w b := by
  unfold negK
  induction h with
  | nil => rfl
  | cons x _ ih => simp [ih]
  | swap x y l => simp; omega
  | trans _ _ ih1 ih2 => exact ih1.trans ih2
theorem fm_int (c : Int → Prop) [DecidablePred c] (f : Int → Int) (xs : List Int) : xs.filterMap (fun k => if c k then some (D.int (f k)) else none) = (xs.filterMap fun k => if c k then some (f k) else none).map D.int := by
  induction xs with
  | nil => rfl
  | cons x xs ih => by_cases h : c x <;> simp [h, ih]
theorem fm_tm (c : Int → Prop) [DecidablePred c] (f g : Int → Int) (xs : List Int) : xs.filterMap (fun k => if c k then some (D.tup [.int (f k), .int (g k)]) else none) = (xs.filterMap fun k => if c k then some (f k, g k) else none).map fun p => D.tup [.int p.1, .int p.2] := by
  induction xs with
  | nil => rfl
  | cons x xs ih => by_cases h : c x <;> simp [h, ih]
theorem ofKey_w (w : Wt) : (wks w).map ofKey = (w.map (·.1)).map D.int := by simp [wks, ofKey]
theorem ints_of (xs : List Int) : intsOf (xs.map D.int) = some xs := by
  have := intsOf_map (fun x : Int => x) xs
  simpa using this
theorem unsigned_ok (hl : ts.length < 64) (h0 : ∀ p ∈ ts, p.2 ≠ 0) (hb : base ≤ st.length) : callN Tb (n + 1) 26 [encL ts, .int m] st base = .ok (.tup [enc (canon ts), .int (leastOf ts m)]) (st ++ [.dead]) := by
  show runFd (callN Tb n) ⟨2, 6, b__law_unsigned⟩ _ st base = _
  have hsl : (64 : Nat) < SL := by decide
  have hw := wOf_len ts
  simp [runFd, b__law_unsigned, evSs, evS, evE, evEs, evI, getV, encL, asgR]
  obtain ⟨ρ', st', e, hst, a, b, hρ⟩ := forD_map (φ := fun p : Int × Int => D.tup [.int p.1, .int p.2]) (xs := ts) (f := forF (evSs (callN Tb n) base bl__law_unsigned_0) (.tup [3, 4]))
    (I := fun d ρ st' => st' = st ++ [.dct (wks (wOf d)) (wvs (wOf d))] ∧ ∃ a b, ρ = [some (encL ts), some (.int (m - negW d)), some (.ref st.length), a, b, none])
    (ρ := [some (encL ts), some (.int m), some (.ref st.length), none, none, none]) (st := st ++ [.dct [] []]) ⟨rfl, none, none, by simp [negW]⟩ (by
      rintro d ⟨w, l⟩ r hd ρ st' ⟨rfl, a, b, rfl⟩
      have hdl : (wOf d).length < SL := by
        have h1 := wOf_len d
        have h2 := congrArg List.length hd
        simp at h2
        omega
      have hl0 : l ≠ 0 := h0 (w, l) (by rw [hd]; simp)
      refine ⟨[some (encL ts), some (.int (m - negW (d ++ [(w, l)]))), some (.ref st.length), some (.int w), some (.int l), none], _, .inl ?_, rfl, _, _, rfl⟩
      by_cases h : 0 < l
      · have h' : ¬ l < 0 := by omega
        simp [forF, putN, bl__law_unsigned_0, evSs, evS, evE, evEs, getV, biR, asgR, mtR, mtTy, keyOf, dGet_w, getD_map_int, cmpD, truth, binR, h, h', wOk, plain, wks_len, hdl, dPut_w, negW_snoc, wOf_snoc, wStep, absI]
      · have h' : l < 0 := by omega
        simp [forF, putN, bl__law_unsigned_0, evSs, evS, evE, evEs, getV, biR, asgR, mtR, mtTy, keyOf, dGet_w, getD_map_int, cmpD, truth, binR, h, h', wOk, plain, wks_len, hdl, dPut_w, negW_snoc, wOf_snoc, wStep, absI]
        omega)
  subst hst hρ
  unfold encL at e
  rw [e]
  have hks : ∀ k ∈ (wOf ts).map (·.1), ∃ v, wget (wOf ts) k = some v := fun k hk => wget_some hk
  have hks2 : ∀ k ∈ skeys (wOf ts), ∃ v, wget (wOf ts) k = some v := fun k hk => wget_some ((sortI_prm _).mem_iff.mp hk)
  simp only [evSs, evS, evE, evEs, evI, getV, ofKey_w]
  simp [hb, wipeE, ofKey_w]
  rw [← List.map_map, compD_map (g := fun k => if (wget (wOf ts) k).getD 0 < 0 then some (D.int (0 - (wget (wOf ts) k).getD 0)) else none)]
  rotate_left
  · intro k hk
    obtain ⟨v, hv⟩ := hks k hk
    by_cases h : v < 0 <;> simp [putN, evT, evE, evEs, getV, subD, keyOf, dGet_w, hv, cmpD, truth, binR, h]
  rw [fm_int (fun k => (wget (wOf ts) k).getD 0 < 0) (fun k => 0 - (wget (wOf ts) k).getD 0)]
  have l1 : ((((wOf ts).map (·.1)).filterMap fun k => if (wget (wOf ts) k).getD 0 < 0 then some (0 - (wget (wOf ts) k).getD 0) else none).map D.int).length ≤ SL := by
    rw [List.length_map]
    have h1 := List.length_filterMap_le (fun k => if (wget (wOf ts) k).getD 0 < 0 then some (0 - (wget (wOf ts) k).getD 0) else none) ((wOf ts).map (·.1))
    rw [List.length_map] at h1
    omega
  have ns := negsum (wOf ts) ((wOf ts).map (·.1))
  generalize (((wOf ts).map (·.1)).filterMap fun k => if (wget (wOf ts) k).getD 0 < 0 then some (0 - (wget (wOf ts) k).getD 0) else none) = L1 at l1 ns ⊢
  dsimp only
  rw [mkL_unb l1]
  have hkl : ((wOf ts).map (·.1)).length < 64 := by rw [List.length_map]; omega
  have l2 : ((skeys (wOf ts)).map D.int).length ≤ SL := by
    rw [List.length_map, skeys_len]
    omega
  have e2 : biR .sorted false [.dct (wks (wOf ts)) (wvs (wOf ts))] (st ++ [.dead]) = .ok (.lst ((skeys (wOf ts)).map .int)) (st ++ [.dead]) := by
    show ((opt (keyInts (wks (wOf ts))) (st ++ [.dead])).bind fun ns st => if ns.length < 64 then mkL false ((sortI ns).map .int) st else .bad) = _
    rw [keyInts_w]
    simp only [opt_some', bind_ok']
    rw [if_pos hkl, show (sortI ((wOf ts).map (·.1))) = skeys (wOf ts) from rfl, mkL_unb l2]
  have e1 : biR .sum false [.lst (L1.map .int)] (st ++ [.dead]) = .ok (.int (-negK (wOf ts) ((wOf ts).map (·.1)))) (st ++ [.dead]) := by
    show ((opt (intsOf (L1.map .int)) (st ++ [.dead])).bind fun ns st => R.ok (D.int ns.sum) st) = _
    rw [ints_of, ← ns]
    rfl
  simp [e1, e2, binR, getV]
  rw [compD_map (g := fun k => if (wget (wOf ts) k).getD 0 ≠ 0 then some (D.tup [.int (absI ((wget (wOf ts) k).getD 0)), .int (if 0 < (wget (wOf ts) k).getD 0 then k else 0 - k)]) else none)]
  rotate_left
  · intro k hk
    obtain ⟨v, hv⟩ := hks2 k hk
    by_cases h : v = 0
    · simp [putN, evT, evE, evEs, getV, subD, keyOf, dGet_w, hv, cmpD, eqD, sc2, sc, eqv, truth, binR, h]
    · by_cases h2 : 0 < v <;> simp [putN, evT, evE, evEs, getV, subD, keyOf, dGet_w, hv, cmpD, eqD, sc2, sc, eqv, truth, binR, biR, mkT, SL, h, h2, absI]
  rw [fm_tm (fun k => (wget (wOf ts) k).getD 0 ≠ 0) (fun k => absI ((wget (wOf ts) k).getD 0)) (fun k => if 0 < (wget (wOf ts) k).getD 0 then k else 0 - k)]
  have hc : ((skeys (wOf ts)).filterMap fun k => if (wget (wOf ts) k).getD 0 ≠ 0 then some (absI ((wget (wOf ts) k).getD 0), if 0 < (wget (wOf ts) k).getD 0 then k else 0 - k) else none) = canon ts := by
    unfold canon
    congr 1
    funext k
    unfold cTerm absI
    rcases Int.lt_trichotomy ((wget (wOf ts) k).getD 0) 0 with h | h | h
    · have h1 : ¬ 0 < (wget (wOf ts) k).getD 0 := by omega
      have h2 : (wget (wOf ts) k).getD 0 ≠ 0 := by omega
      simp [h, h1, h2]
    · simp [h]
    · have h1 : ¬ (wget (wOf ts) k).getD 0 < 0 := by omega
      have h2 : (wget (wOf ts) k).getD 0 ≠ 0 := by omega
      simp [h, h1, h2]
  rw [hc]
  have l3 : ((canon ts).map fun p : Int × Int => D.tup [.int p.1, .int p.2]).length ≤ SL := by
    rw [List.length_map]
    have := canon_len ts
    omega
  dsimp only
  rw [mkL_unb l3]
  have hp : negK (wOf ts) ((wOf ts).map (·.1)) = negK (wOf ts) (skeys (wOf ts)) := (negK_perm (sortI_prm _)).symm
  simp [biR, mkT, SL, enc, leastOf, hp]
  omega
end
end K25

namespace K25
open Rf
/-! ### what the rows mean -/
def bit (bs : List Bool) (k : Int) : Bool := bs.getD (k - 1).toNat false
def fB (bs : List Bool) (k v : Int) : Int := if bit bs k then v else 0
theorem truth_pos {bs : List Bool} {l : Int} (h : 0 < l) : truth1 bs l = bit bs (absI l) := by
  unfold truth1 bit absI
  have h1 : ¬ l < 0 := by omega
  simp only [h1, if_false, h, decide_true]
  cases bs.getD (l - 1).toNat false <;> rfl
theorem truth_neg {bs : List Bool} {l : Int} (h : l < 0) : truth1 bs l = !bit bs (absI l) := by
  unfold truth1 bit absI
  have h1 : ¬ 0 < l := by omega
  simp only [h, if_true, h1, decide_false]
  cases bs.getD (-l - 1).toNat false <;> rfl
def vOf (bs : List Bool) (p : Int × Int) : Int := if truth1 bs p.2 then p.1 else 0
theorem value_eq (ts : Tm) (bs : List Bool) : value ts bs = (ts.map (vOf bs)).sum := by
  unfold value
  induction ts with
  | nil => rfl
  | cons p ts ih =>
    by_cases h : truth1 bs p.2 = true
    · simp [h, vOf, ← ih]
    · simp [h, vOf, ← ih]
theorem keys_step {w : Wt} {p : Int × Int} (h : keysOk w) : keysOk (wStep w p) := wput_keys h
theorem keys_of (ts : Tm) : keysOk (wOf ts) := by
  have : ∀ (ts : Tm) (w : Wt), keysOk w → keysOk (ts.foldl wStep w) := by
    intro ts
    induction ts with
    | nil => intro w h; exact h
    | cons p ts ih => intro w h; exact ih _ (keys_step h)
  exact this ts [] (by simp [keysOk])
theorem value_w (bs : List Bool) (ts : Tm) (h0 : ∀ p ∈ ts, p.2 ≠ 0) : value ts bs = negW ts + wsum (fB bs) (wOf ts) := by
  have key : ∀ (ts : Tm) (w : Wt), keysOk w → (∀ p ∈ ts, p.2 ≠ 0) → (ts.map (vOf bs)).sum + wsum (fB bs) w = negW ts + wsum (fB bs) (ts.foldl wStep w) := by
    intro ts
    induction ts with
    | nil => intro w _ _; simp [negW]
    | cons p ts ih =>
      intro w hk h0
      have ih := ih (wStep w p) (keys_step hk) fun q hq => h0 q (List.mem_cons_of_mem _ hq)
      have hs := wsum_put (f := fB bs) (by intro k; unfold fB; split <;> rfl) hk (absI p.2) ((wget w (absI p.2)).getD 0 + (if 0 < p.2 then p.1 else -p.1))
      have hs' : wsum (fB bs) (wStep w p) = wsum (fB bs) w + fB bs (absI p.2) ((wget w (absI p.2)).getD 0 + (if 0 < p.2 then p.1 else -p.1)) - fB bs (absI p.2) ((wget w (absI p.2)).getD 0) := hs
      have hp := h0 p List.mem_cons_self
      have e1 : negW (p :: ts) = (if 0 < p.2 then 0 else p.1) + negW ts := by simp [negW]
      rw [List.map_cons, List.sum_cons, List.foldl_cons, e1]
      have e2 : vOf bs p + fB bs (absI p.2) ((wget w (absI p.2)).getD 0) = (if 0 < p.2 then 0 else p.1) + fB bs (absI p.2) ((wget w (absI p.2)).getD 0 + (if 0 < p.2 then p.1 else -p.1)) := by
        unfold vOf fB
        by_cases h : 0 < p.2
        · rw [truth_pos h]
          cases bit bs (absI p.2) <;> simp [h]
          omega
        · rw [truth_neg (by omega)]
          cases bit bs (absI p.2) <;> simp [h] <;> omega
      omega
  rw [value_eq]
  have := key ts [] (by simp [keysOk]) h0
  simpa [wsum, wOf] using this
/-- a sum by keys -/
theorem wsum_keys {f : Int → Int → Int} : ∀ {w : Wt}, keysOk w → wsum f w = ((w.map (·.1)).map fun k => f k ((wget w k).getD 0)).sum := by
  intro w
  induction w with
  | nil => intro _; rfl
  | cons p w ih =>
    intro h
    unfold keysOk at h
    rw [List.map_cons, List.nodup_cons] at h
    have ih := ih h.2
    have e : ((w.map (·.1)).map fun k => f k ((wget (p :: w) k).getD 0)) = (w.map (·.1)).map fun k => f k ((wget w k).getD 0) := by
      refine List.map_congr_left fun k hk => ?_
      have : p.1 ≠ k := fun z => h.1 (by rw [z]; exact hk)
      simp [wget, this]
    rw [List.map_cons, List.map_cons, List.sum_cons, e, ← ih]
    simp [wsum, wget]
theorem sum_perm {a b : List Int} (h : a.Perm b) : a.sum = b.sum := by
  induction h with
  | nil => rfl
  | cons x _ ih => simp [ih]
  | swap x y l => simp; omega
  | trans _ _ ih1 ih2 => exact ih1.trans ih2
theorem key_pos {ts : Tm} (h0 : ∀ p ∈ ts, p.2 ≠ 0) {b : Int} (hb : ∀ p ∈ ts, absI p.2 ≤ b) : ∀ k ∈ (wOf ts).map (·.1), 1 ≤ k ∧ k ≤ b := by
  have put : ∀ (w : Wt) (k v : Int), ∀ j ∈ (wput w k v).map (·.1), j ∈ w.map (·.1) ∨ j = k := by
    intro w k v j hj
    unfold wput at hj
    split at hj
    · rw [List.map_map] at hj
      exact .inl hj
    · rw [List.map_append, List.mem_append] at hj
      rcases hj with hj | hj
      · exact .inl hj
      · simp at hj; exact .inr hj
  have : ∀ (ts : Tm) (w : Wt), (∀ p ∈ ts, p.2 ≠ 0) → (∀ p ∈ ts, absI p.2 ≤ b) → (∀ k ∈ w.map (·.1), 1 ≤ k ∧ k ≤ b) → ∀ k ∈ (ts.foldl wStep w).map (·.1), 1 ≤ k ∧ k ≤ b := by
    intro ts
    induction ts with
    | nil => intro w _ _ h; exact h
    | cons p ts ih =>
      intro w h0 hb h
      refine ih (wStep w p) (fun q hq => h0 q (List.mem_cons_of_mem _ hq)) (fun q hq => hb q (List.mem_cons_of_mem _ hq)) fun k hk => ?_
      rcases put _ _ _ k hk with z | z
      · exact h k z
      · have h1 := h0 p List.mem_cons_self
        have h2 := hb p List.mem_cons_self
        rw [z]
        refine ⟨?_, h2⟩
        unfold absI
        split <;> omega
  exact this ts [] h0 hb (by simp)
theorem skey_pos {ts : Tm} (h0 : ∀ p ∈ ts, p.2 ≠ 0) {b : Int} (hb : ∀ p ∈ ts, absI p.2 ≤ b) : ∀ k ∈ skeys (wOf ts), 1 ≤ k ∧ k ≤ b := fun k hk => key_pos h0 hb k ((sortI_prm _).mem_iff.mp hk)
/-- the value of the plain row -/
theorem value_canon (bs : List Bool) (ts : Tm) (h0 : ∀ p ∈ ts, p.2 ≠ 0) {b : Int} (hb : ∀ p ∈ ts, absI p.2 ≤ b) : value (canon ts) bs = wsum (fB bs) (wOf ts) - negK (wOf ts) (skeys (wOf ts)) := by
  have e1 : wsum (fB bs) (wOf ts) = ((skeys (wOf ts)).map fun k => fB bs k ((wget (wOf ts) k).getD 0)).sum := by
    rw [wsum_keys (keys_of ts)]
    exact (sum_perm ((sortI_prm _).map _)).symm
  rw [e1, value_eq]
  unfold canon negK
  have hp := skey_pos h0 hb
  revert hp
  generalize skeys (wOf ts) = ks
  intro hp
  induction ks with
  | nil => rfl
  | cons k ks ih =>
    have ih := ih fun j hj => hp j (List.mem_cons_of_mem _ hj)
    have hk := (hp k List.mem_cons_self).1
    simp only [List.map_cons, List.sum_cons]
    rcases Int.lt_trichotomy ((wget (wOf ts) k).getD 0) 0 with h | h | h
    · have h1 : ¬ 0 < (wget (wOf ts) k).getD 0 := by omega
      have e : cTerm (wOf ts) k = some (-(wget (wOf ts) k).getD 0, -k) := by unfold cTerm; rw [if_neg h1, if_pos h]
      rw [List.filterMap_cons_some e, List.map_cons, List.sum_cons, ih]
      have t : truth1 bs (-k) = !bit bs k := by
        rw [truth_neg (by omega)]
        unfold absI
        rw [if_pos (by omega), Int.neg_neg]
      simp only [vOf, t, fB, h, if_true]
      cases bit bs k <;> simp <;> omega
    · have e : cTerm (wOf ts) k = none := by unfold cTerm; rw [h]; rfl
      rw [List.filterMap_cons_none e, ih]
      simp only [fB, h]
      cases bit bs k <;> simp
    · have h1 : ¬ (wget (wOf ts) k).getD 0 < 0 := by omega
      have e : cTerm (wOf ts) k = some ((wget (wOf ts) k).getD 0, k) := by unfold cTerm; rw [if_pos h]
      rw [List.filterMap_cons_some e, List.map_cons, List.sum_cons, ih]
      have t : truth1 bs k = bit bs k := by
        rw [truth_pos (by omega)]
        unfold absI
        rw [if_neg (by omega)]
      simp only [vOf, t, fB, h1, if_false]
      cases bit bs k <;> simp <;> omega
theorem canon_mem {ts : Tm} {p : Int × Int} (h : p ∈ canon ts) : ∃ k ∈ skeys (wOf ts), cTerm (wOf ts) k = some p := List.mem_filterMap.mp h
theorem canon_ok {ts : Tm} (h0 : ∀ p ∈ ts, p.2 ≠ 0) {b : Int} (hb : ∀ p ∈ ts, absI p.2 ≤ b) {p : Int × Int} (h : p ∈ canon ts) : 0 < p.1 ∧ p.2 ≠ 0 ∧ absI p.2 ≤ b := by
  obtain ⟨k, hk, e⟩ := canon_mem h
  have h1 := skey_pos h0 hb k hk
  unfold cTerm at e
  split at e
  · cases e
    refine ⟨by assumption, by show k ≠ 0; omega, ?_⟩
    show absI k ≤ b
    unfold absI; split <;> omega
  · split at e
    · cases e
      refine ⟨by show 0 < -_; omega, by show -k ≠ 0; omega, ?_⟩
      show absI (-k) ≤ b
      unfold absI; split <;> omega
    · cases e
theorem value_nonneg {ts : Tm} (h : ∀ p ∈ ts, 0 < p.1) (bs : List Bool) : 0 ≤ value ts bs ∧ value ts bs ≤ total ts := by
  rw [value_eq]
  unfold total
  induction ts with
  | nil => simp
  | cons p ts ih =>
    have ih := ih fun q hq => h q (List.mem_cons_of_mem _ hq)
    have hp := h p List.mem_cons_self
    simp only [List.map_cons, List.sum_cons, vOf]
    split <;> omega
/-- meeting is kept -/
theorem meets_iff {ts : Tm} {m : Int} (h0 : ∀ p ∈ ts, p.2 ≠ 0) {b : Int} (hb : ∀ p ∈ ts, absI p.2 ≤ b) (bs : List Bool) : least0 ts m ≤ value (canon ts) bs ↔ m ≤ value ts bs := by
  have h1 := value_canon bs ts h0 hb
  have h2 := value_w bs ts h0
  have h3 := (value_nonneg (ts := canon ts) (fun p hp => (canon_ok h0 hb hp).1) bs).1
  unfold least0 leastOf
  split <;> omega
/-! ### the plain row is a row -/
theorem pw_of {xs : List Int} (h : ascOr xs) (hn : xs.Nodup) : xs.Pairwise (· < ·) := by
  induction xs with
  | nil => exact .nil
  | cons x xs ih =>
    rw [List.nodup_cons] at hn
    refine .cons (fun y hy => ?_) (ih h.2 hn.2)
    have h1 := h.1 y hy
    have h2 : x ≠ y := fun z => hn.1 (z ▸ hy)
    omega
theorem asc_of {xs : List Int} (h : xs.Pairwise (· < ·)) : ascB xs = true := by
  induction xs with
  | nil => rfl
  | cons x xs ih =>
    cases xs with
    | nil => rfl
    | cons y r =>
      cases h with
      | cons h1 h2 =>
        have ih := ih h2
        have hxy : x < y := h1 y List.mem_cons_self
        unfold ascB at ih ⊢
        show ((decide (x < y)) && _) = true
        rw [decide_eq_true hxy, Bool.true_and]
        exact ih
theorem canon_keys {ts : Tm} (h0 : ∀ p ∈ ts, p.2 ≠ 0) {b : Int} (hb : ∀ p ∈ ts, absI p.2 ≤ b) : (canon ts).map (fun p => absI p.2) = (skeys (wOf ts)).filter fun k => decide ((wget (wOf ts) k).getD 0 ≠ 0) := by
  have hp := skey_pos h0 hb
  unfold canon
  revert hp
  generalize skeys (wOf ts) = ks
  intro hp
  induction ks with
  | nil => rfl
  | cons k ks ih =>
    have ih := ih fun j hj => hp j (List.mem_cons_of_mem _ hj)
    have hk := (hp k List.mem_cons_self).1
    rcases Int.lt_trichotomy ((wget (wOf ts) k).getD 0) 0 with h | h | h
    · have h1 : ¬ 0 < (wget (wOf ts) k).getD 0 := by omega
      have h2 : (wget (wOf ts) k).getD 0 ≠ 0 := by omega
      have e : cTerm (wOf ts) k = some (-(wget (wOf ts) k).getD 0, -k) := by unfold cTerm; rw [if_neg h1, if_pos h]
      rw [List.filterMap_cons_some e, List.map_cons, ih, List.filter_cons_of_pos (by simpa using h2)]
      congr 1
      show absI (-k) = k
      unfold absI; split <;> omega
    · have e : cTerm (wOf ts) k = none := by unfold cTerm; rw [h]; rfl
      rw [List.filterMap_cons_none e, ih, List.filter_cons_of_neg (by simpa using h)]
    · have h2 : (wget (wOf ts) k).getD 0 ≠ 0 := by omega
      have e : cTerm (wOf ts) k = some ((wget (wOf ts) k).getD 0, k) := by unfold cTerm; rw [if_pos h]
      rw [List.filterMap_cons_some e, List.map_cons, ih, List.filter_cons_of_pos (by simpa using h2)]
      congr 1
      show absI k = k
      unfold absI; split <;> omega
theorem canon_row {ts : Tm} {m : Int} (hl : ts.length < 64) (h0 : ∀ p ∈ ts, p.2 ≠ 0) {b : Int} (hb : ∀ p ∈ ts, absI p.2 ≤ b) : rowOk (canon ts) (least0 ts m) := by
  have hc := canon_len ts
  have hs : SL = 16777216 := rfl
  refine ⟨by omega, fun p hp => (canon_ok h0 hb hp).2.1, ?_, fun p hp => (canon_ok h0 hb hp).1, ?_⟩
  · unfold least0; split <;> omega
  · rw [canon_keys h0 hb]
    refine asc_of (List.Pairwise.filter _ (pw_of (sortI_ascO _) ?_))
    exact (sortI_prm _).nodup_iff.mpr (keys_of ts)
/-! ### the assignments -/
def dbl (rs : List (List Bool)) : List (List Bool) := rs.map (· ++ [false]) ++ rs.map (· ++ [true])
def asg : Nat → List (List Bool)
  | 0 => [[]]
  | k + 1 => dbl (asg k)
theorem asg_len : ∀ {k : Nat} {bs : List Bool}, bs ∈ asg k → bs.length = k
  | 0, bs, h => by simp [asg] at h; rw [h]; rfl
  | k + 1, bs, h => by
    unfold asg dbl at h
    rcases List.mem_append.mp h with h | h <;>
    · obtain ⟨cs, hc, rfl⟩ := List.mem_map.mp h
      rw [List.length_append, asg_len hc]; rfl
theorem asg_all : ∀ {k : Nat} {bs : List Bool}, bs.length = k → bs ∈ asg k
  | 0, bs, h => by
    have : bs = [] := List.eq_nil_of_length_eq_zero h
    rw [this]; simp [asg]
  | k + 1, bs, h => by
    have hn : bs ≠ [] := by intro z; rw [z] at h; cases h
    have e := List.dropLast_concat_getLast hn
    have hm : bs.dropLast ∈ asg k := asg_all (by rw [List.length_dropLast, h]; rfl)
    unfold asg dbl
    rw [List.mem_append]
    cases hb : bs.getLast hn with
    | false => exact .inl (List.mem_map.mpr ⟨_, hm, by rw [← hb]; exact e⟩)
    | true => exact .inr (List.mem_map.mpr ⟨_, hm, by rw [← hb]; exact e⟩)
theorem asg_count : ∀ k, (asg k).length = 2 ^ k
  | 0 => rfl
  | k + 1 => by unfold asg dbl; rw [List.length_append, List.length_map, List.length_map, asg_count k]; omega
/-- the assignment that meets the plain row's every literal -/
def best (ts : Tm) : List Bool := [1, 2, 3, 4, 5].map fun k : Int => decide (0 < (wget (wOf ts) k).getD 0)
theorem best_bit (ts : Tm) {k : Int} (h1 : 1 ≤ k) (h2 : k ≤ 5) : bit (best ts) k = decide (0 < (wget (wOf ts) k).getD 0) := by
  have : k = 1 ∨ k = 2 ∨ k = 3 ∨ k = 4 ∨ k = 5 := by omega
  rcases this with rfl | rfl | rfl | rfl | rfl <;> rfl
theorem best_total {ts : Tm} (h0 : ∀ p ∈ ts, p.2 ≠ 0) (hb : ∀ p ∈ ts, absI p.2 ≤ 5) : value (canon ts) (best ts) = total (canon ts) := by
  rw [value_eq]
  unfold total
  congr 1
  refine List.map_congr_left fun p hp => ?_
  obtain ⟨k, hk, e⟩ := canon_mem hp
  have h1 := skey_pos h0 hb k hk
  have hbit := best_bit ts h1.1 h1.2
  unfold vOf
  unfold cTerm at e
  split at e
  · rename_i h
    cases e
    rw [truth_pos (by show 0 < k; omega)]
    have : absI k = k := by unfold absI; rw [if_neg (by omega)]
    show (if bit (best ts) (absI k) then _ else _) = _
    rw [this, hbit, decide_eq_true h]
    rfl
  · rename_i hn
    split at e
    · rename_i h
      cases e
      rw [truth_neg (by show -k < 0; omega)]
      have : absI (-k) = k := by unfold absI; rw [if_pos (by omega), Int.neg_neg]
      show (if (!bit (best ts) (absI (-k))) then _ else _) = _
      rw [this, hbit, decide_eq_false hn]
      rfl
    · cases e
theorem contra_iff {ts : Tm} {m : Int} (h0 : ∀ p ∈ ts, p.2 ≠ 0) (hb : ∀ p ∈ ts, absI p.2 ≤ 5) : total (canon ts) < least0 ts m ↔ ∀ bs ∈ asg 5, ¬ m ≤ value ts bs := by
  constructor
  · intro h bs _ hm
    have h1 := (meets_iff h0 hb bs).mpr hm
    have h2 := (value_nonneg (ts := canon ts) (fun p hp => (canon_ok h0 hb hp).1) bs).2
    omega
  · intro h
    have h1 := h (best ts) (asg_all rfl)
    have h2 := mt (meets_iff (m := m) h0 hb (best ts)).mp h1
    rw [best_total h0 hb] at h2
    omega
end K25

namespace K25
open Rf
section
variable {n : Nat} {st : Sto} {base : Nat} {ts : Tm} {m : Int}
theorem law_row_ok (hl : ts.length < 64) (h0 : ∀ p ∈ ts, p.2 ≠ 0) : callN Tb (n + 2) 27 [encL ts, .int m] st base = .ok (row (canon ts) (least0 ts m)) st := by
  show runFd (callN Tb (n + 1)) ⟨2, 4, b__law_row⟩ _ st base = _
  have z := callR_sc (base := base) (unsigned_ok (n := n) (st := st) (base := st.length) (m := m) hl h0 (Nat.le_refl _)) (by simp [plain, plains, plain_enc])
  simp [runFd, b__law_row, evSs, evS, evE, evEs, getV, z, asgR, asgRs, biR, mkT, SL, row, least0]
  split <;> split <;> omega
/-! ### _law_same of a thing with itself -/
def tree : Nat → D → Prop
  | _, .int _ => True
  | _, .bl _ => True
  | 0, .tup _ => False
  | k + 1, .tup ds => ds.length ≤ SL ∧ ∀ d ∈ ds, tree k d
  | _, _ => False
theorem zip_self (ds : List D) : ds.zipWith (fun d e => D.tup [d, e]) ds = ds.map fun d => D.tup [d, d] := by
  induction ds with
  | nil => rfl
  | cons d ds ih => simp [ih]
theorem same_ok : ∀ (k : Nat) {d : D} {st : Sto} {base n : Nat}, tree k d → callN Tb (n + k + 1) 28 [d, d] st base = .ok (.bl true) st := by
  intro k
  induction k with
  | zero =>
    intro d st base n h
    show runFd (callN Tb (n + 0)) ⟨2, 5, b__law_same⟩ _ st base = _
    cases d with
    | int i => simp [runFd, b__law_same, evSs, evS, evE, evEs, getV, cmpD, isNon, truth, isKi, asB, eqD, sc2, sc, eqv]
    | bl b => cases b <;> simp [runFd, b__law_same, evSs, evS, evE, evEs, getV, cmpD, isNon, truth, isKi, asB, eqD, sc2, sc, eqv]
    | _ => exact h.elim
  | succ k ih =>
    intro d st base n h
    show runFd (callN Tb (n + k + 1)) ⟨2, 5, b__law_same⟩ _ st base = _
    cases d with
    | int i => simp [runFd, b__law_same, evSs, evS, evE, evEs, getV, cmpD, isNon, truth, isKi, asB, eqD, sc2, sc, eqv]
    | bl b => cases b <;> simp [runFd, b__law_same, evSs, evS, evE, evEs, getV, cmpD, isNon, truth, isKi, asB, eqD, sc2, sc, eqv]
    | tup ds =>
      obtain ⟨h1, h2⟩ := h
      simp [runFd, b__law_same, evSs, evS, evE, evEs, evI, getV, cmpD, isNon, truth, isKi, asB, eqD, sc2, sc, eqv, biR, lenD]
      rw [compD_map (g := fun _ => some (.bl true))]
      · rw [filterMap_some']
        have l2 : (ds.map fun _ => D.bl true).length ≤ SL := by rw [List.length_map]; exact h1
        have := boolsOf_map (fun _ : D => true) ds
        simp [mkL_unb l2, this]
      · intro e he
        have z := ih (st := st) (base := st.length) (n := n) (h2 e he)
        simp [putN, wipeE, evT, evE, evEs, getV, callR, z, plain]
    | _ => exact h.elim
theorem tree_row (hl : ts.length ≤ SL) : tree 3 (row ts m) := by
  refine ⟨by simp [SL], fun d hd => ?_⟩
  simp at hd
  rcases hd with rfl | rfl
  · refine ⟨by simpa using hl, fun e he => ?_⟩
    obtain ⟨p, _, rfl⟩ := List.mem_map.mp he
    refine ⟨by simp [SL], fun x hx => ?_⟩
    simp at hx
    rcases hx with rfl | rfl <;> trivial
  · trivial
/-! ### the assignments -/
def encA (rs : List (List Bool)) : D := .lst (rs.map encB)
theorem doubled_ok {rs : List (List Bool)} {k : Nat} (hl : rs.length ≤ 1000) (hk : ∀ r ∈ rs, r.length ≤ 1000) : callN Tb (n + 1) 30 [encA rs] st base = .ok (encA (dbl rs)) st := by
  show runFd (callN Tb n) ⟨1, 2, b__law_doubled⟩ _ st base = _
  have hs : SL = 16777216 := rfl
  have one : ∀ (b : Bool), ∀ r ∈ rs, mkT ((r.map D.bl) ++ [.bl b]) st = .ok (encB (r ++ [b])) st := by
    intro b r hr
    have := hk r hr
    unfold mkT
    rw [if_pos (by simp; omega)]
    simp [encB]
  simp [runFd, b__law_doubled, evSs, evS, evE, evEs, evI, getV, encA]
  have l1 : ∀ b : Bool, (rs.map fun r => encB (r ++ [b])).length ≤ SL := fun b => by rw [List.length_map]; omega
  rw [compD_map (g := fun r => some (encB (r ++ [false])))]
  · rw [filterMap_some']
    dsimp only
    rw [mkL_unb (l1 false)]
    simp only [bind_ok']
    rw [compD_map (g := fun r => some (encB (r ++ [true])))]
    · rw [filterMap_some']
      dsimp only
      rw [mkL_unb (l1 true)]
      have l3 : ((rs.map fun r => encB (r ++ [false])) ++ rs.map fun r => encB (r ++ [true])).length ≤ SL := by
        rw [List.length_append, List.length_map, List.length_map]; omega
      simp [binR, mkL_unb l3, dbl]
      rfl
    · intro r hr
      have := one true r hr
      unfold encB at this ⊢
      simp [putN, wipeE, evT, evE, evEs, getV, encB, mkT, SL, binR] at this ⊢
      simp [this]
  · intro r hr
    have := one false r hr
    unfold encB at this ⊢
    simp [putN, wipeE, evT, evE, evEs, getV, encB, mkT, SL, binR] at this ⊢
    simp [this]
theorem plains_bools : ∀ bs : List Bool, plains (bs.map D.bl) = true
  | [] => rfl
  | b :: bs => by simp [plains, plain, plains_bools bs]
theorem plain_encA (rs : List (List Bool)) : plain (encA rs) = true := by
  show plains (rs.map encB) = true
  induction rs with
  | nil => rfl
  | cons r rs ih =>
    have : plain (encB r) = true := plains_bools r
    simp [plains, this, ih]
theorem assignments_ok : callN Tb (n + 2) 29 [.int 5] st base = .ok (encA (asg 5)) st := by
  show runFd (callN Tb (n + 1)) ⟨1, 3, b__law_assignments⟩ _ st base = _
  have e1 : rng1L (.int 5) = some ((List.range 5).map fun (i : Nat) => D.int (i : Int)) := rfl
  simp [runFd, b__law_assignments, evSs, evS, evE, evEs, evI, getV, e1, mkT, mkL, SL, asgR]
  obtain ⟨ρ', st', e, hst, a, hρ⟩ := forD_map (φ := fun i : Nat => D.int (i : Int)) (xs := List.range 5) (f := forF (evSs (callN Tb (n + 1)) base bl__law_assignments_0) (.nm 2))
    (I := fun d ρ st' => st' = st ∧ ∃ a, ρ = [some (.int 5), some (encA (asg d.length)), a])
    (ρ := [some (.int 5), some (.lst [.tup []]), none]) (st := st) ⟨rfl, none, rfl⟩ (by
      rintro d x r hd ρ st' ⟨rfl, a, rfl⟩
      have hd5 : d.length < 5 := by
        have := congrArg List.length hd
        simp at this
        omega
      have hc : (asg d.length).length ≤ 1000 := by
        rw [asg_count]
        have : d.length = 0 ∨ d.length = 1 ∨ d.length = 2 ∨ d.length = 3 ∨ d.length = 4 := by omega
        rcases this with h | h | h | h | h <;> rw [h] <;> decide
      have z := doubled_ok (n := n) (st := st') (base := st'.length) (rs := asg d.length) (k := 0) hc fun r hr => by rw [asg_len hr]; omega
      refine ⟨[some (.int 5), some (encA (asg (d ++ [x]).length)), some (.int x)], st', .inl ?_, rfl, _, rfl⟩
      have hp := plain_encA (dbl (asg d.length))
      simp [forF, putN, bl__law_assignments_0, evSs, evS, evE, evEs, getV, asgR, callR, z, hp]
      rfl)
  subst hst hρ
  rw [e]
  simp [evSs, evS, evE, getV]
/-! ### the pool -/
theorem log_lt {i : Int} {k : Nat} (h1 : -(2 ^ k : Int) < i) (h2 : i < (2 ^ k : Int)) (hk : 0 < k) : i.natAbs.log2 < k := by
  have h3 : i.natAbs < 2 ^ k := by
    have : ((2 ^ k : Nat) : Int) = (2 : Int) ^ k := by norm_cast
    omega
  by_cases h0 : i.natAbs = 0
  · rw [h0]; simpa using hk
  · exact (Nat.log2_lt h0).mpr h3
theorem mul_ok {i j : Int} (h1 : -(2 ^ 300 : Int) < i) (h2 : i < (2 ^ 300 : Int)) (h3 : -(2 ^ 300 : Int) < j) (h4 : j < (2 ^ 300 : Int)) : mulOk i j = true := by
  have a := log_lt h1 h2 (by decide)
  have b := log_lt h3 h4 (by decide)
  exact decide_eq_true (by omega)
theorem div_ok {j : Int} (h1 : 0 < j) (h2 : j < (2 ^ 300 : Int)) : divOk j = true := by
  have b := log_lt (k := 300) (by omega) h2 (by decide)
  unfold divOk
  rw [decide_eq_true h1, decide_eq_true (by omega)]; rfl
def PoolOk (K : Int) (a b c : Int) : Prop := (0 ≤ a ∧ a < 2 ^ 250) ∧ (0 ≤ b ∧ b < 2147483648) ∧ (0 ≤ c ∧ c ≤ K)
def poolO (a b c : Int) : Ob := .lst [.int a, .int b, .int c]
theorem below_ok {p : Nat} {a b c K many : Int} (hp : st[p]? = some (poolO a b c)) (h : PoolOk K a b c) (hK : K < 1000000) (hm : 0 < many) (hm2 : many < 2 ^ 200) :
    ∃ v a' b' c', callN Tb (n + 1) 24 [.ref p, .int many] st base = .ok (.int v) (st.set p (poolO a' b' c')) ∧ (0 ≤ v ∧ v < many) ∧ PoolOk (K + 1) a' b' c' := by
  obtain ⟨⟨ha, ha2⟩, ⟨hb, hb2⟩, ⟨hc, hc2⟩⟩ := h
  have lt : p < st.length := (List.getElem?_eq_some_iff.mp hp).1
  have g1 : ∀ o : Ob, (st.set p o)[p]? = some o := fun o => List.getElem?_set_self lt
  have v0 : vw st (.ref p) = .lst [.int a, .int b, .int c] := by
    show (match st[p]? with | some (.lst ds) => D.lst ds | some (.dct ks vs) => .dct ks vs | _ => .ref p) = _
    rw [hp]; rfl
  have v1 : ∀ ds, vw (st.set p (.lst ds)) (.ref p) = .lst ds := fun ds => by
    show (match (st.set p (.lst ds))[p]? with | some (.lst ds) => D.lst ds | some (.dct ks vs) => .dct ks vs | _ => .ref p) = _
    rw [g1]
  have hd := div_ok hm (by omega)
  by_cases h0 : 0 < a
  · refine ⟨a % many, a / many, b, c, ?_, ⟨Int.emod_nonneg _ (by omega), Int.emod_lt_of_pos _ hm⟩, ⟨⟨Int.ediv_nonneg ha (by omega), ?_⟩, ⟨hb, hb2⟩, ⟨hc, by omega⟩⟩⟩
    · show runFd (callN Tb n) ⟨2, 4, b__law_below⟩ _ st base = _
      unfold poolO at hp ⊢
      simp [runFd, b__law_below, evSs, evS, evE, evEs, getV, v0, subD, atI, ixN, cmpD, truth, h0, biR, hd, asgR, asgRs, hp, wOk, plain]
    · have := Int.ediv_le_self many ha
      omega
  · have hS0 : 0 ≤ (b * 39941 + 7285 * (c + 1) + 71) % 2147483563 := Int.emod_nonneg _ (by decide)
    have hS1 : (b * 39941 + 7285 * (c + 1) + 71) % 2147483563 < 2147483563 := Int.emod_lt_of_pos _ (by decide)
    have m1 : mulOk b 39941 = true := mul_ok (by omega) (by omega) (by decide) (by decide)
    have m2 : mulOk 7285 (c + 1) = true := mul_ok (by decide) (by decide) (by omega) (by omega)
    have m3 : mulOk ((b * 39941 + 7285 * (c + 1) + 71) % 2147483563) ((b * 39941 + 7285 * (c + 1) + 71) % 2147483563 % 3989 + 18471) = true := by
      have h1 : 0 ≤ (b * 39941 + 7285 * (c + 1) + 71) % 2147483563 % 3989 := Int.emod_nonneg _ (by decide)
      have h2 : (b * 39941 + 7285 * (c + 1) + 71) % 2147483563 % 3989 < 3989 := Int.emod_lt_of_pos _ (by decide)
      exact mul_ok (by omega) (by omega) (by omega) (by omega)
    have d1 : divOk 359 = true := by decide
    generalize hS : (b * 39941 + 7285 * (c + 1) + 71) % 2147483563 = S at hS0 hS1 m3
    have hB0 : 0 ≤ (S * (S % 3989 + 18471) + (c + 1)) % 2147483563 := Int.emod_nonneg _ (by decide)
    have hB1 : (S * (S % 3989 + 18471) + (c + 1)) % 2147483563 < 2147483563 := Int.emod_lt_of_pos _ (by decide)
    generalize hB : (S * (S % 3989 + 18471) + (c + 1)) % 2147483563 = B at hB0 hB1
    refine ⟨(B / 359) % many, a, B, c + 1, ?_, ⟨Int.emod_nonneg _ (by omega), Int.emod_lt_of_pos _ hm⟩, ⟨⟨ha, ha2⟩, ⟨hB0, by omega⟩, ⟨by omega, by omega⟩⟩⟩
    show runFd (callN Tb n) ⟨2, 4, b__law_below⟩ _ st base = _
    unfold poolO at hp ⊢
    simp [runFd, b__law_below, evSs, evS, evE, evEs, getV, v0, v1, subD, atI, ixN, cmpD, truth, h0, biR, asgR, asgRs, hp, g1, wOk, plain, binR, m1, m2, hS, m3, hB, d1, hm]
end
end K25

namespace K25
open Rf
section
variable {n : Nat} {st : Sto} {base : Nat} {ts : Tm} {m : Int}
theorem below_sc {p : Nat} {a b c K many : Int} (hp : st[p]? = some (poolO a b c)) (h : PoolOk K a b c) (hK : K < 1000000) (hm : 0 < many) (hm2 : many < 2 ^ 200) :
    ∃ v a' b' c', callR (callN Tb (n + 1)) base true 24 [.ref p, .int many] st = .ok (.int v) (st.set p (poolO a' b' c')) ∧ (0 ≤ v ∧ v < many) ∧ PoolOk (K + 1) a' b' c' := by
  obtain ⟨v, a', b', c', e, hv, h'⟩ := below_ok (n := n) (base := st.length) hp h hK hm hm2
  refine ⟨v, a', b', c', ?_, hv, h'⟩
  show (match callN Tb (n + 1) 24 [.ref p, .int many] st st.length with
      | .ok d st' => if plain d then R.ok d (st'.take st.length) else R.bad
      | .exc d st' => R.exc d (st'.take st.length)
      | .bad => R.bad) = _
  rw [e]
  dsimp only
  rw [if_pos (show plain (.int v) = true from rfl), List.take_of_length_le (by simp)]
theorem one_sc {p : Nat} {a b c K : Int} (hp : st[p]? = some (poolO a b c)) (h : PoolOk K a b c) (hK : K < 1000000) :
    ∃ v a' b' c', callR (callN Tb (n + 2)) base true 25 [.ref p, .tup [.int 2, .int 5, .int 1000000000000]] st = .ok (.int v) (st.set p (poolO a' b' c')) ∧ (v = 2 ∨ v = 5 ∨ v = 1000000000000) ∧ PoolOk (K + 1) a' b' c' := by
  obtain ⟨v, a', b', c', e, hv, h'⟩ := below_sc (n := n) (base := st.length) (many := 3) hp h hK (by decide) (by decide)
  have hv3 : v = 0 ∨ v = 1 ∨ v = 2 := by omega
  have key : ∃ w, callN Tb (n + 2) 25 [.ref p, .tup [.int 2, .int 5, .int 1000000000000]] st st.length = .ok (.int w) (st.set p (poolO a' b' c')) ∧ (w = 2 ∨ w = 5 ∨ w = 1000000000000) := by
    show ∃ w, runFd (callN Tb (n + 1)) ⟨2, 2, b__law_one⟩ _ st st.length = _ ∧ _
    rcases hv3 with rfl | rfl | rfl
    · exact ⟨2, by simp [runFd, b__law_one, evSs, evS, evE, evEs, getV, biR, lenD, e, subD, atI, ixN], .inl rfl⟩
    · exact ⟨5, by simp [runFd, b__law_one, evSs, evS, evE, evEs, getV, biR, lenD, e, subD, atI, ixN], .inr (.inl rfl)⟩
    · exact ⟨1000000000000, by simp [runFd, b__law_one, evSs, evS, evE, evEs, getV, biR, lenD, e, subD, atI, ixN], .inr (.inr rfl)⟩
  obtain ⟨w, ew, hw⟩ := key
  refine ⟨w, a', b', c', ?_, hw, h'⟩
  show (match callN Tb (n + 2) 25 _ st st.length with
      | .ok d st' => if plain d then R.ok d (st'.take st.length) else R.bad
      | .exc d st' => R.exc d (st'.take st.length)
      | .bad => R.bad) = _
  rw [ew]
  dsimp only
  rw [if_pos (show plain (.int w) = true from rfl), List.take_of_length_le (by simp)]
theorem cutL_map {α β : Type} (f : α → β) (xs : List α) (lo hi : Option Int) : cutL (xs.map f) lo hi = (cutL xs lo hi).map f := by
  unfold cutL
  rw [List.length_map, List.map_take, List.map_drop]
theorem pool_ok {ns : List Int} {lap : Int} (hl : ns.length ≤ 63) (h0 : 0 ≤ lap) (h1 : lap ≤ 1000) :
    ∃ a b, callN Tb (n + 1) 23 [.frz (ns.map .int), .int lap] st base = .ok (.ref st.length) (st ++ [poolO a b 0]) ∧ PoolOk 0 a b 0 := by
  have hs : SL = 16777216 := rfl
  have hcell : ∃ cell : Int, (if lap < ns.length then atI (ns.map D.int) lap = some (.int cell) else cell = 6037 * lap + 169) := by
    by_cases h : lap < ns.length
    · have hb : lap.toNat < ns.length := by omega
      refine ⟨ns[lap.toNat], ?_⟩
      rw [if_pos h]
      unfold atI ixN
      rw [if_pos h0, if_pos (by simpa using h)]
      simp [hb]
    · exact ⟨6037 * lap + 169, by rw [if_neg h]⟩
  obtain ⟨cell, hcell⟩ := hcell
  have m1 : mulOk 6037 lap = true := mul_ok (by decide) (by decide) (by omega) (by omega)
  have m2 : mulOk 5837 lap = true := mul_ok (by decide) (by decide) (by omega) (by omega)
  have p15 : powOk 10 15 = true := by decide
  have p60 : powOk 10 60 = true := by decide
  have lc : ((cutL ns none (some 12)).map D.int).length ≤ SL := by
    rw [List.length_map]
    unfold cutL
    rw [List.length_take, List.length_drop]
    omega
  have step1 : ∃ ρ' st', forD (forF (evSs (callN Tb n) base bl__law_pool_0) (.nm 4)) (fun _ => true) ((cutL ns none (some 12)).map D.int) [some (.frz (ns.map .int)), some (.int lap), some (.int cell), some (.int (81529 + 5837 * lap)), none] st = .nx ρ' st' ∧
      (st' = st ∧ ∃ s a : _, (0 ≤ s ∧ s < 2 ^ 60) ∧ ρ' = [some (.frz (ns.map .int)), some (.int lap), some (.int cell), some (.int s), a]) := by
    refine forD_map (φ := D.int) (I := fun d ρ st' => st' = st ∧ ∃ s a : _, (0 ≤ s ∧ s < 2 ^ 60) ∧ ρ = [some (.frz (ns.map .int)), some (.int lap), some (.int cell), some (.int s), a]) ⟨rfl, 81529 + 5837 * lap, none, ⟨by omega, by omega⟩, rfl⟩ ?_
    rintro d x r hd ρ st' ⟨rfl, s, a, ⟨hs0, hs1⟩, rfl⟩
    have m3 : mulOk s 48111 = true := mul_ok (by omega) (by omega) (by decide) (by decide)
    refine ⟨[some (.frz (ns.map .int)), some (.int lap), some (.int cell), some (.int ((s * 48111 + x % 2147483587 + 37) % 2147483647)), some (.int x)], st', .inl ?_, rfl, _, _, ⟨Int.emod_nonneg _ (by decide), ?_⟩, rfl⟩
    · simp [forF, putN, bl__law_pool_0, evSs, evS, evE, evEs, getV, asgR, binR, biR, m3]
    · have := Int.emod_lt_of_pos (s * 48111 + x % 2147483587 + 37) (b := 2147483647) (by decide)
      omega
  obtain ⟨ρ', st', e, rfl, s, a, ⟨hs0, hs1⟩, rfl⟩ := step1
  have hc0 : 0 ≤ cell % 2147483587 := Int.emod_nonneg _ (by decide)
  have hc1 : cell % 2147483587 < 2147483587 := Int.emod_lt_of_pos _ (by decide)
  have m4 : mulOk s 67 = true := mul_ok (by omega) (by omega) (by decide) (by decide)
  have m5 : mulOk (cell % 2147483587) 27449 = true := mul_ok (by omega) (by omega) (by decide) (by decide)
  have hz0 : 0 ≤ (s * 67 + cell % 2147483587 * 27449 + 11) % 2147483647 := Int.emod_nonneg _ (by decide)
  have hz1 : (s * 67 + cell % 2147483587 * 27449 + 11) % 2147483647 < 2147483647 := Int.emod_lt_of_pos _ (by decide)
  have hq0 : 0 ≤ absI cell % 1000000000000000000000000000000000000000000000000000000000000 := Int.emod_nonneg _ (by decide)
  have hq1 : absI cell % 1000000000000000000000000000000000000000000000000000000000000 < 1000000000000000000000000000000000000000000000000000000000000 := Int.emod_lt_of_pos _ (by decide)
  have fin : ∀ x : Int, 0 ≤ x → x < 1000000000000000000000000000000000000000000000000000000000000 → PoolOk 0 x ((s * 67 + cell % 2147483587 * 27449 + 11) % 2147483647) 0 := fun x h1 h2 => ⟨⟨h1, by omega⟩, ⟨hz0, by omega⟩, ⟨by omega, by omega⟩⟩
  have mk : ∀ ds : List D, ds.length = 3 → mkL true ds st' = .ok (.ref st'.length) (st' ++ [.lst ds]) := fun ds h => by
    unfold mkL
    rw [if_pos (by omega)]
    rfl
  have big : ∃ x : Int, (0 ≤ x ∧ x < 1000000000000000000000000000000000000000000000000000000000000) ∧ callN Tb (n + 1) 23 [.frz (ns.map .int), .int lap] st' base = .ok (.ref st'.length) (st' ++ [poolO x ((s * 67 + cell % 2147483587 * 27449 + 11) % 2147483647) 0]) := by
    show ∃ x : Int, _ ∧ runFd (callN Tb n) ⟨2, 5, b__law_pool⟩ _ st' base = _
    have e' : forD (forF (evSs (callN Tb n) base bl__law_pool_0) (.nm 4)) (fun _ => true) ((cutL (ns.map D.int) none (some 12))) [some (.frz (ns.map .int)), some (.int lap), some (.int cell), some (.int (81529 + 5837 * lap)), none] st' = .nx [some (.frz (ns.map .int)), some (.int lap), some (.int cell), some (.int s), a] st' := by rw [cutL_map]; exact e
    have lc' : (cutL (ns.map D.int) none (some 12)).length ≤ SL := by rw [cutL_map]; exact lc
    by_cases hx : cell < 0 ∨ 1000000000000000 ≤ cell
    · refine ⟨absI cell % 1000000000000000000000000000000000000000000000000000000000000, ⟨hq0, hq1⟩, ?_⟩
      by_cases h : lap < ns.length
      · rw [if_pos h] at hcell
        rcases hx with hx | hx
        · simp [runFd, b__law_pool, evSs, evS, evE, evEs, evI, evO, getV, asgR, biR, lenD, cmpD, truth, h, subD, hcell, binR, m2, slcR, mkL_unb lc', e', m4, m5, asB, hx, p60, mk, poolO, absI]
        · have hx' : ¬ cell < 0 := by omega
          simp [runFd, b__law_pool, evSs, evS, evE, evEs, evI, evO, getV, asgR, biR, lenD, cmpD, truth, h, subD, hcell, binR, m2, slcR, mkL_unb lc', e', m4, m5, asB, hx', hx, p15, p60, mk, poolO, absI]
      · rw [if_neg h] at hcell
        have h' : ¬ (cell < 0) := by omega
        exact absurd hx (by omega)
    · refine ⟨0, ⟨by decide, by decide⟩, ?_⟩
      have hx1 : ¬ cell < 0 := fun z => hx (.inl z)
      have hx2 : ¬ 1000000000000000 ≤ cell := fun z => hx (.inr z)
      by_cases h : lap < ns.length
      · rw [if_pos h] at hcell
        simp [runFd, b__law_pool, evSs, evS, evE, evEs, evI, evO, getV, asgR, biR, lenD, cmpD, truth, h, subD, hcell, binR, m2, slcR, mkL_unb lc', e', m4, m5, asB, hx1, hx2, p15, p60, mk, poolO]
      · rw [if_neg h] at hcell
        subst hcell
        simp [runFd, b__law_pool, evSs, evS, evE, evEs, evI, evO, getV, asgR, biR, lenD, cmpD, truth, h, binR, m1, m2, slcR, mkL_unb lc', e', m4, m5, asB, hx1, hx2, p15, p60, mk, poolO]
  obtain ⟨x, ⟨hx0, hx1⟩, ex⟩ := big
  exact ⟨x, _, ex, fin x hx0 hx1⟩
end
end K25

namespace K25
open Rf
section
variable {n : Nat} {st : Sto} {base : Nat} {ts : Tm} {m : Int}
theorem getT {s : Sto} {o : Ob} {q : Nat} (h : s.length = q) : (s ++ [o])[q]? = some o := by rw [← h]; simp
theorem setT {s : Sto} {o o' : Ob} {q : Nat} (h : s.length = q) : (s ++ [o]).set q o' = s ++ [o'] := by rw [← h]; simp
theorem vwT {s : Sto} {ds : List D} {q : Nat} (h : s.length = q) : vw (s ++ [.lst ds]) (.ref q) = .lst ds := by rw [← h]; simp
theorem below2 {s : Sto} {o : Ob} {p : Nat} {a b c K many : Int} (hp : s[p]? = some (poolO a b c)) (h : PoolOk K a b c) (hK : K < 1000000) (hm : 0 < many) (hm2 : many < 2 ^ 200) :
    ∃ v s' a' b' c', callR (callN Tb (n + 1)) base true 24 [.ref p, .int many] (s ++ [o]) = .ok (.int v) (s' ++ [o]) ∧ s'.length = s.length ∧ s'[p]? = some (poolO a' b' c') ∧ (0 ≤ v ∧ v < many) ∧ PoolOk (K + 1) a' b' c' := by
  have lt : p < s.length := (List.getElem?_eq_some_iff.mp hp).1
  have hp' : (s ++ [o])[p]? = some (poolO a b c) := by rw [List.getElem?_append_left lt]; exact hp
  obtain ⟨v, a', b', c', e, hv, h'⟩ := below_sc (n := n) (base := base) hp' h hK hm hm2
  refine ⟨v, s.set p (poolO a' b' c'), a', b', c', ?_, by simp, List.getElem?_set_self lt, hv, h'⟩
  rw [e, List.set_append_left _ _ lt]
def litOk (ts : Tm) : Prop := ∀ q ∈ ts, q.2 ≠ 0 ∧ absI q.2 ≤ 5
def eT (ts : Tm) : List D := ts.map fun p => .tup [.int p.1, .int p.2]
theorem eT_snoc (ts : Tm) (q : Int × Int) : eT (ts ++ [q]) = eT ts ++ [.tup [.int q.1, .int q.2]] := by simp [eT]
theorem terms_loop {s : Sto} {p : Nat} {a b c K H : Int} {cnt : Nat} {x1 x4 x5 x6 x7 x8 x9 x10 : Option D} (hp : s[p]? = some (poolO a b c)) (h : PoolOk K a b c) (hK : K + 100 < 1000000) (h0 : 0 ≤ K) (hH : 0 < H) (hH2 : H ≤ 1000000000000) (hc : cnt ≤ 6) :
    ∃ ρ' st', forD (forF (evSs (callN Tb (n + 1)) base bl__law_right_0) (.nm 4)) (fun _ => true) ((List.range cnt).map fun (i : Nat) => D.int (i : Int))
      [some (.ref p), x1, some (.int H), some (.ref s.length), x4, x5, x6, x7, x8, x9, x10, none, none] (s ++ [.lst []]) = .nx ρ' st' ∧
    ∃ s' a b c ts y4 y9, st' = s' ++ [.lst (eT ts)] ∧ s'.length = s.length ∧ s'[p]? = some (poolO a b c) ∧ PoolOk (K + 3 * ((List.range cnt).length : Int)) a b c ∧ ts.length = (List.range cnt).length ∧ litOk ts ∧
      ρ' = [some (.ref p), x1, some (.int H), some (.ref s.length), y4, x5, x6, x7, x8, y9, x10, none, none] := by
  refine forD_map (φ := fun (i : Nat) => D.int (i : Int)) (I := fun d ρ st' => ∃ s' a b c ts y4 y9, st' = s' ++ [.lst (eT ts)] ∧ s'.length = s.length ∧ s'[p]? = some (poolO a b c) ∧ PoolOk (K + 3 * (d.length : Int)) a b c ∧ ts.length = d.length ∧ litOk ts ∧
      ρ = [some (.ref p), x1, some (.int H), some (.ref s.length), y4, x5, x6, x7, x8, y9, x10, none, none]) ⟨s, a, b, c, [], x4, x9, rfl, rfl, hp, by simpa using h, rfl, (fun _ h => by cases h), rfl⟩ ?_
  rintro d x r hd ρ st' ⟨s', a, b, c, ts, y4, y9, rfl, hl, hp, h, ht, hlit, rfl⟩
  have hd6 : d.length < 6 := by
    have := congrArg List.length hd
    simp at this
    omega
  obtain ⟨v1, s1, a1, b1, c1, e1, l1, p1, hv1, k1⟩ := below2 (n := n) (base := base) (o := .lst (eT ts)) (many := 5) hp h (by omega) (by decide) (by decide)
  obtain ⟨v2, s2, a2, b2, c2, e2, l2, p2, hv2, k2⟩ := below2 (n := n) (base := base) (o := .lst (eT ts)) (many := 2 * H + 1) p1 k1 (by omega) (by omega) (by omega)
  obtain ⟨v3, s3, a3, b3, c3, e3, l3, p3, hv3, k3⟩ := below2 (n := n) (base := base) (o := .lst (eT ts)) (many := 2) p2 k2 (by omega) (by decide) (by decide)
  have mH : mulOk 2 H = true := mul_ok (by decide) (by decide) (by omega) (by omega)
  have hL1 : s1.length = s.length := l1.trans hl
  have hL3 : s3.length = s.length := l3.trans (l2.trans hL1)
  have hts : (eT ts).length < 16777216 := by unfold eT; rw [List.length_map]; omega
  have g1 := vwT (ds := eT ts) hL1
  have g2 := getT (o := .lst (eT ts)) hL3
  have g3 : ∀ o' : Ob, (s3 ++ [Ob.lst (eT ts)]).set s.length o' = s3 ++ [o'] := fun o' => setT hL3
  have K3 : K + 3 * ((d ++ [x]).length : Int) = K + 3 * (d.length : Int) + 1 + 1 + 1 := by simp; omega
  by_cases hz : v3 = 0
  · refine ⟨[some (.ref p), x1, some (.int H), some (.ref s.length), some (.int x), x5, x6, x7, x8, some (.int (1 + v1)), x10, none, none], _, .inl ?_, s3, a3, b3, c3, ts ++ [(v2 - H, 1 + v1)], _, _, rfl, hL3, p3, by rw [K3]; exact k3, by simp [ht], ?_, rfl⟩
    · subst hz
      simp [forF, putN, bl__law_right_0, evSs, evS, evE, evEs, getV, asgR, e1, binR, mtTy, g1, mH, e2, e3, cmpD, eqD, sc2, sc, eqv, truth, mkT, SL, mtR, g2, g3, wOk, plain, plains, hts, eT_snoc]
    · intro q hq
      rcases List.mem_append.mp hq with hq | hq
      · exact hlit q hq
      · simp at hq; subst hq
        refine ⟨by show 1 + v1 ≠ 0; omega, ?_⟩
        show absI (1 + v1) ≤ 5
        unfold absI; split <;> omega
  · refine ⟨[some (.ref p), x1, some (.int H), some (.ref s.length), some (.int x), x5, x6, x7, x8, some (.int (1 + v1)), x10, none, none], _, .inl ?_, s3, a3, b3, c3, ts ++ [(v2 - H, -(1 + v1))], _, _, rfl, hL3, p3, by rw [K3]; exact k3, by simp [ht], ?_, rfl⟩
    · simp [forF, putN, bl__law_right_0, evSs, evS, evE, evEs, getV, asgR, e1, binR, mtTy, g1, mH, e2, e3, cmpD, eqD, sc2, sc, eqv, truth, mkT, SL, mtR, g2, g3, wOk, plain, plains, hts, hz, eT_snoc]
    · intro q hq
      rcases List.mem_append.mp hq with hq | hq
      · exact hlit q hq
      · simp at hq; subst hq
        refine ⟨by show -(1 + v1) ≠ 0; omega, ?_⟩
        show absI (-(1 + v1)) ≤ 5
        unfold absI; split <;> omega
def cntM (ts : Tm) (m : Int) (d : List (List Bool)) : Int := ((d.filter fun bs => decide (m ≤ value ts bs)).length : Int)
theorem cntM_snoc (ts : Tm) (m : Int) (d : List (List Bool)) (bs : List Bool) : cntM ts m (d ++ [bs]) = cntM ts m d + (if m ≤ value ts bs then 1 else 0) := by
  unfold cntM
  by_cases h : m ≤ value ts bs <;> simp [h]
theorem due_ok {bs : List Bool} {k : Nat} {ρ : En} (hb : bs.length = 5) (hl : ts.length < 64) (h : litOk ts) (h3 : ρ[3]? = some (some (encL ts))) (h8 : ρ[8]? = some (some (encB bs))) (hr : ρ.length = 13) (C : Call) :
    evE C base (.bi .sum false [.comp false [11, 12] (.tup [11, 12]) (.val (.var 3)) (some (.cmp .eq (.sub (.var 8) (.bin .sub false (.bi .abs false [.var 12]) (.cst (.int 1)))) (.cmp .gt (.var 12) (.cst (.int 0))))) (.var 11)]) ρ st = .ok (.int (value ts bs)) st := by
  have hs : SL = 16777216 := rfl
  simp only [evE, evEs, evI, getV, h3, encL, opt_some', bind_ok']
  rw [compD_map (g := fun p => if truth1 bs p.2 then some (.int p.1) else none)]
  · have e : ts.filterMap (fun p => if truth1 bs p.2 then some (D.int p.1) else none) = (ts.filter fun p => truth1 bs p.2).map fun p => .int p.1 := by
      clear hl h h3
      induction ts with
      | nil => rfl
      | cons p ts ih => by_cases hp : truth1 bs p.2 = true <;> simp [hp, ih]
    rw [e]
    have hl2 : ((ts.filter fun p => truth1 bs p.2).map fun p => D.int p.1).length ≤ SL := by
      rw [List.length_map]
      have := List.length_filter_le (fun p : Int × Int => truth1 bs p.2) ts
      omega
    dsimp only
    rw [mkL_unb hl2]
    simp [biR, intsOf_map, value]
  · intro q hq
    obtain ⟨h1, h2⟩ := h q hq
    obtain ⟨w, l⟩ := q
    have hp : 0 ≤ absI l - 1 := by show 0 ≤ absI (w, l).2 - 1; unfold absI; split <;> omega
    have e : atI (bs.map D.bl) (absI l - 1) = some (.bl (bs.getD (absI l - 1).toNat false)) := by
      have h2' : absI l ≤ 5 := h2
      unfold atI ixN
      rw [if_pos hp, if_pos (by simp; omega)]
      have hb' : (absI l).toNat - 1 < bs.length := by omega
      simp [hb']
    match ρ, hr, h3, h8 with
    | [r0, r1, r2, r3, r4, r5, r6, r7, r8, r9, r10, r11, r12], _, h3, h8 =>
      simp at h3 h8
      subst h3 h8
      unfold absI at e
      have ev8 : ∀ st : Sto, vw st (encB bs) = .tup (bs.map .bl) := fun _ => rfl
      simp [putN, wipeE, evT, evE, evEs, getV, biR, binR, ev8, subD, e, cmpD, eqD, sc2, sc, eqv, truth1, truth, absI]
      cases (bs[(if l < 0 then -l else l).toNat - 1]?.getD false) <;> cases decide (0 < l) <;> simp
theorem asg_loop {x0 x2 x4 x8 x9 x10 : Option D} {lap : Int} (hl : ts.length < 64) (h : litOk ts) :
    ∃ ρ' st', forD (forF (evSs (callN Tb (n + 6)) base bl__law_right_1) (.nm 8)) (fun _ => true) ((asg 5).map encB)
      [x0, some (.int lap), x2, some (encL ts), x4, some (.int m), some (row (canon ts) (least0 ts m)), some (.int 0), x8, x9, x10, none, none] st = .nx ρ' st' ∧
    (st' = st ∧ ∃ y8 y10, ρ' = [x0, some (.int lap), x2, some (encL ts), x4, some (.int m), some (row (canon ts) (least0 ts m)), some (.int (cntM ts m (asg 5))), y8, x9, y10, none, none]) := by
  refine forD_map (φ := encB) (I := fun d ρ st' => st' = st ∧ ∃ y8 y10, ρ = [x0, some (.int lap), x2, some (encL ts), x4, some (.int m), some (row (canon ts) (least0 ts m)), some (.int (cntM ts m d)), y8, x9, y10, none, none]) ⟨rfl, x8, x10, rfl⟩ ?_
  rintro d bs r hd ρ st' ⟨rfl, y8, y10, rfl⟩
  have hbs : bs.length = 5 := asg_len (k := 5) (by rw [hd]; simp)
  have h0 : ∀ p ∈ ts, p.2 ≠ 0 := fun p hp => (h p hp).1
  have hb5 : ∀ p ∈ ts, absI p.2 ≤ 5 := fun p hp => (h p hp).2
  have du := due_ok (st := st') (base := base) (k := 0) (ρ := [x0, some (.int lap), x2, some (encL ts), x4, some (.int m), some (row (canon ts) (least0 ts m)), some (.int (cntM ts m d)), some (encB bs), x9, y10, none, none]) hbs hl h rfl rfl rfl (callN Tb (n + 6))
  have hrow := canon_row (m := m) hl h0 hb5
  have mt := callR_sc (base := base) (g := []) (by rw [List.append_nil]; exact meets_ok (n := n) (st := st') (base := st'.length) (bs := bs) hrow (by rw [hbs]; decide) (fun p hp => by rw [hbs]; exact (canon_ok h0 hb5 hp).2.2)) rfl
  have mi : decide (least0 ts m ≤ value (canon ts) bs) = decide (m ≤ value ts bs) := by
    have := meets_iff (m := m) h0 hb5 bs
    by_cases z : m ≤ value ts bs
    · rw [decide_eq_true z, decide_eq_true (this.mpr z)]
    · rw [decide_eq_false z, decide_eq_false (fun y => z (this.mp y))]
  rw [mi] at mt
  have sm : ∀ b : Bool, callR (callN Tb (n + 6)) base true 28 [.bl b, .bl b] st' = .ok (.bl true) st' := fun b => callR_sc (base := base) (g := []) (by rw [List.append_nil]; exact same_ok 0 (d := .bl b) (st := st') (base := st'.length) (n := n + 5) trivial) rfl
  refine ⟨[x0, some (.int lap), x2, some (encL ts), x4, some (.int m), some (row (canon ts) (least0 ts m)), some (.int (cntM ts m (d ++ [bs]))), some (encB bs), x9, some (.bl (decide (m ≤ value ts bs))), none, none], st', .inl ?_, rfl, _, _, rfl⟩
  have vb : vw st' (encB bs) = encB bs := rfl
  rw [cntM_snoc]
  unfold forF
  have e1 : putN (.nm 8) (encB bs) [x0, some (.int lap), x2, some (encL ts), x4, some (.int m), some (row (canon ts) (least0 ts m)), some (.int (cntM ts m d)), y8, x9, y10, none, none] = some [x0, some (.int lap), x2, some (encL ts), x4, some (.int m), some (row (canon ts) (least0 ts m)), some (.int (cntM ts m d)), some (encB bs), x9, y10, none, none] := by simp [putN]
  rw [e1]
  dsimp only
  unfold bl__law_right_1
  have e2 : evE (callN Tb (n + 6)) base (.cmp .ge (.bi .sum false [.comp false [11, 12] (.tup [11, 12]) (.val (.var 3)) (some (.cmp .eq (.sub (.var 8) (.bin .sub false (.bi .abs false [.var 12]) (.cst (.int 1)))) (.cmp .gt (.var 12) (.cst (.int 0))))) (.var 11)]) (.var 5)) [x0, some (.int lap), x2, some (encL ts), x4, some (.int m), some (row (canon ts) (least0 ts m)), some (.int (cntM ts m d)), some (encB bs), x9, y10, none, none] st' = .ok (.bl (decide (m ≤ value ts bs))) st' := by
    rw [evE, du]
    simp [evE, getV, cmpD]
  rw [evSs, evS, e2]
  by_cases hlap : lap = 1
  · by_cases z : m ≤ value ts bs
    · simp [asgR, evSs, evS, evE, evEs, getV, hlap, cmpD, eqD, sc2, sc, eqv, truth, mt, sm, asB, z, binR]
    · simp [asgR, evSs, evS, evE, evEs, getV, hlap, cmpD, eqD, sc2, sc, eqv, truth, mt, sm, asB, z, binR]
  · by_cases z : m ≤ value ts bs
    · simp [asgR, evSs, evS, evE, evEs, getV, hlap, cmpD, eqD, sc2, sc, eqv, truth, mt, sm, asB, z, binR]
    · simp [asgR, evSs, evS, evE, evEs, getV, hlap, cmpD, eqD, sc2, sc, eqv, truth, mt, sm, asB, z, binR]
end
end K25

namespace K25
open Rf
section
variable {n : Nat} {st : Sto} {base : Nat} {ts : Tm} {m : Int}
theorem seq_nx {C : Call} {s : S} {ss : List S} {ρ ρ1 : En} {st st1 : Sto} (h : evS C base s ρ st = .nx ρ1 st1) : evSs C base (s :: ss) ρ st = evSs C base ss ρ1 st1 := by
  show (match evS C base s ρ st with
    | .nx ρ st => evSs C base ss ρ st
    | r => r) = _
  rw [h]
theorem for_nx {C : Call} {t : Tn} {it : I} {b : List S} {ρ ρ1 : En} {st st0 st1 : Sto} {items : List D} (h : evI C base it ρ st = .ok (items, fun _ => true) st0) (h2 : forD (forF (evSs C base b) t) (fun _ => true) items ρ st0 = .nx ρ1 st1) : evS C base (.forS t it b) ρ st = .nx ρ1 st1 := by
  show (match evI C base it ρ st with
    | .ok p st => forD (forF (evSs C base b) t) p.2 p.1 ρ st
    | .exc d st => .exc d ρ st
    | .bad => .bad) = _
  rw [h]
  exact h2
theorem lap_ok {s : Sto} {p : Nat} {a b c K lap : Int} {y1 y2 y3 y4 y5 y6 y7 y8 y9 y10 : Option D} (hp : s[p]? = some (poolO a b c)) (h : PoolOk K a b c) (h0 : 0 ≤ K) (hK : K + 200 < 1000000) (hb : base ≤ s.length) :
    ∃ s' a b c z2 z3 z4 z5 z6 z7 z8 z9 z10, forF (evSs (callN Tb (n + 6)) base bl__law_right_2) (.nm 1) (.int lap) [some (.ref p), y1, y2, y3, y4, y5, y6, y7, y8, y9, y10, none, none] s = .nx [some (.ref p), some (.int lap), z2, z3, z4, z5, z6, z7, z8, z9, z10, none, none] s' ∧
      s'[p]? = some (poolO a b c) ∧ PoolOk (K + 21) a b c ∧ base ≤ s'.length := by
  obtain ⟨H, a1, b1, c1, e1, hH, k1⟩ := one_sc (n := n + 4) (base := base) hp h (by omega)
  have lt : p < s.length := (List.getElem?_eq_some_iff.mp hp).1
  have p1 : (s.set p (poolO a1 b1 c1))[p]? = some (poolO a1 b1 c1) := List.getElem?_set_self lt
  have hl1 : (s.set p (poolO a1 b1 c1)).length = s.length := by simp
  generalize hs1 : s.set p (poolO a1 b1 c1) = s1 at e1 p1 hl1
  have hH0 : 0 < H ∧ H ≤ 1000000000000 := by omega
  obtain ⟨v, s2, a2, b2, c2, e2, hl2, p2, hv, k2⟩ := below2 (n := n + 5) (base := base) (o := .lst []) (many := 7) p1 k1 (by omega) (by decide) (by decide)
  have pw : powOk 10 12 = true := by decide
  obtain ⟨ρ3, st3, e3, s3, a3, b3, c3, ts, w4, w9, rfl, hl3, p3, k3, hts, hlit, rfl⟩ := terms_loop (n := n + 5) (base := base) (x1 := some (.int lap)) (x4 := y4) (x5 := y5) (x6 := y6) (x7 := y7) (x8 := y8) (x9 := y9) (x10 := y10) (cnt := v.toNat) (H := H) p2 k2 (by omega) (by omega) hH0.1 hH0.2 (by omega)
  rw [List.length_range] at k3 hts
  have k3' : PoolOk (K + 20) a3 b3 c3 := ⟨k3.1, k3.2.1, k3.2.2.1, by have := k3.2.2.2; omega⟩
  obtain ⟨v4, s4, a4, b4, c4, e4, hl4, p4, hv4, k4⟩ := below2 (n := n + 5) (base := base) (o := .lst (eT ts)) (many := 4 * H + 1) p3 k3' (by omega) (by omega) (by omega)
  have hl : ts.length < 64 := by omega
  have hq : s4.length = s2.length := hl4.trans hl3
  have g4 := getT (o := .lst (eT ts)) hq
  have q4 : ∀ o' : Ob, (s4 ++ [Ob.lst (eT ts)]).set s2.length o' = s4 ++ [o'] := fun o' => setT hq
  have bs2 : base ≤ s2.length := by omega
  have h0' : ∀ p ∈ ts, p.2 ≠ 0 := fun p hp => (hlit p hp).1
  have hb5 : ∀ p ∈ ts, absI p.2 ≤ 5 := fun p hp => (hlit p hp).2
  have m4 : mulOk 4 H = true := mul_ok (by decide) (by decide) (by omega) (by omega)
  have m2 : mulOk 2 H = true := mul_ok (by decide) (by decide) (by omega) (by omega)
  generalize hm : v4 - 2 * H = m
  have pr := callR_sc (base := base) (g := []) (by rw [List.append_nil]; exact plain_row_ok (n := n + 1) (st := s4 ++ [.dead]) (base := (s4 ++ [Ob.dead]).length) (m := m) hl h0') plain_row'
  have lr := callR_sc (base := base) (g := []) (by rw [List.append_nil]; exact law_row_ok (n := n + 4) (st := s4 ++ [.dead]) (base := (s4 ++ [Ob.dead]).length) (m := m) hl h0') plain_row'
  have sr := callR_sc (base := base) (g := []) (by rw [List.append_nil]; exact same_ok 3 (d := row (canon ts) (least0 ts m)) (st := s4 ++ [.dead]) (base := (s4 ++ [Ob.dead]).length) (n := n + 2) (tree_row (by have := canon_len ts; have : SL = 16777216 := rfl; omega))) rfl
  have sb : ∀ x : Bool, callR (callN Tb (n + 6)) base true 28 [.bl x, .bl x] (s4 ++ [.dead]) = .ok (.bl true) (s4 ++ [.dead]) := fun x => callR_sc (base := base) (g := []) (by rw [List.append_nil]; exact same_ok 0 (d := .bl x) (st := s4 ++ [.dead]) (base := (s4 ++ [Ob.dead]).length) (n := n + 5) trivial) rfl
  have ao := callR_sc (base := base) (g := []) (by rw [List.append_nil]; exact assignments_ok (n := n + 4) (st := s4 ++ [.dead]) (base := (s4 ++ [Ob.dead]).length)) (plain_encA (asg 5))
  have hrow := canon_row (m := m) hl h0' hb5
  have co := callR_sc (base := base) (g := []) (by rw [List.append_nil]; exact is_contradiction_ok (n := n) (st := s4 ++ [.dead]) (base := (s4 ++ [Ob.dead]).length) hrow) rfl
  have ci : decide (total (canon ts) < least0 ts m) = decide (cntM ts m (asg 5) = 0) := by
    have z1 := contra_iff (m := m) h0' hb5
    have z2 : cntM ts m (asg 5) = 0 ↔ ∀ bs ∈ asg 5, ¬ m ≤ value ts bs := by
      unfold cntM
      rw [Int.natCast_eq_zero, List.length_eq_zero_iff, List.filter_eq_nil_iff]
      simp
    by_cases z : total (canon ts) < least0 ts m
    · rw [decide_eq_true z, decide_eq_true (z2.mpr (z1.mp z))]
    · rw [decide_eq_false z, decide_eq_false fun y => z (z1.mpr (z2.mp y))]
  rw [ci] at co
  have hq : (cntM ts m (asg 5) == 0) = decide (cntM ts m (asg 5) = 0) := by by_cases z : cntM ts m (asg 5) = 0 <;> simp [z]
  obtain ⟨ρ5, st5, e5, rfl, w8, w10, rfl⟩ := asg_loop (n := n) (st := s4 ++ [.dead]) (base := base) (m := m) (lap := lap) (x0 := some (.ref p)) (x2 := some (.int H)) (x4 := w4) (x8 := y8) (x9 := w9) (x10 := y10) hl hlit
  refine ⟨s4 ++ [.dead], a4, b4, c4, some (.int H), some (encL ts), w4, some (.int m), some (row (canon ts) (least0 ts m)), some (.int (cntM ts m (asg 5))), w8, w9, w10, ?_, ?_, ?_, ?_⟩
  rotate_left
  · rw [List.getElem?_append_left (List.getElem?_eq_some_iff.mp p4).1]; exact p4
  · have : K + 21 = K + 20 + 1 := by omega
    rw [this]; exact k4
  · simp; omega
  have e0 : putN (.nm 1) (.int lap) [some (.ref p), y1, y2, y3, y4, y5, y6, y7, y8, y9, y10, none, none] = some [some (.ref p), some (.int lap), y2, y3, y4, y5, y6, y7, y8, y9, y10, none, none] := by simp [putN]
  unfold forF
  rw [e0]
  dsimp only
  unfold bl__law_right_2
  rw [seq_nx (ρ1 := [some (.ref p), some (.int lap), some (.int H), y3, y4, y5, y6, y7, y8, y9, y10, none, none]) (st1 := s1) (by simp [evS, evE, evEs, getV, binR, pw, mkT, SL, e1, asgR])]
  rw [seq_nx (ρ1 := [some (.ref p), some (.int lap), some (.int H), some (.ref s1.length), y4, y5, y6, y7, y8, y9, y10, none, none]) (st1 := s1 ++ [.lst []]) (by simp [evS, evE, evEs, getV, asgR])]
  have hr : rng1L (.int v) = some ((List.range v.toNat).map fun (i : Nat) => .int (i : Int)) := by
    show (if (decide (v < 2 ^ 40) && decide (-(2 ^ 40) < v)) = true then some ((List.range v.toNat).map fun (i : Nat) => D.int (i : Int)) else none) = _
    rw [if_pos (by rw [decide_eq_true (by omega), decide_eq_true (by omega)]; rfl)]
  rw [hl2] at e3
  rw [seq_nx (for_nx (st0 := s2 ++ [.lst []]) (by simp [evI, evE, evEs, getV, e2, hr]) e3)]
  rw [seq_nx (ρ1 := [some (.ref p), some (.int lap), some (.int H), some (.ref s1.length), w4, some (.int m), y6, y7, y8, w9, y10, none, none]) (st1 := s4 ++ [.lst (eT ts)]) (by simp [evS, evE, evEs, getV, binR, m4, m2, e4, hm, asgR])]
  rw [hl2] at g4 q4 bs2
  rw [seq_nx (ρ1 := [some (.ref p), some (.int lap), some (.int H), some (encL ts), w4, some (.int m), y6, y7, y8, w9, y10, none, none]) (st1 := s4 ++ [.dead]) (by simp [evS, getV, bs2, g4, q4, show encL ts = .lst (eT ts) from rfl])]
  have vt : biR .tuple false [encL ts] (s4 ++ [.dead]) = .ok (enc ts) (s4 ++ [.dead]) := rfl
  have vL : vw (s4 ++ [.dead]) (encL ts) = encL ts := rfl
  rw [seq_nx (ρ1 := [some (.ref p), some (.int lap), some (.int H), some (encL ts), w4, some (.int m), some (row (canon ts) (least0 ts m)), y7, y8, w9, y10, none, none]) (st1 := s4 ++ [.dead]) (by
    by_cases hlap : lap = 1
    · simp [evS, evE, evEs, getV, hlap, cmpD, eqD, sc2, sc, eqv, truth, vt, vL, pr, asgR]
    · simp [evS, evE, evEs, getV, hlap, cmpD, eqD, sc2, sc, eqv, truth, vt, vL, pr, asgR])]
  rw [seq_nx (ρ1 := [some (.ref p), some (.int lap), some (.int H), some (encL ts), w4, some (.int m), some (row (canon ts) (least0 ts m)), y7, y8, w9, y10, none, none]) (st1 := s4 ++ [.dead]) (by
    simp [evS, evSs, evE, evEs, getV, lr, sr, asB, truth])]
  rw [seq_nx (ρ1 := [some (.ref p), some (.int lap), some (.int H), some (encL ts), w4, some (.int m), some (row (canon ts) (least0 ts m)), some (.int 0), y8, w9, y10, none, none]) (st1 := s4 ++ [.dead]) (by
    simp [evS, evE, asgR])]
  rw [seq_nx (for_nx (items := (asg 5).map encB) (st0 := s4 ++ [.dead]) (by simp [evI, evE, evEs, ao, encA]) e5)]
  rw [seq_nx (ρ1 := [some (.ref p), some (.int lap), some (.int H), some (encL ts), w4, some (.int m), some (row (canon ts) (least0 ts m)), some (.int (cntM ts m (asg 5))), w8, w9, w10, none, none]) (st1 := s4 ++ [.dead]) (by
    by_cases hlap : lap = 1
    · simp [evS, evSs, evE, evEs, getV, hlap, cmpD, eqD, sc2, sc, eqv, truth, co, asB, hq, sb]
    · simp [evS, evSs, evE, evEs, getV, hlap, cmpD, eqD, sc2, sc, eqv, truth, co, asB, hq, sb])]
  rfl
theorem right_ok {p : Nat} {a b : Int} (hp : st[p]? = some (poolO a b 0)) (h : PoolOk 0 a b 0) (hb : base ≤ st.length) :
    ∃ st', callN Tb (n + 7) 31 [.ref p] st base = .ok (.bl true) st' ∧ base ≤ st'.length := by
  show ∃ st', runFd (callN Tb (n + 6)) ⟨1, 13, b__law_right⟩ _ st base = _ ∧ _
  obtain ⟨ρ', st', e, a, b, c, z1, z2, z3, z4, z5, z6, z7, z8, z9, z10, rfl, hp', k', hb'⟩ := forD_map (φ := fun (i : Nat) => D.int (i : Int)) (xs := List.range 30) (f := forF (evSs (callN Tb (n + 6)) base bl__law_right_2) (.nm 1))
    (I := fun d ρ st' => ∃ a b c z1 z2 z3 z4 z5 z6 z7 z8 z9 z10, ρ = [some (.ref p), z1, z2, z3, z4, z5, z6, z7, z8, z9, z10, none, none] ∧ st'[p]? = some (poolO a b c) ∧ PoolOk (21 * (d.length : Int)) a b c ∧ base ≤ st'.length)
    (ρ := [some (.ref p), none, none, none, none, none, none, none, none, none, none, none, none]) (st := st) ⟨a, b, 0, none, none, none, none, none, none, none, none, none, none, rfl, hp, by simpa using h, hb⟩ (by
      rintro d x r hd ρ st' ⟨a, b, c, z1, z2, z3, z4, z5, z6, z7, z8, z9, z10, rfl, hp, k, hb⟩
      have hd30 : d.length < 30 := by
        have := congrArg List.length hd
        simp at this
        omega
      obtain ⟨s', a', b', c', w2, w3, w4, w5, w6, w7, w8, w9, w10, e, hp', k', hb'⟩ := lap_ok (n := n) (base := base) (lap := (x : Int)) (y1 := z1) (y2 := z2) (y3 := z3) (y4 := z4) (y5 := z5) (y6 := z6) (y7 := z7) (y8 := z8) (y9 := z9) (y10 := z10) hp k (by omega) (by omega) hb
      refine ⟨_, _, .inl e, a', b', c', _, _, _, _, _, _, _, _, _, _, rfl, hp', ?_, hb'⟩
      have : (21 * ((d ++ [x]).length : Int)) = 21 * (d.length : Int) + 21 := by simp; omega
      rw [this]; exact k')
  have r30 : rng1L (.int 30) = some ((List.range 30).map fun (i : Nat) => D.int (i : Int)) := rfl
  have c1 : canon [(2, 1), (-3, 2)] = [(2, 1), (3, -2)] := by decide +kernel
  have l1 : least0 [(2, 1), (-3, 2)] 1 = 4 := by decide +kernel
  have c2 : canon [(1, 4), (1, -4)] = [] := by decide +kernel
  have l2 : least0 [(1, 4), (1, -4)] 1 = 0 := by decide +kernel
  have pr1 := callR_sc (base := base) (g := []) (by rw [List.append_nil]; exact plain_row_ok (n := n + 1) (st := st') (base := st'.length) (ts := [(2, 1), (-3, 2)]) (m := 1) (by decide) (by decide)) plain_row'
  have pr2 := callR_sc (base := base) (g := []) (by rw [List.append_nil]; exact plain_row_ok (n := n + 1) (st := st') (base := st'.length) (ts := [(1, 4), (1, -4)]) (m := 1) (by decide) (by decide)) plain_row'
  have co := callR_sc (base := base) (g := []) (by rw [List.append_nil]; exact is_contradiction_ok (n := n) (st := st') (base := st'.length) (ts := []) (m := 1) ⟨by decide, by simp, by decide, by simp, rfl⟩) rfl
  rw [c1, l1] at pr1
  rw [c2, l2] at pr2
  have tot : decide (total [] < 1) = true := by decide
  rw [tot] at co
  have sm := callR_sc (base := base) (g := []) (by rw [List.append_nil]; exact same_ok 4 (d := .tup [row [(2, 1), (3, -2)] 4, row [] 0, .bl true]) (st := st') (base := st'.length) (n := n + 1) ⟨by simp [SL], by
    intro d hd
    simp at hd
    rcases hd with rfl | rfl | rfl
    · exact tree_row (by simp [SL])
    · exact tree_row (by simp [SL])
    · trivial⟩) rfl
  refine ⟨st', ?_, hb'⟩
  simp [row, enc] at pr1 pr2 co sm
  simp [runFd, b__law_right, evSs, evS, evE, evEs, evI, r30]
  rw [e]
  simp [evE, evEs, mkT, SL, pr1, pr2, co, sm]
theorem compD_all {α : Type} {f : D → Sto → R (Option D)} {φ : α → D} : ∀ {xs : List α} {st : Sto}, (∀ x ∈ xs, ∀ st : Sto, ∃ st', f (φ x) st = .ok (some (.bl true)) st') → ∃ st', compD f (fun _ => true) (xs.map φ) st = .ok (xs.map fun _ => D.bl true) st'
  | [], st, _ => ⟨st, rfl⟩
  | x :: xs, st, h => by
    obtain ⟨st1, e1⟩ := h x List.mem_cons_self st
    obtain ⟨st2, e2⟩ := compD_all (xs := xs) (st := st1) fun y hy => h y (List.mem_cons_of_mem _ hy)
    refine ⟨st2, ?_⟩
    show (if true = true then (match f (φ x) st with
      | .ok y st => (match compD f (fun _ => true) (xs.map φ) st with
        | .ok ys st => .ok (match y with | some y => y :: ys | none => ys) st
        | _ => .bad)
      | _ => .bad) else R.bad) = _
    rw [if_pos rfl, e1]
    dsimp only
    rw [e2]
    rfl
theorem law_ok {ns : List Int} (hl : ns.length ≤ 63) : ∃ st', callN Tb (n + 8) 32 [.frz (ns.map .int)] [] 0 = .ok (.bl true) st' := by
  show ∃ st', runFd (callN Tb (n + 7)) ⟨1, 2, b_law⟩ _ [] 0 = _
  have turn : ∀ (lap : Int) (st : Sto), 0 ≤ lap → lap ≤ 1000 → ∃ st', callR (callN Tb (n + 7)) 0 false 23 [.frz (ns.map .int), .int lap] st = .ok (.ref st.length) st' ∧ ∃ st2, callR (callN Tb (n + 7)) 0 true 31 [.ref st.length] st' = .ok (.bl true) st2 := by
    intro lap st h0 h1
    obtain ⟨a, b, e, k⟩ := pool_ok (n := n + 6) (st := st) (base := 0) hl h0 h1
    refine ⟨_, e, ?_⟩
    obtain ⟨st2, e2, hb⟩ := right_ok (n := n) (st := st ++ [poolO a b 0]) (base := (st ++ [poolO a b 0]).length) (p := st.length) (by simp) k (Nat.le_refl _)
    refine ⟨st2.take (st ++ [poolO a b 0]).length, ?_⟩
    show (match callN Tb (n + 7) 31 _ (st ++ [poolO a b 0]) (st ++ [poolO a b 0]).length with
      | .ok d st' => if plain d then R.ok d (st'.take (st ++ [poolO a b 0]).length) else R.bad
      | .exc d st' => R.exc d (st'.take (st ++ [poolO a b 0]).length)
      | .bad => R.bad) = _
    rw [e2]
    rfl
  have hk : ∃ k : Nat, k ≤ 2 ∧ (if (1 : Int) < (if (2 : Int) < ns.length then (2 : Int) else ns.length) then (if (2 : Int) < ns.length then (2 : Int) else ns.length) else 1) = (k : Int) := by
    by_cases h1 : (2 : Int) < ns.length
    · exact ⟨2, by decide, by simp [h1]⟩
    · rw [if_neg h1]
      by_cases h2 : (1 : Int) < ns.length
      · exact ⟨ns.length, by omega, by simp [h2]⟩
      · exact ⟨1, by decide, by simp [h2]⟩
  obtain ⟨k, hk2, ek⟩ := hk
  have gen : ∀ v : Int, v < 2 ^ 40 → -(2 ^ 40) < v → rng1L (.int v) = some ((List.range v.toNat).map fun (i : Nat) => D.int (i : Int)) := by
    intro v h1 h2
    show (if (decide (v < 2 ^ 40) && decide (-(2 ^ 40) < v)) = true then some ((List.range v.toNat).map fun (i : Nat) => D.int (i : Int)) else none) = _
    rw [if_pos (by rw [decide_eq_true h1, decide_eq_true h2]; rfl)]
  have rk : rng1L (.int (k : Int)) = some ((List.range k).map fun (i : Nat) => D.int (i : Int)) := by
    rw [gen k (by omega) (by omega), Int.toNat_natCast]
  have hI : evI (callN Tb (n + 7)) 0 (.rng1 (.bi .max2 false [.cst (.int 1), .bi .min2 false [.bi .len false [.var 0], .cst (.int 2)]])) [some (.frz (ns.map .int)), none] [] = .ok ((List.range k).map fun (i : Nat) => D.int (i : Int), fun _ => true) [] := by
    simp only [evI, evE, evEs, getV, biR, lenD, bind_ok', opt_some', List.getElem?_cons_zero, List.map_cons, List.map_nil, vw_frz', vw_int', List.length_map]
    have ek' : (if (if (ns.length : Int) > 2 then (2 : Int) else ns.length) > 1 then (if (ns.length : Int) > 2 then (2 : Int) else ns.length) else 1) = (k : Int) := ek
    have ek2 : (if (if (2 : Int) < ns.length then (2 : Int) else ns.length) > 1 then (if (2 : Int) < ns.length then (2 : Int) else ns.length) else 1) = (k : Int) := ek
    first
      | rw [ek', rk]
      | rw [ek2, rk]
      | rw [ek, rk]
    rfl
  have hC : ∃ stf, evE (callN Tb (n + 7)) 0 (.comp false [1] (.nm 1) (.rng1 (.bi .max2 false [.cst (.int 1), .bi .min2 false [.bi .len false [.var 0], .cst (.int 2)]])) none (.call true 31 [.call false 23 [.var 0, .var 1]])) [some (.frz (ns.map .int)), none] [] = .ok (.lst ((List.range k).map fun _ => D.bl true)) stf := by
    obtain ⟨stf, ef⟩ := compD_all (f := turnF (callN Tb (n + 7)) 0 [1] (.nm 1) none (.call true 31 [.call false 23 [.var 0, .var 1]]) [some (.frz (ns.map .int)), none]) (φ := fun (i : Nat) => D.int (i : Int)) (xs := List.range k) (st := []) (by
      intro x hx st
      have hx' : x < k := List.mem_range.mp hx
      obtain ⟨st1, e1, st2, e2⟩ := turn (x : Int) st (by omega) (by omega)
      refine ⟨st2, ?_⟩
      simp [turnF, putN, wipeE, evT, evE, evEs, getV, e1, e2])
    refine ⟨stf, ?_⟩
    show ((evI (callN Tb (n + 7)) 0 (.rng1 (.bi .max2 false [.cst (.int 1), .bi .min2 false [.bi .len false [.var 0], .cst (.int 2)]])) [some (.frz (ns.map .int)), none] []).bind fun p st => match compD (turnF (callN Tb (n + 7)) 0 [1] (.nm 1) none (.call true 31 [.call false 23 [.var 0, .var 1]]) [some (.frz (ns.map .int)), none]) p.2 p.1 st with
      | .ok ys st => mkL false ys st
      | _ => .bad) = _
    rw [hI]
    simp only [bind_ok']
    rw [ef]
    dsimp only
    rw [mkL_unb (by rw [List.length_map, List.length_range]; have : SL = 16777216 := rfl; omega)]
  obtain ⟨stf, eC⟩ := hC
  refine ⟨stf, ?_⟩
  have bo := boolsOf_map (fun _ : Nat => true) (List.range k)
  have eB : evE (callN Tb (n + 7)) 0 (.bi .all false [.comp false [1] (.nm 1) (.rng1 (.bi .max2 false [.cst (.int 1), .bi .min2 false [.bi .len false [.var 0], .cst (.int 2)]])) none (.call true 31 [.call false 23 [.var 0, .var 1]])]) [some (.frz (ns.map .int)), none] [] = .ok (.bl true) stf := by
    rw [evE, evEs, eC]
    simp [evEs, biR, bo]
  show (match evSs (callN Tb (n + 7)) 0 b_law [some (.frz (ns.map .int)), none] [] with
    | .ret d st => R.ok d st
    | .nx _ st => .ok .non st
    | .exc d _ st => .exc d st
    | _ => .bad) = _
  unfold b_law
  rw [evSs, evS, eB]
theorem answer : ∀ ns : List Int, ns.length ≤ 63 → (∀ z ∈ ns, PySem.Builtin.Int.intBits z ≤ 1048576) → ∃ st, callN (tbOf dfs) 40 32 [.frz (ns.map D.int)] [] 0 = .ok (.bl true) st := fun ns hl _ => law_ok (n := 32) hl
end
end K25

namespace K25
open PySem PySem.Spec PyProof.Rows L2 Rf
abbrev R : PySem.W.OpenRow := PySem.W.OpenLaw.row PySem.Challenge.rw_provenpicks_k25_whole_plain_rows_at_all
abbrev hfa : List He.Fa := facts dfs []
abbrev hk : PySem.W.Hook := He.hookD 4 hfa (defs dfs)
def ob (s : PySem.W.SharedT) : He.AlD := He.obsDG 4 hfa (defs dfs) (HandSHeadRun.getT s)
theorem ob_eq (s : PySem.W.SharedT) : ob s = hk.obs s.abs := He.obsDG_eq (HandSHeadRun.getT_eq s)
def loose : List PySem.Str := ([("PickError" : PySem.Str), ("InvalidRow" : PySem.Str), ("InvalidAssignment" : PySem.Str), ("weights_by" : PySem.Str), ("gathered" : PySem.Str), ("plain_by" : PySem.Str), ("numbers_in" : PySem.Str), ("total_of" : PySem.Str), ("is_contradiction_by" : PySem.Str), ("is_true_by" : PySem.Str), ("meets_by" : PySem.Str), ("greatest_number" : PySem.Str), ("is_number" : PySem.Str), ("is_from" : PySem.Str), ("is_tuple_of" : PySem.Str), ("are_ascending" : PySem.Str), ("is_literal" : PySem.Str), ("are_any_terms" : PySem.Str), ("is_row" : PySem.Str), ("check_terms" : PySem.Str), ("check_row" : PySem.Str), ("are_truths" : PySem.Str), ("check_assignment_for" : PySem.Str), ("plain_row" : PySem.Str), ("is_contradiction" : PySem.Str), ("meets" : PySem.Str), ("_law_pool" : PySem.Str), ("_law_below" : PySem.Str), ("_law_one" : PySem.Str), ("_law_unsigned" : PySem.Str)] : List PySem.Str) ++ ([("_law_row" : PySem.Str), ("_law_firsts" : PySem.Str), ("_law_literal" : PySem.Str), ("_law_summed" : PySem.Str), ("_law_same" : PySem.Str), ("_law_assignments" : PySem.Str), ("_law_doubled" : PySem.Str), ("_law_right" : PySem.Str)] : List PySem.Str)
theorem run (w : World) : HandSHeadRun.RunEq R (PySem.W.view R.prog [44]) hk ob 6000 loose w := by
  intro os
  kernel_rfl
end K25

open PySem PySem.W PySem.Calls PyProof.Rows
theorem PySem.Challenge.cw_provenpicks_k25_whole_plain_rows_at_all_holds : PySem.Challenge.rw_provenpicks_k25_whole_plain_rows_at_all.Holds := by
  w_on; o_law
  refine HandSHeadRun.head_any (r := OpenLaw.row PySem.Challenge.rw_provenpicks_k25_whole_plain_rows_at_all) (q := view (OpenLaw.row PySem.Challenge.rw_provenpicks_k25_whole_plain_rows_at_all).prog [44]) (H := K25.hk) (ob := K25.ob) (M := 6000) (loose := K25.loose) (d := HandSHeadRun.topDef (OpenLaw.row PySem.Challenge.rw_provenpicks_k25_whole_plain_rows_at_all).prog 44) (kwd := []) K25.ob_eq
    (by kernel_rfl) (fun s => by kernel_rfl) K25.run (by kernel_rfl) (by kernel_rfl) (by kernel_rfl) (by rfl) (by first | assumption | decide +kernel) (by decide +kernel) ⟨rfl, rfl, rfl, rfl, rfl, by decide +kernel⟩ ?hw ?hc
  case hw => w_witness2
  case hc =>
    exact Rf.law_walk (l := PySem.Challenge.rw_provenpicks_k25_whole_plain_rows_at_all) (n := 63) (lv := 40) (xs := K25.dfs) (more := []) (consts := K25.consts) (kbs := K25.kbs) (i0 := 32) (x0 := K25.df_law) rfl (by decide) (by kernel_rfl) ⟨rfl, by decide, by decide⟩ (by kernel_rfl) K25.all_ok K25.allK rfl rfl rfl (fun _ _ _ _ _ _ p hp => nomatch hp) K25.answer

