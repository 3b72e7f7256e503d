import PyProof.Rows.All
import Wide.All
import OpenK.AllK
import Wide.FinOn
import PyProof.EqAt
import PyProof.EqKinds
import PyProof.TupleCall
import KE.KDictKeyed
import KE.KeyNested
import HandS.Base
import HandS.Call
import HandS.List
import HandS.Exc
import HandS.Flow
import HandS.Style
import HandS.Text
import HandS.Wide
import KE.DataEq
import HandS.TupAny
import HandS.IsInst
import HandS.ExcOwn
import HandS.CallSlots
import HandS.Defaults
import HandS.TryOnly
import HandS.Iter
import HandS.Walk
import HandS.Zip
import HandS.Comp
import HandS.Strs
import HandS.WideBits
import HandS.Codes
import HandS.Words
import HandS.WordsExc
import PyProof.ListStr
import HandS.Conv
import HandS.Zip0
import HandS.Dict
import KE.KExcSuper
import KE.KExcIs
import HandS.ExcField
import HandS.ExcValue
import KE.SortData
import PyProof.CollectStr
import PyProof.TupleOfSeq
import HandS.DictComp
import HandS.WordsDict
import HandS.HeadEnd
import HandS.HeadHook2
import HandS.Head2
import HandS.Head0
import HandS.Head1
import HandS.HeadHook1
import PySem.Challenge.RW_lonehall_k90_matches_and_sums_refused
/-! PL: a small language with owners. Part 1: data, primitives, the interpreter. Plain Lean, no program in sight. -/
namespace PL

/-- own: nobody else holds it; sh t: others may hold it, nobody changes it; t tells which object it is (0: not told) -/
inductive Fg where
  | own | sh (t : Nat)
  deriving DecidableEq, Inhabited
def Fg.fz : Fg → Fg
  | .own => .sh 0
  | .sh t => .sh t
def Fg.isOwn : Fg → Bool
  | .own => true
  | .sh _ => false
/-- data: lists and dicts bear a flag -/
inductive D where
  | non | bl (b : Bool) | int (i : Int) | str (s : List Nat)
  | lst (o : Fg) (xs : List D) | tup (xs : List D) | dct (o : Fg) (es : List (D × D))
  | fn (f : Nat) | exn (c : Nat) (v : D)
  deriving Inhabited

mutual
/-- all flags down -/
def fz : D → D
  | .lst o xs => .lst o.fz (fzs xs)
  | .tup xs => .tup (fzs xs)
  | .dct o es => .dct o.fz (fzp es)
  | .non => .non | .bl b => .bl b | .int i => .int i | .str s => .str s | .fn f => .fn f | .exn c v => .exn c (fz v)
termination_by structural x => x
def fzs : List D → List D
  | [] => []
  | d :: r => fz d :: fzs r
termination_by structural x => x
def fzp : List (D × D) → List (D × D)
  | [] => []
  | (k, v) :: r => (fz k, fz v) :: fzp r
termination_by structural x => x
end
mutual
/-- no flag is up -/
def pu : D → Bool
  | .lst o xs => !o.isOwn && pus xs
  | .tup xs => pus xs
  | .dct o es => !o.isOwn && pup es
  | .non => true | .bl _ => true | .int _ => true | .str _ => true | .fn _ => true | .exn _ v => pu v
termination_by structural x => x
def pus : List D → Bool
  | [] => true
  | d :: r => pu d && pus r
termination_by structural x => x
def pup : List (D × D) → Bool
  | [] => true
  | (k, v) :: r => (pu k && pu v) && pup r
termination_by structural x => x
end
mutual
/-- every list and dict within is owned -/
def nf : D → Bool
  | .lst o xs => o.isOwn && nfs xs
  | .tup xs => nfs xs
  | .dct o es => o.isOwn && nfp es
  | .non => true | .bl _ => true | .int _ => true | .str _ => true | .fn _ => true | .exn _ _ => false
termination_by structural x => x
def nfs : List D → Bool
  | [] => true
  | d :: r => nf d && nfs r
termination_by structural x => x
def nfp : List (D × D) → Bool
  | [] => true
  | (k, v) :: r => (nf k && nf v) && nfp r
termination_by structural x => x
end
mutual
/-- data alone: no function, no exception -/
def dat : D → Bool
  | .lst _ xs => dats xs
  | .tup xs => dats xs
  | .dct _ es => datp es
  | .non => true | .bl _ => true | .int _ => true | .str _ => true | .fn _ => false | .exn _ _ => false
termination_by structural x => x
def dats : List D → Bool
  | [] => true
  | d :: r => dat d && dats r
termination_by structural x => x
def datp : List (D × D) → Bool
  | [] => true
  | (k, v) :: r => (dat k && dat v) && datp r
termination_by structural x => x
end
mutual
/-- no dict, no function within, and not deeper than n -/
def nd : Nat → D → Bool
  | n, .lst _ xs => n != 0 && nds (n - 1) xs
  | n, .tup xs => n != 0 && nds (n - 1) xs
  | _, .dct _ _ => false
  | _, .non => true | _, .bl _ => true | _, .int _ => true | _, .str _ => true | _, .fn _ => false | _, .exn _ _ => false
termination_by structural _ x => x
def nds : Nat → List D → Bool
  | _, [] => true
  | n, d :: r => nd n d && nds n r
termination_by structural _ x => x
end
def b2i (b : Bool) : Int := if b then 1 else 0
mutual
/-- Python's == of data -/
def eqD : D → D → Bool
  | .non, .non => true
  | .bl a, .bl b => a == b
  | .bl a, .int j => decide (b2i a = j)
  | .int i, .bl b => decide (i = b2i b)
  | .int i, .int j => decide (i = j)
  | .str a, .str b => decide (a = b)
  | .lst _ xs, .lst _ ys => eqDs xs ys
  | .tup xs, .tup ys => eqDs xs ys
  | .dct _ es, .dct _ es' => es.length == es'.length && subD es es'
  | _, _ => false
termination_by structural x => x
def eqDs : List D → List D → Bool
  | [], [] => true
  | a :: r, b :: s => eqD a b && eqDs r s
  | _, _ => false
termination_by structural x => x
/-- each entry of the one is one of the other -/
def subD : List (D × D) → List (D × D) → Bool
  | [], _ => true
  | (k, v) :: r, o => o.any (fun p => eqD k p.1 && eqD v p.2) && subD r o
termination_by structural x => x
end
/-- texts as code points -/
def ltS : List Nat → List Nat → Bool
  | [], [] => false
  | [], _ :: _ => true
  | _ :: _, [] => false
  | a :: r, b :: s => if a = b then ltS r s else decide (a < b)
mutual
/-- Python's <, where it is told -/
def ltD : D → D → Option Bool
  | .int i, .int j => some (decide (i < j))
  | .bl a, .bl b => some (decide (b2i a < b2i b))
  | .bl a, .int j => some (decide (b2i a < j))
  | .int i, .bl b => some (decide (i < b2i b))
  | .str a, .str b => some (ltS a b)
  | .lst _ xs, .lst _ ys => ltDs xs ys
  | .tup xs, .tup ys => ltDs xs ys
  | _, _ => none
termination_by structural x => x
def ltDs : List D → List D → Option Bool
  | [], [] => some false
  | [], _ :: _ => some true
  | _ :: _, [] => some false
  | a :: r, b :: s => if eqD a b then ltDs r s else ltD a b
termination_by structural x => x
end

/-! ### limits of the model -/
def fits (n : Nat) : Bool := Nat.ble n 16777216
/-- the script bears this tag: it is read by place, by slice and by len alone -/
def scr : Nat := 9
def Fg.plain : Fg → Bool
  | .own => true
  | .sh t => t != 9
def mulOk (i j : Int) : Bool := decide (i.natAbs < 2 ^ 64) || decide (j.natAbs < 2 ^ 64)
def bits (n : Nat) : Nat := if n = 0 then 0 else n.log2 + 1
def small62 (i : Int) : Bool := decide (-(2 ^ 62) ≤ i) && decide (i < 2 ^ 62)
/-! ### places -/
def ixN (n : Nat) (i : Int) : Option Nat := if 0 ≤ i then (if i < n then some i.toNat else none) else if -(n : Int) ≤ i then some (i + n).toNat else none
def clip (n : Nat) (dflt : Nat) : Option Int → Nat
  | none => dflt
  | some i => if i < 0 then (i + (n : Int)).toNat else min i.toNat n
def cut {α : Type} (xs : List α) (lo hi : Option Int) : List α := (xs.drop (clip xs.length 0 lo)).take (clip xs.length xs.length hi - clip xs.length 0 lo)
/-- a bound of a slice: none where it is not written -/
def bound? : Bool → D → Option (Option Int)
  | false, _ => some none
  | true, .int i => some (some i)
  | _, _ => none

/-! ### texts of data -/
def digits (n : Nat) : List Nat := (Nat.toDigits 10 n).map Char.toNat
def strInt (i : Int) : List Nat := if i < 0 then 45 :: digits i.natAbs else digits i.natAbs
def plainSign (c : Nat) : Bool := 32 ≤ c && c < 127 && c != 39 && c != 92
def comma (r : List Nat) (last : Bool) : List Nat := if last then r else r ++ [44, 32]
mutual
def rep : D → Option (List Nat)
  | .non => some [78, 111, 110, 101]
  | .bl b => some (if b then [84, 114, 117, 101] else [70, 97, 108, 115, 101])
  | .int i => some (strInt i)
  | .str s => if s.all plainSign then some (39 :: s ++ [39]) else none
  | .lst _ xs => (reps xs).map fun r => 91 :: r ++ [93]
  | .tup xs => (reps xs).map fun r => 40 :: r ++ (if xs.length = 1 then [44, 41] else [41])
  | .dct _ es => (repp es).map fun r => 123 :: r ++ [125]
  | .fn _ => none
  | .exn _ _ => none
termination_by structural x => x
def reps : List D → Option (List Nat)
  | [] => some []
  | x :: xs => (rep x).bind fun a => (reps xs).map fun b => comma a xs.isEmpty ++ b
termination_by structural x => x
def repp : List (D × D) → Option (List Nat)
  | [] => some []
  | (k, v) :: r => (rep k).bind fun a => (rep v).bind fun b => (repp r).map fun c => comma (a ++ 58 :: 32 :: b) r.isEmpty ++ c
termination_by structural x => x
end
def numAux : List Nat → Nat → Option Nat
  | [], n => some n
  | c :: r, n => if 48 ≤ c ∧ c ≤ 57 then numAux r (n * 10 + (c - 48)) else none
/-- int of a text of figures -/
def numOf : List Nat → Option Nat
  | [] => none
  | s => numAux s 0

/-! ### dicts -/
abbrev Es := List (D × D)
def look (k : D) : Es → Option D
  | [] => none
  | (k', v) :: r => if eqD k' k then some v else look k r
def hasK (k : D) (ks : List D) : Bool := ks.any fun k' => eqD k' k
def hasE (k : D) (es : Es) : Bool := es.any fun e => eqD e.1 k
/-- d[k] = v -/
def put (k v : D) : Es → Es
  | [] => [(k, v)]
  | (k', v') :: r => if eqD k' k then (k', v) :: r else (k', v') :: put k v r
def del (k : D) : Es → Es
  | [] => []
  | (k', v') :: r => if eqD k' k then r else (k', v') :: del k r
def putAll : Es → Es → Es
  | [], a => a
  | (k, v) :: r, a => putAll r (put k v a)
mutual
/-- what may be a key -/
def keyable : D → Bool
  | .non => true | .bl _ => true | .int _ => true | .str _ => true
  | .tup xs => keyables xs
  | .lst _ _ => false | .dct _ _ => false | .fn _ => false | .exn _ _ => false
termination_by structural x => x
def keyables : List D → Bool
  | [] => true
  | d :: r => keyable d && keyables r
termination_by structural x => x
end

/-! ### order -/
/-- z into a sorted list, ahead of the first that is greater -/
def ins (z : D) : List D → Option (List D)
  | [] => some [z]
  | x :: xs => match ltD z x with
    | some true => some (z :: x :: xs)
    | some false => (ins z xs).map (x :: ·)
    | none => none
def isort : List D → Option (List D)
  | [] => some []
  | x :: xs => (isort xs).bind (insB x)
where
  /-- x ahead of its equals (it stood ahead of them) -/
  insB (z : D) : List D → Option (List D)
    | [] => some [z]
    | x :: xs => match ltD x z with
      | some false => some (z :: x :: xs)
      | some true => (insB z xs).map (x :: ·)
      | none => none
/-! sorting: a datum as a row of signs -/
mutual
def tk : D → List (Int ⊕ List Nat)
  | .bl b => [.inl (b2i b)] | .int i => [.inl i] | .str s => [.inr s]
  | .lst _ xs => tks xs | .tup xs => tks xs
  | .non => [] | .dct _ _ => [] | .fn _ => [] | .exn _ _ => []
termination_by structural x => x
def tks : List D → List (Int ⊕ List Nat)
  | [] => [.inl 0]
  | d :: r => .inl 1 :: (tk d ++ tks r)
termination_by structural x => x
end
mutual
/-- the two can be compared, place by place -/
def alk : D → D → Bool
  | .non, .non => true | .bl _, .bl _ => true | .int _, .int _ => true | .str _, .str _ => true
  | .lst _ xs, .lst _ ys => alks xs ys
  | .tup xs, .tup ys => alks xs ys
  | _, _ => false
termination_by structural x => x
def alks : List D → List D → Bool
  | x :: xs, y :: ys => alk x y && alks xs ys
  | [], _ => true
  | _ :: _, [] => true
termination_by structural x => x
end
def tLt : Int ⊕ List Nat → Int ⊕ List Nat → Bool
  | .inl a, .inl b => decide (a < b)
  | .inl _, .inr _ => true
  | .inr _, .inl _ => false
  | .inr a, .inr b => ltS a b
def tsLt : List (Int ⊕ List Nat) → List (Int ⊕ List Nat) → Bool
  | [], [] => false
  | [], _ :: _ => true
  | _ :: _, [] => false
  | a :: r, b :: s => if a = b then tsLt r s else tLt a b
/-- b does not stand ahead of a -/
def leT (a b : D) : Bool := !tsLt (tk b) (tk a)
def insT (x : D) : List D → List D
  | [] => [x]
  | b :: r => if leT x b then x :: b :: r else b :: insT x r
def sortT : List D → List D
  | [] => []
  | x :: r => insT x (sortT r)
def isTup1 : D → Bool
  | .tup (_ :: _) => true
  | _ => false
def noTup : D → Bool
  | .tup _ => false | .non => false | _ => true
def srtOk (xs : List D) : Bool := nds 40 xs && (xs.all fun a => xs.all (alk a)) && (xs.all isTup1 || xs.all noTup) && fits xs.length
def minD : D → List D → Option D
  | m, [] => some m
  | m, x :: xs => match ltD x m with
    | some true => minD x xs
    | some false => minD m xs
    | none => none
def maxD : D → List D → Option D
  | m, [] => some m
  | m, x :: xs => match ltD m x with
    | some true => maxD x xs
    | some false => maxD m xs
    | none => none
def minI : Int → List D → Option D
  | m, [] => some (.int m)
  | m, .int i :: r => minI (if i < m then i else m) r
  | _, _ => none
def maxI : Int → List D → Option D
  | m, [] => some (.int m)
  | m, .int i :: r => maxI (if m < i then i else m) r
  | _, _ => none
def sumI : List D → Option Int
  | [] => some 0
  | .int i :: r => (sumI r).map (i + ·)
  | _ => none
def catL : List D → Option (List D)
  | [] => some []
  | .lst _ xs :: r => (catL r).map (xs ++ ·)
  | _ => none
def allB : List D → Option Bool
  | [] => some true
  | .bl b :: r => (allB r).map (b && ·)
  | _ => none
def anyB : List D → Option Bool
  | [] => some false
  | .bl b :: r => (anyB r).map (b || ·)
  | _ => none
def idx (x : D) : List D → Option Nat
  | [] => none
  | y :: r => if eqD y x then some 0 else (idx x r).map (· + 1)
def cnt (x : D) : List D → Nat
  | [] => 0
  | y :: r => (if eqD y x then 1 else 0) + cnt x r
def subAt (a : List Nat) : List Nat → Option Nat
  | [] => if a = [] then some 0 else none
  | c :: r => if a.isPrefixOf (c :: r) then some 0 else (subAt a r).map (· + 1)
def signs (s : List Nat) : List D := s.map fun c => .str [c]
def joinS : List Nat → List D → Option (List Nat)
  | _, [] => some []
  | _, [.str s] => some s
  | sep, .str s :: r => (joinS sep r).map fun t => s ++ sep ++ t
  | _, _ => none
/-- the items that a loop walks -/
def itemsOf : D → Option (List D)
  | .lst _ xs => some xs
  | .tup xs => some xs
  | .str s => some (signs s)
  | _ => none
def zipT : List D → List D → List D
  | x :: xs, y :: ys => .tup [x, y] :: zipT xs ys
  | _, _ => []
def pairsOf : List D → Option Es
  | [] => some []
  | .tup [k, v] :: r => (pairsOf r).map fun p => (k, v) :: p
  | _ => none
def zipE : List D → List D → Es
  | x :: xs, y :: ys => (x, y) :: zipE xs ys
  | _, _ => []
def enumFrom : Int → List D → List D
  | _, [] => []
  | n, x :: xs => .tup [.int n, x] :: enumFrom (n + 1) xs
def rangeL (lo : Int) : Nat → List D
  | 0 => []
  | n + 1 => .int lo :: rangeL (lo + 1) n
def rangeD (lo c : Int) : Nat → List D
  | 0 => []
  | n + 1 => .int lo :: rangeD (lo + c) c n

/-! ### classes of values, for isinstance -/
inductive Ty where
  | int | bool | str | list | tuple | dict | own (c : Nat)
  deriving DecidableEq
def isTy (par : Nat → Option Nat) (fuel : Nat) : Ty → D → Bool
  | .int, .int _ => true
  | .int, .bl _ => true
  | .bool, .bl _ => true
  | .str, .str _ => true
  | .list, .lst _ _ => true
  | .tuple, .tup _ => true
  | .dict, .dct _ _ => true
  | .own c, .exn k _ => anc fuel k c
  | _, _ => false
where
  anc : Nat → Nat → Nat → Bool
    | 0, _, _ => false
    | n + 1, k, c => k == c || (match par k with | some p => anc n p c | none => false)

/-- what isinstance of built-in types may be asked of -/
def simpleD2 : D → Bool
  | .fn _ => false | .exn _ _ => false | _ => true
/-! ### primitives -/
inductive P where
  | add | sub | mul | fdiv | mod | pow | shl | xor | neg
  | eq | ne | lt | le | gt | ge | isIn | notIn | isNone | notNone | isB (b : Bool) | notB (b : Bool)
  | ix | sl (l h : Bool) | rev | mkLst | mkTup | mkDct
  | len | sum | sum2 | all | any | min | max | minL | maxL | sorted | sortedV | list | listV | listI | tuple | dict | int | str | abs | repr | bitlen
  | inst (t : Ty) | inst2 (t u : Ty) | instO (c : Nat) | lenD
  | get | get0 | count | index | join | find | zipd | setlen | listR | fld
  deriving DecidableEq

def pairs2 : List D → Option Es
  | [] => some []
  | k :: v :: r => if keyable k then (pairs2 r).map fun p => (k, v) :: p else none
  | _ => none
def p_add : List D → Option D
  | [.int i, .int j] => some (.int (i + j))
  | [.str s, .str t] => if fits (s.length + t.length) then some (.str (s ++ t)) else none
  | [.lst o xs, .lst o' ys] => if o.plain && o'.plain && fits (xs.length + ys.length) then some (.lst .own (xs ++ ys)) else none
  | [.tup xs, .tup ys] => if !xs.isEmpty && fits (xs.length + ys.length) then some (.tup (xs ++ ys)) else none
  | _ => none
def p_sub : List D → Option D
  | [.int i, .int j] => some (.int (i - j))
  | _ => none
def p_mul : List D → Option D
  | [.int i, .int j] => if mulOk i j then some (.int (i * j)) else none
  | [.lst o xs, .int n] => if o.plain && pus xs && small62 n && fits (xs.length * n.toNat) then some (.lst .own (List.replicate n.toNat xs).flatten) else none
  | [.str s, .int n] => if small62 n && fits (s.length * n.toNat) then some (.str (List.replicate n.toNat s).flatten) else none
  | _ => none
def p_fdiv : List D → Option D
  | [.int i, .int j] => if 0 < j && decide (j < 1073741824) then some (.int (i / j)) else none
  | _ => none
def p_mod : List D → Option D
  | [.int i, .int j] => if 0 < j then some (.int (i % j)) else none
  | _ => none
def p_pow : List D → Option D
  | [.int i, .int j] => if 0 ≤ j && Nat.ble (bits i.natAbs * j.toNat) 134217728 then some (.int (i ^ j.toNat)) else none
  | _ => none
def p_shl : List D → Option D
  | [.int i, .int j] => if 0 ≤ j && decide (j ≤ 1000000) && decide (i.natAbs < 2 ^ 64) then some (.int (i * 2 ^ j.toNat)) else none
  | _ => none
def p_neg : List D → Option D
  | [.int i] => some (.int (-i))
  | _ => none
def p_eq : List D → Option D
  | [a, b] => if nd 40 a && nd 40 b then some (.bl (eqD a b)) else none
  | _ => none
def p_ne : List D → Option D
  | [a, b] => if nd 40 a && nd 40 b then some (.bl (!eqD a b)) else none
  | _ => none
def p_lt : List D → Option D
  | [.int i, .int j] => some (.bl (decide (i < j)))
  | [.str a, .str b] => some (.bl (ltS a b))
  | _ => none
def p_gt : List D → Option D
  | [.int i, .int j] => some (.bl (decide (j < i)))
  | [.str a, .str b] => some (.bl (ltS b a))
  | _ => none
def p_le : List D → Option D
  | [.int i, .int j] => some (.bl (decide (i ≤ j)))
  | [.str a, .str b] => some (.bl (!ltS b a))
  | _ => none
def p_ge : List D → Option D
  | [.int i, .int j] => some (.bl (decide (j ≤ i)))
  | [.str a, .str b] => some (.bl (!ltS a b))
  | _ => none
def p_isIn : List D → Option D
  | [x, .lst _ ys] => if nd 40 x && nds 40 ys then some (.bl (hasK x ys)) else none
  | [x, .tup ys] => if nd 40 x && nds 40 ys then some (.bl (hasK x ys)) else none
  | [.str [c], .str b] => some (.bl (decide (c ∈ b)))
  | _ => none
def p_notIn : List D → Option D
  | [x, .lst _ ys] => if nd 40 x && nds 40 ys then some (.bl (!hasK x ys)) else none
  | [x, .tup ys] => if nd 40 x && nds 40 ys then some (.bl (!hasK x ys)) else none
  | [.str [c], .str b] => some (.bl (!decide (c ∈ b)))
  | _ => none
def p_isNone : List D → Option D
  | [a] => some (.bl (match a with | .non => true | _ => false))
  | _ => none
def p_notNone : List D → Option D
  | [a] => some (.bl (match a with | .non => false | _ => true))
  | _ => none
def p_isB (b : Bool) : List D → Option D
  | [a] => some (.bl (match a with | .bl c => c == b | _ => false))
  | _ => none
def p_notB (b : Bool) : List D → Option D
  | [a] => some (.bl (match a with | .bl c => !(c == b) | _ => true))
  | _ => none
def p_ix : List D → Option D
  | [.lst _ xs, .int i] => (ixN xs.length i).bind (xs[·]?)
  | [.tup xs, .int i] => (ixN xs.length i).bind (xs[·]?)
  | [.str s, .int i] => if fits s.length then (ixN s.length i).bind fun j => s[j]?.map fun c => .str [c] else none
  | _ => none
def p_sl (l h : Bool) : List D → Option D
  | [.lst _ xs, a, b] => (bound? l a).bind fun lo => (bound? h b).map fun hi => .lst .own (cut xs lo hi)
  | [.tup xs, a, b] => (bound? l a).bind fun lo => (bound? h b).map fun hi => .tup (cut xs lo hi)
  | [.str s, a, b] => if fits s.length then (bound? l a).bind fun lo => (bound? h b).map fun hi => .str (cut s lo hi) else none
  | _ => none
def p_rev : List D → Option D
  | [.lst _ xs] => some (.lst .own xs.reverse)
  | [.tup xs] => some (.tup xs.reverse)
  | [.str s] => some (.str s.reverse)
  | _ => none
def p_mkLst : List D → Option D
  | xs => if fits xs.length then some (.lst .own xs) else none
def p_mkTup : List D → Option D
  | xs => if fits xs.length then some (.tup xs) else none
def p_mkDct : List D → Option D
  | xs => (pairs2 xs).map fun p => .dct .own (putAll p [])
def p_len : List D → Option D
  | [.lst _ xs] => some (.int xs.length)
  | [.tup xs] => some (.int xs.length)
  | [.str s] => if fits s.length then some (.int s.length) else none
  | _ => none
def p_sum : List D → Option D
  | [.lst _ xs] => (sumI xs).map .int
  | _ => none
def p_sum2 : List D → Option D
  | [.lst _ xs, .lst _ ys] => (catL xs).map fun r => .lst .own (ys ++ r)
  | _ => none
def p_all : List D → Option D
  | [.lst _ xs] => (allB xs).map .bl
  | _ => none
def p_any : List D → Option D
  | [.lst _ xs] => (anyB xs).map .bl
  | _ => none
def p_min : List D → Option D
  | [.int i, .int j] => some (.int (if j < i then j else i))
  | _ => none
def p_max : List D → Option D
  | [.int i, .int j] => some (.int (if j > i then j else i))
  | _ => none
def p_minL : List D → Option D
  | [.lst _ (.int m :: xs)] => minI m xs
  | _ => none
def p_maxL : List D → Option D
  | [.lst _ (.int m :: xs)] => maxI m xs
  | _ => none
def p_sorted : List D → Option D
  | [d] => (itemsOf d).bind fun xs => if srtOk xs then some (.lst .own (sortT xs)) else none
  | _ => none
def p_list : List D → Option D
  | [.lst _ xs] => some (.lst .own xs)
  | [.tup xs] => some (.lst .own xs)
  | [.str s] => if fits s.length then some (.lst .own (signs s)) else none
  | _ => none
def p_listV : List D → Option D
  | [.dct _ es] => some (.lst .own (es.map (·.2)))
  | _ => none
def p_sortedV : List D → Option D
  | [.dct _ es] => (isort (es.map (·.2))).map (.lst .own)
  | _ => none
def p_listI : List D → Option D
  | [.dct _ es] => some (.lst .own (es.map fun e => .tup [e.1, e.2]))
  | _ => none
def p_listR : List D → Option D
  | [.int n] => if small62 n && fits n.toNat then some (.lst .own (rangeL 0 n.toNat)) else none
  | _ => none
def p_tuple : List D → Option D
  | [.lst _ xs] => some (.tup xs)
  | [.tup xs] => some (.tup xs)
  | _ => none
def p_dict : List D → Option D
  | [.lst _ xs] => (pairsOf xs).bind fun p => if keyables (p.map (·.1)) then some (.dct .own (putAll p [])) else none
  | [.dct _ es] => some (.dct .own es)
  | _ => none
def p_zipd : List D → Option D
  | [a, b] => do let xs ← itemsOf a; let ys ← itemsOf b; if keyables xs then some (.dct .own (putAll (zipE xs ys) [])) else none
  | _ => none
def p_int : List D → Option D
  | [.int i] => some (.int i)
  | [.bl b] => some (.int (b2i b))
  | [.str s] => if Nat.ble s.length 640 then (numOf s).map fun (n : Nat) => .int n else none
  | _ => none
def p_str : List D → Option D
  | [.int i] => if Nat.blt i.natAbs.log2 1920 then some (.str (strInt i)) else none
  | _ => none
def p_abs : List D → Option D
  | [.int i] => some (.int i.natAbs)
  | _ => none
mutual
/-- ints that are written within the model's line -/
def ntx : D → Bool
  | .int i => Nat.blt i.natAbs.log2 1920
  | .lst _ xs => ntxs xs
  | .tup xs => ntxs xs
  | .dct _ es => ntxp es
  | .non => true | .bl _ => true | .str _ => true | .fn _ => false | .exn _ _ => false
termination_by structural x => x
def ntxs : List D → Bool
  | [] => true
  | d :: r => ntx d && ntxs r
termination_by structural x => x
def ntxp : List (D × D) → Bool
  | [] => true
  | (k, v) :: r => (ntx k && ntx v) && ntxp r
termination_by structural x => x
end
def p_repr : List D → Option D
  | [.dct _ []] => some (.str [123, 125])
  | [d] => if nd 40 d && ntx d then (rep d).bind fun t => if fits t.length then some (.str t) else none else none
  | _ => none
def p_bitlen : List D → Option D
  | [.int i] => some (.int ((if i.natAbs = 0 then 0 else i.natAbs.log2 + 1 : Nat) : Int))
  | _ => none
def p_inst (par : Nat → Option Nat) (t : Ty) : List D → Option D
  | [d] => if simpleD2 d then some (.bl (isTy par 8 t d)) else none
  | _ => none
def p_inst2 (par : Nat → Option Nat) (t u : Ty) : List D → Option D
  | [d] => if simpleD2 d then some (.bl (isTy par 8 t d || isTy par 8 u d)) else none
  | _ => none
def p_get : List D → Option D
  | [.dct _ es, k, d] => if keyable k then some ((look k es).getD d) else none
  | _ => none
def p_get0 : List D → Option D
  | [.dct _ es, k] => if keyable k then some ((look k es).getD .non) else none
  | _ => none
def p_count : List D → Option D
  | [.lst _ xs, x] => if nd 40 x && nds 40 xs then some (.int (cnt x xs)) else none
  | [.tup xs, x] => if nd 40 x && nds 40 xs then some (.int (cnt x xs)) else none
  | _ => none
def idxS (z : List Nat) : List D → Option Nat
  | .str s :: r => if s = z then some 0 else (idxS z r).map (· + 1)
  | _ => none
def allStr : List D → Bool
  | [] => true
  | .str _ :: r => allStr r
  | _ => false
def p_index : List D → Option D
  | [.tup xs, .str z] => if allStr xs then (idxS z xs).map fun (n : Nat) => .int n else none
  | _ => none
def sumLen : List D → Nat
  | .str s :: r => s.length + sumLen r
  | _ => 0
def p_join : List D → Option D
  | [.str sep, .lst _ xs] => if fits (sumLen xs + xs.length * sep.length) then (joinS sep xs).map .str else none
  | _ => none
def p_find : List D → Option D
  | [.str s, .str t] => some (.int (match subAt t s with | some (n : Nat) => n | none => -1))
  | _ => none
def p_setlen : List D → Option D
  | [.lst _ xs] => if keyables xs then some (.int (putAll (zipE xs xs) []).length) else none
  | _ => none
/-- keys that are ints or texts -/
def keysF : List D → Option (List (Int ⊕ List Nat))
  | [] => some []
  | .int i :: r => (keysF r).map (.inl i :: ·)
  | .str s :: r => (keysF r).map (.inr s :: ·)
  | _ => none
def kput (k : Int ⊕ List Nat) (ks : List (Int ⊕ List Nat)) : List (Int ⊕ List Nat) := if (ks.any fun x => decide (x = k)) = true then ks else ks ++ [k]
/-- len of {k: .., ..}: of what the keys are -/
def p_lenD : List D → Option D
  | [.lst _ xs] => (keysF xs).map fun ks => .int (ks.foldl (fun acc k => kput k acc) []).length
  | _ => none
/-- the number of an error class -/
def okc (par : Nat → Option Nat) (k : Nat) : Bool := k == 0 || (par k).isSome
def p_fld (par : Nat → Option Nat) : List D → Option D
  | [.exn k v] => if okc par k then some v else none
  | _ => none
def p_instO (par : Nat → Option Nat) (c : Nat) : List D → Option D
  | [.exn k _] => if okc par k && okc par c then some (.bl (isTy.anc par 8 k c)) else none
  | [.non] => if okc par c then some (.bl false) else none
  | _ => none
def prim (par : Nat → Option Nat) : P → List D → Option D
  | .add => p_add
  | .sub => p_sub
  | .xor => fun _ => none
  | .mul => p_mul
  | .fdiv => p_fdiv
  | .mod => p_mod
  | .pow => p_pow
  | .shl => p_shl
  | .neg => p_neg
  | .eq => p_eq
  | .ne => p_ne
  | .lt => p_lt
  | .gt => p_gt
  | .le => p_le
  | .ge => p_ge
  | .isIn => p_isIn
  | .notIn => p_notIn
  | .isNone => p_isNone
  | .notNone => p_notNone
  | .isB b => p_isB b
  | .notB b => p_notB b
  | .ix => p_ix
  | .sl l h => p_sl l h
  | .rev => p_rev
  | .mkLst => p_mkLst
  | .mkTup => p_mkTup
  | .mkDct => p_mkDct
  | .len => p_len
  | .sum => p_sum
  | .sum2 => p_sum2
  | .all => p_all
  | .any => p_any
  | .min => p_min
  | .max => p_max
  | .minL => p_minL
  | .maxL => p_maxL
  | .sorted => p_sorted
  | .list => p_list
  | .listV => p_listV
  | .sortedV => p_sortedV
  | .listI => p_listI
  | .listR => p_listR
  | .tuple => p_tuple
  | .dict => p_dict
  | .zipd => p_zipd
  | .int => p_int
  | .str => p_str
  | .abs => p_abs
  | .repr => p_repr
  | .bitlen => p_bitlen
  | .inst t => p_inst par t
  | .inst2 t u => p_inst2 par t u
  | .get => p_get
  | .get0 => p_get0
  | .count => p_count
  | .index => p_index
  | .join => p_join
  | .find => p_find
  | .setlen => p_setlen
  | .fld => p_fld par
  | .instO c => p_instO par c
  | .lenD => p_lenD

/-! ### methods that change -/
inductive Mt where
  | append | pop | popAt | insert | update | dpop | dpop2
  deriving DecidableEq
/-- the object behind, and what the call gives -/
def m_append : D → List D → Option (D × D)
  | .lst .own xs, [x] => if fits (xs.length + 1) then some (.lst .own (xs ++ [x]), .non) else none
  | _, _ => none
def m_popAt : D → List D → Option (D × D)
  | .lst .own xs, [.int i] => if small62 i then (ixN xs.length i).bind fun j => xs[j]?.map fun x => (.lst .own (xs.eraseIdx j), x) else none
  | _, _ => none
def mtd : Mt → D → List D → Option (D × D)
  | .append, o, ds => m_append o ds
  | .pop, .lst .own xs, [] => xs.getLast?.map fun x => (.lst .own xs.dropLast, x)
  | .popAt, o, ds => m_popAt o ds
  | _, _, _ => none
/-- d[k] = v, by places -/
def setAt : D → D → D → Option D
  | .lst .own xs, .int i, x => (ixN xs.length i).map fun j => .lst .own (xs.set j x)
  | _, _, _ => none
/-- deep in an owned thing -/
def deep (f : D → Option (D × D)) : List D → D → Option (D × D)
  | [], d => f d
  | .int i :: r, .lst .own xs => do
    let j ← ixN xs.length i
    let x ← xs[j]?
    let (y, z) ← deep f r x
    some (.lst .own (xs.set j y), z)
  | .int i :: r, .tup xs => do
    let j ← ixN xs.length i
    let x ← xs[j]?
    let (y, z) ← deep f r x
    some (.tup (xs.set j y), z)
  | k :: r, .dct .own es => if keyable k then do
    let x ← look k es
    let (y, z) ← deep f r x
    some (.dct .own (put k y es), z) else none
  | _, _ => none
end PL
/-! PL, part 2: the language and its interpreter. -/
namespace PL

/-- what a loop's head walks -/
inductive Kd where
  | seq | range | enum | zip | items | vals | rangeB
  deriving DecidableEq
/-- how an argument is handed on: frozen; a slot's own thing, handed back; an own thing of nobody -/
inductive Io where
  | fz | sl (i : Nat) | tmp
  deriving DecidableEq
/-- targets of a loop -/
inductive Tg where
  | v (i : Nat) | tup (ts : List Tg)

inductive E where
  | k (d : D) | v (i : Nat) | mov (i : Nat) | g (n : Nat) | f (n : Nat)
  | fz (e : E) | bor (is : List Nat) (e : E) | pk (i : Nat) (path : List E)
  | pr (p : P) (es : List E)
  | and (a b : E) | or (a b : E) | not (a : E) | ite (c a b : E)
  | cmp2 (p q : P) (a b c : E)
  | call (f : Nat) (as : List E) (ios : List Io) (perm : List Nat)
  | callv (i : Nat) (as : List E)
  | mth (m : Mt) (i : Nat) (path as : List E)
  | lc (elt : E) (tg : Tg) (kd : Kd) (es : List E) (cond : E) (own : List Nat)
  | lc2 (elt : E) (tg : Tg) (kd : Kd) (es : List E) (cond : E) (tg2 : Tg) (kd2 : Kd) (es2 : List E) (cond2 : E) (own own2 : List Nat)
  | dc (key val : E) (tg : Tg) (kd : Kd) (es : List E) (cond : E) (own : List Nat)

/-- targets of an assignment -/
inductive Tt where
  | v (i : Nat) | sub (i : Nat) (path : List E) (key : E) | tup (ts : List Tt)

inductive S where
  | asg (t : Tt) (e : E) | par (is : List Nat) (es : List E) | aug (p : P) (i : Nat) (e : E)
  | ex (e : E) | ret (e : E) | ite (c : E) (a b : List S) | wh (c : E) (b : List S)
  | for_ (tg : Tg) (kd : Kd) (es : List E) (b : List S)
  | brk | cont | pass | stk | raise (c : Nat) (e : E) | try_ (b : List S) (c n dst : Nat)
  | frz (i : Nat)
  | als (i n dst : Nat) (b m q : S)

abbrev Env := List (Option D)
inductive O (α : Type) where
  | ok (a : α) (e : Env) | exc (c : Nat) (v : D) (e : Env) | st
/-- a call's end: the value, what stands in the parameters that are handed back -/
inductive FR where
  | ok (d : D) (outs : List (Option D)) | exc (c : Nat) (v : D) | st

structure Ctx where
  par : Nat → Option Nat
  const : Nat → Option D
  call : Nat → List D → FR
  /-- turns of a while -/
  L : Nat
  /-- the slots that are never stored anew: what is handed back -/
  pin : Nat → Bool := fun _ => false

/-! ### frames -/
def get (env : Env) (i : Nat) : Option D := (env[i]?).join
def wipe (is : List Nat) (env : Env) : Env := is.foldl (fun e i => e.set i none) env
def back (is : List Nat) (old env : Env) : Env := is.foldl (fun e i => e.set i (get old i)) env
mutual
def bind : Tg → D → Env → Option Env
  | .v i, d, env => if i < env.length then some (env.set i (some d)) else none
  | .tup ts, .tup ds, env => if ts.length = ds.length then binds ts ds env else none
  | .tup ts, .lst _ ds, env => if ts.length = ds.length then binds ts ds env else none
  | .tup _, _, _ => none
termination_by structural x => x
def binds : List Tg → List D → Env → Option Env
  | [], [], env => some env
  | t :: ts, d :: ds, env => (bind t d env).bind (binds ts ds)
  | _, _, _ => none
termination_by structural x => x
end
/-- the owned ones of some slots -/
def owned (is : List Nat) (env : Env) : List Nat := is.filter fun i => match get env i with
  | some d => !pu d
  | none => false
def fzAt (is : List Nat) (env : Env) : Env := is.foldl (fun e i => e.set i ((get e i).map fz)) env
/-- behind a borrowing: the borrowed as they were, the others as they are, if they hold nothing of the borrowed -/
def merge (js : List Nat) : Nat → Env → Env → Option Env
  | _, [], [] => some []
  | n, a :: r, b :: s => do
    let x ← (if n ∈ js then some a else match a with
      | none => some none
      | some d => if pu d then some (some d) else match b with
        | none => some none
        | some d' => if nf d' then some (some d') else none)
    let y ← merge js (n + 1) r s
    some (x :: y)
  | _, _, _ => none
/-- down into a thing -/
def peek : List D → D → Option D
  | [], d => some d
  | k :: r, d => (prim (fun _ => none) .ix [d, k]).bind (peek r)
/-! the items that a loop walks -/
def i_seq : List D → Option (List D)
  | [d] => itemsOf d
  | _ => none
def i_range : List D → Option (List D)
  | [.int n] => if small62 n then some (rangeL 0 n.toNat) else none
  | [.int a, .int b] => if small62 a && small62 b then some (rangeL a (b - a).toNat) else none
  | _ => none
def i_rangeB : List D → Option (List D)
  | [.int a, .int b] => if small62 a && small62 b then some (rangeD a (-1) (a - b).toNat) else none
  | _ => none
def i_enum : List D → Option (List D)
  | [.lst _ xs] => some (enumFrom 0 xs)
  | _ => none
def i_zip : List D → Option (List D)
  | [.lst _ xs, .lst _ ys] => some (zipT xs ys)
  | [.tup xs, .tup ys] => some (zipT xs ys)
  | [.str xs, .str ys] => some (zipT (signs xs) (signs ys))
  | _ => none
def items : Kd → List D → Option (List D)
  | .seq, ds => i_seq ds
  | .range, ds => i_range ds
  | .rangeB, ds => i_rangeB ds
  | .enum, ds => i_enum ds
  | .zip, ds => i_zip ds
  | _, _ => none

def isScal : D → Bool
  | .int _ => true
  | .str _ => true
  | _ => false
def ownL : Option D → Bool
  | some (.lst .own _) => true
  | _ => false
/-- one turn after another of a comprehension -/
def lcLoop (own : List Nat) (tg : Tg) (cond : Env → O D) (elt : Env → O (List D)) : List D → Env → O (List D)
  | [], env => .ok [] env
  | d :: ds, env => match bind tg d (wipe own env) with
    | none => .st
    | some e1 => match cond e1 with
      | .ok (.bl true) e2 => (match elt e2 with
        | .ok xs e3 => (match lcLoop own tg cond elt ds e3 with
          | .ok ys e4 => .ok (xs ++ ys) e4
          | _ => .st)
        | _ => .st)
      | .ok (.bl false) e2 => lcLoop own tg cond elt ds e2
      | _ => .st
/-- what a call hands back -/
def putOuts : List Io → List (Option D) → Env → Option Env
  | [], [], env => some env
  | .sl i :: r, some d :: s, env => putOuts r s (env.set i (some d))
  | .fz :: r, _ :: s, env => putOuts r s env
  | .tmp :: r, _ :: s, env => putOuts r s env
  | _, _, _ => none
def fzArgs : List Io → List D → List D
  | .fz :: r, d :: s => fz d :: fzArgs r s
  | .sl _ :: r, d :: s => d :: fzArgs r s
  | .tmp :: r, d :: s => d :: fzArgs r s
  | [], ds => fzs ds
  | _, [] => []
def permute (perm : List Nat) (ds : List D) : Option (List D) := if perm = [] then some ds else perm.mapM fun i => ds[i]?
def O.bind {α β : Type} (x : O α) (f : α → Env → O β) : O β := match x with
  | .ok a e => f a e
  | .exc c v e => .exc c v e
  | .st => .st
def O.lift {α : Type} (x : Option α) (e : Env) : O α := match x with
  | some a => .ok a e
  | none => .st

mutual
def ev (C : Ctx) : E → Env → O D
  | .k d, env => .ok d env
  | .v i, env => match get env i with
    | some d => if pu d then .ok d env else .st
    | none => .st
  | .mov i, env => match get env i with
    | some d => .ok d (env.set i none)
    | none => .st
  | .g n, env => O.lift (C.const n) env
  | .f n, env => .ok (.fn n) env
  | .fz e, env => (ev C e env).bind fun d env => .ok (fz d) env
  | .bor is e, env => let js := owned is env
    if js.isEmpty then ev C e env else match ev C e (fzAt js env) with
      | .ok d env' => if nf d then O.bind (O.lift (merge js 0 env env') env) fun e' _ => .ok d e' else .st
      | _ => .st
  | .pk i path, env => if (get env i).isNone then .st else (evs C path env).bind fun ps env => match get env i with
    | some o => (match peek ps o with
      | some d => if pu d then .ok d env else .st
      | none => .st)
    | none => .st
  | .pr p es, env => (evs C es env).bind fun ds env => O.lift (prim C.par p ds) env
  | .and a b, env => (ev C a env).bind fun d env => match d with
    | .bl true => ev C b env
    | .bl false => .ok (.bl false) env
    | _ => .st
  | .or a b, env => (ev C a env).bind fun d env => match d with
    | .bl true => .ok (.bl true) env
    | .bl false => ev C b env
    | _ => .st
  | .not a, env => (ev C a env).bind fun d env => match d with
    | .bl b => .ok (.bl (!b)) env
    | _ => .st
  | .ite c a b, env => (ev C c env).bind fun d env => match d with
    | .bl true => ev C a env
    | .bl false => ev C b env
    | _ => .st
  | .cmp2 p q a b c, env => (ev C a env).bind fun x env => (ev C b env).bind fun y env => if pu x && pu y then (match prim C.par p [x, y] with
    | some (.bl true) => (ev C c env).bind fun z env => O.lift (prim C.par q [y, z]) env
    | some (.bl false) => .ok (.bl false) env
    | _ => .st) else .st
  | .call f as ios perm, env => (evs C as env).bind fun ds env => match permute perm (fzArgs ios ds) with
    | none => .st
    | some xs => match C.call f xs with
      | .ok d outs => if perm = [] then (if ios = [] then .ok d env else O.bind (O.lift (putOuts ios outs env) env) fun e' _ => .ok d e') else (if ios = [] then .ok d env else .st)
      | .exc c v => if ios = [] then .exc c v env else .st
      | .st => .st
  | .callv i as, env => match get env i with
    | some (.fn f) => (evs C as env).bind fun ds env => match C.call f (fzs ds) with
      | .ok d _ => .ok d env
      | .exc c v => .exc c v env
      | .st => .st
    | _ => .st
  | .mth m i path as, env => if path.isEmpty then if !ownL (get env i) then .st else
      (evs C as env).bind fun ds env => match get env i with
        | some o => (match mtd m o ds with
          | some (o', r) => .ok r (env.set i (some o'))
          | none => .st)
        | none => .st
    else match get env i with
      | none => .st
      | some o => (evs C path (env.set i none)).bind fun ps e1 => (evs C as e1).bind fun ds e2 => match deep (fun x => mtd m x ds) ps o with
        | some (o', r) => .ok r (e2.set i (some o'))
        | none => .st
  | .lc elt tg kd es cond own, env => (evs C es env).bind fun ds e1 => match items kd (fzs ds) with
    | none => .st
    | some xs => (match lcLoop own tg (ev C cond) (fun e => (ev C elt e).bind fun d e => .ok [d] e) xs e1 with
      | .ok ys e2 => if fits ys.length then .ok (.lst .own ys) (back own e1 e2) else .st
      | _ => .st)
  | .lc2 elt tg kd es cond tg2 kd2 es2 cond2 own own2, env => (evs C es env).bind fun ds e1 => match items kd (fzs ds) with
    | none => .st
    | some xs => (match lcLoop own tg (ev C cond) (fun e => (evs C es2 e).bind fun ds2 e2 => match items kd2 (fzs ds2) with
        | none => .st
        | some ys => lcLoop own2 tg2 (ev C cond2) (fun e => (ev C elt e).bind fun d e => .ok [d] e) ys e2) xs e1 with
      | .ok ys e2 => if fits ys.length then .ok (.lst .own ys) (back own e1 e2) else .st
      | _ => .st)
  | .dc key val tg kd es cond own, env => (evs C es env).bind fun ds e1 => match items kd (fzs ds) with
    | none => .st
    | some xs => (match lcLoop own tg (ev C cond) (fun e => (ev C key e).bind fun k e => (ev C val e).bind fun v e => if keyable k then .ok [.tup [k, v]] e else .st) xs e1 with
      | .ok ys e2 => (match pairsOf ys with
        | some es => .ok (.dct .own (putAll es [])) (back own e1 e2)
        | none => .st)
      | _ => .st)
termination_by structural x => x
def evs (C : Ctx) : List E → Env → O (List D)
  | [], env => .ok [] env
  | e :: r, env => (ev C e env).bind fun d env => (evs C r env).bind fun ds env => .ok (d :: ds) env
termination_by structural x => x
end

mutual
def tgFree (p : Nat → Bool) : Tg → Bool
  | .v i => !p i
  | .tup ts => tgsFree p ts
termination_by structural x => x
def tgsFree (p : Nat → Bool) : List Tg → Bool
  | [] => true
  | t :: r => tgFree p t && tgsFree p r
termination_by structural x => x
end
/-! ### statements -/
inductive Fl where
  | next | brk | cont | ret (d : D)
/-! stores of an assignment -/
mutual
def store (C : Ctx) : Tt → D → Env → O Unit
  | .v i, d, env => if decide (i < env.length) && !C.pin i then .ok () (env.set i (some d)) else .st
  | .sub i path key, d, env => if path.isEmpty then if (get env i).isNone then .st else
      (ev C key env).bind fun k env => match get env i with
        | some o => (match setAt o k d with
          | some o' => .ok () (env.set i (some o'))
          | none => .st)
        | none => .st
    else match get env i with
      | none => .st
      | some o => (evs C path (env.set i none)).bind fun ps e1 => (ev C key e1).bind fun k e2 => match deep (fun x => (setAt x k d).map fun y => (y, .non)) ps o with
        | some (o', _) => .ok () (e2.set i (some o'))
        | none => .st
  | .tup ts, .tup ds, env => if ts.length = ds.length then stores C ts ds env else .st
  | .tup ts, .lst _ ds, env => if ts.length = ds.length then stores C ts ds env else .st
  | .tup _, _, _ => .st
termination_by structural x => x
def stores (C : Ctx) : List Tt → List D → Env → O Unit
  | [], [], env => .ok () env
  | t :: ts, d :: ds, env => (store C t d env).bind fun _ env => stores C ts ds env
  | _, _, _ => .st
termination_by structural x => x
end
def setMany : List Nat → List D → Env → Env
  | i :: is, d :: ds, env => setMany is ds (env.set i (some d))
  | _, _, env => env
def whLoop (cond : Env → O D) (body : Env → O Fl) : Nat → Env → O Fl
  | 0, _ => .st
  | n + 1, env => (cond env).bind fun d env => match d with
    | .bl false => .ok .next env
    | .bl true => (body env).bind fun f env => (match f with
      | .next => whLoop cond body n env
      | .cont => whLoop cond body n env
      | .brk => .ok .next env
      | .ret d => .ok (.ret d) env)
    | _ => .st
def forLoop (tg : Tg) (body : Env → O Fl) : List D → Env → O Fl
  | [], env => .ok .next env
  | d :: ds, env => match bind tg d env with
    | none => .st
    | some env => (body env).bind fun f env => (match f with
      | .next => forLoop tg body ds env
      | .cont => forLoop tg body ds env
      | .brk => .ok .next env
      | .ret d => .ok (.ret d) env)

/-! one thing held twice -/
def kp : D → Bool
  | .non => true | .bl _ => true | .int _ => true | .str _ => true | _ => false
def kpO : Option D → Option D
  | some d => if kp d then some d else none
  | none => none
def keepS (env : Env) : Env := env.map kpO
def nones (env : Env) : Env := env.map fun _ => none
/-- behind the store: what was thrown is the very list of slot i -/
def alsB (i dst : Nat) (env e1 : Env) : Option (Nat × List D) := match get e1 i, get e1 dst with
  | some (.lst (.sh t) xs), some (.exn k (.lst (.sh u) _)) => if t == 1 && (u == 1 && (allStr xs && decide (e1.length = env.length))) then some (k, xs) else none
  | _, _ => none
def alsM (i : Nat) (env e2 : Env) : Option (List D) := match get e2 i with
  | some (.lst .own xs) => if allStr xs && decide (e2.length = env.length) then some xs else none
  | _ => none
def alsA (C : Ctx) (i n dst : Nat) (env : Env) : Option (List D) := match get env i with
  | some (.lst .own xs) => if allStr xs && (!C.pin n && (!C.pin dst && (decide (i ≠ n) && decide (i ≠ dst)))) then some xs else none
  | _ => none
def pinN (C : Ctx) (n dst : Nat) : Ctx := ⟨C.par, C.const, C.call, C.L, fun j => decide (j ≠ n) && decide (j ≠ dst)⟩
def pinA (C : Ctx) : Ctx := ⟨C.par, C.const, C.call, C.L, fun _ => true⟩
mutual
def ex (C : Ctx) : S → Env → O Fl
  | .asg t e, env => (ev C e env).bind fun d env => (store C t d env).bind fun _ env => .ok .next env
  | .par is es, env => (evs C es env).bind fun ds env => if decide (ds.length = is.length) && is.all (fun i => decide (i < env.length) && !C.pin i) then .ok .next (setMany is ds env) else .st
  | .aug p i e, env => match get env i with
    | some x => if isScal x && !C.pin i then (ev C e env).bind fun y env => (O.lift (prim C.par p [x, y]) env).bind fun z env => .ok .next (env.set i (some z)) else .st
    | none => .st
  | .ex e, env => (ev C e env).bind fun _ env => .ok .next env
  | .ret e, env => (ev C e env).bind fun d env => .ok (.ret d) env
  | .ite c a b, env => (ev C c env).bind fun d env => match d with
    | .bl true => exs C a env
    | .bl false => exs C b env
    | _ => .st
  | .wh c b, env => whLoop (ev C c) (exs C b) C.L env
  | .for_ tg kd es b, env => if tgFree C.pin tg then (evs C es env).bind fun ds env => match items kd (fzs ds) with
    | none => .st
    | some xs => forLoop tg (exs C b) xs env
    else .st
  | .brk, env => .ok .brk env
  | .cont, env => .ok .cont env
  | .pass, env => .ok .next env
  | .stk, _ => .st
  | .raise c e, env => (ev C e env).bind fun d env => .exc c (fz d) env
  | .try_ b c n dst, env => match exs C b env with
    | .exc k v env' => if okc C.par k && isTy.anc C.par 8 k c && !C.pin n && !C.pin dst && decide (n ≠ dst) && decide (n < env'.length) && decide (dst < env'.length) then .ok .next ((env'.set n none).set dst (some (.exn k v))) else .st
    | r => r
  | .frz i, env => .ok .next (fzAt [i] env)
  | .als i n dst b m q, env => match alsA C i n dst env with
    | none => .st
    | some xs => match ex (pinN C n dst) b ((keepS env).set i (some (.lst (.sh 1) xs))) with
      | .ok .next e1 => (match alsB i dst env e1 with
        | none => .st
        | some (k, ys) => match ex (pinA C) m ((nones env).set i (some (.lst .own ys))) with
          | .ok .next e2 => (match alsM i env e2 with
            | none => .st
            | some zs => match ex (pinA C) q (((nones env).set i (some (.lst (.sh 1) zs))).set dst (some (.exn k (.lst (.sh 1) zs)))) with
              | .ok .next e3 => if decide (e3.length = env.length) then .ok .next (((env.set i none).set n none).set dst none) else .st
              | _ => .st)
          | _ => .st)
      | _ => .st
termination_by structural x => x
def exs (C : Ctx) : List S → Env → O Fl
  | [], env => .ok .next env
  | s :: r, env => (ex C s env).bind fun f env => match f with
    | .next => exs C r env
    | f => .ok f env
termination_by structural x => x
end

/-! ### programs -/
structure Fn where
  /-- parameters, slots in all -/
  np : Nat
  ns : Nat
  /-- the parameters that are handed back -/
  io : List Bool
  body : List S
structure Prog where
  par : Nat → Option Nat
  const : Nat → Option D
  fns : Nat → Option Fn

def outsOf : List Bool → Env → Option (List (Option D))
  | [], _ => some []
  | true :: r, some d :: env => (outsOf r env).map (some d :: ·)
  | false :: r, _ :: env => (outsOf r env).map (none :: ·)
  | _, _ => none
def start (ns : Nat) (ds : List D) : Env := ds.map some ++ List.replicate (ns - ds.length) none
/-- the arguments that are not handed back are nobody's own -/
def argsOk : List Bool → List D → Bool
  | [], [] => true
  | b :: r, d :: s => (b || pu d) && argsOk r s
  | _, _ => false
def callF (G : Prog) (L : Nat) : Nat → Nat → List D → FR
  | 0, _, _ => .st
  | k + 1, f, ds => match G.fns f with
    | none => .st
    | some F => if F.io.length = F.np && argsOk F.io ds then
        match exs ⟨G.par, G.const, callF G L k, L, fun i => F.io.getD i false⟩ F.body (start F.ns ds) with
        | .ok (.ret d) env => (match outsOf F.io env with | some outs => .ok d outs | none => .st)
        | .ok .next env => (match outsOf F.io env with | some outs => .ok .non outs | none => .st)
        | .exc c v _ => if F.io.any id then .st else .exc c v
        | _ => .st
      else .st
end PL
set_option Elab.async false
set_option linter.all false
set_option maxRecDepth 100000
/-! PL, part 3: what a datum is in the heap; owners counted. -/
namespace PL
open PySem PySem.Spec L2
open PyProof.Rows hiding St

/-! ### counts -/
abbrev Cn := Addr → Nat
def z0 : Cn := fun _ => 0
def one (a : Addr) : Cn := fun b => if b = a then 1 else 0
def pl (c d : Cn) : Cn := fun a => c a + d a
theorem pl_z (c : Cn) : pl c z0 = c := rfl
theorem z_pl (c : Cn) : pl z0 c = c := by funext a; show 0 + c a = c a; omega
theorem pl_comm (c d : Cn) : pl c d = pl d c := by funext a; show c a + d a = d a + c a; omega
theorem pl_assoc (c d e : Cn) : pl (pl c d) e = pl c (pl d e) := by funext a; show c a + d a + e a = c a + (d a + e a); omega
theorem pl_left (c d e : Cn) : pl c (pl d e) = pl d (pl c e) := by funext a; show c a + (d a + e a) = d a + (c a + e a); omega
theorem pl_at (c d : Cn) (a : Addr) : pl c d a = c a + d a := rfl
theorem one_at (a b : Addr) : one a b = if b = a then 1 else 0 := rfl
theorem pl_eq_z {c d : Cn} (h : pl c d = z0) : c = z0 ∧ d = z0 := by
  have q : ∀ a, c a + d a = 0 := fun a => congrFun h a
  constructor
  · funext a
    have := q a
    show c a = 0
    omega
  · funext a
    have := q a
    show d a = 0
    omega
theorem one_ne {a : Addr} (h : one a = z0) : False := by
  have q : (if a = a then 1 else 0) = 0 := congrFun h a
  rw [if_pos rfl] at q
  exact absurd q (by decide)
def occ (S : Hp) : Cn := fun a => match S a with | some _ => 1 | none => 0
theorem occ_none {S : Hp} {a : Addr} (h : S a = none) : occ S a = 0 := by unfold occ; rw [h]
theorem occ_some {S : Hp} {a : Addr} {o : HO} (h : S a = some o) : occ S a = 1 := by unfold occ; rw [h]
theorem of_occ {S : Hp} {a : Addr} (h : occ S a = 0) : S a = none := by
  cases e : S a with
  | none => rfl
  | some o => rw [occ_some e] at h; exact absurd h (by decide)

/-! ### names for what the text has -/
structure Rc where
  K : PySem.W.Frag
  P : Program
  w : World
  /-- objects with a tag -/
  τ : Nat → Addr
  /-- the defs, the error classes -/
  fa : Nat → Addr
  cl : Nat → Addr

def mkS (s : List Nat) : Str := ⟨s.toArray⟩
/-! a key as the library's key -/
mutual
def nk : D → NestedKey
  | .non => .none
  | .bl b => .num (b2i b)
  | .int i => .num i
  | .str s => .text (mkS s)
  | .tup xs => .tup (nks xs)
  | .lst _ _ => .none | .dct _ _ => .none | .fn _ => .none | .exn _ _ => .none
termination_by structural x => x
def nks : List D → List NestedKey
  | [] => []
  | d :: r => nk d :: nks r
termination_by structural x => x
end
/-- a dict's object: its keys (as data and as values) and values -/
def dO (R : Rc) (a : Addr) (es : List (D × V × V)) : HO := .ext fun h => (a == sysModules) = false ∧ es.length ≤ sizeLine ∧ ∃ o ents ep, h.get? a = some o ∧ o.ExactDict ∧ o.data = .dict ents ep ∧
  Paired (fun (q : D × V × V) (e : DictEntry) => RelV q.2.1 e.key ∧ RelV q.2.2 e.val ∧ e.hash = (nk q.1).hash R.w) es ents.toList
/-- an exception's object -/
def xO (C dd : Addr) (a : Addr) : HO := .ext fun h => ∃ oe vs, h.get? a = some oe ∧ oe.cls = .ref C ∧ oe.dict = some dd ∧ oe.data = .fields vs

/-- a value's field name -/
def fldV : Str := PySem.Str.ofString "value"
mutual
/-- v is the datum d; c counts the addresses of its own lists and dicts -/
def Rep (R : Rc) (S H : Hp) : D → V → Cn → Prop
  | .non, v, c => v = .non ∧ c = z0
  | .bl b, v, c => v = .bl b ∧ c = z0
  | .int i, v, c => v = .int i ∧ c = z0
  | .str s, v, c => v = .str (mkS s) ∧ c = z0
  | .lst .own xs, v, c => ∃ a vs c', v = .ref a ∧ H a = some (.lst vs) ∧ RepL R S H xs vs c' ∧ c = pl (one a) c'
  | .lst (.sh t) xs, v, c => ∃ a vs, v = .ref a ∧ (S a = some (.lst vs) ∨ (t = scr ∧ SqL R.K S a vs)) ∧ (t ≠ 0 → a = R.τ t) ∧ RepL R S H xs vs z0 ∧ c = z0
  | .tup xs, v, c => ∃ a vs, v = .ref a ∧ SqT R.K H a vs ∧ RepL R S H xs vs c
  | .dct .own es, v, c => ∃ a vs c', v = .ref a ∧ H a = some (dO R a ((es.map (·.1)).zip vs)) ∧ RepP R S H es vs c' ∧ c = pl (one a) c'
  | .dct (.sh t) es, v, c => ∃ a vs, v = .ref a ∧ S a = some (dO R a ((es.map (·.1)).zip vs)) ∧ (t ≠ 0 → a = R.τ t) ∧ RepP R S H es vs z0 ∧ c = z0
  | .fn f, v, c => v = .ref (R.fa f) ∧ c = z0
  | .exn k d, v, c => ∃ a dd x, v = .ref a ∧ S a = some (xO (R.cl k) dd a) ∧ S dd = some (.xd [(fldV, x)]) ∧ Rep R S H d x z0 ∧ c = z0
termination_by structural x => x
def RepL (R : Rc) (S H : Hp) : List D → List V → Cn → Prop
  | [], [], c => c = z0
  | d :: ds, v :: vs, c => ∃ c1 c2, Rep R S H d v c1 ∧ RepL R S H ds vs c2 ∧ c = pl c1 c2
  | [], _ :: _, _ => False
  | _ :: _, [], _ => False
termination_by structural x => x
def RepP (R : Rc) (S H : Hp) : List (D × D) → List (V × V) → Cn → Prop
  | [], [], c => c = z0
  | (k, d) :: ds, (x, v) :: vs, c => keyable k = true ∧ Rep R S H k x z0 ∧ ∃ c1 c2, Rep R S H d v c1 ∧ RepP R S H ds vs c2 ∧ c = pl c1 c2
  | [], _ :: _, _ => False
  | _ :: _, [], _ => False
termination_by structural x => x
end

/-- what owners may change -/
def Mu : HO → Prop
  | .lst _ => True
  | .ext _ => True
  | .dK _ => True
  | _ => False

section
variable {R : Rc} {S S' H H' : Hp}
/-! ### what is counted stands, and may be changed -/
mutual
theorem Rep.mu : ∀ (d : D) {v : V} {c : Cn}, Rep R S H d v c → ∀ a, c a ≠ 0 → ∃ o, H a = some o ∧ Mu o
  | .non, _, _, h, a, n => by obtain ⟨_, rfl⟩ := h; exact absurd rfl n
  | .bl _, _, _, h, a, n => by obtain ⟨_, rfl⟩ := h; exact absurd rfl n
  | .int _, _, _, h, a, n => by obtain ⟨_, rfl⟩ := h; exact absurd rfl n
  | .str _, _, _, h, a, n => by obtain ⟨_, rfl⟩ := h; exact absurd rfl n
  | .lst .own xs, _, _, h, a, n => by
    obtain ⟨b, vs, c', _, hb, hl, rfl⟩ := h
    by_cases e : a = b
    · subst e; exact ⟨_, hb, trivial⟩
    · refine RepL.mu xs hl a fun z => n ?_
      rw [pl_at, one_at, if_neg e, z]
  | .lst (.sh _) _, _, _, h, a, n => by obtain ⟨_, _, _, _, _, _, rfl⟩ := h; exact absurd rfl n
  | .tup xs, _, _, h, a, n => by
    obtain ⟨_, vs, _, _, hl⟩ := h
    exact RepL.mu xs hl a n
  | .dct .own es, _, _, h, a, n => by
    obtain ⟨b, vs, c', _, hb, hl, rfl⟩ := h
    by_cases e : a = b
    · subst e; exact ⟨_, hb, trivial⟩
    · refine RepP.mu es hl a fun z => n ?_
      rw [pl_at, one_at, if_neg e, z]
  | .dct (.sh _) _, _, _, h, a, n => by obtain ⟨_, _, _, _, _, _, rfl⟩ := h; exact absurd rfl n
  | .fn _, _, _, h, a, n => by obtain ⟨_, rfl⟩ := h; exact absurd rfl n
  | .exn _ _, _, _, h, a, n => by obtain ⟨_, _, _, _, _, _, _, rfl⟩ := h; exact absurd rfl n
termination_by structural x => x
theorem RepL.mu : ∀ (ds : List D) {vs : List V} {c : Cn}, RepL R S H ds vs c → ∀ a, c a ≠ 0 → ∃ o, H a = some o ∧ Mu o
  | [], [], _, h, a, n => by
    have h : _ = z0 := h
    subst h; exact absurd rfl n
  | d :: ds, v :: vs, _, h, a, n => by
    obtain ⟨c1, c2, h1, h2, rfl⟩ := h
    by_cases e : c1 a = 0
    · refine RepL.mu ds h2 a fun z => n ?_
      rw [pl_at, e, z]
    · exact Rep.mu d h1 a e
  | [], _ :: _, _, h, _, _ => h.elim
  | _ :: _, [], _, h, _, _ => h.elim
termination_by structural x => x
theorem RepP.mu : ∀ (ds : List (D × D)) {vs : List (V × V)} {c : Cn}, RepP R S H ds vs c → ∀ a, c a ≠ 0 → ∃ o, H a = some o ∧ Mu o
  | [], [], _, h, a, n => by
    have h : _ = z0 := h
    subst h; exact absurd rfl n
  | (k, d) :: ds, (x, v) :: vs, _, h, a, n => by
    obtain ⟨_, _, c1, c2, h1, h2, rfl⟩ := h
    by_cases e : c1 a = 0
    · refine RepP.mu ds h2 a fun z => n ?_
      rw [pl_at, e, z]
    · exact Rep.mu d h1 a e
  | [], _ :: _, _, h, _, _ => h.elim
  | _ :: _, [], _, h, _, _ => h.elim
termination_by structural x => x
end

/-! ### it stays -/
theorem SqL.mono {K : PySem.W.Frag} {a : Addr} {xs : List V} (hS : ∀ a o, S a = some o → S' a = some o) (h : SqL K S a xs) : SqL K S' a xs := by
  rcases h with (h | ⟨o, h⟩) | h
  · exact .inl (.inl (hS _ _ h))
  · exact .inl (.inr ⟨o, hS _ _ h⟩)
  · exact .inr h
theorem SqT.mono {K : PySem.W.Frag} {a : Addr} {xs : List V} (hT : ∀ a o, H a = some o → ¬ Mu o → H' a = some o) (h : SqT K H a xs) : SqT K H' a xs := by
  rcases h with (h | ⟨o, h⟩) | h
  · exact .inl (.inl (hT _ _ h fun z => z))
  · exact .inl (.inr ⟨o, hT _ _ h fun z => z⟩)
  · exact .inr h
mutual
theorem Rep.mono (hS : ∀ a o, S a = some o → S' a = some o) (hT : ∀ a o, H a = some o → ¬ Mu o → H' a = some o) :
    ∀ (d : D) {v : V} {c : Cn}, Rep R S H d v c → (∀ a o, H a = some o → c a ≠ 0 → H' a = some o) → Rep R S' H' d v c
  | .non, _, _, h, _ => h
  | .bl _, _, _, h, _ => h
  | .int _, _, _, h, _ => h
  | .str _, _, _, h, _ => h
  | .lst .own xs, _, _, h, hO => by
    obtain ⟨b, vs, c', e, hb, hl, rfl⟩ := h
    refine ⟨b, vs, c', e, hO b _ hb ?_, RepL.mono hS hT xs hl fun a o q n => hO a o q ?_, rfl⟩
    · rw [pl_at, one_at, if_pos rfl]; omega
    · rw [pl_at]; omega
  | .lst (.sh _) xs, _, _, h, hO => by
    obtain ⟨b, vs, e, hb, ht, hl, rfl⟩ := h
    exact ⟨b, vs, e, hb.imp (hS _ _) (fun q => ⟨q.1, SqL.mono hS q.2⟩), ht, RepL.mono hS hT xs hl hO, rfl⟩
  | .tup xs, _, _, h, hO => by
    obtain ⟨b, vs, e, hb, hl⟩ := h
    exact ⟨b, vs, e, SqT.mono hT hb, RepL.mono hS hT xs hl hO⟩
  | .dct .own es, _, _, h, hO => by
    obtain ⟨b, vs, c', e, hb, hl, rfl⟩ := h
    refine ⟨b, vs, c', e, hO b _ hb ?_, RepP.mono hS hT es hl fun a o q n => hO a o q ?_, rfl⟩
    · rw [pl_at, one_at, if_pos rfl]; omega
    · rw [pl_at]; omega
  | .dct (.sh _) es, _, _, h, hO => by
    obtain ⟨b, vs, e, hb, ht, hl, rfl⟩ := h
    exact ⟨b, vs, e, hS _ _ hb, ht, RepP.mono hS hT es hl hO, rfl⟩
  | .fn _, _, _, h, _ => h
  | .exn _ d, _, _, h, hO => by
    obtain ⟨a, dd, x, e, h1, h2, h3, rfl⟩ := h
    exact ⟨a, dd, x, e, hS _ _ h1, hS _ _ h2, Rep.mono hS hT d h3 hO, rfl⟩
termination_by structural x => x
theorem RepL.mono (hS : ∀ a o, S a = some o → S' a = some o) (hT : ∀ a o, H a = some o → ¬ Mu o → H' a = some o) :
    ∀ (ds : List D) {vs : List V} {c : Cn}, RepL R S H ds vs c → (∀ a o, H a = some o → c a ≠ 0 → H' a = some o) → RepL R S' H' ds vs c
  | [], [], _, h, _ => h
  | d :: ds, v :: vs, _, h, hO => by
    obtain ⟨c1, c2, h1, h2, rfl⟩ := h
    refine ⟨c1, c2, Rep.mono hS hT d h1 fun a o q n => hO a o q ?_, RepL.mono hS hT ds h2 fun a o q n => hO a o q ?_, rfl⟩ <;> (rw [pl_at]; omega)
  | [], _ :: _, _, h, _ => h.elim
  | _ :: _, [], _, h, _ => h.elim
termination_by structural x => x
theorem RepP.mono (hS : ∀ a o, S a = some o → S' a = some o) (hT : ∀ a o, H a = some o → ¬ Mu o → H' a = some o) :
    ∀ (ds : List (D × D)) {vs : List (V × V)} {c : Cn}, RepP R S H ds vs c → (∀ a o, H a = some o → c a ≠ 0 → H' a = some o) → RepP R S' H' ds vs c
  | [], [], _, h, _ => h
  | (k, d) :: ds, (x, v) :: vs, _, h, hO => by
    obtain ⟨hk, h0, c1, c2, h1, h2, rfl⟩ := h
    refine ⟨hk, Rep.mono hS hT k h0 fun a o q n => absurd rfl n, c1, c2, Rep.mono hS hT d h1 fun a o q n => hO a o q ?_, RepP.mono hS hT ds h2 fun a o q n => hO a o q ?_, rfl⟩ <;> (rw [pl_at]; omega)
  | [], _ :: _, _, h, _ => h.elim
  | _ :: _, [], _, h, _ => h.elim
termination_by structural x => x
end

/-! ### what owns nothing counts nothing -/
mutual
theorem Rep.pu : ∀ (d : D) {v : V} {c : Cn}, Rep R S H d v c → PL.pu d = true → c = z0
  | .non, _, _, h, _ => h.2
  | .bl _, _, _, h, _ => h.2
  | .int _, _, _, h, _ => h.2
  | .str _, _, _, h, _ => h.2
  | .lst .own xs, _, _, h, p => by cases p
  | .lst (.sh _) xs, _, _, h, _ => by obtain ⟨_, _, _, _, _, _, e⟩ := h; exact e
  | .tup xs, _, _, h, p => by
    obtain ⟨_, vs, _, _, hl⟩ := h
    exact RepL.pu xs hl p
  | .dct .own es, _, _, h, p => by cases p
  | .dct (.sh _) es, _, _, h, _ => by obtain ⟨_, _, _, _, _, _, e⟩ := h; exact e
  | .fn _, _, _, h, _ => h.2
  | .exn _ _, _, _, h, _ => by obtain ⟨_, _, _, _, _, _, _, e⟩ := h; exact e
termination_by structural x => x
theorem RepL.pu : ∀ (ds : List D) {vs : List V} {c : Cn}, RepL R S H ds vs c → PL.pus ds = true → c = z0
  | [], [], _, h, _ => h
  | d :: ds, v :: vs, _, h, p => by
    obtain ⟨c1, c2, h1, h2, rfl⟩ := h
    have p : (PL.pu d && PL.pus ds) = true := p
    rw [Bool.and_eq_true] at p
    rw [Rep.pu d h1 p.1, RepL.pu ds h2 p.2]; rfl
  | [], _ :: _, _, h, _ => h.elim
  | _ :: _, [], _, h, _ => h.elim
termination_by structural x => x
end
theorem RepP.pu : ∀ (ds : List (D × D)) {vs : List (V × V)} {c : Cn}, RepP R S H ds vs c → PL.pup ds = true → c = z0
  | [], [], _, h, _ => h
  | (k, d) :: ds, (x, v) :: vs, _, h, p => by
    obtain ⟨_, _, c1, c2, h1, h2, rfl⟩ := h
    have p : ((PL.pu k && PL.pu d) && PL.pup ds) = true := p
    rw [Bool.and_eq_true, Bool.and_eq_true] at p
    rw [Rep.pu d h1 p.1.2, RepP.pu ds h2 p.2]; rfl
  | [], _ :: _, _, h, _ => h.elim
  | _ :: _, [], _, h, _ => h.elim

/-! ### lists of data -/
theorem RepL.length : ∀ {ds : List D} {vs : List V} {c : Cn}, RepL R S H ds vs c → ds.length = vs.length
  | [], [], _, _ => rfl
  | d :: ds, v :: vs, _, h => by
    obtain ⟨_, _, _, h2, _⟩ := h
    rw [List.length_cons, List.length_cons, RepL.length h2]
  | [], _ :: _, _, h => h.elim
  | _ :: _, [], _, h => h.elim
theorem RepP.length : ∀ {ds : List (D × D)} {vs : List (V × V)} {c : Cn}, RepP R S H ds vs c → ds.length = vs.length
  | [], [], _, _ => rfl
  | (_, _) :: ds, (_, _) :: vs, _, h => by
    obtain ⟨_, _, _, _, _, h2, _⟩ := h
    rw [List.length_cons, List.length_cons, RepP.length h2]
  | [], _ :: _, _, h => h.elim
  | _ :: _, [], _, h => h.elim
theorem RepL.append : ∀ {ds es : List D} {vs ws : List V} {c d : Cn}, RepL R S H ds vs c → RepL R S H es ws d → RepL R S H (ds ++ es) (vs ++ ws) (pl c d)
  | [], _, [], _, _, _, h, g => by
    have h : _ = z0 := h
    subst h; rw [z_pl]; exact g
  | d :: ds, es, v :: vs, ws, _, _, h, g => by
    obtain ⟨c1, c2, h1, h2, rfl⟩ := h
    exact ⟨c1, pl c2 _, h1, RepL.append h2 g, by rw [pl_assoc]⟩
  | [], _, _ :: _, _, _, _, h, _ => h.elim
  | _ :: _, _, [], _, _, _, h, _ => h.elim
/-- one out of a list -/
theorem RepL.take1 : ∀ {ds : List D} {vs : List V} {c : Cn} {i : Nat} {d : D}, RepL R S H ds vs c → ds[i]? = some d → ∃ v c1 c2, vs[i]? = some v ∧ Rep R S H d v c1 ∧ c = pl c1 c2 ∧
    (∀ (d' : D) (v' : V) (c' : Cn), Rep R S H d' v' c' → RepL R S H (ds.set i d') (vs.set i v') (pl c' c2)) ∧ RepL R S H (ds.eraseIdx i) (vs.eraseIdx i) c2
  | d :: ds, v :: vs, _, 0, x, h, e => by
    obtain ⟨c1, c2, h1, h2, rfl⟩ := h
    obtain rfl : d = x := Option.some.inj (by simpa using e)
    exact ⟨v, c1, c2, rfl, h1, rfl, fun d' v' c' h' => ⟨c', c2, h', h2, rfl⟩, h2⟩
  | d :: ds, v :: vs, _, i + 1, x, h, e => by
    obtain ⟨c1, c2, h1, h2, rfl⟩ := h
    obtain ⟨v', k1, k2, e', r, q, st, er⟩ := RepL.take1 (i := i) h2 (by simpa using e)
    subst q
    exact ⟨v', k1, pl c1 k2, by simpa using e', r, pl_left _ _ _, fun d' w c' h' => ⟨c1, pl c' k2, h1, st d' w c' h', pl_left _ _ _⟩, ⟨c1, k2, h1, er, rfl⟩⟩
  | [], [], _, _, _, _, e => by simp at e
  | [], _ :: _, _, _, _, h, _ => h.elim
  | _ :: _, [], _, _, _, h, _ => h.elim
theorem RepL.get {ds : List D} {vs : List V} {i : Nat} {d : D} (h : RepL R S H ds vs z0) (e : ds[i]? = some d) : ∃ v, vs[i]? = some v ∧ Rep R S H d v z0 := by
  obtain ⟨v, c1, c2, e', r, q, _⟩ := h.take1 e
  obtain ⟨rfl, _⟩ := pl_eq_z q.symm
  exact ⟨v, e', r⟩
theorem RepL.drop : ∀ {ds : List D} {vs : List V} {c : Cn} (n : Nat), RepL R S H ds vs c → ∃ c1 c2, RepL R S H (ds.take n) (vs.take n) c1 ∧ RepL R S H (ds.drop n) (vs.drop n) c2 ∧ c = pl c1 c2
  | ds, vs, c, 0, h => ⟨z0, c, rfl, h, (z_pl c).symm⟩
  | [], [], c, n + 1, h => by
    have h : c = z0 := h
    subst h
    exact ⟨z0, z0, rfl, rfl, rfl⟩
  | d :: ds, v :: vs, _, n + 1, h => by
    obtain ⟨c1, c2, h1, h2, rfl⟩ := h
    obtain ⟨k1, k2, r1, r2, rfl⟩ := RepL.drop n h2
    exact ⟨pl c1 k1, k2, ⟨c1, k1, h1, r1, rfl⟩, r2, (pl_assoc _ _ _).symm⟩
  | [], _ :: _, _, _ + 1, h => h.elim
  | _ :: _, [], _, _ + 1, h => h.elim
theorem RepL.reverse : ∀ {ds : List D} {vs : List V} {c : Cn}, RepL R S H ds vs c → RepL R S H ds.reverse vs.reverse c
  | [], [], _, h => h
  | d :: ds, v :: vs, _, h => by
    obtain ⟨c1, c2, h1, h2, rfl⟩ := h
    rw [List.reverse_cons, List.reverse_cons, pl_comm]
    exact (RepL.reverse h2).append ⟨c1, z0, h1, rfl, rfl⟩
  | [], _ :: _, _, h => h.elim
  | _ :: _, [], _, h => h.elim

/-! ### frames -/
def RepE (R : Rc) (S H : Hp) : Env → St → Cn → Prop
  | [], [], c => c = z0
  | none :: e, _ :: σ, c => RepE R S H e σ c
  | some d :: e, some v :: σ, c => ∃ c1 c2, Rep R S H d v c1 ∧ RepE R S H e σ c2 ∧ c = pl c1 c2
  | _, _, _ => False
theorem RepE.length : ∀ {e : Env} {σ : St} {c : Cn}, RepE R S H e σ c → e.length = σ.length
  | [], [], _, _ => rfl
  | none :: e, _ :: σ, _, h => by
    have h : RepE R S H e σ _ := h
    rw [List.length_cons, List.length_cons, RepE.length h]
  | some d :: e, some v :: σ, _, h => by
    obtain ⟨_, _, _, h2, _⟩ := h
    rw [List.length_cons, List.length_cons, RepE.length h2]
  | [], _ :: _, _, h => h.elim
  | some _ :: _, [], _, h => h.elim
  | none :: _, [], _, h => h.elim
  | some _ :: _, none :: _, _, h => h.elim
theorem RepE.mu : ∀ {e : Env} {σ : St} {c : Cn}, RepE R S H e σ c → ∀ a, c a ≠ 0 → ∃ o, H a = some o ∧ Mu o
  | [], [], _, h, a, n => by
    have h : _ = z0 := h
    subst h; exact absurd rfl n
  | none :: e, _ :: σ, _, h, a, n => RepE.mu (e := e) (σ := σ) h a n
  | some d :: e, some v :: σ, _, h, a, n => by
    obtain ⟨c1, c2, h1, h2, rfl⟩ := h
    by_cases q : c1 a = 0
    · refine RepE.mu h2 a fun z => n ?_
      rw [pl_at, q, z]
    · exact Rep.mu d h1 a q
  | [], _ :: _, _, h, _, _ => h.elim
  | some _ :: _, [], _, h, _, _ => h.elim
  | none :: _, [], _, h, _, _ => h.elim
  | some _ :: _, none :: _, _, h, _, _ => h.elim
theorem RepE.mono (hS : ∀ a o, S a = some o → S' a = some o) (hT : ∀ a o, H a = some o → ¬ Mu o → H' a = some o) :
    ∀ {e : Env} {σ : St} {c : Cn}, RepE R S H e σ c → (∀ a o, H a = some o → c a ≠ 0 → H' a = some o) → RepE R S' H' e σ c
  | [], [], _, h, _ => h
  | none :: e, _ :: σ, _, h, hO => show RepE R S' H' e σ _ from RepE.mono (e := e) (σ := σ) hS hT h hO
  | some d :: e, some v :: σ, _, h, hO => by
    obtain ⟨c1, c2, h1, h2, rfl⟩ := h
    refine ⟨c1, c2, Rep.mono hS hT d h1 fun a o q n => hO a o q ?_, RepE.mono hS hT h2 fun a o q n => hO a o q ?_, rfl⟩ <;> (rw [pl_at]; omega)
  | [], _ :: _, _, h, _ => h.elim
  | some _ :: _, [], _, h, _ => h.elim
  | none :: _, [], _, h, _ => h.elim
  | some _ :: _, none :: _, _, h, _ => h.elim
/-- one slot -/
theorem RepE.at_ : ∀ {e : Env} {σ : St} {c : Cn} {i : Nat} {d : D}, RepE R S H e σ c → get e i = some d → ∃ v c1 c2, σ[i]? = some (some v) ∧ Rep R S H d v c1 ∧ c = pl c1 c2 ∧
    (∀ (d' : D) (v' : V) (c' : Cn), Rep R S H d' v' c' → RepE R S H (e.set i (some d')) (σ.set i (some v')) (pl c' c2)) ∧ RepE R S H (e.set i none) σ c2
  | some d :: e, some v :: σ, _, 0, x, h, q => by
    obtain ⟨c1, c2, h1, h2, rfl⟩ := h
    obtain rfl : d = x := Option.some.inj (by simpa [get] using q)
    exact ⟨v, c1, c2, rfl, h1, rfl, fun d' v' c' h' => ⟨c', c2, h', h2, rfl⟩, h2⟩
  | some d :: e, some v :: σ, _, i + 1, x, h, q => by
    obtain ⟨c1, c2, h1, h2, rfl⟩ := h
    obtain ⟨v', k1, k2, e', r, q', st, er⟩ := RepE.at_ (i := i) h2 (by simpa [get] using q)
    subst q'
    exact ⟨v', k1, pl c1 k2, by simpa using e', r, pl_left _ _ _, fun d' w c' h' => ⟨c1, pl c' k2, h1, st d' w c' h', pl_left _ _ _⟩, ⟨c1, k2, h1, er, rfl⟩⟩
  | none :: e, _ :: σ, _, 0, x, h, q => by simp [get] at q
  | none :: e, _ :: σ, _, i + 1, x, h, q => by
    obtain ⟨v', k1, k2, e', r, q', st, er⟩ := RepE.at_ (i := i) (show RepE R S H e σ _ from h) (by simpa [get] using q)
    exact ⟨v', k1, k2, by simpa using e', r, q', fun d' w c' h' => st d' w c' h', er⟩
  | [], [], _, _, _, _, q => by simp [get] at q
  | [], _ :: _, _, _, _, h, _ => h.elim
  | some _ :: _, [], _, _, _, h, _ => h.elim
  | none :: _, [], _, _, _, h, _ => h.elim
  | some _ :: _, none :: _, _, _, _, h, _ => h.elim
/-- a slot is stored: what it held goes -/
theorem RepE.put : ∀ {e : Env} {σ : St} {c : Cn} {i : Nat} {d : D} {v : V} {c' : Cn}, RepE R S H e σ c → Rep R S H d v c' → i < e.length →
    ∃ c2, RepE R S H (e.set i (some d)) (σ.set i (some v)) (pl c' c2) ∧ ∀ a, c2 a ≤ c a
  | x :: e, y :: σ, c, 0, d, v, c', h, r, _ => by
    cases x with
    | none => exact ⟨c, ⟨c', c, r, h, rfl⟩, fun a => Nat.le_refl _⟩
    | some x =>
      cases y with
      | none => exact h.elim
      | some y =>
        obtain ⟨c1, c2, h1, h2, rfl⟩ := h
        exact ⟨c2, ⟨c', c2, r, h2, rfl⟩, fun a => by rw [pl_at]; omega⟩
  | x :: e, y :: σ, c, i + 1, d, v, c', h, r, hl => by
    have hl' : i < e.length := by simpa using hl
    cases x with
    | none =>
      obtain ⟨c2, q, le⟩ := RepE.put (i := i) (show RepE R S H e σ _ from h) r hl'
      exact ⟨c2, q, le⟩
    | some x =>
      cases y with
      | none => exact h.elim
      | some y =>
        obtain ⟨c1, k, h1, h2, rfl⟩ := h
        obtain ⟨c2, q, le⟩ := RepE.put (i := i) h2 r hl'
        refine ⟨pl c1 c2, ⟨c1, pl c' c2, h1, q, pl_left _ _ _⟩, fun a => ?_⟩
        have := le a
        rw [pl_at, pl_at]; omega
  | [], _, _, i, _, _, _, _, _, hl => by simp at hl
  | some _ :: _, [], _, _, _, _, _, h, _, _ => h.elim
  | none :: _, [], _, _, _, _, _, h, _, _ => h.elim
/-- a slot is forgotten -/
theorem RepE.drop : ∀ {e : Env} {σ : St} {c : Cn} (i : Nat), RepE R S H e σ c → ∃ c2, RepE R S H (e.set i none) σ c2 ∧ ∀ a, c2 a ≤ c a
  | x :: e, y :: σ, c, 0, h => by
    cases x with
    | none => exact ⟨c, h, fun a => Nat.le_refl _⟩
    | some x =>
      cases y with
      | none => exact h.elim
      | some y =>
        obtain ⟨c1, c2, h1, h2, rfl⟩ := h
        exact ⟨c2, h2, fun a => by rw [pl_at]; omega⟩
  | x :: e, y :: σ, c, i + 1, h => by
    cases x with
    | none =>
      obtain ⟨c2, q, le⟩ := RepE.drop i (show RepE R S H e σ _ from h)
      exact ⟨c2, q, le⟩
    | some x =>
      cases y with
      | none => exact h.elim
      | some y =>
        obtain ⟨c1, k, h1, h2, rfl⟩ := h
        obtain ⟨c2, q, le⟩ := RepE.drop i h2
        refine ⟨pl c1 c2, ⟨c1, c2, h1, q, rfl⟩, fun a => ?_⟩
        have := le a
        rw [pl_at, pl_at]; omega
  | [], [], c, _, h => ⟨c, h, fun a => Nat.le_refl _⟩
  | [], _ :: _, _, _, h => h.elim
  | some _ :: _, [], _, _, h => h.elim
  | none :: _, [], _, _, h => h.elim
end

/-- a state: S what is held in common, c the frame's own, f what others own -/
structure Good (R : Rc) (S H : Hp) (σ : St) (env : Env) (c f : Cn) : Prop where
  env : RepE R S H env σ c
  sub : ∀ a o, S a = some o → H a = some o
  dis : ∀ a, occ S a + c a + f a ≤ 1
  fr : ∀ a, f a ≠ 0 → ∃ o, H a = some o ∧ Mu o
/-- from one state to a later one: what is held in common, what f counts and what nobody may change stays -/
structure Ext (S H : Hp) (f : Cn) (S' H' : Hp) : Prop where
  sub : ∀ a o, S a = some o → S' a = some o
  keep : ∀ a o, H a = some o → f a ≠ 0 → H' a = some o
  imm : ∀ a o, H a = some o → ¬ Mu o → H' a = some o
section
variable {R : Rc} {S S1 S2 H H1 H2 : Hp} {σ : St} {env e1 e2 : Env} {c k1 k2 f g : Cn}
theorem Ext.refl : Ext S H f S H := ⟨fun _ _ h => h, fun _ _ h _ => h, fun _ _ h _ => h⟩
theorem Ext.trans (E : Ext S H f S1 H1) (E2 : Ext S1 H1 (pl g f) S2 H2) : Ext S H f S2 H2 :=
  ⟨fun a o h => E2.sub a o (E.sub a o h), fun a o h n => E2.keep a o (E.keep a o h n) (by rw [pl_at]; omega), fun a o h n => E2.imm a o (E.imm a o h n) n⟩
theorem Ext.trans0 (E : Ext S H f S1 H1) (E2 : Ext S1 H1 f S2 H2) : Ext S H f S2 H2 := E.trans (g := z0) (by rw [z_pl]; exact E2)
/-- all that stood stands -/
theorem Ext.more (h : ∀ a o, H a = some o → H1 a = some o) (hs : ∀ a o, S a = some o → S1 a = some o) : Ext S H f S1 H1 := ⟨hs, fun a o e _ => h a o e, fun a o e _ => h a o e⟩
theorem Good.noS (G : Good R S H σ env c f) {a : Addr} (h : H a = none) : S a = none := by
  cases e : S a with
  | none => rfl
  | some o => rw [G.sub a o e] at h; cases h
theorem Good.noC (G : Good R S H σ env c f) {a : Addr} (h : H a = none) : c a = 0 := by
  by_cases e : c a = 0
  · exact e
  · obtain ⟨o, q, _⟩ := G.env.mu a e
    rw [h] at q; cases q
theorem Good.noF (G : Good R S H σ env c f) {a : Addr} (h : H a = none) : f a = 0 := by
  by_cases e : f a = 0
  · exact e
  · obtain ⟨o, q, _⟩ := G.fr a e
    rw [h] at q; cases q
/-- a thing that f counts stays -/
theorem Rep.frame {d : D} {v : V} {q : Cn} (h : Rep R S H d v q) (E : Ext S H f S1 H1) (hq : ∀ a, q a ≠ 0 → f a ≠ 0) : Rep R S1 H1 d v q :=
  h.mono E.sub E.imm d fun a o e n => E.keep a o e (hq a n)
theorem RepL.frame {ds : List D} {vs : List V} {q : Cn} (h : RepL R S H ds vs q) (E : Ext S H f S1 H1) (hq : ∀ a, q a ≠ 0 → f a ≠ 0) : RepL R S1 H1 ds vs q :=
  h.mono E.sub E.imm ds fun a o e n => E.keep a o e (hq a n)
theorem RepE.frame {env : Env} {q : Cn} (h : RepE R S H env σ q) (E : Ext S H f S1 H1) (hq : ∀ a, q a ≠ 0 → f a ≠ 0) : RepE R S1 H1 env σ q :=
  h.mono E.sub E.imm fun a o e n => E.keep a o e (hq a n)
theorem Rep.frame0 {d : D} {v : V} (h : Rep R S H d v z0) (E : Ext S H f S1 H1) : Rep R S1 H1 d v z0 := h.frame E fun _ n => absurd rfl n
theorem RepL.frame0 {ds : List D} {vs : List V} (h : RepL R S H ds vs z0) (E : Ext S H f S1 H1) : RepL R S1 H1 ds vs z0 := h.frame E fun _ n => absurd rfl n
theorem left_ne {p q : Cn} {a : Addr} (h : p a ≠ 0) : pl p q a ≠ 0 := by rw [pl_at]; omega
theorem right_ne {p q : Cn} {a : Addr} (h : q a ≠ 0) : pl p q a ≠ 0 := by rw [pl_at]; omega
/-- a state with less owned -/
theorem Good.less (G : Good R S H σ env c f) (he : RepE R S H e1 σ k1) (h : ∀ a, k1 a ≤ c a) : Good R S H σ e1 k1 f :=
  ⟨he, G.sub, fun a => by have := G.dis a; have := h a; omega, G.fr⟩
/-- part of what is owned goes to the frame -/
theorem Good.split (G : Good R S H σ env c f) (he : RepE R S H e1 σ k1) (h : ∀ a, k1 a + g a ≤ c a) (hg : ∀ a, g a ≠ 0 → ∃ o, H a = some o ∧ Mu o) : Good R S H σ e1 k1 (pl g f) :=
  ⟨he, G.sub, fun a => by have := G.dis a; have := h a; rw [pl_at]; omega, fun a n => by
    by_cases q : g a = 0
    · exact G.fr a (by rw [pl_at] at n; omega)
    · exact hg a q⟩
/-- a frame that is not wanted any more -/
theorem Good.lessF (G : Good R S H σ env c f) (h : ∀ a, g a ≤ f a) : Good R S H σ env c g :=
  ⟨G.env, G.sub, fun a => by have := G.dis a; have := h a; omega, fun a n => G.fr a (by have := h a; omega)⟩
theorem Ext.lessF (E : Ext S H f S1 H1) (h : ∀ a, g a ≠ 0 → f a ≠ 0) : Ext S H g S1 H1 := ⟨E.sub, fun a o e n => E.keep a o e (h a n), E.imm⟩
end
end PL
set_option Elab.async false
set_option linter.all false
set_option maxRecDepth 100000
/-! PL, part 4: what the interpreter says is what the text does: expressions. -/
namespace PL
open PySem PySem.Spec L2
open PyProof.Rows hiding St

structure Tags where
  τ : Nat → Addr
  fa : Nat → Addr
  cl : Nat → Addr
abbrev rc (X : Cx) (T : Tags) : Rc := ⟨X.K, X.prog, X.w, T.τ, T.fa, T.cl⟩

/-- an error, made: its own dict dd -/
def Thrown (R : Rc) (S H : Hp) (dv : D) (dd : Addr) : Prop := ∃ x, H dd = some (.xd [(fldV, x)]) ∧ Rep R S H dv x z0

def AfterV (R : Rc) (W : WX) (Q : VK) (S H : Hp) (σ : St) (f : Cn) : O D → Prop
  | .ok d env' => ∀ S' H' c' v cr, Ext S H f S' H' → Good R S' H' σ env' c' (pl cr f) → Rep R S' H' d v cr → Q v H'
  | .exc k dv env' => ∀ S' H' c' dd, Ext S H f S' H' → Good R S' H' σ env' c' f → Thrown R S' H' dv dd → W (.ref (R.cl k)) (some dd) σ H'
  | .st => False
def AfterL (R : Rc) (W : WX) (Q : List V → Hp → Prop) (S H : Hp) (σ : St) (f : Cn) : O (List D) → Prop
  | .ok ds env' => ∀ S' H' c' vs cr, Ext S H f S' H' → Good R S' H' σ env' c' (pl cr f) → RepL R S' H' ds vs cr → Q vs H'
  | .exc k dv env' => ∀ S' H' c' dd, Ext S H f S' H' → Good R S' H' σ env' c' f → Thrown R S' H' dv dd → W (.ref (R.cl k)) (some dd) σ H'
  | .st => False
/-- what an expression's run gives -/
def tV (R : Rc) (C : Ctx) (W : WX) (e : E) : TE := fun σ H Q => ∃ S env c f, Good R S H σ env c f ∧ AfterV R W Q S H σ f (ev C e env)
def tVs (R : Rc) (C : Ctx) (W : WX) (es : List E) : TA := fun σ H Q => ∃ S env c f, Good R S H σ env c f ∧ AfterL R W Q S H σ f (evs C es env)
/-- as a test -/
def tT (R : Rc) (C : Ctx) (W : WX) (e : E) : TT := fun σ H Q => tV R C W e σ H fun v H' => ∃ b, v = .bl b ∧ Q b H'

theorem pe_imp {X : Cx} {e : Expr} {t t' : TE} (h : PE X e t) (i : ∀ σ H Q, t' σ H Q → t σ H Q) : PE X e t' := ⟨fun pins s σ H Q I q => h.run pins s σ H Q I (i σ H Q q)⟩
theorem pa_imp {X : Cx} {es : List Expr} {t t' : TA} (h : PA X es t) (i : ∀ σ H Q, t' σ H Q → t σ H Q) : PA X es t' := ⟨fun pos pins s σ H Q I q => h.run pos pins s σ H Q I (i σ H Q q)⟩
theorem pt_imp {X : Cx} {e : Expr} {t t' : TT} (h : PT X e t) (i : ∀ σ H Q, t' σ H Q → t σ H Q) : PT X e t' := ⟨fun pins s σ H Q I q => h.run pins s σ H Q I (i σ H Q q)⟩
theorem pw_imp {X : Cx} {e : Expr} {t t' : TT} (h : PW X e t) (i : ∀ σ H Q, t' σ H Q → t σ H Q) : PW X e t' := ⟨fun wh pins s σ H Q I q => h.run wh pins s σ H Q I (i σ H Q q)⟩

section
variable {R : Rc} {C : Ctx} {W : WX} {S S1 H H1 : Hp} {σ : St} {env env1 : Env} {c c1 f cr : Cn} {Q Q' : VK} {QL : List V → Hp → Prop} {e : E} {es : List E}

/-! ### one run behind another -/
/-- the end of a run, told from a state that it came to -/
theorem AfterV.on {x : O D} (E : Ext S H f S1 H1) (h : AfterV R W Q S H σ f x) (hc : ∀ v H', Q v H' → Q' v H') : AfterV R W Q' S1 H1 σ f x := by
  cases x with
  | ok d env' => exact fun S' H' c' v cr E' G' r => hc _ _ (h S' H' c' v cr (E.trans0 E') G' r)
  | exc k dv env' => exact fun S' H' c' dd E' G' t => h S' H' c' dd (E.trans0 E') G' t
  | st => exact h
/-- after the first of two runs: g counts the things of the first -/
theorem AfterV.bindV {x : O D} {k : D → Env → O D} (h : AfterV R W Q S H σ f (x.bind k))
    (hk : ∀ d env1 S1 H1 c1 v cr, x = .ok d env1 → Ext S H f S1 H1 → Good R S1 H1 σ env1 c1 (pl cr f) → Rep R S1 H1 d v cr → AfterV R W Q S H σ f (k d env1) → Q' v H1) : AfterV R W Q' S H σ f x := by
  cases x with
  | ok d env' => exact fun S' H' c' v cr E' G' r => hk d env' S' H' c' v cr rfl E' G' r h
  | exc k dv env' => exact h
  | st => exact h
theorem AfterL.bindV {x : O (List D)} {k : List D → Env → O D} {Q' : List V → Hp → Prop} (h : AfterV R W Q S H σ f (x.bind k))
    (hk : ∀ ds env1 S1 H1 c1 vs cr, x = .ok ds env1 → Ext S H f S1 H1 → Good R S1 H1 σ env1 c1 (pl cr f) → RepL R S1 H1 ds vs cr → AfterV R W Q S H σ f (k ds env1) → Q' vs H1) : AfterL R W Q' S H σ f x := by
  cases x with
  | ok d env' => exact fun S' H' c' v cr E' G' r => hk d env' S' H' c' v cr rfl E' G' r h
  | exc k dv env' => exact h
  | st => exact h
/-- the second run, begun where the first ended, with the first's things in the frame -/
theorem AfterV.next {x : O D} (E : Ext S H f S1 H1) (h : AfterV R W Q S H σ f x)
    (hq : ∀ d env' S' H' c' v cr', x = .ok d env' → Ext S1 H1 (pl cr f) S' H' → Good R S' H' σ env' c' (pl cr' (pl cr f)) → Rep R S' H' d v cr' → Q' v H') : AfterV R W Q' S1 H1 σ (pl cr f) x := by
  cases x with
  | ok d env' => exact fun S' H' c' v cr' E' G' r => hq d env' S' H' c' v cr' rfl E' G' r
  | exc k dv env' =>
    refine fun S' H' c' dd E' G' t => h S' H' c' dd (E.trans E') (G'.lessF fun a => ?_) t
    rw [pl_at]; omega
  | st => exact h

/-! ### constants, names -/
theorem tV_k {d : D} {v : V} (r : ∀ S H, Rep R S H d v z0) (h : tV R C W (.k d) σ H Q) : Q v H := by
  obtain ⟨S, env, c, f, G, h⟩ := h
  exact h S H c v z0 .refl (by rw [z_pl]; exact G) (r S H)
theorem pe_k {X : Cx} {T : Tags} {x : Expr} {d : D} {v : V} (h : PE X x (tC v)) (r : ∀ S H, Rep (rc X T) S H d v z0) : PE X x (tV (rc X T) C W (.k d)) := pe_imp h fun _ _ _ q => tV_k r q
theorem tV_v {i : Nat} (h : tV R C W (.v i) σ H Q) : tVar i σ H Q := by
  obtain ⟨S, env, c, f, G, h⟩ := h
  simp only [ev] at h
  cases e : get env i with
  | none => rw [e] at h; exact h.elim
  | some d =>
    rw [e] at h
    simp only at h
    split at h
    · rename_i p
      obtain ⟨v, c1, c2, e1, r, rfl, _, _⟩ := G.env.at_ e
      obtain rfl := r.pu d p
      exact ⟨v, e1, h S H _ v z0 .refl (by rw [z_pl]; exact G) r⟩
    · exact h.elim
theorem tV_mov {i : Nat} (h : tV R C W (.mov i) σ H Q) : tVar i σ H Q := by
  obtain ⟨S, env, c, f, G, h⟩ := h
  simp only [ev] at h
  cases e : get env i with
  | none => rw [e] at h; exact h.elim
  | some d =>
    rw [e] at h
    obtain ⟨v, c1, c2, e1, r, rfl, _, r2⟩ := G.env.at_ e
    refine ⟨v, e1, h S H c2 v c1 .refl (G.split r2 (fun a => ?_) (r.mu d)) r⟩
    rw [pl_at]; omega
/-! ### argument lists -/
theorem tVs_nil (h : tVs R C W [] σ H QL) : tNil σ H QL := by
  obtain ⟨S, env, c, f, G, h⟩ := h
  simp only [evs] at h
  exact h S H c [] z0 .refl (by rw [z_pl]; exact G) rfl
theorem tVs_cons (h : tVs R C W (e :: es) σ H QL) : tCons (tV R C W e) (tVs R C W es) σ H QL := by
  obtain ⟨S, env, c, f, G, h⟩ := h
  simp only [evs] at h
  refine ⟨S, env, c, f, G, ?_⟩
  cases x : ev C e env with
  | st => rw [x] at h; exact h
  | exc k dv env' => rw [x] at h; exact h
  | ok d env1 =>
    rw [x] at h
    intro S1 H1 c1 v cr E1 G1 r1
    refine ⟨S1, env1, c1, pl cr f, G1, ?_⟩
    have h : AfterL R W QL S H σ f ((evs C es env1).bind fun ds env => .ok (d :: ds) env) := h
    cases y : evs C es env1 with
    | st => rw [y] at h; exact h
    | exc k dv env' =>
      rw [y] at h
      refine fun S' H' c' dd E' G' t => h S' H' c' dd (E1.trans E') (G'.lessF fun a => ?_) t
      rw [pl_at]; omega
    | ok ds env2 =>
      rw [y] at h
      intro S2 H2 c2 vs cr2 E2 G2 r2
      refine h S2 H2 c2 (v :: vs) (pl cr cr2) (E1.trans E2) ?_ ⟨cr, cr2, r1.frame E2 fun a n => left_ne n, r2, rfl⟩
      rw [pl_assoc, pl_left]; exact G2
end
section
variable {X : Cx} {T : Tags} {C : Ctx} {W : WX} {x : Expr} {xs : List Expr} {e : E} {es : List E}
theorem pa_nilV : PA X [] (tVs (rc X T) C W []) := pa_imp pa_nil fun _ _ _ q => tVs_nil q
theorem pa_consV (h : PE X x (tV (rc X T) C W e)) (h2 : PA X xs (tVs (rc X T) C W es)) (hs : starEach (x :: xs) X.env = (false, eval x X.env) :: starEach xs X.env) : PA X (x :: xs) (tVs (rc X T) C W (e :: es)) :=
  pa_imp (pa_cons h h2 hs) fun _ _ _ q => tVs_cons q
end
end PL
set_option Elab.async false
set_option linter.all false
set_option maxRecDepth 100000
/-! PL, part 5: the primitives. -/
namespace PL
open PySem PySem.Spec L2
open PyProof.Rows hiding St

def New (H H' : Hp) : Prop := ∀ a o, H a = some o → H' a = some o
/-- counts that come of others, and of new things -/
def Le (H : Hp) (c' c : Cn) : Prop := (∀ a o, H a = some o → c' a ≤ c a) ∧ ∀ a, H a = none → c' a ≤ 1
theorem New.refl {H : Hp} : New H H := fun _ _ h => h
theorem New.upd {H : Hp} {p : Addr} {o : HO} (h : H p = none) : New H (upd H p o) := fun a u e => by rw [upd_ne (ne_of_none e h)]; exact e
theorem New.trans {H H1 H2 : Hp} (a : New H H1) (b : New H1 H2) : New H H2 := fun x o h => b x o (a x o h)
theorem Le.z {H : Hp} {c : Cn} : Le H z0 c := ⟨fun _ _ _ => Nat.zero_le _, fun _ _ => Nat.zero_le _⟩
theorem Le.of {H : Hp} {c c' : Cn} (h : ∀ a, c' a ≤ c a) (h1 : ∀ a, H a = none → c a = 0) : Le H c' c := ⟨fun a _ _ => h a, fun a e => by have := h a; have := h1 a e; omega⟩
/-- a new list at p of things that c' counts -/
theorem Le.new {H : Hp} {c c' : Cn} {p : Addr} (hp : H p = none) (h : ∀ a, c' a ≤ c a) (h1 : ∀ a, H a = none → c a = 0) : Le H (pl (one p) c') c := by
  refine ⟨fun a o e => ?_, fun a e => ?_⟩
  · rw [pl_at, one_at, if_neg (ne_of_none e hp)]
    have := h a; omega
  · rw [pl_at, one_at]
    have := h a; have := h1 a e
    split <;> omega

/-- a primitive does what a rule of the text's operation says -/
def POk (R : Rc) (p : P) (r : List V → Hp → VK → Prop) : Prop := ∀ (par : Nat → Option Nat) (S H : Hp) (ds : List D) (vs : List V) (cr : Cn) (d : D) (Q : VK),
  (∀ a o, S a = some o → H a = some o) → RepL R S H ds vs cr → prim par p ds = some d →
  (∀ H' v cr', New H H' → Rep R S H' d v cr' → Le H cr' cr → Q v H') → r vs H Q

section
variable {R : Rc} {C : Ctx} {W : WX} {S S1 H H1 : Hp} {σ : St} {env env1 : Env} {c c1 f cr : Cn} {Q Q' : VK} {QL QL' : List V → Hp → Prop} {a b x : E} {es : List E} {p : P} {r : List V → Hp → VK → Prop}
theorem Good.after (G : Good R S H σ env c (pl cr f)) (hn : New H H1) {cr' : Cn} (hl : Le H cr' cr) (hm : ∀ a, cr' a ≠ 0 → ∃ o, H1 a = some o ∧ Mu o) : Good R S H1 σ env c (pl cr' f) := by
  refine ⟨G.env.mono (fun _ _ h => h) (fun a o h _ => hn a o h) fun a o h _ => hn a o h, fun a o h => hn a o (G.sub a o h), fun a => ?_, fun a n => ?_⟩
  · have d := G.dis a
    rw [pl_at] at d ⊢
    cases e : H a with
    | none =>
      have h1 := hl.2 a e
      have h2 := G.noC e
      have h3 := G.noF e
      have h4 := occ_none (G.noS e)
      rw [pl_at] at h3
      omega
    | some o =>
      have h1 := hl.1 a o e
      omega
  · rw [pl_at] at n
    by_cases q : f a = 0
    · exact hm a (by omega)
    · obtain ⟨o, e, m⟩ := G.fr a (by rw [pl_at]; omega)
      exact ⟨o, hn a o e, m⟩
theorem tV_pr (ok : POk R p r) (h : tV R C W (.pr p es) σ H Q) : tVs R C W es σ H fun vs H1 => r vs H1 Q := by
  obtain ⟨S, env, c, f, G, h⟩ := h
  simp only [ev] at h
  refine ⟨S, env, c, f, G, ?_⟩
  cases x : evs C es env with
  | st => rw [x] at h; exact h
  | exc k dv env' => rw [x] at h; exact h
  | ok ds env1 =>
    rw [x] at h
    intro S1 H1 c1 vs cr E1 G1 r1
    have h : AfterV R W Q S H σ f (O.lift (prim C.par p ds) env1) := h
    cases y : prim C.par p ds with
    | none => rw [y] at h; exact h.elim
    | some d =>
      rw [y] at h
      refine ok C.par S1 H1 ds vs cr d Q G1.sub r1 y fun H' v cr' hn hr hl => ?_
      exact h S1 H' c1 v cr' (E1.trans0 (.more hn fun _ _ h => h)) (G1.after hn hl (hr.mu d)) hr
theorem tV_mono {e : E} (h : tV R C W e σ H Q) (hq : ∀ v H', Q v H' → Q' v H') : tV R C W e σ H Q' := by
  obtain ⟨S, env, c, f, G, h⟩ := h
  exact ⟨S, env, c, f, G, AfterV.on .refl h hq⟩
theorem tVs1 (h : tVs R C W [a] σ H QL) : tV R C W a σ H fun x H1 => QL [x] H1 := tV_mono (tVs_cons h) fun _ _ q => tVs_nil q
theorem tVs2 (h : tVs R C W [a, b] σ H QL) : tV R C W a σ H fun x H1 => tV R C W b σ H1 fun y H2 => QL [x, y] H2 := tV_mono (tVs_cons h) fun _ _ q => tVs1 q
theorem tVs3 (h : tVs R C W [a, b, x] σ H QL) : tV R C W a σ H fun u H1 => tV R C W b σ H1 fun v H2 => tV R C W x σ H2 fun w H3 => QL [u, v, w] H3 := tV_mono (tVs_cons h) fun _ _ q => tVs2 q
end

/-! ### what a datum is, by its form -/
section
variable {R : Rc} {S H : Hp} {c : Cn} {v : V} {vs : List V}
theorem rl0 (h : RepL R S H [] vs c) : vs = [] ∧ c = z0 := by
  cases vs with
  | nil => exact ⟨rfl, h⟩
  | cons x r => exact h.elim
theorem rl1 {d : D} (h : RepL R S H [d] vs c) : ∃ x, vs = [x] ∧ Rep R S H d x c := by
  cases vs with
  | nil => exact h.elim
  | cons x r =>
    obtain ⟨c1, c2, h1, h2, rfl⟩ := h
    obtain ⟨rfl, rfl⟩ := rl0 h2
    exact ⟨x, rfl, h1⟩
theorem rl2 {d e : D} (h : RepL R S H [d, e] vs c) : ∃ x y c1 c2, vs = [x, y] ∧ Rep R S H d x c1 ∧ Rep R S H e y c2 ∧ c = pl c1 c2 := by
  cases vs with
  | nil => exact h.elim
  | cons x r =>
    obtain ⟨c1, c2, h1, h2, rfl⟩ := h
    obtain ⟨y, rfl, h3⟩ := rl1 h2
    exact ⟨x, y, c1, c2, rfl, h1, h3, rfl⟩
theorem rl3 {d e g : D} (h : RepL R S H [d, e, g] vs c) : ∃ x y z c1 c2 c3, vs = [x, y, z] ∧ Rep R S H d x c1 ∧ Rep R S H e y c2 ∧ Rep R S H g z c3 ∧ c = pl c1 (pl c2 c3) := by
  cases vs with
  | nil => exact h.elim
  | cons x r =>
    obtain ⟨c1, c2, h1, h2, rfl⟩ := h
    obtain ⟨y, z, c3, c4, rfl, h5, h6, rfl⟩ := rl2 h2
    exact ⟨x, y, z, c1, c3, c4, rfl, h1, h5, h6, rfl⟩
/-- a list, to be read -/
theorem Rep.lst {o : Fg} {xs : List D} (hS : ∀ a o, S a = some o → H a = some o) (h : Rep R S H (.lst o xs) v c) : ∃ a vs c', v = .ref a ∧ SqL R.K H a vs ∧ (o.plain = true → H a = some (.lst vs)) ∧ RepL R S H xs vs c' ∧ (∀ x, c' x ≤ c x) ∧ (∀ x, H x = none → c x = 0) := by
  cases o with
  | own =>
    have hm := h.mu (.lst .own xs)
    obtain ⟨a, vs, c', e, hb, hl, rfl⟩ := h
    refine ⟨a, vs, c', e, .inl (.inl hb), fun _ => hb, hl, fun x => by rw [pl_at]; omega, fun x q => ?_⟩
    by_cases n : pl (one a) c' x = 0
    · exact n
    · obtain ⟨o, e, _⟩ := hm x n
      rw [q] at e; cases e
  | sh t =>
    obtain ⟨a, vs, e, hb, ht, hl, rfl⟩ := h
    refine ⟨a, vs, z0, e, ?_, fun p => ?_, hl, fun _ => Nat.le_refl _, fun _ _ => rfl⟩
    · rcases hb with hb | ⟨_, hb⟩
      · exact .inl (.inl (hS _ _ hb))
      · exact SqL.mono hS hb
    · rcases hb with hb | ⟨z, _⟩
      · exact hS _ _ hb
      · subst z; exact absurd p (by decide)
theorem RepL.noC {ds : List D} (h : RepL R S H ds vs c) : ∀ x, H x = none → c x = 0 := fun x q => by
  by_cases n : c x = 0
  · exact n
  · obtain ⟨o, e, _⟩ := RepL.mu ds h x n
    rw [q] at e; cases e
theorem Rep.noC {d : D} (h : Rep R S H d v c) : ∀ x, H x = none → c x = 0 := fun x q => by
  by_cases n : c x = 0
  · exact n
  · obtain ⟨o, e, _⟩ := Rep.mu d h x n
    rw [q] at e; cases e
theorem Rep.new {d : D} {H' : Hp} (h : Rep R S H d v c) (n : New H H') : Rep R S H' d v c := h.mono (fun _ _ h => h) (fun a o e _ => n a o e) d fun a o e _ => n a o e
theorem RepL.new {ds : List D} {H' : Hp} (h : RepL R S H ds vs c) (n : New H H') : RepL R S H' ds vs c := h.mono (fun _ _ h => h) (fun a o e _ => n a o e) ds fun a o e _ => n a o e
/-- a new list of own -/
theorem mk_lst {xs : List D} {p : Addr} (h : RepL R S H xs vs c) (hp : H p = none) : Rep R S (upd H p (.lst vs)) (.lst .own xs) (.ref p) (pl (one p) c) := ⟨p, vs, c, rfl, upd_same, h.new (.upd hp), rfl⟩
theorem mk_tup {xs : List D} {p : Addr} (h : RepL R S H xs vs c) (hp : H p = none) : Rep R S (upd H p (.tup vs)) (.tup xs) (.ref p) c := ⟨p, vs, rfl, .inl (.inl upd_same), h.new (.upd hp)⟩
end
theorem ofS (s : List Nat) : (mkS s).cps.toList = s := by simp [mkS]
theorem lenS (s : List Nat) : (mkS s).length = s.length := by simp [mkS, Str.length]
theorem appS (s t : List Nat) : mkS s ++ mkS t = mkS (s ++ t) := by
  show Str.append (mkS s) (mkS t) = mkS (s ++ t)
  simp [mkS, Str.append]
theorem fits_le {n : Nat} (h : fits n = true) : n ≤ sizeLine := by rw [sizeLine_eq]; exact Nat.le_of_ble_eq_true h

/-! ### operators -/
abbrev r2 (r : R2) : List V → Hp → VK → Prop := fun vs H Q => ∃ x y, vs = [x, y] ∧ r x y H Q
section
variable {X : Cx} {T : Tags} {C : Ctx} {W : WX} {e1 e2 : Expr} {a b : E} {pos : Pos}
theorem pe_bin {op : Operator} {p : P} {r : R2} (ho : OpR X (binaryOp op) r) (ok : POk (rc X T) p (r2 r)) (ha : PE X e1 (tV (rc X T) C W a)) (hb : PE X e2 (tV (rc X T) C W b)) : PE X (.BinOp e1 op e2 pos) (tV (rc X T) C W (.pr p [a, b])) :=
  pe_imp (pe_op ho ha hb) fun σ H Q q => tV_mono (tVs2 (tV_pr ok q)) fun x H1 q => tV_mono q fun y H2 ⟨_, _, e, q⟩ => by
    injection e with e1 e2
    injection e2 with e2 _
    subst e1 e2
    exact q
theorem pe_cmpV {op : CmpOp} {p : P} {r : R2} (ho : OpR X (compareOp op) r) (ok : POk (rc X T) p (r2 r)) (ha : PE X e1 (tV (rc X T) C W a)) (hb : PE X e2 (tV (rc X T) C W b)) (hm : behindInMarks op e2 = false) : PE X (.Compare e1 [op] [e2] pos) (tV (rc X T) C W (.pr p [a, b])) :=
  pe_imp (pe_cmpR ho ha hb hm) fun σ H Q q => tV_mono (tVs2 (tV_pr ok q)) fun x H1 q => tV_mono q fun y H2 ⟨_, _, e, q⟩ => by
    injection e with e1 e2
    injection e2 with e2 _
    subst e1 e2
    exact q
end

section
variable {R : Rc} {X : Cx}
/-- the form in which a primitive's case is shown -/
theorem scal {S H : Hp} {d : D} {v : V} {cr : Cn} {Q : VK} (k : ∀ H' v cr', New H H' → Rep R S H' d v cr' → Le H cr' cr → Q v H') (h : Rep R S H d v z0) : Q v H := k H v z0 .refl h .z

/-! ### ints, texts, lists: + - * // % ** << -/
def rAddAll (K : PySem.W.Frag) : R2 := fun x y H Q => rI0 (fun i j => .int (i + j)) x y H Q ∨ (∃ i j, x = .str i ∧ y = .str j ∧ i.length + j.length ≤ sizeLine ∧ Q (.str (i ++ j)) H) ∨ rCat x y H Q ∨ rCatT K x y H Q
theorem or_add : OpR X (binaryOp .Add) (rAddAll X.K) := op_add.or (op_add_str.or (op_cat.or op_catT))
theorem ok_add : POk R .add (r2 (rAddAll R.K)) := by
  intro par S H ds vs cr d Q hS hr hp k
  change p_add ds = some d at hp
  unfold p_add at hp
  split at hp
  · obtain ⟨x, y, c1, c2, rfl, ⟨rfl, rfl⟩, ⟨rfl, rfl⟩, rfl⟩ := rl2 hr
    obtain rfl := Option.some.inj hp
    exact ⟨_, _, rfl, .inl ⟨_, _, rfl, rfl, scal k ⟨rfl, rfl⟩⟩⟩
  · obtain ⟨x, y, c1, c2, rfl, ⟨rfl, rfl⟩, ⟨rfl, rfl⟩, rfl⟩ := rl2 hr
    split at hp
    · rename_i hf
      obtain rfl := Option.some.inj hp
      refine ⟨_, _, rfl, .inr (.inl ⟨_, _, rfl, rfl, ?_, scal k ⟨?_, rfl⟩⟩)⟩
      · rw [lenS, lenS]; exact fits_le hf
      · rw [appS]
    · cases hp
  · rename_i o xs o' ys
    obtain ⟨x, y, c1, c2, rfl, h1, h2, rfl⟩ := rl2 hr
    split at hp
    · rename_i hf
      rw [Bool.and_eq_true, Bool.and_eq_true] at hf
      obtain rfl := Option.some.inj hp
      obtain ⟨a, ws, q1, rfl, _, p1, l1, le1, n1⟩ := h1.lst hS
      obtain ⟨b, zs, q2, rfl, _, p2, l2, le2, n2⟩ := h2.lst hS
      refine ⟨_, _, rfl, .inr (.inr (.inl ⟨a, b, ws, zs, rfl, rfl, p1 hf.1.1, p2 hf.1.2, ?_, fun p np => ?_⟩))⟩
      · rw [← l1.length, ← l2.length]; exact fits_le hf.2
      · refine k _ _ _ (.upd np) (mk_lst (l1.append l2) np) (.new np (fun a => ?_) fun a e => ?_)
        · have := le1 a; have := le2 a; rw [pl_at, pl_at]; omega
        · rw [pl_at, n1 a e, n2 a e]
    · cases hp
  · rename_i xs ys
    obtain ⟨x, y, c1, c2, rfl, h1, h2, rfl⟩ := rl2 hr
    split at hp
    · rename_i hf
      rw [Bool.and_eq_true] at hf
      obtain rfl := Option.some.inj hp
      obtain ⟨a, ws, rfl, t1, l1⟩ := h1
      obtain ⟨b, zs, rfl, t2, l2⟩ := h2
      have n1 := l1.noC
      have n2 := l2.noC
      refine ⟨_, _, rfl, .inr (.inr (.inr ⟨a, b, ws, zs, rfl, rfl, t1, t2, fun e => ?_, ?_, fun e => ?_, fun e p np => ?_⟩))⟩
      · have q := l1.length
        rw [e] at q
        have : xs = [] := List.eq_nil_of_length_eq_zero q
        rw [this] at hf; exact absurd hf.1 (by decide)
      · rw [← l1.length, ← l2.length]; exact fits_le hf.2
      · have q := l2.length
        rw [e] at q
        have e2 : ys = [] := List.eq_nil_of_length_eq_zero q
        subst e2
        rw [e] at l2
        have e3 : c2 = z0 := l2
        subst e3
        rw [List.append_nil] at k
        exact k H _ c1 .refl ⟨a, ws, rfl, t1, l1⟩ (.of (fun a => Nat.le_refl _) n1)
      · refine k _ _ _ (.upd np) (mk_tup (l1.append l2) np) (.of (fun a => Nat.le_refl _) fun a e => ?_)
        rw [pl_at, n1 a e, n2 a e]
    · cases hp
  · cases hp
theorem ok_sub : POk R .sub (r2 (rI0 fun i j => .int (i - j))) := by
  intro par S H ds vs cr d Q hS hr hp k
  change p_sub ds = some d at hp
  unfold p_sub at hp
  split at hp
  · obtain ⟨x, y, c1, c2, rfl, ⟨rfl, rfl⟩, ⟨rfl, rfl⟩, rfl⟩ := rl2 hr
    obtain rfl := Option.some.inj hp
    exact ⟨_, _, rfl, _, _, rfl, rfl, scal k ⟨rfl, rfl⟩⟩
  · cases hp
theorem absB {i : Int} (h : i.natAbs < 2 ^ 64) : -(2 ^ 64) < i ∧ i < 2 ^ 64 := by omega
theorem small62_iff {i : Int} (h : small62 i = true) : -(2 ^ 62) ≤ i ∧ i < 2 ^ 62 := by
  unfold small62 at h
  rw [Bool.and_eq_true, decide_eq_true_eq, decide_eq_true_eq] at h
  exact h
theorem RepL.rep {S H : Hp} {xs : List D} {vs : List V} (h : RepL R S H xs vs z0) : ∀ n : Nat, RepL R S H (List.replicate n xs).flatten (List.replicate n vs).flatten z0
  | 0 => rfl
  | n + 1 => by
    rw [List.replicate_succ, List.flatten_cons, List.replicate_succ, List.flatten_cons]
    exact h.append (RepL.rep h n)
def rMulS : R2 := fun x y H Q => ∃ s n, x = .str (mkS s) ∧ y = .int n ∧ -(2 ^ 62) ≤ n ∧ n < 2 ^ 62 ∧ s.length * n.toNat ≤ sizeLine ∧ Q (.str (mkS (List.replicate n.toNat s).flatten)) H
theorem fold_rep (s : List Nat) : ∀ (n : Nat) (acc : Array Nat), (List.replicate n s.toArray).foldl (· ++ ·) acc = acc ++ ((List.replicate n s).flatten).toArray
  | 0, acc => by simp
  | n + 1, acc => by
    rw [List.replicate_succ, List.foldl_cons, fold_rep s n, List.replicate_succ, List.flatten_cons, Array.append_assoc]
    congr 1
    simp
theorem op_mulS : OpR X (binaryOp .Mult) rMulS := by
  intro pins s σ H x y v u Q I rx ry h
  obtain ⟨z, n, rfl, rfl, h1, h2, hz, q⟩ := h
  obtain ⟨t, rfl⟩ := rx
  obtain ⟨t', rfl⟩ := ry
  have hlen : (mkS z).length = z.length := lenS z
  have fin : ∀ (w : Str) (tk : Tok) (k : Nat), w = mkS (List.replicate n.toNat z).flatten → EP X pins σ Q (.str w tk) { s with toks := k } := fun w tk k e => ⟨.str w, H, I.tok k, ⟨tk, rfl⟩, by rw [e]; exact q⟩
  refine PySem.P.mul_str ?_ (fun a b => ?_) (fun a b => ?_) ?_
  · rw [Bool.or_eq_false_iff, decide_eq_false_iff_not, decide_eq_false_iff_not]; omega
  · rw [hlen]
    intro hb
    have hn : 0 < n := by omega
    have h3 : (z.length : Int) * n ≤ 16777216 := by
      have e : ((n.toNat : Nat) : Int) = n := Int.toNat_of_nonneg (by omega)
      rw [sizeLine_eq] at hz
      have h5 : ((z.length * n.toNat : Nat) : Int) ≤ ((16777216 : Nat) : Int) := Int.ofNat_le.mpr hz
      rw [Int.natCast_mul, e] at h5
      exact h5
    have h4 : (z.length : Int) ≤ (2 ^ 63 - 1) / n := by
      rw [Int.le_ediv_iff_mul_le hn]
      omega
    omega
  · rw [hlen]
    show decide _ = false
    rw [decide_eq_false_iff_not]
    intro hb
    have : z.length * n.toNat ≤ 16777216 := by rw [sizeLine_eq] at hz; exact hz
    first | omega | (rw [sizeLine_eq] at hb; omega)
  · by_cases c : n < 1
    · rw [if_pos c]
      refine ⟨Nat.zero_le _, fin _ _ _ ?_⟩
      have : n.toNat = 0 := by omega
      rw [this]; rfl
    · rw [if_neg c]
      by_cases c2 : (n == 1 || (mkS z).length == 0) = true
      · rw [if_pos c2]
        show EP X pins σ Q (.str (mkS z) t) s
        refine ⟨.str (mkS z), H, I, ⟨t, rfl⟩, ?_⟩
        rw [Bool.or_eq_true, beq_iff_eq, beq_iff_eq, hlen] at c2
        have e : (List.replicate n.toNat z).flatten = z := by
          rcases c2 with c2 | c2
          · subst c2; simp
          · have : z = [] := List.eq_nil_of_length_eq_zero c2
            subst this; simp
        rw [← e]; exact q
      · rw [if_neg c2]
        have e9 : (⟨(List.replicate n.toNat (mkS z).cps).foldl (· ++ ·) #[]⟩ : Str) = mkS (List.replicate n.toNat z).flatten := by
          rw [show (mkS z).cps = z.toArray from rfl, fold_rep]
          simp [mkS]
        refine ⟨?_, fin _ _ _ e9⟩
        rw [e9, lenS, PyProof.Rows.lm_len_rep_flat, Nat.mul_comm]
        exact hz
def rMulAll : R2 := fun x y H Q => rI CMul (fun i j => .int (i * j)) x y H Q ∨ rRep x y H Q ∨ rMulS x y H Q
theorem or_mul : OpR X (binaryOp .Mult) rMulAll := op_mul.or (op_rep.or op_mulS)
theorem ok_mul : POk R .mul (r2 rMulAll) := by
  intro par S H ds vs cr d Q hS hr hp k
  change p_mul ds = some d at hp
  unfold p_mul at hp
  split at hp
  · obtain ⟨x, y, c1, c2, rfl, ⟨rfl, rfl⟩, ⟨rfl, rfl⟩, rfl⟩ := rl2 hr
    split at hp
    · rename_i hf
      obtain rfl := Option.some.inj hp
      unfold mulOk at hf
      rw [Bool.or_eq_true, decide_eq_true_eq, decide_eq_true_eq] at hf
      exact ⟨_, _, rfl, .inl ⟨_, _, rfl, rfl, hf.imp absB absB, scal k ⟨rfl, rfl⟩⟩⟩
    · cases hp
  · rename_i o xs n
    obtain ⟨x, y, c1, c2, rfl, h1, ⟨rfl, rfl⟩, rfl⟩ := rl2 hr
    split at hp
    · rename_i hf
      rw [Bool.and_eq_true, Bool.and_eq_true, Bool.and_eq_true] at hf
      obtain rfl := Option.some.inj hp
      obtain ⟨a, ws, q1, rfl, _, p1, l1, le1, n1⟩ := h1.lst hS
      have hz := small62_iff hf.1.2
      obtain rfl := l1.pu xs hf.1.1.2
      refine ⟨_, _, rfl, .inr (.inl ⟨a, n, ws, rfl, rfl, p1 hf.1.1.1, by omega, by omega, ?_, fun p np => ?_⟩)⟩
      · rw [← l1.length]; exact fits_le hf.2
      · exact k _ _ _ (.upd np) (mk_lst (l1.rep n.toNat) np) (.new np (fun a => Nat.zero_le _) fun a e => by rw [pl_at, n1 a e]; rfl)
    · cases hp
  · rename_i s n
    obtain ⟨x, y, c1, c2, rfl, ⟨rfl, rfl⟩, ⟨rfl, rfl⟩, rfl⟩ := rl2 hr
    split at hp
    · rename_i hf
      rw [Bool.and_eq_true] at hf
      obtain rfl := Option.some.inj hp
      have hz := small62_iff hf.1
      exact ⟨_, _, rfl, .inr (.inr ⟨s, n, rfl, rfl, hz.1, hz.2, fits_le hf.2, scal k ⟨rfl, rfl⟩⟩)⟩
    · cases hp
  · cases hp
theorem ok_fdiv : POk R .fdiv (r2 (rI CDiv fun i j => .int (i / j))) := by
  intro par S H ds vs cr d Q hS hr hp k
  change p_fdiv ds = some d at hp
  unfold p_fdiv at hp
  split at hp
  · obtain ⟨x, y, c1, c2, rfl, ⟨rfl, rfl⟩, ⟨rfl, rfl⟩, rfl⟩ := rl2 hr
    split at hp
    · rename_i hf
      obtain rfl := Option.some.inj hp
      rw [Bool.and_eq_true, decide_eq_true_eq, decide_eq_true_eq] at hf
      exact ⟨_, _, rfl, _, _, rfl, rfl, hf, scal k ⟨rfl, rfl⟩⟩
    · cases hp
  · cases hp
theorem ok_mod : POk R .mod (r2 (rI (fun _ j => 0 < j) fun i j => .int (i % j))) := by
  intro par S H ds vs cr d Q hS hr hp k
  change p_mod ds = some d at hp
  unfold p_mod at hp
  split at hp
  · obtain ⟨x, y, c1, c2, rfl, ⟨rfl, rfl⟩, ⟨rfl, rfl⟩, rfl⟩ := rl2 hr
    split at hp
    · rename_i hf
      obtain rfl := Option.some.inj hp
      exact ⟨_, _, rfl, _, _, rfl, rfl, hf, scal k ⟨rfl, rfl⟩⟩
    · cases hp
  · cases hp
def CPowB (i j : Int) : Prop := 0 ≤ j ∧ (Builtin.Int.intBits i : Int) * j ≤ 2 ^ 27
theorem op_powB : OpR X (binaryOp .Pow) (rI CPowB fun i j => .int (i ^ j.toNat)) := opI fun _ _ _ _ _ _ _ hc q => pow_int hc.1 hc.2 q
theorem bits_eq (i : Int) : Builtin.Int.intBits i = bits i.natAbs := by
  unfold Builtin.Int.intBits bits
  by_cases h : i = 0
  · subst h; rfl
  · rw [if_neg (by simpa using h), if_neg (by omega)]
theorem ok_pow : POk R .pow (r2 (rI CPowB fun i j => .int (i ^ j.toNat))) := by
  intro par S H ds vs cr d Q hS hr hp k
  change p_pow ds = some d at hp
  unfold p_pow at hp
  split at hp
  · obtain ⟨x, y, c1, c2, rfl, ⟨rfl, rfl⟩, ⟨rfl, rfl⟩, rfl⟩ := rl2 hr
    split at hp
    · rename_i i j hf
      obtain rfl := Option.some.inj hp
      rw [Bool.and_eq_true, decide_eq_true_eq] at hf
      refine ⟨_, _, rfl, _, _, rfl, rfl, ⟨hf.1, ?_⟩, scal k ⟨rfl, rfl⟩⟩
      have e : ((j.toNat : Nat) : Int) = j := Int.toNat_of_nonneg hf.1
      have h2 : ((bits i.natAbs * j.toNat : Nat) : Int) ≤ ((134217728 : Nat) : Int) := Int.ofNat_le.mpr (Nat.le_of_ble_eq_true hf.2)
      rw [Int.natCast_mul, e] at h2
      rw [bits_eq]
      omega
    · cases hp
  · cases hp
theorem ok_shl : POk R .shl (r2 (rI CPow fun i j => .int (i * 2 ^ j.toNat))) := by
  intro par S H ds vs cr d Q hS hr hp k
  change p_shl ds = some d at hp
  unfold p_shl at hp
  split at hp
  · obtain ⟨x, y, c1, c2, rfl, ⟨rfl, rfl⟩, ⟨rfl, rfl⟩, rfl⟩ := rl2 hr
    split at hp
    · rename_i hf
      obtain rfl := Option.some.inj hp
      rw [Bool.and_eq_true, Bool.and_eq_true, decide_eq_true_eq, decide_eq_true_eq, decide_eq_true_eq] at hf
      exact ⟨_, _, rfl, _, _, rfl, rfl, ⟨hf.1.1, hf.1.2, hf.2⟩, scal k ⟨rfl, rfl⟩⟩
    · cases hp
  · cases hp

/-! ### is None, is True -/
def isNon : D → Bool
  | .non => true
  | _ => false
theorem Rep.non_iff {S H : Hp} {d : D} {v : V} {c : Cn} (h : Rep R S H d v c) : decide (v = .non) = isNon d := by
  cases d with
  | non => obtain ⟨rfl, _⟩ := h; rfl
  | bl _ => obtain ⟨rfl, _⟩ := h; rfl
  | int _ => obtain ⟨rfl, _⟩ := h; rfl
  | str _ => obtain ⟨rfl, _⟩ := h; rfl
  | fn _ => obtain ⟨rfl, _⟩ := h; rfl
  | lst o xs => cases o with
    | own => obtain ⟨_, _, _, rfl, _⟩ := h; rfl
    | sh t => obtain ⟨_, _, rfl, _⟩ := h; rfl
  | tup xs => obtain ⟨_, _, rfl, _⟩ := h; rfl
  | dct o es => cases o with
    | own => obtain ⟨_, _, _, rfl, _⟩ := h; rfl
    | sh t => obtain ⟨_, _, rfl, _⟩ := h; rfl
  | exn _ _ => obtain ⟨_, _, _, rfl, _⟩ := h; rfl
end
section
variable {X : Cx} {T : Tags} {C : Ctx} {W : WX} {e1 e2 : Expr} {a b : E} {pos pos' : Pos} {j : Nat}
theorem tV_isNone {R : Rc} {σ : L2.St} {H : Hp} {Q : VK} (q : tV R C W (.pr .isNone [a]) σ H Q) : tIsN (tV R C W a) σ H Q :=
  tV_mono (tVs1 (tV_pr (r := fun vs H Q => ∃ v, vs = [v] ∧ Q (.bl (decide (v = .non))) H) (fun par S H ds vs cr d Q hS hr hp k => by
    change p_isNone ds = some d at hp
    unfold p_isNone at hp
    split at hp
    · obtain ⟨x, rfl, h1⟩ := rl1 hr
      obtain rfl := Option.some.inj hp
      refine ⟨x, rfl, scal k ⟨?_, rfl⟩⟩
      rw [h1.non_iff]
      rename_i z
      cases z <;> rfl
    · cases hp) q)) fun v H' ⟨_, e, q⟩ => by
      injection e with e _
      subst e
      exact q
theorem tV_notNone {R : Rc} {σ : L2.St} {H : Hp} {Q : VK} (q : tV R C W (.pr .notNone [a]) σ H Q) : tNotN (tV R C W a) σ H Q :=
  tV_mono (tVs1 (tV_pr (r := fun vs H Q => ∃ v, vs = [v] ∧ Q (.bl (!decide (v = .non))) H) (fun par S H ds vs cr d Q hS hr hp k => by
    change p_notNone ds = some d at hp
    unfold p_notNone at hp
    split at hp
    · rename_i z
      obtain ⟨x, rfl, h1⟩ := rl1 hr
      obtain rfl := Option.some.inj hp
      refine ⟨x, rfl, scal k ⟨?_, rfl⟩⟩
      rw [h1.non_iff]
      cases z <;> rfl
    · cases hp) q)) fun v H' ⟨_, e, q⟩ => by
      injection e with e _
      subst e
      exact q
theorem pe_isNone (ha : PE X e1 (tV (rc X T) C W a)) : PE X (.Compare e1 [.Is] [.Constant .none j pos'] pos) (tV (rc X T) C W (.pr .isNone [a])) := pe_imp (pe_cmp (pc_isN ha)) fun _ _ _ q => tV_isNone q
theorem pe_notNone (ha : PE X e1 (tV (rc X T) C W a)) : PE X (.Compare e1 [.IsNot] [.Constant .none j pos'] pos) (tV (rc X T) C W (.pr .notNone [a])) := pe_imp (pe_cmp (pc_notN ha)) fun _ _ _ q => tV_notNone q
theorem pt_isNone (ha : PE X e1 (tV (rc X T) C W a)) : PT X (.Compare e1 [.Is] [.Constant .none j pos'] pos) (tT (rc X T) C W (.pr .isNone [a])) := pt_imp (pt_cmp (pc_isN ha)) fun _ _ _ q => tV_isNone q
theorem pt_notNone (ha : PE X e1 (tV (rc X T) C W a)) : PT X (.Compare e1 [.IsNot] [.Constant .none j pos'] pos) (tT (rc X T) C W (.pr .notNone [a])) := pt_imp (pt_cmp (pc_notN ha)) fun _ _ _ q => tV_notNone q
end
end PL
set_option Elab.async false
set_option linter.all false
set_option maxRecDepth 100000
/-! PL, part 6: equality, order, places. -/
namespace PL
open PySem PySem.Spec L2
open PyProof.Rows hiding St

mutual
def toP : D → PyData
  | .non => .none | .bl b => .bool b | .int i => .int i | .str s => .str (mkS s)
  | .lst _ xs => .list (toPs xs)
  | .tup xs => .tuple (toPs xs)
  | .dct _ _ => .none | .fn _ => .none | .exn _ _ => .none
termination_by structural x => x
def toPs : List D → List PyData
  | [] => []
  | d :: r => toP d :: toPs r
termination_by structural x => x
end
section
variable {R : Rc} {S H : Hp}
mutual
theorem Rep.dp (hS : ∀ a o, S a = some o → H a = some o) : ∀ (d : D) (n : Nat) {v : V} {c : Cn}, Rep R S H d v c → nd n d = true → Dp R.K H v (toP d)
  | .non, _, _, _, h, _ => by obtain ⟨rfl, _⟩ := h; exact .non
  | .bl b, _, _, _, h, _ => by obtain ⟨rfl, _⟩ := h; exact .bl b
  | .int i, _, _, _, h, _ => by obtain ⟨rfl, _⟩ := h; exact .int i
  | .str s, _, _, _, h, _ => by obtain ⟨rfl, _⟩ := h; exact .str _
  | .lst o xs, n, _, _, h, q => by
    obtain ⟨a, vs, c', rfl, sq, _, l, _⟩ := h.lst hS
    have q : (n != 0 && nds (n - 1) xs) = true := q
    rw [Bool.and_eq_true] at q
    exact .lst sq (RepL.dp hS xs (n - 1) l q.2)
  | .tup xs, n, _, _, h, q => by
    obtain ⟨a, vs, rfl, sq, l⟩ := h
    have q : (n != 0 && nds (n - 1) xs) = true := q
    rw [Bool.and_eq_true] at q
    exact .tup sq (RepL.dp hS xs (n - 1) l q.2)
  | .dct _ _, _, _, _, _, q => by cases q
  | .fn _, _, _, _, _, q => by cases q
  | .exn _ _, _, _, _, _, q => by cases q
termination_by structural x => x
theorem RepL.dp (hS : ∀ a o, S a = some o → H a = some o) : ∀ (ds : List D) (n : Nat) {vs : List V} {c : Cn}, RepL R S H ds vs c → nds n ds = true → DpAll R.K H vs (toPs ds)
  | [], _, vs, _, h, _ => by
    obtain ⟨rfl, _⟩ := rl0 h
    exact .nil
  | d :: ds, n, [], _, h, _ => h.elim
  | d :: ds, n, v :: vs, _, h, q => by
    obtain ⟨c1, c2, h1, h2, _⟩ := h
    have q : (nd n d && nds n ds) = true := q
    rw [Bool.and_eq_true] at q
    exact .cons (Rep.dp hS d n h1 q.1) (RepL.dp hS ds n h2 q.2)
termination_by structural x => x
end
mutual
theorem toP_plain : ∀ (d : D) (n : Nat), nd n d = true → (toP d).plain = true ∧ (toP d).depth ≤ n
  | .non, _, _ => ⟨rfl, Nat.zero_le _⟩
  | .bl _, _, _ => ⟨rfl, Nat.zero_le _⟩
  | .int _, _, _ => ⟨rfl, Nat.zero_le _⟩
  | .str _, _, _ => ⟨rfl, Nat.zero_le _⟩
  | .lst _ xs, n, q => by
    have q : (n != 0 && nds (n - 1) xs) = true := q
    rw [Bool.and_eq_true, bne_iff_ne] at q
    obtain ⟨h1, h2⟩ := toPs_plain xs (n - 1) q.2
    exact ⟨h1, by show PyData.depthAll (toPs xs) + 1 ≤ n; omega⟩
  | .tup xs, n, q => by
    have q : (n != 0 && nds (n - 1) xs) = true := q
    rw [Bool.and_eq_true, bne_iff_ne] at q
    obtain ⟨h1, h2⟩ := toPs_plain xs (n - 1) q.2
    exact ⟨h1, by show PyData.depthAll (toPs xs) + 1 ≤ n; omega⟩
  | .dct _ _, _, q => by cases q
  | .fn _, _, q => by cases q
  | .exn _ _, _, q => by cases q
termination_by structural x => x
theorem toPs_plain : ∀ (ds : List D) (n : Nat), nds n ds = true → PyData.plainAll (toPs ds) = true ∧ PyData.depthAll (toPs ds) ≤ n
  | [], _, _ => ⟨rfl, Nat.zero_le _⟩
  | d :: ds, n, q => by
    have q : (nd n d && nds n ds) = true := q
    rw [Bool.and_eq_true] at q
    obtain ⟨h1, h2⟩ := toP_plain d n q.1
    obtain ⟨h3, h4⟩ := toPs_plain ds n q.2
    refine ⟨by show (PyData.plain (toP d) && PyData.plainAll (toPs ds)) = true; rw [h1, h3]; rfl, ?_⟩
    show max (toP d).depth (PyData.depthAll (toPs ds)) ≤ n
    omega
termination_by structural x => x
end
theorem mkS_eq (a b : List Nat) : (mkS a == mkS b) = decide (a = b) := by
  by_cases h : a = b
  · subst h; simp
  · rw [decide_eq_false h, beq_eq_false_iff_ne]
    intro e
    injection e with e
    exact h (by simpa using congrArg Array.toList e)
mutual
theorem eqv_toP : ∀ (a b : D) (n m : Nat), nd n a = true → nd m b = true → PyData.eqv (toP a) (toP b) = eqD a b
  | .non, b, _, _, _, q => by cases b <;> first | rfl | cases q
  | .bl x, b, _, _, _, q => by cases b <;> first | rfl | cases q
  | .int x, b, _, _, _, q => by cases b <;> first | rfl | cases q
  | .str x, b, _, _, _, q => by
    cases b <;> first | (cases q; done) | exact mkS_eq .. | rfl
  | .lst _ xs, b, n, m, p, q => by
    cases b <;> first | (cases q; done) | skip
    case lst o ys =>
      have p : (n != 0 && nds (n - 1) xs) = true := p
      have q : (m != 0 && nds (m - 1) ys) = true := q
      rw [Bool.and_eq_true] at p q
      exact eqvs_toP xs ys _ _ p.2 q.2
    all_goals first | rfl | skip
  | .tup xs, b, n, m, p, q => by
    cases b <;> first | (cases q; done) | skip
    case tup ys =>
      have p : (n != 0 && nds (n - 1) xs) = true := p
      have q : (m != 0 && nds (m - 1) ys) = true := q
      rw [Bool.and_eq_true] at p q
      exact eqvs_toP xs ys _ _ p.2 q.2
    all_goals first | rfl | skip
  | .dct _ _, _, _, _, q, _ => by cases q
  | .fn _, _, _, _, q, _ => by cases q
  | .exn _ _, _, _, _, q, _ => by cases q
termination_by structural x => x
theorem eqvs_toP : ∀ (a b : List D) (n m : Nat), nds n a = true → nds m b = true → PyData.eqvAll (toPs a) (toPs b) = eqDs a b
  | [], [], _, _, _, _ => rfl
  | [], _ :: _, _, _, _, _ => rfl
  | _ :: _, [], _, _, _, _ => rfl
  | x :: xs, y :: ys, n, m, p, q => by
    have p : (nd n x && nds n xs) = true := p
    have q : (nd m y && nds m ys) = true := q
    rw [Bool.and_eq_true] at p q
    show (PyData.eqv (toP x) (toP y) && PyData.eqvAll (toPs xs) (toPs ys)) = (eqD x y && eqDs xs ys)
    rw [eqv_toP x y n m p.1 q.1, eqvs_toP xs ys n m p.2 q.2]
termination_by structural x => x
end
end

/-! ### == and != -/
def rEqP (K : PySem.W.Frag) (neg : Bool) : R2 := fun x y H Q => ∃ d e, Dp K H x d ∧ Dp K H y e ∧ d.plain = true ∧ e.plain = true ∧ d.depth ≤ 60 ∧ Q (.bl (neg ^^ PyData.eqv d e)) H
section
variable {X : Cx} {R : Rc}
theorem op_eqP (hu : X.A.units + 64 < cLine) : OpR X (compareOp .Eq) (rEqP X.K false) := by
  intro pins s σ H x y v u Q I rx ry h
  obtain ⟨d, e, hd, he, sd, se, dp, q⟩ := h
  obtain ⟨as, r1⟩ := Dp.reads I d x v hd rx
  obtain ⟨bs, r2⟩ := Dp.reads I e y u he ry
  exact SeqAt.eq_plain r1 r2 sd se (by have := Nat.min_le_left d.depth e.depth; omega) ⟨.bl _, H, I, rfl, by rw [Bool.false_xor] at q; exact q⟩
theorem op_neP (hu : X.A.units + 64 < cLine) : OpR X (compareOp .NotEq) (rEqP X.K true) := by
  intro pins s σ H x y v u Q I rx ry h
  obtain ⟨d, e, hd, he, sd, se, dp, q⟩ := h
  obtain ⟨as, r1⟩ := Dp.reads I d x v hd rx
  obtain ⟨bs, r2⟩ := Dp.reads I e y u he ry
  exact SeqAt.ne_plain r1 r2 sd se (by have := Nat.min_le_left d.depth e.depth; omega) ⟨.bl _, H, I, rfl, by rw [Bool.true_xor] at q; exact q⟩
theorem ok_eq : POk R .eq (r2 (rEqP R.K false)) := by
  intro par S H ds vs cr d Q hS hr hp k
  change p_eq ds = some d at hp
  unfold p_eq at hp
  split at hp
  · rename_i a b
    obtain ⟨x, y, c1, c2, rfl, h1, h2, rfl⟩ := rl2 hr
    split at hp
    · rename_i hf
      rw [Bool.and_eq_true] at hf
      obtain rfl := Option.some.inj hp
      obtain ⟨p1, p2⟩ := toP_plain a 40 hf.1
      obtain ⟨p3, p4⟩ := toP_plain b 40 hf.2
      refine ⟨_, _, rfl, _, _, h1.dp hS a 40 hf.1, h2.dp hS b 40 hf.2, p1, p3, by omega, scal k ⟨?_, rfl⟩⟩
      rw [Bool.false_xor, eqv_toP a b 40 40 hf.1 hf.2]
    · cases hp
  · cases hp
theorem ok_ne : POk R .ne (r2 (rEqP R.K true)) := by
  intro par S H ds vs cr d Q hS hr hp k
  change p_ne ds = some d at hp
  unfold p_ne at hp
  split at hp
  · rename_i a b
    obtain ⟨x, y, c1, c2, rfl, h1, h2, rfl⟩ := rl2 hr
    split at hp
    · rename_i hf
      rw [Bool.and_eq_true] at hf
      obtain rfl := Option.some.inj hp
      obtain ⟨p1, p2⟩ := toP_plain a 40 hf.1
      obtain ⟨p3, p4⟩ := toP_plain b 40 hf.2
      refine ⟨_, _, rfl, _, _, h1.dp hS a 40 hf.1, h2.dp hS b 40 hf.2, p1, p3, by omega, scal k ⟨?_, rfl⟩⟩
      rw [Bool.true_xor, eqv_toP a b 40 40 hf.1 hf.2]
    · cases hp
  · cases hp

/-! ### in, not in -/
def rInP (K : PySem.W.Frag) (neg : Bool) : R2 := fun x y H Q => ∃ d ds, Dp K H x d ∧ (Dp K H y (.list ds) ∨ Dp K H y (.tuple ds)) ∧ d.plain = true ∧ PyData.plainAll ds = true ∧ d.depth ≤ 60 ∧ Q (.bl (neg ^^ ds.any fun z => PyData.eqv z d)) H
theorem op_inP (hu : X.A.units + 64 < cLine) : OpR X (compareOp .In) (rInP X.K false) := by
  intro pins s σ H x y v u Q I rx ry h
  obtain ⟨d, e, hd, he, sd, se, dp, q⟩ := h
  obtain ⟨as, r1⟩ := Dp.reads I d x v hd rx
  have hm := Nat.min_le_right (PyData.depthAll e) d.depth
  rw [Bool.false_xor] at q
  rcases he with he | he
  · obtain ⟨bs, r2⟩ := Dp.reads I _ y u he ry
    exact SeqAt.in_list_data r2 r1 se sd (by omega) ⟨.bl _, H, I, rfl, q⟩
  · obtain ⟨bs, r2⟩ := Dp.reads I _ y u he ry
    exact SeqAt.in_tuple_data r2 r1 se sd (by omega) ⟨.bl _, H, I, rfl, q⟩
theorem op_notInP (hu : X.A.units + 64 < cLine) : OpR X (compareOp .NotIn) (rInP X.K true) := by
  intro pins s σ H x y v u Q I rx ry h
  obtain ⟨d, e, hd, he, sd, se, dp, q⟩ := h
  obtain ⟨as, r1⟩ := Dp.reads I d x v hd rx
  have hm := Nat.min_le_right (PyData.depthAll e) d.depth
  rw [Bool.true_xor] at q
  rcases he with he | he
  · obtain ⟨bs, r2⟩ := Dp.reads I _ y u he ry
    exact SeqAt.notIn_list_data r2 r1 se sd (by omega) ⟨.bl _, H, I, rfl, q⟩
  · obtain ⟨bs, r2⟩ := Dp.reads I _ y u he ry
    exact SeqAt.notIn_tuple_data r2 r1 se sd (by omega) ⟨.bl _, H, I, rfl, q⟩
theorem any_toP : ∀ (ys : List D) (x : D) (n m : Nat), nds n ys = true → nd m x = true → ((toPs ys).any fun z => PyData.eqv z (toP x)) = hasK x ys
  | [], _, _, _, _, _ => rfl
  | y :: ys, x, n, m, p, q => by
    have p : (nd n y && nds n ys) = true := p
    rw [Bool.and_eq_true] at p
    show (PyData.eqv (toP y) (toP x) || (toPs ys).any fun z => PyData.eqv z (toP x)) = (eqD y x || hasK x ys)
    rw [eqv_toP y x n m p.1 q, any_toP ys x n m p.2 q]
end
end PL
set_option Elab.async false
set_option linter.all false
set_option maxRecDepth 100000
/-! PL, part 7: order, places, slices, displays. -/
namespace PL
open PySem PySem.Spec L2
open PyProof.Rows hiding St
section
variable {X : Cx} {R : Rc}
theorem ltS_iff : ∀ (a b : List Nat), ltS a b = true ↔ a < b
  | [], [] => by simp [ltS]
  | [], _ :: _ => by simp [ltS]
  | _ :: _, [] => by simp [ltS]
  | x :: r, y :: s => by
    rw [List.cons_lt_cons_iff]
    unfold ltS
    by_cases h : x = y
    · rw [if_pos h, ltS_iff r s]
      subst h
      simp
    · rw [if_neg h, decide_eq_true_eq]
      simp [h]
theorem ltS_dec (a b : List Nat) : decide (a < b) = ltS a b := by
  cases h : ltS a b with
  | true => exact decide_eq_true ((ltS_iff a b).mp h)
  | false => exact decide_eq_false fun q => by rw [(ltS_iff a b).mpr q] at h; cases h
def rOrd (fi : Int → Int → Bool) (fs : List Nat → List Nat → Bool) : R2 := fun x y H Q => (∃ i j, x = .int i ∧ y = .int j ∧ Q (.bl (fi i j)) H) ∨ ∃ i j, x = .str i ∧ y = .str j ∧ Q (.bl (fs i.cps.toList j.cps.toList)) H
theorem or_lt : OpR X (compareOp .Lt) (rOrd (fun i j => decide (i < j)) fun a b => decide (a < b)) := op_lt.or op_lt_str
theorem or_gt : OpR X (compareOp .Gt) (rOrd (fun i j => decide (j < i)) fun a b => decide (b < a)) := op_gt.or op_gt_str
theorem or_le : OpR X (compareOp .LtE) (rOrd (fun i j => decide (i ≤ j)) fun a b => !decide (b < a)) := op_le.or op_le_str
theorem or_ge : OpR X (compareOp .GtE) (rOrd (fun i j => decide (j ≤ i)) fun a b => !decide (a < b)) := op_ge.or op_ge_str
theorem ok_lt : POk R .lt (r2 (rOrd (fun i j => decide (i < j)) fun a b => decide (a < b))) := by
  intro par S H ds vs cr d Q hS hr hp k
  change p_lt ds = some d at hp
  unfold p_lt at hp
  split at hp
  · obtain ⟨x, y, c1, c2, rfl, ⟨rfl, rfl⟩, ⟨rfl, rfl⟩, rfl⟩ := rl2 hr
    obtain rfl := Option.some.inj hp
    exact ⟨_, _, rfl, .inl ⟨_, _, rfl, rfl, scal k ⟨rfl, rfl⟩⟩⟩
  · obtain ⟨x, y, c1, c2, rfl, ⟨rfl, rfl⟩, ⟨rfl, rfl⟩, rfl⟩ := rl2 hr
    obtain rfl := Option.some.inj hp
    exact ⟨_, _, rfl, .inr ⟨_, _, rfl, rfl, scal k ⟨by rw [ofS, ofS, ← ltS_dec], rfl⟩⟩⟩
  · cases hp
theorem ok_gt : POk R .gt (r2 (rOrd (fun i j => decide (j < i)) fun a b => decide (b < a))) := by
  intro par S H ds vs cr d Q hS hr hp k
  change p_gt ds = some d at hp
  unfold p_gt at hp
  split at hp
  · obtain ⟨x, y, c1, c2, rfl, ⟨rfl, rfl⟩, ⟨rfl, rfl⟩, rfl⟩ := rl2 hr
    obtain rfl := Option.some.inj hp
    exact ⟨_, _, rfl, .inl ⟨_, _, rfl, rfl, scal k ⟨rfl, rfl⟩⟩⟩
  · obtain ⟨x, y, c1, c2, rfl, ⟨rfl, rfl⟩, ⟨rfl, rfl⟩, rfl⟩ := rl2 hr
    obtain rfl := Option.some.inj hp
    exact ⟨_, _, rfl, .inr ⟨_, _, rfl, rfl, scal k ⟨by rw [ofS, ofS, ← ltS_dec], rfl⟩⟩⟩
  · cases hp
theorem ok_le : POk R .le (r2 (rOrd (fun i j => decide (i ≤ j)) fun a b => !decide (b < a))) := by
  intro par S H ds vs cr d Q hS hr hp k
  change p_le ds = some d at hp
  unfold p_le at hp
  split at hp
  · obtain ⟨x, y, c1, c2, rfl, ⟨rfl, rfl⟩, ⟨rfl, rfl⟩, rfl⟩ := rl2 hr
    obtain rfl := Option.some.inj hp
    exact ⟨_, _, rfl, .inl ⟨_, _, rfl, rfl, scal k ⟨rfl, rfl⟩⟩⟩
  · obtain ⟨x, y, c1, c2, rfl, ⟨rfl, rfl⟩, ⟨rfl, rfl⟩, rfl⟩ := rl2 hr
    obtain rfl := Option.some.inj hp
    exact ⟨_, _, rfl, .inr ⟨_, _, rfl, rfl, scal k ⟨by rw [ofS, ofS, ← ltS_dec], rfl⟩⟩⟩
  · cases hp
theorem ok_ge : POk R .ge (r2 (rOrd (fun i j => decide (j ≤ i)) fun a b => !decide (a < b))) := by
  intro par S H ds vs cr d Q hS hr hp k
  change p_ge ds = some d at hp
  unfold p_ge at hp
  split at hp
  · obtain ⟨x, y, c1, c2, rfl, ⟨rfl, rfl⟩, ⟨rfl, rfl⟩, rfl⟩ := rl2 hr
    obtain rfl := Option.some.inj hp
    exact ⟨_, _, rfl, .inl ⟨_, _, rfl, rfl, scal k ⟨rfl, rfl⟩⟩⟩
  · obtain ⟨x, y, c1, c2, rfl, ⟨rfl, rfl⟩, ⟨rfl, rfl⟩, rfl⟩ := rl2 hr
    obtain rfl := Option.some.inj hp
    exact ⟨_, _, rfl, .inr ⟨_, _, rfl, rfl, scal k ⟨by rw [ofS, ofS, ← ltS_dec], rfl⟩⟩⟩
  · cases hp

/-! ### in -/
def rInAll (K : PySem.W.Frag) (neg : Bool) : R2 := fun x y H Q => rInP K neg x y H Q ∨ ∃ (c : Nat) (z : Str), x = .str ⟨#[c]⟩ ∧ y = .str z ∧ Q (.bl (neg ^^ decide (c ∈ z.cps.toList))) H
theorem or_in (hu : X.A.units + 64 < cLine) : OpR X (compareOp .In) (rInAll X.K false) := (op_inP hu).or fun pins s σ H x y v u Q I rx ry ⟨c, z, e1, e2, q⟩ => op_in_sign pins s σ H x y v u Q I rx ry ⟨c, z, e1, e2, by rw [Bool.false_xor] at q; exact q⟩
theorem or_notIn (hu : X.A.units + 64 < cLine) : OpR X (compareOp .NotIn) (rInAll X.K true) := (op_notInP hu).or fun pins s σ H x y v u Q I rx ry ⟨c, z, e1, e2, q⟩ => op_notIn_sign pins s σ H x y v u Q I rx ry ⟨c, z, e1, e2, by rw [Bool.true_xor] at q; exact q⟩
theorem ok_isIn : POk R .isIn (r2 (rInAll R.K false)) := by
  intro par S H ds vs cr d Q hS hr hp k
  change p_isIn ds = some d at hp
  unfold p_isIn at hp
  split at hp
  · rename_i a o ys
    obtain ⟨x, y, c1, c2, rfl, h1, h2, rfl⟩ := rl2 hr
    split at hp
    · rename_i hf
      rw [Bool.and_eq_true] at hf
      obtain rfl := Option.some.inj hp
      obtain ⟨p1, p2⟩ := toP_plain a 40 hf.1
      obtain ⟨p3, p4⟩ := toPs_plain ys 40 hf.2
      have q2 : nd 41 (.lst o ys) = true := by show (41 != 0 && nds 40 ys) = true; rw [hf.2]; rfl
      refine ⟨_, _, rfl, .inl ⟨_, _, h1.dp hS a 40 hf.1, .inl (h2.dp hS (.lst o ys) 41 q2), p1, p3, by omega, scal k ⟨?_, rfl⟩⟩⟩
      rw [Bool.false_xor, any_toP ys a 40 40 hf.2 hf.1]
    · cases hp
  · rename_i a ys
    obtain ⟨x, y, c1, c2, rfl, h1, h2, rfl⟩ := rl2 hr
    split at hp
    · rename_i hf
      rw [Bool.and_eq_true] at hf
      obtain rfl := Option.some.inj hp
      obtain ⟨p1, p2⟩ := toP_plain a 40 hf.1
      obtain ⟨p3, p4⟩ := toPs_plain ys 40 hf.2
      have q2 : nd 41 (.tup ys) = true := by show (41 != 0 && nds 40 ys) = true; rw [hf.2]; rfl
      refine ⟨_, _, rfl, .inl ⟨_, _, h1.dp hS a 40 hf.1, .inr (h2.dp hS (.tup ys) 41 q2), p1, p3, by omega, scal k ⟨?_, rfl⟩⟩⟩
      rw [Bool.false_xor, any_toP ys a 40 40 hf.2 hf.1]
    · cases hp
  · obtain ⟨x, y, c1, c2, rfl, ⟨rfl, rfl⟩, ⟨rfl, rfl⟩, rfl⟩ := rl2 hr
    obtain rfl := Option.some.inj hp
    exact ⟨_, _, rfl, .inr ⟨_, _, rfl, rfl, scal k ⟨by rw [Bool.false_xor, ofS], rfl⟩⟩⟩
  · cases hp
theorem ok_notIn : POk R .notIn (r2 (rInAll R.K true)) := by
  intro par S H ds vs cr d Q hS hr hp k
  change p_notIn ds = some d at hp
  unfold p_notIn at hp
  split at hp
  · rename_i a o ys
    obtain ⟨x, y, c1, c2, rfl, h1, h2, rfl⟩ := rl2 hr
    split at hp
    · rename_i hf
      rw [Bool.and_eq_true] at hf
      obtain rfl := Option.some.inj hp
      obtain ⟨p1, p2⟩ := toP_plain a 40 hf.1
      obtain ⟨p3, p4⟩ := toPs_plain ys 40 hf.2
      have q2 : nd 41 (.lst o ys) = true := by show (41 != 0 && nds 40 ys) = true; rw [hf.2]; rfl
      refine ⟨_, _, rfl, .inl ⟨_, _, h1.dp hS a 40 hf.1, .inl (h2.dp hS (.lst o ys) 41 q2), p1, p3, by omega, scal k ⟨?_, rfl⟩⟩⟩
      rw [Bool.true_xor, any_toP ys a 40 40 hf.2 hf.1]
    · cases hp
  · rename_i a ys
    obtain ⟨x, y, c1, c2, rfl, h1, h2, rfl⟩ := rl2 hr
    split at hp
    · rename_i hf
      rw [Bool.and_eq_true] at hf
      obtain rfl := Option.some.inj hp
      obtain ⟨p1, p2⟩ := toP_plain a 40 hf.1
      obtain ⟨p3, p4⟩ := toPs_plain ys 40 hf.2
      have q2 : nd 41 (.tup ys) = true := by show (41 != 0 && nds 40 ys) = true; rw [hf.2]; rfl
      refine ⟨_, _, rfl, .inl ⟨_, _, h1.dp hS a 40 hf.1, .inr (h2.dp hS (.tup ys) 41 q2), p1, p3, by omega, scal k ⟨?_, rfl⟩⟩⟩
      rw [Bool.true_xor, any_toP ys a 40 40 hf.2 hf.1]
    · cases hp
  · obtain ⟨x, y, c1, c2, rfl, ⟨rfl, rfl⟩, ⟨rfl, rfl⟩, rfl⟩ := rl2 hr
    obtain rfl := Option.some.inj hp
    exact ⟨_, _, rfl, .inr ⟨_, _, rfl, rfl, scal k ⟨by rw [Bool.true_xor, ofS], rfl⟩⟩⟩
  · cases hp

/-! ### places -/
theorem ixN_eq (n : Nat) (i : Int) : L2.ixN n i = PL.ixN n i := rfl
theorem atI_of {α : Type} {xs : List α} {i : Int} {j : Nat} {v : α} (h : PL.ixN xs.length i = some j) (e : xs[j]? = some v) : L2.atI xs i = some v := by
  unfold L2.atI
  rw [ixN_eq, h]
  exact e
theorem ok_ix : POk R .ix (r2 (rIx R.K)) := by
  intro par S H ds vs cr d Q hS hr hp k
  change p_ix ds = some d at hp
  unfold p_ix at hp
  split at hp
  · rename_i o xs i
    obtain ⟨x, y, c1, c2, rfl, h1, ⟨rfl, rfl⟩, rfl⟩ := rl2 hr
    obtain ⟨j, e1, e2⟩ := Option.bind_eq_some_iff.mp hp
    obtain ⟨a, ws, c', rfl, sq, _, l, le, no⟩ := h1.lst hS
    obtain ⟨v, k1, k2, e3, rv, rfl, _⟩ := l.take1 e2
    refine ⟨_, _, rfl, .inl ⟨a, ws, i, v, rfl, rfl, sq, atI_of (by rw [← l.length]; exact e1) e3, k H v k1 .refl rv (.of (fun a => ?_) fun a e => ?_)⟩⟩
    · have := le a; rw [pl_at] at this ⊢; omega
    · rw [pl_at, no a e]; rfl
  · rename_i xs i
    obtain ⟨x, y, c1, c2, rfl, h1, ⟨rfl, rfl⟩, rfl⟩ := rl2 hr
    obtain ⟨j, e1, e2⟩ := Option.bind_eq_some_iff.mp hp
    obtain ⟨a, ws, rfl, sq, l⟩ := h1
    have no := l.noC
    obtain ⟨v, k1, k2, e3, rv, rfl, _⟩ := l.take1 e2
    refine ⟨_, _, rfl, .inr (.inl ⟨a, ws, i, v, rfl, rfl, sq, atI_of (by rw [← l.length]; exact e1) e3, k H v k1 .refl rv (.of (fun a => ?_) fun a e => ?_)⟩)⟩
    · rw [pl_at, pl_at]; omega
    · rw [pl_at, no a e]; rfl
  · rename_i s i
    obtain ⟨x, y, c1, c2, rfl, ⟨rfl, rfl⟩, ⟨rfl, rfl⟩, rfl⟩ := rl2 hr
    split at hp
    · rename_i hf
      obtain ⟨j, e1, e2⟩ := Option.bind_eq_some_iff.mp hp
      obtain ⟨c, e3, rfl⟩ := Option.map_eq_some_iff.mp e2
      refine ⟨_, _, rfl, .inr (.inr ⟨mkS s, i, c, rfl, rfl, by rw [lenS]; exact fits_le hf, ?_, scal k ⟨rfl, rfl⟩⟩)⟩
      rw [ofS]
      exact atI_of e1 e3
    · cases hp
  · cases hp

/-! ### displays -/
theorem ok_mkLst : POk R .mkLst (fun vs H Q => vs.length ≤ sizeLine ∧ ∀ p, H p = none → Q (.ref p) (upd H p (.lst vs))) := by
  intro par S H ds vs cr d Q hS hr hp k
  change (if fits ds.length = true then some (D.lst Fg.own ds) else none) = some d at hp
  split at hp
  · rename_i hf
    obtain rfl := Option.some.inj hp
    exact ⟨by rw [← hr.length]; exact fits_le hf, fun p np => k _ _ _ (.upd np) (mk_lst hr np) (.new np (fun _ => Nat.le_refl _) hr.noC)⟩
  · cases hp
theorem ok_mkTup : POk R .mkTup (fun vs H Q => vs.length ≤ sizeLine ∧ ∀ p, H p = none → Q (.ref p) (upd H p (.tup vs))) := by
  intro par S H ds vs cr d Q hS hr hp k
  change (if fits ds.length = true then some (D.tup ds) else none) = some d at hp
  split at hp
  · rename_i hf
    obtain rfl := Option.some.inj hp
    exact ⟨by rw [← hr.length]; exact fits_le hf, fun p np => k _ _ _ (.upd np) (mk_tup hr np) (.of (fun _ => Nat.le_refl _) hr.noC)⟩
  · cases hp

/-! ### slices -/
def bndV : Bool → V → Option (Option Int)
  | false, _ => some none
  | true, .int i => some (some i)
  | _, _ => none
theorem bnd_of {S H : Hp} {b : Bool} {d : D} {v : V} {c : Cn} {o : Option Int} (h : Rep R S H d v c) (e : bound? b d = some o) : bndV b v = some o ∧ (b = true → c = z0) := by
  cases b with
  | false =>
    cases e
    exact ⟨rfl, fun z => nomatch z⟩
  | true =>
    cases d <;> first | (cases e; done) | skip
    rename_i i
    obtain ⟨rfl, rfl⟩ := h
    exact ⟨e, fun _ => rfl⟩
theorem RepL.cutL {S H : Hp} {xs : List D} {vs : List V} {c : Cn} (h : RepL R S H xs vs c) (lo hi : Option Int) : ∃ c', RepL R S H (cut xs lo hi) (L2.cutV vs lo hi) c' ∧ ∀ a, c' a ≤ c a := by
  have e : L2.cutV vs lo hi = (vs.drop (clip vs.length 0 lo)).take (clip vs.length vs.length hi - clip vs.length 0 lo) := rfl
  rw [e, ← h.length]
  obtain ⟨c1, c2, _, h2, rfl⟩ := h.drop (clip xs.length 0 lo)
  obtain ⟨k1, k2, h3, _, rfl⟩ := h2.drop (clip xs.length xs.length hi - clip xs.length 0 lo)
  exact ⟨k1, h3, fun a => by rw [pl_at, pl_at]; omega⟩
/-- the whole of a slice's rule -/
def rSlAll (K : PySem.W.Frag) : V → Option Int → Option Int → Hp → VK → Prop := fun x lo hi H Q => rSlL K x lo hi H Q ∨ rSlA K x lo hi H Q ∨ rSlS x lo hi H Q
theorem sl_all : SlR X (rSlAll X.K) := sl_list.or (sl_tupA.or sl_str)
theorem ok_sl (l h : Bool) : POk R (.sl l h) (fun vs H Q => ∃ x y z lo hi, vs = [x, y, z] ∧ bndV l y = some lo ∧ bndV h z = some hi ∧ rSlAll R.K x lo hi H Q) := by
  intro par S H ds vs cr d Q hS hr hp k
  change p_sl l h ds = some d at hp
  unfold p_sl at hp
  split at hp
  · rename_i o xs a b
    obtain ⟨x, y, z, c1, c2, c3, rfl, h1, h2, h3, rfl⟩ := rl3 hr
    obtain ⟨lo, e1, e2⟩ := Option.bind_eq_some_iff.mp hp
    obtain ⟨hi, e3, rfl⟩ := Option.map_eq_some_iff.mp e2
    obtain ⟨a, ws, c', rfl, sq, _, rl, le, no⟩ := h1.lst hS
    obtain ⟨c'', r2, le2⟩ := rl.cutL lo hi
    refine ⟨_, y, z, lo, hi, rfl, (bnd_of h2 e1).1, (bnd_of h3 e3).1, .inl ⟨a, ws, rfl, sq, fun p np => k _ _ _ (.upd np) (mk_lst r2 np) (.new np (fun a => ?_) fun a e => ?_)⟩⟩
    · have := le a; have := le2 a; rw [pl_at]; omega
    · rw [pl_at, pl_at, no a e, h2.noC a e, h3.noC a e]
  · rename_i xs a b
    obtain ⟨x, y, z, c1, c2, c3, rfl, h1, h2, h3, rfl⟩ := rl3 hr
    obtain ⟨lo, e1, e2⟩ := Option.bind_eq_some_iff.mp hp
    obtain ⟨hi, e3, rfl⟩ := Option.map_eq_some_iff.mp e2
    obtain ⟨a, ws, rfl, sq, rl⟩ := h1
    have no := rl.noC
    obtain ⟨c'', r2, le2⟩ := rl.cutL lo hi
    have nn : ∀ a, H a = none → pl c1 (pl c2 c3) a = 0 := fun a e => by rw [pl_at, pl_at, no a e, h2.noC a e, h3.noC a e]
    have le3 : ∀ a, c'' a ≤ pl c1 (pl c2 c3) a := fun a => by have := le2 a; rw [pl_at]; omega
    refine ⟨_, y, z, lo, hi, rfl, (bnd_of h2 e1).1, (bnd_of h3 e3).1, .inr (.inl ⟨a, ws, rfl, sq, fun q => ?_, fun _ p np => k _ _ _ (.upd np) (mk_tup r2 np) (.of le3 nn)⟩)⟩
    have e : L2.cutV ws lo hi = ws := by
      show (ws.drop (HT.sIx ws.length 0 lo)).take (HT.sIx ws.length ws.length hi - HT.sIx ws.length 0 lo) = ws
      rw [q.1, q.2, List.drop_zero, Nat.sub_zero, List.take_length]
    rw [e] at r2
    exact k H _ c'' .refl ⟨a, ws, rfl, sq, r2⟩ (.of le3 nn)
  · rename_i s a b
    obtain ⟨x, y, z, c1, c2, c3, rfl, ⟨rfl, rfl⟩, h2, h3, rfl⟩ := rl3 hr
    split at hp
    · rename_i hf
      obtain ⟨lo, e1, e2⟩ := Option.bind_eq_some_iff.mp hp
      obtain ⟨hi, e3, rfl⟩ := Option.map_eq_some_iff.mp e2
      refine ⟨_, y, z, lo, hi, rfl, (bnd_of h2 e1).1, (bnd_of h3 e3).1, .inr (.inr ⟨mkS s, rfl, by rw [lenS]; exact fits_le hf, scal k ⟨?_, rfl⟩⟩)⟩
      rfl
    · cases hp
  · cases hp
end
end PL
set_option Elab.async false
set_option linter.all false
set_option maxRecDepth 100000
/-! PL, part 8: built-in functions. -/
namespace PL
open PySem PySem.Spec L2
open PyProof.Rows hiding St
abbrev RC := List V → Hp → VK → Prop
section
variable {X : Cx} {T : Tags} {C : Ctx} {W : WX} {x : Str} {e : Expr} {es : List Expr} {a : E} {as : List E} {p pos : Pos} {id TT : String} {r : RC} {q : P}
/-- f(e, ..) of a built-in function, of a built-in type -/
theorem pe_cb (hc : CallR X (.builtin id) r) (ok : POk (rc X T) q r) (hg : Gl X x) (hm : X.mg x = none) (hv : bootBuiltins x = some (.builtin id)) (ha : PA X (e :: es) (tVs (rc X T) C W as)) (hn : x ≠ "__name__") (hdb : (x == ("__debug__" : Str)) = false)
    (he : starEach (e :: es) X.env = (false, eval e X.env) :: starEach es X.env) (hpl : (backTo pos (starEach es X.env)).any (·.1) = false) : PE X (.Call (.Name x p) (e :: es) [] pos) (tV (rc X T) C W (.pr q as)) :=
  pe_imp (pe_callB hc hg hm hv ha hn hdb he hpl) fun σ H Q h => tV_pr ok h
theorem pe_ct (hc : CallR X (.type TT) r) (ok : POk (rc X T) q r) (hg : Gl X x) (hm : X.mg x = none) (hv : bootBuiltins x = some (.type TT)) (ha : PA X (e :: es) (tVs (rc X T) C W as)) (hn : x ≠ "__name__") (hdb : (x == ("__debug__" : Str)) = false)
    (he : starEach (e :: es) X.env = (false, eval e X.env) :: starEach es X.env) (hpl : (backTo pos (starEach es X.env)).any (·.1) = false) : PE X (.Call (.Name x p) (e :: es) [] pos) (tV (rc X T) C W (.pr q as)) :=
  pe_imp (pe_callTy hc hg hm hv ha hn hdb he hpl) fun σ H Q h => tV_pr ok h
end
section
variable {X : Cx} {R : Rc}
/-! ### len -/
def rLenA (K : PySem.W.Frag) : RC := fun xs H Q => (∃ p ys, xs = [.ref p] ∧ (SqL K H p ys ∨ SqT K H p ys) ∧ Q (.int ys.length) H) ∨ ∃ z, xs = [.str z] ∧ z.length ≤ sizeLine ∧ Q (.int z.length) H
theorem cr_len : CallR X (.builtin "len") (rLenA X.K) := call_len_seq.or call_len_str
theorem ok_len : POk R .len (rLenA R.K) := by
  intro par S H ds vs cr d Q hS hr hp k
  change p_len ds = some d at hp
  unfold p_len at hp
  split at hp
  · obtain ⟨x, rfl, h1⟩ := rl1 hr
    obtain rfl := Option.some.inj hp
    obtain ⟨a, ws, c', rfl, sq, _, l, _⟩ := h1.lst hS
    exact .inl ⟨a, ws, rfl, .inl sq, scal k ⟨by rw [l.length], rfl⟩⟩
  · obtain ⟨x, rfl, h1⟩ := rl1 hr
    obtain rfl := Option.some.inj hp
    obtain ⟨a, ws, rfl, sq, l⟩ := h1
    exact .inl ⟨a, ws, rfl, .inr sq, scal k ⟨by rw [l.length], rfl⟩⟩
  · obtain ⟨x, rfl, ⟨rfl, rfl⟩⟩ := rl1 hr
    split at hp
    · rename_i hf
      obtain rfl := Option.some.inj hp
      exact .inr ⟨_, rfl, by rw [lenS]; exact fits_le hf, scal k ⟨by rw [lenS], rfl⟩⟩
    · cases hp
  · cases hp

/-! ### ints and truth values in lists -/
theorem ints_of {S H : Hp} : ∀ {xs : List D} {vs : List V} {c : Cn} {n : Int}, RepL R S H xs vs c → sumI xs = some n → ∃ ns : List Int, vs = ns.map V.int ∧ ns.sum = n ∧ xs = ns.map D.int
  | [], vs, _, n, h, e => by
    obtain ⟨rfl, _⟩ := rl0 h
    exact ⟨[], rfl, by simpa [sumI] using e, rfl⟩
  | .int i :: xs, [], _, _, h, _ => h.elim
  | .int i :: xs, v :: vs, _, n, h, e => by
    obtain ⟨_, _, ⟨rfl, _⟩, h2, _⟩ := h
    obtain ⟨m, e1, rfl⟩ := Option.map_eq_some_iff.mp (show (sumI xs).map (i + ·) = some n from e)
    obtain ⟨ns, rfl, rfl, rfl⟩ := ints_of h2 e1
    exact ⟨i :: ns, rfl, by rw [List.sum_cons], rfl⟩
  | .bl _ :: _, _, _, _, _, e => by cases e
  | .non :: _, _, _, _, _, e => by cases e
  | .str _ :: _, _, _, _, _, e => by cases e
  | .lst _ _ :: _, _, _, _, _, e => by cases e
  | .tup _ :: _, _, _, _, _, e => by cases e
  | .dct _ _ :: _, _, _, _, _, e => by cases e
  | .fn _ :: _, _, _, _, _, e => by cases e
  | .exn _ _ :: _, _, _, _, _, e => by cases e
theorem ok_sum : POk R .sum (rSum R.K) := by
  intro par S H ds vs cr d Q hS hr hp k
  change p_sum ds = some d at hp
  unfold p_sum at hp
  split at hp
  · obtain ⟨x, rfl, h1⟩ := rl1 hr
    obtain ⟨n, e, rfl⟩ := Option.map_eq_some_iff.mp hp
    obtain ⟨a, ws, c', rfl, sq, _, l, _⟩ := h1.lst hS
    obtain ⟨ns, rfl, rfl, _⟩ := ints_of l e
    exact ⟨a, ns, rfl, sq, scal k ⟨rfl, rfl⟩⟩
  · cases hp
theorem bls_of {S H : Hp} : ∀ {xs : List D} {vs : List V} {c : Cn} {b : Bool}, RepL R S H xs vs c → allB xs = some b → ∃ bs : List Bool, vs = bs.map V.bl ∧ bs.all id = b
  | [], vs, _, n, h, e => by
    obtain ⟨rfl, _⟩ := rl0 h
    exact ⟨[], rfl, by simpa [allB] using e⟩
  | .bl i :: xs, [], _, _, h, _ => h.elim
  | .bl i :: xs, v :: vs, _, n, h, e => by
    obtain ⟨_, _, ⟨rfl, _⟩, h2, _⟩ := h
    obtain ⟨m, e1, rfl⟩ := Option.map_eq_some_iff.mp (show (allB xs).map (i && ·) = some n from e)
    obtain ⟨ns, rfl, rfl⟩ := bls_of h2 e1
    exact ⟨i :: ns, rfl, rfl⟩
  | .int _ :: _, _, _, _, _, e => by cases e
  | .non :: _, _, _, _, _, e => by cases e
  | .str _ :: _, _, _, _, _, e => by cases e
  | .lst _ _ :: _, _, _, _, _, e => by cases e
  | .tup _ :: _, _, _, _, _, e => by cases e
  | .dct _ _ :: _, _, _, _, _, e => by cases e
  | .fn _ :: _, _, _, _, _, e => by cases e
  | .exn _ _ :: _, _, _, _, _, e => by cases e
theorem bls_any {S H : Hp} : ∀ {xs : List D} {vs : List V} {c : Cn} {b : Bool}, RepL R S H xs vs c → anyB xs = some b → ∃ bs : List Bool, vs = bs.map V.bl ∧ bs.any id = b
  | [], vs, _, n, h, e => by
    obtain ⟨rfl, _⟩ := rl0 h
    exact ⟨[], rfl, by simpa [anyB] using e⟩
  | .bl i :: xs, [], _, _, h, _ => h.elim
  | .bl i :: xs, v :: vs, _, n, h, e => by
    obtain ⟨_, _, ⟨rfl, _⟩, h2, _⟩ := h
    obtain ⟨m, e1, rfl⟩ := Option.map_eq_some_iff.mp (show (anyB xs).map (i || ·) = some n from e)
    obtain ⟨ns, rfl, rfl⟩ := bls_any h2 e1
    exact ⟨i :: ns, rfl, rfl⟩
  | .int _ :: _, _, _, _, _, e => by cases e
  | .non :: _, _, _, _, _, e => by cases e
  | .str _ :: _, _, _, _, _, e => by cases e
  | .lst _ _ :: _, _, _, _, _, e => by cases e
  | .tup _ :: _, _, _, _, _, e => by cases e
  | .dct _ _ :: _, _, _, _, _, e => by cases e
  | .fn _ :: _, _, _, _, _, e => by cases e
  | .exn _ _ :: _, _, _, _, _, e => by cases e
theorem ok_all : POk R .all (rAll R.K) := by
  intro par S H ds vs cr d Q hS hr hp k
  change p_all ds = some d at hp
  unfold p_all at hp
  split at hp
  · obtain ⟨x, rfl, h1⟩ := rl1 hr
    obtain ⟨n, e, rfl⟩ := Option.map_eq_some_iff.mp hp
    obtain ⟨a, ws, c', rfl, sq, _, l, _⟩ := h1.lst hS
    obtain ⟨ns, rfl, rfl⟩ := bls_of l e
    exact ⟨a, ns, rfl, sq, scal k ⟨rfl, rfl⟩⟩
  · cases hp
theorem ok_any : POk R .any (rAny R.K) := by
  intro par S H ds vs cr d Q hS hr hp k
  change p_any ds = some d at hp
  unfold p_any at hp
  split at hp
  · obtain ⟨x, rfl, h1⟩ := rl1 hr
    obtain ⟨n, e, rfl⟩ := Option.map_eq_some_iff.mp hp
    obtain ⟨a, ws, c', rfl, sq, _, l, _⟩ := h1.lst hS
    obtain ⟨ns, rfl, rfl⟩ := bls_any l e
    exact ⟨a, ns, rfl, sq, scal k ⟨rfl, rfl⟩⟩
  · cases hp

/-! ### min, max of ints -/
theorem minI_of {S H : Hp} : ∀ {xs : List D} {vs : List V} {c : Cn} {m : Int} {d : D}, RepL R S H xs vs c → minI m xs = some d → ∃ (ns : List Int) (r : Int), vs = ns.map V.int ∧ d = .int r ∧ (r = m ∨ r ∈ ns) ∧ r ≤ m ∧ ∀ y ∈ ns, r ≤ y
  | [], vs, _, m, d, h, e => by
    obtain ⟨rfl, _⟩ := rl0 h
    exact ⟨[], m, rfl, (Option.some.inj e).symm, .inl rfl, Int.le_refl _, fun y h => by cases h⟩
  | .int i :: xs, [], _, _, _, h, _ => h.elim
  | .int i :: xs, v :: vs, _, m, d, h, e => by
    obtain ⟨_, _, ⟨rfl, _⟩, h2, _⟩ := h
    obtain ⟨ns, r, rfl, rfl, h3, h4, h5⟩ := minI_of h2 (show minI (if i < m then i else m) xs = some d from e)
    refine ⟨i :: ns, r, rfl, rfl, ?_, ?_, fun y hy => ?_⟩
    · rcases h3 with h3 | h3
      · split at h3
        · exact .inr (by rw [h3]; exact List.mem_cons_self)
        · exact .inl h3
      · exact .inr (List.mem_cons_of_mem _ h3)
    · split at h4 <;> omega
    · rcases List.mem_cons.mp hy with rfl | hy
      · split at h4 <;> omega
      · exact h5 y hy
  | .bl _ :: _, _, _, _, _, _, e => by cases e
  | .non :: _, _, _, _, _, _, e => by cases e
  | .str _ :: _, _, _, _, _, _, e => by cases e
  | .lst _ _ :: _, _, _, _, _, _, e => by cases e
  | .tup _ :: _, _, _, _, _, _, e => by cases e
  | .dct _ _ :: _, _, _, _, _, _, e => by cases e
  | .fn _ :: _, _, _, _, _, _, e => by cases e
  | .exn _ _ :: _, _, _, _, _, _, e => by cases e
theorem maxI_of {S H : Hp} : ∀ {xs : List D} {vs : List V} {c : Cn} {m : Int} {d : D}, RepL R S H xs vs c → maxI m xs = some d → ∃ (ns : List Int) (r : Int), vs = ns.map V.int ∧ d = .int r ∧ (r = m ∨ r ∈ ns) ∧ m ≤ r ∧ ∀ y ∈ ns, y ≤ r
  | [], vs, _, m, d, h, e => by
    obtain ⟨rfl, _⟩ := rl0 h
    exact ⟨[], m, rfl, (Option.some.inj e).symm, .inl rfl, Int.le_refl _, fun y h => by cases h⟩
  | .int i :: xs, [], _, _, _, h, _ => h.elim
  | .int i :: xs, v :: vs, _, m, d, h, e => by
    obtain ⟨_, _, ⟨rfl, _⟩, h2, _⟩ := h
    obtain ⟨ns, r, rfl, rfl, h3, h4, h5⟩ := maxI_of h2 (show maxI (if m < i then i else m) xs = some d from e)
    refine ⟨i :: ns, r, rfl, rfl, ?_, ?_, fun y hy => ?_⟩
    · rcases h3 with h3 | h3
      · split at h3
        · exact .inr (by rw [h3]; exact List.mem_cons_self)
        · exact .inl h3
      · exact .inr (List.mem_cons_of_mem _ h3)
    · split at h4 <;> omega
    · rcases List.mem_cons.mp hy with rfl | hy
      · split at h4 <;> omega
      · exact h5 y hy
  | .bl _ :: _, _, _, _, _, _, e => by cases e
  | .non :: _, _, _, _, _, _, e => by cases e
  | .str _ :: _, _, _, _, _, _, e => by cases e
  | .lst _ _ :: _, _, _, _, _, _, e => by cases e
  | .tup _ :: _, _, _, _, _, _, e => by cases e
  | .dct _ _ :: _, _, _, _, _, _, e => by cases e
  | .fn _ :: _, _, _, _, _, _, e => by cases e
  | .exn _ _ :: _, _, _, _, _, _, e => by cases e
theorem ok_minL : POk R .minL (rMin R.K) := by
  intro par S H ds vs cr d Q hS hr hp k
  change p_minL ds = some d at hp
  unfold p_minL at hp
  split at hp
  · rename_i o m xs
    obtain ⟨x, rfl, h1⟩ := rl1 hr
    obtain ⟨a, ws, c', rfl, sq, _, l, _⟩ := h1.lst hS
    cases ws with
    | nil => exact l.elim
    | cons w ws =>
      obtain ⟨_, _, ⟨rfl, _⟩, l2, _⟩ := l
      obtain ⟨ns, r, rfl, rfl, h3, h4, h5⟩ := minI_of l2 hp
      refine ⟨a, m :: ns, rfl, sq, Nat.succ_pos _, fun z hz hle => ?_⟩
      have e : z = r := by
        have h6 := hle r (by rcases h3 with rfl | h3; exact List.mem_cons_self; exact List.mem_cons_of_mem _ h3)
        rcases List.mem_cons.mp hz with rfl | hz
        · omega
        · have := h5 z hz; omega
      rw [e]
      exact scal k ⟨rfl, rfl⟩
  · cases hp
theorem ok_maxL : POk R .maxL (rMax R.K) := by
  intro par S H ds vs cr d Q hS hr hp k
  change p_maxL ds = some d at hp
  unfold p_maxL at hp
  split at hp
  · rename_i o m xs
    obtain ⟨x, rfl, h1⟩ := rl1 hr
    obtain ⟨a, ws, c', rfl, sq, _, l, _⟩ := h1.lst hS
    cases ws with
    | nil => exact l.elim
    | cons w ws =>
      obtain ⟨_, _, ⟨rfl, _⟩, l2, _⟩ := l
      obtain ⟨ns, r, rfl, rfl, h3, h4, h5⟩ := maxI_of l2 hp
      refine ⟨a, m :: ns, rfl, sq, Nat.succ_pos _, fun z hz hle => ?_⟩
      have e : z = r := by
        have h6 := hle r (by rcases h3 with rfl | h3; exact List.mem_cons_self; exact List.mem_cons_of_mem _ h3)
        rcases List.mem_cons.mp hz with rfl | hz
        · omega
        · have := h5 z hz; omega
      rw [e]
      exact scal k ⟨rfl, rfl⟩
  · cases hp
def rMin2 : RC := fun xs H Q => ∃ i j, xs = [.int i, .int j] ∧ Q (.int (if j < i then j else i)) H
def rMax2 : RC := fun xs H Q => ∃ i j, xs = [.int i, .int j] ∧ Q (.int (if j > i then j else i)) H
theorem ok_min : POk R .min rMin2 := by
  intro par S H ds vs cr d Q hS hr hp k
  change p_min ds = some d at hp
  unfold p_min at hp
  split at hp
  · obtain ⟨x, y, c1, c2, rfl, ⟨rfl, rfl⟩, ⟨rfl, rfl⟩, rfl⟩ := rl2 hr
    obtain rfl := Option.some.inj hp
    exact ⟨_, _, rfl, scal k ⟨rfl, rfl⟩⟩
  · cases hp
theorem ok_max : POk R .max rMax2 := by
  intro par S H ds vs cr d Q hS hr hp k
  change p_max ds = some d at hp
  unfold p_max at hp
  split at hp
  · obtain ⟨x, y, c1, c2, rfl, ⟨rfl, rfl⟩, ⟨rfl, rfl⟩, rfl⟩ := rl2 hr
    obtain rfl := Option.some.inj hp
    exact ⟨_, _, rfl, scal k ⟨rfl, rfl⟩⟩
  · cases hp
def rAbs : RC := fun xs H Q => ∃ i, xs = [.int i] ∧ Q (.int (if i < 0 then -i else i)) H
theorem ok_abs : POk R .abs rAbs := by
  intro par S H ds vs cr d Q hS hr hp k
  change p_abs ds = some d at hp
  unfold p_abs at hp
  split at hp
  · obtain ⟨x, rfl, ⟨rfl, rfl⟩⟩ := rl1 hr
    obtain rfl := Option.some.inj hp
    refine ⟨_, rfl, scal k ⟨?_, rfl⟩⟩
    congr 1
    split <;> omega
  · cases hp
end
end PL
set_option Elab.async false
set_option linter.all false
set_option maxRecDepth 100000
/-! PL, part 9: freezing, borrowing; and, or, not, if as expressions; tests. -/
namespace PL
open PySem PySem.Spec L2
open PyProof.Rows hiding St

/-! ### what owns is made common -/
mutual
theorem fz_key : ∀ d : D, keyable d = true → fz d = d
  | .non, _ => rfl | .bl _, _ => rfl | .int _, _ => rfl | .str _, _ => rfl
  | .tup xs, h => by
    show D.tup (fzs xs) = .tup xs
    rw [fzs_key xs h]
  | .lst _ _, h => by cases h
  | .dct _ _, h => by cases h
  | .fn _, h => by cases h
  | .exn _ _, h => by cases h
termination_by structural x => x
theorem fzs_key : ∀ ds : List D, keyables ds = true → fzs ds = ds
  | [], _ => rfl
  | d :: r, h => by
    have h : (keyable d && keyables r) = true := h
    rw [Bool.and_eq_true] at h
    show fz d :: fzs r = d :: r
    rw [fz_key d h.1, fzs_key r h.2]
termination_by structural x => x
end
section
variable {R : Rc} {S S2 H : Hp}
theorem RepP.keys : ∀ {es : List (D × D)} {vs : List (V × V)} {c : Cn}, RepP R S H es vs c → (fzp es).map (·.1) = es.map (·.1)
  | [], _, _, _ => rfl
  | (k, d) :: es, (x, v) :: vs, _, h => by
    obtain ⟨hk, _, _, _, _, h2, _⟩ := h
    show fz k :: (fzp es).map (·.1) = k :: es.map (·.1)
    rw [fz_key k hk, RepP.keys h2]
  | _ :: _, [], _, h => h.elim
mutual
theorem Rep.fz (hS : ∀ a o, S a = some o → S2 a = some o) : ∀ (d : D) {v : V} {c : Cn}, Rep R S H d v c → (∀ a o, c a ≠ 0 → H a = some o → S2 a = some o) → Rep R S2 H (fz d) v z0
  | .non, _, _, h, _ => ⟨h.1, rfl⟩
  | .bl _, _, _, h, _ => ⟨h.1, rfl⟩
  | .int _, _, _, h, _ => ⟨h.1, rfl⟩
  | .str _, _, _, h, _ => ⟨h.1, rfl⟩
  | .lst .own xs, _, _, h, hc => by
    obtain ⟨a, vs, c', e, hb, hl, rfl⟩ := h
    refine ⟨a, vs, e, .inl (hc a _ ?_ hb), fun z => absurd rfl z, RepL.fz hS xs hl fun b o n => hc b o ?_, rfl⟩
    · rw [pl_at, one_at, if_pos rfl]; omega
    · rw [pl_at]; omega
  | .lst (.sh t) xs, _, _, h, hc => by
    obtain ⟨a, vs, e, hb, ht, hl, rfl⟩ := h
    exact ⟨a, vs, e, hb.imp (hS _ _) (fun q => ⟨q.1, SqL.mono hS q.2⟩), ht, RepL.fz hS xs hl hc, rfl⟩
  | .tup xs, _, _, h, hc => by
    obtain ⟨a, vs, e, hb, hl⟩ := h
    exact ⟨a, vs, e, hb, RepL.fz hS xs hl hc⟩
  | .dct .own es, _, _, h, hc => by
    obtain ⟨a, vs, c', e, hb, hl, rfl⟩ := h
    refine ⟨a, vs, e, ?_, fun z => absurd rfl z, RepP.fz hS es hl fun b o n => hc b o ?_, rfl⟩
    · rw [RepP.keys hl]
      refine hc a _ ?_ hb
      rw [pl_at, one_at, if_pos rfl]; omega
    · rw [pl_at]; omega
  | .dct (.sh t) es, _, _, h, hc => by
    obtain ⟨a, vs, e, hb, ht, hl, rfl⟩ := h
    exact ⟨a, vs, e, by rw [RepP.keys hl]; exact hS _ _ hb, ht, RepP.fz hS es hl hc, rfl⟩
  | .fn _, _, _, h, _ => ⟨h.1, rfl⟩
  | .exn _ d, _, _, h, hc => by
    obtain ⟨a, dd, x, e, h1, h2, h3, rfl⟩ := h
    exact ⟨a, dd, x, e, hS _ _ h1, hS _ _ h2, Rep.fz hS d h3 hc, rfl⟩
termination_by structural x => x
theorem RepL.fz (hS : ∀ a o, S a = some o → S2 a = some o) : ∀ (ds : List D) {vs : List V} {c : Cn}, RepL R S H ds vs c → (∀ a o, c a ≠ 0 → H a = some o → S2 a = some o) → RepL R S2 H (fzs ds) vs z0
  | [], [], _, _, _ => rfl
  | d :: ds, v :: vs, _, h, hc => by
    obtain ⟨c1, c2, h1, h2, rfl⟩ := h
    exact ⟨z0, z0, Rep.fz hS d h1 fun a o n => hc a o (by rw [pl_at]; omega), RepL.fz hS ds h2 fun a o n => hc a o (by rw [pl_at]; omega), rfl⟩
  | [], _ :: _, _, h, _ => h.elim
  | _ :: _, [], _, h, _ => h.elim
termination_by structural x => x
theorem RepP.fz (hS : ∀ a o, S a = some o → S2 a = some o) : ∀ (ds : List (D × D)) {vs : List (V × V)} {c : Cn}, RepP R S H ds vs c → (∀ a o, c a ≠ 0 → H a = some o → S2 a = some o) → RepP R S2 H (fzp ds) vs z0
  | [], [], _, _, _ => rfl
  | (k, d) :: ds, (x, v) :: vs, _, h, hc => by
    obtain ⟨hk, h0, c1, c2, h1, h2, rfl⟩ := h
    have e := fz_key k hk
    exact ⟨by rw [e]; exact hk, Rep.fz hS k h0 fun a o n => absurd rfl n, z0, z0, Rep.fz hS d h1 fun a o n => hc a o (by rw [pl_at]; omega), RepP.fz hS ds h2 fun a o n => hc a o (by rw [pl_at]; omega), rfl⟩
  | [], _ :: _, _, h, _ => h.elim
  | _ :: _, [], _, h, _ => h.elim
termination_by structural x => x
end
/-! ### what is owned throughout leans on nothing common -/
mutual
theorem Rep.alone : ∀ (d : D) {v : V} {c : Cn}, Rep R S H d v c → nf d = true → Rep R S2 H d v c
  | .non, _, _, h, _ => h
  | .bl _, _, _, h, _ => h
  | .int _, _, _, h, _ => h
  | .str _, _, _, h, _ => h
  | .lst .own xs, _, _, h, p => by
    obtain ⟨a, vs, c', e, hb, hl, rfl⟩ := h
    exact ⟨a, vs, c', e, hb, RepL.alone xs hl p, rfl⟩
  | .lst (.sh _) _, _, _, _, p => by cases p
  | .tup xs, _, _, h, p => by
    obtain ⟨a, vs, e, hb, hl⟩ := h
    exact ⟨a, vs, e, hb, RepL.alone xs hl p⟩
  | .dct .own es, _, _, h, p => by
    obtain ⟨a, vs, c', e, hb, hl, rfl⟩ := h
    exact ⟨a, vs, c', e, hb, RepP.alone es hl p, rfl⟩
  | .dct (.sh _) _, _, _, _, p => by cases p
  | .fn _, _, _, h, _ => h
  | .exn _ _, _, _, _, p => by cases p
termination_by structural x => x
theorem RepL.alone : ∀ (ds : List D) {vs : List V} {c : Cn}, RepL R S H ds vs c → nfs ds = true → RepL R S2 H ds vs c
  | [], [], _, h, _ => h
  | d :: ds, v :: vs, _, h, p => by
    obtain ⟨c1, c2, h1, h2, rfl⟩ := h
    have p : (nf d && nfs ds) = true := p
    rw [Bool.and_eq_true] at p
    exact ⟨c1, c2, Rep.alone d h1 p.1, RepL.alone ds h2 p.2, rfl⟩
  | [], _ :: _, _, h, _ => h.elim
  | _ :: _, [], _, h, _ => h.elim
termination_by structural x => x
theorem RepP.alone : ∀ (ds : List (D × D)) {vs : List (V × V)} {c : Cn}, RepP R S H ds vs c → nfp ds = true → RepP R S2 H ds vs c
  | [], [], _, h, _ => h
  | (k, d) :: ds, (x, v) :: vs, _, h, p => by
    obtain ⟨hk, h0, c1, c2, h1, h2, rfl⟩ := h
    have p : ((nf k && nf d) && nfp ds) = true := p
    rw [Bool.and_eq_true, Bool.and_eq_true] at p
    exact ⟨hk, Rep.alone k h0 p.1.1, c1, c2, Rep.alone d h1 p.1.2, RepP.alone ds h2 p.2, rfl⟩
  | [], _ :: _, _, h, _ => h.elim
  | _ :: _, [], _, h, _ => h.elim
termination_by structural x => x
end
end

/-- what q counts goes to what is held in common -/
def give (q : Cn) (S H : Hp) : Hp := fun a => if q a = 0 then S a else H a
section
variable {R : Rc} {C : Ctx} {W : WX} {S S1 H H1 : Hp} {σ : St} {env env1 : Env} {c c1 f cr q : Cn} {Q Q' : VK} {e a b : E}
theorem give_sub (h : ∀ a, S a ≠ none → q a = 0) : ∀ a o, S a = some o → give q S H a = some o := fun a o e => by
  unfold give
  rw [if_pos (h a (by rw [e]; exact fun z => nomatch z))]; exact e
theorem occ_le (S : Hp) (a : Addr) : occ S a ≤ 1 := by unfold occ; split <;> omega
theorem occ_pos {S : Hp} {a : Addr} (h : S a ≠ none) : occ S a = 1 := by
  cases e : S a with
  | none => exact absurd e h
  | some o => exact occ_some e
/-- part of a frame is made common -/
theorem Good.give (G : Good R S H σ env c (pl q f)) : Good R (give q S H) H σ env c f ∧ (∀ a o, S a = some o → PL.give q S H a = some o) := by
  have hs : ∀ a, S a ≠ none → q a = 0 := fun a n => by
    have := G.dis a
    rw [pl_at, occ_pos n] at this; omega
  refine ⟨⟨G.env.mono (give_sub hs) (fun _ _ h _ => h) fun _ _ h _ => h, fun a o e => ?_, fun a => ?_, fun a n => G.fr a (by rw [pl_at]; omega)⟩, give_sub hs⟩
  · unfold PL.give at e
    split at e
    · exact G.sub a o e
    · exact e
  · have d := G.dis a
    rw [pl_at] at d
    by_cases z : q a = 0
    · have e : occ (PL.give q S H) a = occ S a := by unfold occ PL.give; rw [if_pos z]
      rw [e]; omega
    · have := occ_le (PL.give q S H) a
      omega
theorem tV_fz (h : tV R C W (.fz e) σ H Q) : tV R C W e σ H Q := by
  obtain ⟨S, env, c, f, G, h⟩ := h
  refine ⟨S, env, c, f, G, ?_⟩
  simp only [ev] at h
  cases x : ev C e env with
  | st => rw [x] at h; exact h
  | exc k dv env' => rw [x] at h; exact h
  | ok d env1 =>
    rw [x] at h
    intro S1 H1 c1 v cr E1 G1 r1
    have h : AfterV R W Q S H σ f (.ok (fz d) env1) := h
    obtain ⟨G2, s2⟩ := G1.give
    refine h (give cr S1 H1) H1 c1 v z0 (E1.trans0 (.more (fun _ _ h => h) s2)) (by rw [z_pl]; exact G2) (r1.fz s2 d fun a o n e => ?_)
    unfold PL.give
    rw [if_neg n]; exact e

/-! ### and, or, not, if -/
theorem tV_and (h : tV R C W (.and a b) σ H Q) : tAndV (tV R C W a) (tV R C W b) σ H Q := by
  obtain ⟨S, env, c, f, G, h⟩ := h
  refine ⟨S, env, c, f, G, ?_⟩
  simp only [ev] at h
  refine AfterV.bindV h fun d env1 S1 H1 c1 v cr hx E1 G1 r1 h => ?_
  cases d with
  | bl k =>
    obtain ⟨rfl, rfl⟩ := r1
    rw [z_pl] at G1
    refine ⟨k, rfl, ?_⟩
    cases k with
    | true => exact ⟨S1, env1, c1, f, G1, AfterV.on E1 h fun _ _ q => q⟩
    | false => exact h S1 H1 c1 _ z0 E1 (by rw [z_pl]; exact G1) ⟨rfl, rfl⟩
  | _ => exact h.elim
theorem tV_or (h : tV R C W (.or a b) σ H Q) : tOrV (tV R C W a) (tV R C W b) σ H Q := by
  obtain ⟨S, env, c, f, G, h⟩ := h
  refine ⟨S, env, c, f, G, ?_⟩
  simp only [ev] at h
  refine AfterV.bindV h fun d env1 S1 H1 c1 v cr hx E1 G1 r1 h => ?_
  cases d with
  | bl k =>
    obtain ⟨rfl, rfl⟩ := r1
    rw [z_pl] at G1
    refine ⟨k, rfl, ?_⟩
    cases k with
    | false => exact ⟨S1, env1, c1, f, G1, AfterV.on E1 h fun _ _ q => q⟩
    | true => exact h S1 H1 c1 _ z0 E1 (by rw [z_pl]; exact G1) ⟨rfl, rfl⟩
  | _ => exact h.elim
theorem tV_not (h : tV R C W (.not a) σ H Q) : tNotV (tV R C W a) σ H Q := by
  obtain ⟨S, env, c, f, G, h⟩ := h
  refine ⟨S, env, c, f, G, ?_⟩
  simp only [ev] at h
  refine AfterV.bindV h fun d env1 S1 H1 c1 v cr hx E1 G1 r1 h => ?_
  cases d with
  | bl k =>
    obtain ⟨rfl, rfl⟩ := r1
    rw [z_pl] at G1
    exact ⟨k, rfl, h S1 H1 c1 _ z0 E1 (by rw [z_pl]; exact G1) ⟨rfl, rfl⟩⟩
  | _ => exact h.elim
theorem tV_ite {t : E} (h : tV R C W (.ite t a b) σ H Q) : tIf (tT R C W t) (tV R C W a) (tV R C W b) σ H Q := by
  obtain ⟨S, env, c, f, G, h⟩ := h
  refine ⟨S, env, c, f, G, ?_⟩
  simp only [ev] at h
  refine AfterV.bindV h fun d env1 S1 H1 c1 v cr hx E1 G1 r1 h => ?_
  cases d with
  | bl k =>
    obtain ⟨rfl, rfl⟩ := r1
    rw [z_pl] at G1
    refine ⟨k, rfl, ?_⟩
    cases k with
    | false => exact ⟨S1, env1, c1, f, G1, AfterV.on E1 h fun _ _ q => q⟩
    | true => exact ⟨S1, env1, c1, f, G1, AfterV.on E1 h fun _ _ q => q⟩
  | _ => exact h.elim
/-! ### the same as tests -/
theorem tT_and (h : tT R C W (.and a b) σ H Q'') : tAnd (tT R C W a) (tT R C W b) σ H Q'' := by
  have h := tV_and h
  refine tV_mono h fun v H1 ⟨k, e, q⟩ => ⟨k, e, ?_⟩
  cases k with
  | true => exact q
  | false =>
    obtain ⟨b, e, q⟩ := q
    cases e; exact q
theorem tT_or (h : tT R C W (.or a b) σ H Q'') : tOr (tT R C W a) (tT R C W b) σ H Q'' := by
  have h := tV_or h
  refine tV_mono h fun v H1 ⟨k, e, q⟩ => ⟨k, e, ?_⟩
  cases k with
  | false => exact q
  | true =>
    obtain ⟨b, e, q⟩ := q
    cases e; exact q
theorem tT_not (h : tT R C W (.not a) σ H Q'') : tNot (tT R C W a) σ H Q'' := by
  have h := tV_not h
  refine tV_mono h fun v H1 ⟨k, e, q⟩ => ⟨k, e, ?_⟩
  obtain ⟨b, e, q⟩ := q
  cases e; exact q
end
section
variable {X : Cx} {T : Tags} {C : Ctx} {W : WX} {x y z : Expr} {xs rest : List Expr} {e a b t : E} {pos : Pos}
theorem pe_fz (h : PE X x (tV (rc X T) C W e)) : PE X x (tV (rc X T) C W (.fz e)) := pe_imp h fun _ _ _ q => tV_fz q
theorem pe_andV (ha : PE X x (tV (rc X T) C W a)) (hb : PE X (.BoolOp .And (y :: rest) pos) (tV (rc X T) C W b)) : PE X (.BoolOp .And (x :: y :: rest) pos) (tV (rc X T) C W (.and a b)) := pe_imp (pe_and ha hb) fun _ _ _ q => tV_and q
theorem pe_orV (ha : PE X x (tV (rc X T) C W a)) (hb : PE X (.BoolOp .Or (y :: rest) pos) (tV (rc X T) C W b)) : PE X (.BoolOp .Or (x :: y :: rest) pos) (tV (rc X T) C W (.or a b)) := pe_imp (pe_or ha hb) fun _ _ _ q => tV_or q
theorem pe_notV (ha : PE X x (tV (rc X T) C W a)) : PE X (.UnaryOp .Not x pos) (tV (rc X T) C W (.not a)) := pe_imp (pe_not ha) fun _ _ _ q => tV_not q
theorem pe_iteV (ht : PT X z (tT (rc X T) C W t)) (ha : PE X x (tV (rc X T) C W a)) (hb : PE X y (tV (rc X T) C W b)) : PE X (.IfExp z x y pos) (tV (rc X T) C W (.ite t a b)) := pe_imp (pe_ifExp ht ha hb) fun _ _ _ q => tV_ite q
/-- tests -/
theorem pt_v (h : PE X x (tV (rc X T) C W e)) (he : ∀ whole, isTrue x X.env whole = (do let v ← whole; standAt x.pos; holding [v] (truthy v)) := by intro _; rfl) : PT X x (tT (rc X T) C W e) := pt_val h he
theorem pw_and1V (h : PT X x (tT (rc X T) C W e)) : PW X (.BoolOp .And [x] pos) (tT (rc X T) C W e) := pw_and1 h
theorem pw_or1V (h : PT X x (tT (rc X T) C W e)) : PW X (.BoolOp .Or [x] pos) (tT (rc X T) C W e) := pw_or1 h
theorem pw_andV (ha : PT X x (tT (rc X T) C W a)) (hb : PW X (.BoolOp .And (y :: rest) pos) (tT (rc X T) C W b)) : PW X (.BoolOp .And (x :: y :: rest) pos) (tT (rc X T) C W (.and a b)) := pw_imp (pw_and ha hb) fun _ _ _ q => tT_and q
theorem pw_orV (ha : PT X x (tT (rc X T) C W a)) (hb : PW X (.BoolOp .Or (y :: rest) pos) (tT (rc X T) C W b)) : PW X (.BoolOp .Or (x :: y :: rest) pos) (tT (rc X T) C W (.or a b)) := pw_imp (pw_or ha hb) fun _ _ _ q => tT_or q
theorem pt_notV (ha : PT X x (tT (rc X T) C W a)) : PT X (.UnaryOp .Not x pos) (tT (rc X T) C W (.not a)) := pt_imp (pt_not ha) fun _ _ _ q => tT_not q
/-- a comparison as a test -/
theorem pt_cmpV {op : CmpOp} {r : R2} {p : P} (ho : OpR X (compareOp op) r) (ok : POk (rc X T) p (r2 r)) (ha : PE X x (tV (rc X T) C W a)) (hb : PE X y (tV (rc X T) C W b)) (hm : behindInMarks op y = false) :
    PT X (.Compare x [op] [y] pos) (tT (rc X T) C W (.pr p [a, b])) := by
  refine pt_imp (pt_cmpR ho ha hb hm) fun σ H Q h => ?_
  have h2 := tVs2 (tV_pr ok h)
  refine tV_mono h2 fun u H1 q1 => tV_mono q1 fun v H2 q2 => ?_
  obtain ⟨u', v', e, q⟩ := q2
  cases e; exact q
end
end PL
set_option Elab.async false
set_option linter.all false
set_option maxRecDepth 100000
/-! PL, part 10: chains, places of a slot's own thing, calls. -/
namespace PL
open PySem PySem.Spec L2
open PyProof.Rows hiding St

theorem r2i {r : R2} {u v : V} {H : Hp} {Q : VK} (z : r2 r [u, v] H Q) : r u v H Q := by
  obtain ⟨_, _, e, q⟩ := z
  cases e; exact q
section
variable {R : Rc} {C : Ctx} {W : WX} {S S1 H H1 : Hp} {σ : St} {env env1 : Env} {c c1 f cr q : Cn} {Q Q' : VK} {QL : List V → Hp → Prop} {e a b d : E} {as : List E} {p p2 : P} {r r' : R2}

/-- POk, told of what it makes -/
theorem POk.run {ds : List D} {vs : List V} {dd : D} {rr : List V → Hp → VK → Prop} (ok : POk R p rr) (G : Good R S H σ env c (pl cr f)) (hr : RepL R S H ds vs cr) (hp : prim C.par p ds = some dd)
    (k : ∀ H' v cr', Ext S H f S H' → Good R S H' σ env c (pl cr' f) → Rep R S H' dd v cr' → Q v H') : rr vs H Q :=
  ok C.par S H ds vs cr dd Q G.sub hr hp fun H' v cr' hn hr hl => k H' v cr' (.more hn fun _ _ h => h) (G.after hn hl (hr.mu dd)) hr

/-! ### a op b op c -/
theorem tV_chain {a b d : E} (ok : POk R p (r2 r)) (ok2 : POk R p2 (r2 r')) (h : tV R C W (.cmp2 p p2 a b d) σ H Q) : tChain r r' (tV R C W a) (tV R C W b) (tV R C W d) σ H Q := by
  obtain ⟨S, env, c, f, G, h⟩ := h
  simp only [ev] at h
  refine ⟨S, env, c, f, G, ?_⟩
  refine AfterV.bindV h fun x env1 S1 H1 c1 u cr hx E1 G1 r1 h => ?_
  have h := AfterV.on E1 h fun _ _ (q : Q _ _) => q
  refine ⟨S1, env1, c1, pl cr f, G1, ?_⟩
  cases ey : ev C b env1 with
  | st => rw [ey] at h; exact h.elim
  | exc k dv env' =>
    rw [ey] at h
    refine fun S' H' c' dd E' G' t => h S' H' c' dd (E'.lessF fun a n => by rw [pl_at]; omega) (G'.lessF fun a => by rw [pl_at]; omega) t
  | ok y env2 =>
    rw [ey] at h
    intro S2 H2 c2 v cr2 E2 G2 rv
    have h := AfterV.on (x := if pu x && pu y then (match prim C.par p [x, y] with
      | some (.bl true) => (ev C d env2).bind fun z env => O.lift (prim C.par p2 [y, z]) env
      | some (.bl false) => .ok (.bl false) env2
      | _ => .st) else .st) (E2.lessF fun a n => by rw [pl_at]; omega) h fun _ _ (q : Q _ _) => q
    cases hp : pu x && pu y with
    | false => rw [hp] at h; exact h.elim
    | true =>
    rw [hp, if_pos rfl] at h
    rw [Bool.and_eq_true] at hp
    obtain rfl := r1.pu x hp.1
    obtain rfl := rv.pu y hp.2
    have ru : Rep R S2 H2 x u z0 := r1.frame0 E2
    rw [z_pl, z_pl] at G2
    cases ep : prim C.par p [x, y] with
    | none => rw [ep] at h; exact h.elim
    | some d1 =>
      rw [ep] at h
      have hl : RepL R S2 H2 [x, y] [u, v] z0 := ⟨z0, z0, ru, ⟨z0, z0, rv, rfl, rfl⟩, rfl⟩
      refine r2i (ok.run (C := C) (by rw [z_pl]; exact G2) hl ep fun H3 w cr3 E3 G3 r3 => ?_)
      cases d1 with
      | bl k =>
        obtain ⟨rfl, rfl⟩ := r3
        rw [z_pl] at G3
        refine ⟨k, rfl, ?_⟩
        cases k with
        | false => exact h S2 H3 c2 _ z0 E3 (by rw [z_pl]; exact G3) ⟨rfl, rfl⟩
        | true =>
          have h := AfterV.on E3 h fun _ _ (q : Q _ _) => q
          refine ⟨S2, env2, c2, f, G3, ?_⟩
          refine AfterV.bindV h fun z env4 S4 H4 c4 w cr4 hx E4 G4 r4 h => ?_
          have h := AfterV.on E4 h fun _ _ (q : Q _ _) => q
          cases eq : prim C.par p2 [y, z] with
          | none => rw [eq] at h; exact h.elim
          | some d2 =>
            rw [eq] at h
            have hl2 : RepL R S4 H4 [y, z] [v, w] cr4 := ⟨z0, cr4, (rv.frame0 E3).frame0 E4, ⟨cr4, z0, r4, rfl, rfl⟩, (z_pl cr4).symm⟩
            refine r2i (ok2.run (C := C) G4 hl2 eq fun H5 w5 cr5 E5 G5 r5 => ?_)
            exact h S4 H5 c4 w5 cr5 E5 G5 r5
      | _ => exact h.elim

/-! ### arguments -/
/-- the values of what is handed back stand in the slots -/
def Lnk (σ : St) : List Io → List V → Prop
  | [], _ => True
  | .sl i :: r, v :: vs => σ[i]? = some (some v) ∧ Lnk σ r vs
  | .fz :: r, _ :: vs => Lnk σ r vs
  | .tmp :: r, _ :: vs => Lnk σ r vs
  | _ :: _, [] => True
def tAs (R : Rc) (C : Ctx) (W : WX) (ios : List Io) (as : List E) : TA := fun σ H Q => tVs R C W as σ H fun vs H1 => Lnk σ ios vs → Q vs H1
theorem tAs_nil {ios : List Io} (h : tAs R C W ios [] σ H QL) : tNil σ H QL := tVs_nil h (by
  cases ios with
  | nil => trivial
  | cons io r => cases io <;> trivial)
theorem tAs_cons {ios : List Io} (h : tAs R C W (.fz :: ios) (e :: as) σ H QL) : tCons (tV R C W e) (tAs R C W ios as) σ H QL := tVs_cons h
theorem tAs_tmp {ios : List Io} (h : tAs R C W (.tmp :: ios) (e :: as) σ H QL) : tCons (tV R C W e) (tAs R C W ios as) σ H QL := tVs_cons h
theorem tAs_any (h : tAs R C W [] (e :: as) σ H QL) : tCons (tV R C W e) (tAs R C W [] as) σ H QL := tVs_cons h
theorem tAs_sl {ios : List Io} {i : Nat} (h : tAs R C W (.sl i :: ios) (.mov i :: as) σ H QL) : tCons (tVar i) (tAs R C W ios as) σ H QL := by
  obtain ⟨v, e, q⟩ := tV_mov (tVs_cons h)
  obtain ⟨S, env, c, f, G, h⟩ := q
  refine ⟨v, e, S, env, c, f, G, ?_⟩
  cases x : evs C as env with
  | st => rw [x] at h; exact h
  | exc k dv env' => rw [x] at h; exact h
  | ok ds env1 =>
    rw [x] at h
    exact fun S1 H1 c1 vs cr E1 G1 r1 l => h S1 H1 c1 vs cr E1 G1 r1 ⟨e, l⟩
/-- what is not handed back is made common -/
theorem args : ∀ (ios : List Io) (ds : List D) {S : Hp} {vs : List V} {cr f : Cn}, Good R S H σ env c (pl cr f) → RepL R S H ds vs cr →
    ∃ S2 c2, (∀ a o, S a = some o → S2 a = some o) ∧ RepL R S2 H (fzArgs ios ds) vs c2 ∧ Good R S2 H σ env c (pl c2 f)
  | [], ds, S, vs, cr, f, G, h => by
    obtain ⟨G2, s2⟩ := G.give
    refine ⟨give cr S H, z0, s2, h.fz s2 ds fun a o n e => ?_, by rw [z_pl]; exact G2⟩
    unfold PL.give
    rw [if_neg n]; exact e
  | io :: ios, [], S, vs, cr, f, G, h => ⟨S, cr, fun _ _ h => h, by cases io <;> exact h, G⟩
  | io :: ios, d :: ds, S, [], cr, f, G, h => h.elim
  | io :: ios, d :: ds, S, v :: vs, cr, f, G, h => by
    obtain ⟨q1, q2, h1, h2, rfl⟩ := h
    have keep : ∃ S2 c2, (∀ a o, S a = some o → S2 a = some o) ∧ RepL R S2 H (d :: fzArgs ios ds) (v :: vs) c2 ∧ Good R S2 H σ env c (pl c2 f) := by
      rw [pl_assoc, pl_left] at G
      obtain ⟨S2, c2, s2, r2, G2⟩ := args ios ds G h2
      refine ⟨S2, pl q1 c2, s2, ⟨q1, c2, h1.mono s2 (fun _ _ h _ => h) d fun _ _ h _ => h, r2, rfl⟩, ?_⟩
      rw [pl_assoc, pl_left]; exact G2
    cases io with
    | sl i => exact keep
    | tmp => exact keep
    | fz =>
      rw [pl_assoc] at G
      obtain ⟨G1, s1⟩ := G.give
      have h2' : RepL R (PL.give q1 S H) H ds vs q2 := h2.mono s1 (fun _ _ h _ => h) ds fun _ _ h _ => h
      obtain ⟨S2, c2, s2, r2, G2⟩ := args ios ds G1 h2'
      refine ⟨S2, c2, fun a o h => s2 a o (s1 a o h), ⟨z0, c2, ?_, r2, (z_pl c2).symm⟩, G2⟩
      have hf : Rep R (PL.give q1 S H) H (fz d) v z0 := h1.fz s1 d fun a o n e => by
        unfold PL.give
        rw [if_neg n]; exact e
      exact hf.mono s2 (fun _ _ h _ => h) _ fun _ _ h _ => h
/-- what a call hands back -/
def RepO (R : Rc) (S H : Hp) : List (Option D) → List V → Cn → Prop
  | [], _, c => c = z0
  | _ :: _, [], _ => False
  | none :: os, _ :: vs, c => RepO R S H os vs c
  | some d :: os, v :: vs, c => ∃ c1 c2, Rep R S H d v c1 ∧ RepO R S H os vs c2 ∧ c = pl c1 c2
theorem RepO.none {os : List (Option D)} {v : V} {vs : List V} (h : RepO R S H (none :: os) (v :: vs) c) : RepO R S H os vs c := h
theorem putBack : ∀ {ios : List Io} {os : List (Option D)} {vs : List V} {co c : Cn} {env e' : Env}, RepE R S H env σ c → RepO R S H os vs co → Lnk σ ios vs → putOuts ios os env = some e' → ∃ c2, RepE R S H e' σ c2 ∧ ∀ a, c2 a ≤ c a + co a
  | [], [], _, co, c, env, e', h, ho, l, e => by
    obtain rfl := Option.some.inj e
    exact ⟨c, h, fun a => by omega⟩
  | [], _ :: _, _, _, _, _, _, _, _, _, e => by cases e
  | .sl i :: ios, [], _, _, _, _, _, _, _, _, e => by cases e
  | .fz :: ios, [], _, _, _, _, _, _, _, _, e => by cases e
  | .tmp :: ios, [], _, _, _, _, _, _, _, _, e => by cases e
  | _ :: _, _ :: _, [], _, _, _, _, _, ho, _, _ => ho.elim
  | .sl i :: ios, none :: os, _ :: _, _, _, _, _, _, _, _, e => by cases e
  | .sl i :: ios, some d :: os, v :: vs, _, c, env, e', h, ho, l, e => by
    obtain ⟨c1, c2, r, ho, rfl⟩ := ho
    obtain ⟨l1, l2⟩ := l
    have hi : i < env.length := by rw [h.length]; exact (List.getElem?_eq_some_iff.mp l1).1
    obtain ⟨c3, h3, le⟩ := h.put r hi
    have es : σ.set i (some v) = σ := by
      refine List.ext_getElem? fun j => ?_
      by_cases z : j = i
      · subst z
        rw [List.getElem?_set_self (by rw [← h.length]; exact hi), l1]
      · rw [List.getElem?_set_ne (Ne.symm z)]
    rw [es] at h3
    obtain ⟨c4, h4, le4⟩ := putBack h3 ho l2 e
    refine ⟨c4, h4, fun a => ?_⟩
    have := le4 a
    have := le a
    rw [pl_at] at *
    omega
  | .fz :: ios, o :: os, v :: vs, co, c, env, e', h, ho, l, e => by
    cases o with
    | none => exact putBack h ho.none l e
    | some d =>
      obtain ⟨c1, c2, r, ho, rfl⟩ := ho
      obtain ⟨c4, h4, le4⟩ := putBack h ho l e
      exact ⟨c4, h4, fun a => by have := le4 a; rw [pl_at]; omega⟩
  | .tmp :: ios, o :: os, v :: vs, co, c, env, e', h, ho, l, e => by
    cases o with
    | none => exact putBack h ho.none l e
    | some d =>
      obtain ⟨c1, c2, r, ho, rfl⟩ := ho
      obtain ⟨c4, h4, le4⟩ := putBack h ho l e
      exact ⟨c4, h4, fun a => by have := le4 a; rw [pl_at]; omega⟩

/-! ### the promise of a def -/
def PostF (R : Rc) (S H : Hp) (fr : Cn) (vs : List V) (Q : VK) (E : XK) : FR → Prop
  | .ok d outs => ∀ S' H' v cr co, Ext S H fr S' H' → (∀ a o, S' a = some o → H' a = some o) → (∀ a, occ S' a + (cr a + co a) + fr a ≤ 1) → Rep R S' H' d v cr → RepO R S' H' outs vs co → Q v H'
  | .exc e dv => ∀ S' H' dd, Ext S H fr S' H' → (∀ a o, S' a = some o → H' a = some o) → (∀ a, occ S' a + fr a ≤ 1) → Thrown R S' H' dv dd → E (.ref (R.cl e)) (some dd) H'
  | .st => False
def spF (R : Rc) (G : Prog) (L k f : Nat) : Sp := fun vs H Q E => ∃ S ds c fr, RepL R S H ds vs c ∧ (∀ a o, S a = some o → H a = some o) ∧ (∀ a, occ S a + c a + fr a ≤ 1) ∧ (∀ a, fr a ≠ 0 → ∃ o, H a = some o ∧ Mu o) ∧
  PostF R S H fr vs Q E (callF G L k f ds)
theorem argsOk_len : ∀ {io : List Bool} {ds : List D}, argsOk io ds = true → io.length = ds.length
  | [], [], _ => rfl
  | [], _ :: _, h => by cases h
  | _ :: _, [], h => by cases h
  | b :: io, d :: ds, h => by
    have h : ((b || pu d) && argsOk io ds) = true := h
    rw [Bool.and_eq_true] at h
    rw [List.length_cons, List.length_cons, argsOk_len h.2]
theorem spF_len {G : Prog} {L k g np : Nat} (hn : ∀ F, G.fns g = some F → F.np = np) {vs : List V} {E : XK} (h : spF R G L k g vs H Q E) : vs.length = np := by
  obtain ⟨S, ds, c, fr, hr, _, _, _, h⟩ := h
  cases k with
  | zero => exact h.elim
  | succ k =>
    unfold callF at h
    split at h
    · exact h.elim
    · rename_i F eF
      split at h
      · rename_i hc
        rw [Bool.and_eq_true, decide_eq_true_eq] at hc
        rw [← hn F eF, ← hc.1, argsOk_len hc.2, hr.length]
      · exact h.elim
/-- behind a call: the caller's state -/
theorem Good.back {S2 S' H' : Hp} {co : Cn} (G : Good R S2 H1 σ env1 c1 (pl q f)) (E : Ext S2 H1 (pl c1 f) S' H') (sub : ∀ a o, S' a = some o → H' a = some o)
    (dis : ∀ a, occ S' a + (cr a + co a) + pl c1 f a ≤ 1) (hm : ∀ a, cr a ≠ 0 → ∃ o, H' a = some o ∧ Mu o) : Good R S' H' σ env1 c1 (pl cr f) := by
  refine ⟨G.env.frame E fun a n => left_ne n, sub, fun a => ?_, fun a n => ?_⟩
  · have := dis a
    rw [pl_at] at this ⊢; omega
  · by_cases z : cr a = 0
    · rw [pl_at, z] at n
      obtain ⟨o, e, m⟩ := G.fr a (by rw [pl_at]; omega)
      exact ⟨o, E.keep a o e (by rw [pl_at]; omega), m⟩
    · exact hm a z
theorem tV_call {G : Prog} {L k g : Nat} {ios : List Io} (hC : C.call = callF G L k) (h : tV R C W (.call g as ios []) σ H Q) : tAs R C W ios as σ H fun vs H1 => spF R G L k g vs H1 Q (WE W σ) := by
  obtain ⟨S, env, c, f, Gd, h⟩ := h
  refine ⟨S, env, c, f, Gd, ?_⟩
  simp only [ev] at h
  refine AfterL.bindV h fun ds env1 S1 H1 c1 vs cr hx E1 G1 r1 h => ?_
  intro lk
  have h := AfterV.on E1 h fun _ _ (q : Q _ _) => q
  obtain ⟨S2, c2, s2, r2, G2⟩ := args ios ds G1 r1
  have E2 : Ext S1 H1 f S2 H1 := .more (fun _ _ h => h) s2
  have h := AfterV.on E2 h fun _ _ (q : Q _ _) => q
  refine ⟨S2, fzArgs ios ds, c2, pl c1 f, r2, G2.sub, fun a => ?_, fun a n => ?_, ?_⟩
  · have := G2.dis a
    rw [pl_at] at this ⊢; omega
  · by_cases z : f a = 0
    · rw [pl_at, z] at n
      exact G2.env.mu a (by omega)
    · exact G2.fr a (by rw [pl_at]; omega)
  have ep : permute [] (fzArgs ios ds) = some (fzArgs ios ds) := rfl
  rw [ep] at h
  simp only [hC] at h
  cases er : callF G L k g (fzArgs ios ds) with
  | st => rw [er] at h; exact h.elim
  | exc e dv =>
    rw [er] at h
    simp only at h
    split at h
    · intro S' H' dd E' sub dis t
      refine h S' H' c1 dd (E'.lessF fun a n => right_ne n) ?_ t
      have G3 := Good.back (cr := z0) (co := z0) G2 E' sub (fun a => by have := dis a; show occ S' a + (0 + 0) + _ ≤ 1; omega) (fun a n => absurd rfl n)
      rw [z_pl] at G3; exact G3
    · exact h.elim
  | ok d outs =>
    rw [er] at h
    simp only [if_true] at h
    intro S' H' v cr' co E' sub dis rv ro
    have G3 := Good.back (cr := cr') (co := co) G2 E' sub dis (rv.mu d)
    split at h
    · exact h S' H' c1 v cr' (E'.lessF fun a n => right_ne n) G3 rv
    · cases ey : putOuts ios outs env1 with
      | none => rw [ey] at h; exact h.elim
      | some e' =>
        rw [ey] at h
        obtain ⟨c3, h3, le3⟩ := putBack G3.env ro lk ey
        have G4 : Good R S' H' σ e' c3 (pl cr' f) := by
          refine ⟨h3, sub, fun a => ?_, G3.fr⟩
          have := dis a
          have := le3 a
          rw [pl_at] at *
          omega
        exact h S' H' c3 v cr' (E'.lessF fun a n => right_ne n) G4 rv
end
/-! ### a def's promise, where no repr is under way -/
structure RoomG (k : Nat) (A : Around) : Prop extends Room k A where
  gd : A.guards = some []
theorem RoomG.deep {k : Nat} {A : Around} (r : RoomG (k + 1) A) (env : PySem.Env) : RoomG k (A.deeper env) := ⟨r.toRoom.deeper env, r.gd⟩
structure FnG (P : Program) (w : World) (K : PySem.W.Frag) (mg : Str → Option Value) (base : Heap) (k : Nat) (f : Addr) (fd : FuncData) (ps : List Str) (sp : Sp) : Prop where
  len : ∀ vs H Q E, sp vs H Q E → vs.length = ps.length
  run : ∀ (A : Around) (outer : List PySem.Env) (s : Shared) (H : Hp) (args : Args) (us : List Value) (vs : List V) (Q : VK) (E : XK), RoomG k A → Env0 P w K mg base A outer s H → BindsTo s fd args (ps.zip us) → Vals vs us →
    sp vs H Q E → codeAny (model P w) A (.call (.ref f) args) (CR (L2.CX P w) outer P w H s Q E) s
section
variable {X : Cx} {f : Addr} {fd : FuncData} {ps : List Str} {sp : Sp} {E : L2.St → XK} {k : Nat} {nm : Str} {e : Expr} {es : List Expr} {t : TA} {p pos : Pos}
theorem run_g {pins : List (Addr × Obj)} {σ : L2.St} {H : Hp} {s : Shared} {Q : VK} {args : Args} {us : List Value} {vs : List V} (F : FnG X.prog X.w X.K X.mg X.base k f fd ps sp) (hr : RoomG k X.A) (hx : PassesAt (L2.CX X.prog X.w) X σ (E σ))
    (I : Inv X pins σ H s) (hb : BindsTo s fd args (ps.zip us)) (r : Vals vs us) (h : sp vs H Q (E σ)) : codeAny (model X.prog X.w) X.A (.call (.ref f) args) (fun q s' => match q with | .ok (.ret u) => EP X pins σ Q u s' | .ok _ => False | .error e => X.xe e s') s := by
  refine codeAny_mono (F.run X.A X.stack s H args us vs Q (E σ) hr I.env0 hb r h) fun q s' hq => ?_
  cases q with
  | error e => exact hx pins H s e s' I hq
  | ok fl =>
    cases fl with
    | ret u => exact I.after hq
    | next => exact hq.elim
    | brk => exact hq.elim
    | cont => exact hq.elim
theorem pe_callG (F : FnG X.prog X.w X.K X.mg X.base k f fd ps sp) (hr : RoomG k X.A) (hg : Gl X nm) (hm : X.mg nm = some (.ref f)) (hk : PySem.W.keepIn X.K (.ref f) = true) (hb : Binds X.K fd ps []) (hx : ∀ σ, PassesAt (L2.CX X.prog X.w) X σ (E σ))
    (ha : PA X (e :: es) t) (hdb : (nm == ("__debug__" : Str)) = false := by decide) (he : starEach (e :: es) X.env = (false, eval e X.env) :: starEach es X.env := by rfl) (hpl : (backTo pos (starEach es X.env)).any (·.1) = false := by rfl) :
    PE X (.Call (.Name nm p) (e :: es) [] pos) (tCallS sp E t) := by
  refine ⟨fun pins s σ H Q I h => wpAny_Call_Name_kw (ld_glob I hg hm ?_ hdb)⟩
  refine PySem.W.callWith_K (h₀ := X.base) I.ok.mod.kin hk (thn (ha.run pos pins s σ H _ I h) fun us s1 ⟨vs, H1, I1, r, q⟩ => ⟨I1.kIn, ?_⟩) he hpl
  have hl : us.length = ps.length := by rw [← r.length]; exact F.len _ _ _ _ q
  have b := hb s1 us I1.kIn (by rw [List.append_nil]; exact hl)
  rw [List.append_nil] at b
  refine wpAny_call (codeAny_mono (run_g F hr (hx σ) I1 b r q) fun q s' hq => ?_)
  cases q with
  | error e => exact hq
  | ok fl =>
    cases fl with
    | ret u => exact hq
    | next => exact hq.elim
    | brk => exact hq.elim
    | cont => exact hq.elim
end
section
variable {X : Cx} {T : Tags} {C : Ctx} {W : WX} {x : Str} {e e1 e2 e3 : Expr} {es : List Expr} {a b d : E} {as : List E} {p pos : Pos} {ios : List Io} {G : Prog} {L k g lv : Nat} {fd : FuncData} {ps : List Str} {q q2 : P} {r r' : R2} {op op' : CmpOp}
theorem pa_nilA : PA X [] (tAs (rc X T) C W ios []) := pa_imp pa_nil fun _ _ _ q => tAs_nil q
theorem pa_fz (h : PE X e (tV (rc X T) C W a)) (h2 : PA X es (tAs (rc X T) C W ios as)) (hs : starEach (e :: es) X.env = (false, eval e X.env) :: starEach es X.env := by rfl) : PA X (e :: es) (tAs (rc X T) C W (.fz :: ios) (a :: as)) := pa_imp (pa_cons h h2 hs) fun _ _ _ q => tAs_cons q
theorem pa_tmp (h : PE X e (tV (rc X T) C W a)) (h2 : PA X es (tAs (rc X T) C W ios as)) (hs : starEach (e :: es) X.env = (false, eval e X.env) :: starEach es X.env := by rfl) : PA X (e :: es) (tAs (rc X T) C W (.tmp :: ios) (a :: as)) := pa_imp (pa_cons h h2 hs) fun _ _ _ q => tAs_tmp q
theorem pa_any (h : PE X e (tV (rc X T) C W a)) (h2 : PA X es (tAs (rc X T) C W [] as)) (hs : starEach (e :: es) X.env = (false, eval e X.env) :: starEach es X.env := by rfl) : PA X (e :: es) (tAs (rc X T) C W [] (a :: as)) := pa_imp (pa_cons h h2 hs) fun _ _ _ q => tAs_any q
theorem pa_sl {i : Nat} (h : PE X e (tVar i)) (h2 : PA X es (tAs (rc X T) C W ios as)) (hs : starEach (e :: es) X.env = (false, eval e X.env) :: starEach es X.env := by rfl) : PA X (e :: es) (tAs (rc X T) C W (.sl i :: ios) (.mov i :: as)) := pa_imp (pa_cons h h2 hs) fun _ _ _ q => tAs_sl q
theorem pe_fn (F : FnG X.prog X.w X.K X.mg X.base lv (T.fa g) fd ps (spF (rc X T) G L k g)) (hr : RoomG lv X.A) (hC : C.call = callF G L k) (hg : Gl X x) (hm : X.mg x = some (.ref (T.fa g))) (hk : PySem.W.keepIn X.K (.ref (T.fa g)) = true) (hb : Binds X.K fd ps []) (tk : Takes X W)
    (ha : PA X (e :: es) (tAs (rc X T) C W ios as)) (hdb : (x == ("__debug__" : Str)) = false := by decide) (he : starEach (e :: es) X.env = (false, eval e X.env) :: starEach es X.env := by rfl) (hpl : (backTo pos (starEach es X.env)).any (·.1) = false := by rfl) :
    PE X (.Call (.Name x p) (e :: es) [] pos) (tV (rc X T) C W (.call g as ios [])) :=
  pe_imp (pe_callG F hr hg hm hk hb (fun σ => passAt tk σ) ha hdb he hpl) fun _ _ _ h => tV_call hC h
theorem pe_chn (ho : OpR X (compareOp op) r) (ok : POk (rc X T) q (r2 r)) (ho' : OpR X (compareOp op') r') (ok' : POk (rc X T) q2 (r2 r')) (h1 : PE X e1 (tV (rc X T) C W a)) (h2 : PE X e2 (tV (rc X T) C W b)) (h3 : PE X e3 (tV (rc X T) C W d))
    (hm : lastMarks [op, op'] [e2, e3] = false := by with_unfolding_all rfl) : PE X (.Compare e1 [op, op'] [e2, e3] pos) (tV (rc X T) C W (.cmp2 q q2 a b d)) := pe_imp (pe_chain ho ho' h1 h2 h3 hm) fun _ _ _ h => tV_chain ok ok' h
theorem pt_chn (ho : OpR X (compareOp op) r) (ok : POk (rc X T) q (r2 r)) (ho' : OpR X (compareOp op') r') (ok' : POk (rc X T) q2 (r2 r')) (h1 : PE X e1 (tV (rc X T) C W a)) (h2 : PE X e2 (tV (rc X T) C W b)) (h3 : PE X e3 (tV (rc X T) C W d))
    (hm : lastMarks [op, op'] [e2, e3] = false := by with_unfolding_all rfl) : PT X (.Compare e1 [op, op'] [e2, e3] pos) (tT (rc X T) C W (.cmp2 q q2 a b d)) := pt_imp (pt_chain ho ho' h1 h2 h3 hm) fun _ _ _ h => tV_chain ok ok' h
end
end PL
set_option Elab.async false
set_option linter.all false
set_option maxRecDepth 100000
/-! PL, part 11: a frame by its slots; borrowing. -/
namespace PL
open PySem PySem.Spec L2
open PyProof.Rows hiding St

/-- the sum over n slots -/
def sumC : Nat → (Nat → Cn) → Cn
  | 0, _ => z0
  | n + 1, cs => pl (cs 0) (sumC n fun i => cs (i + 1))
theorem sumC_le {a : Addr} : ∀ {n : Nat} {cs ds : Nat → Cn}, (∀ i, i < n → cs i a ≤ ds i a) → sumC n cs a ≤ sumC n ds a
  | 0, _, _, _ => Nat.le_refl _
  | n + 1, cs, ds, h => by
    have h1 := h 0 (Nat.succ_pos _)
    have h2 := sumC_le (n := n) (cs := fun i => cs (i + 1)) (ds := fun i => ds (i + 1)) fun i hi => h (i + 1) (Nat.succ_lt_succ hi)
    show cs 0 a + _ ≤ ds 0 a + _
    omega
theorem sumC_add {a : Addr} : ∀ {n : Nat} {cs ds es : Nat → Cn}, (∀ i, i < n → cs i a = ds i a + es i a) → sumC n cs a = sumC n ds a + sumC n es a
  | 0, _, _, _, _ => rfl
  | n + 1, cs, ds, es, h => by
    have h1 := h 0 (Nat.succ_pos _)
    have h2 := sumC_add (n := n) (cs := fun i => cs (i + 1)) (ds := fun i => ds (i + 1)) (es := fun i => es (i + 1)) fun i hi => h (i + 1) (Nat.succ_lt_succ hi)
    show cs 0 a + sumC n (fun i => cs (i + 1)) a = (ds 0 a + sumC n (fun i => ds (i + 1)) a) + (es 0 a + sumC n (fun i => es (i + 1)) a)
    omega
theorem sumC_zero {a : Addr} : ∀ {n : Nat} {cs : Nat → Cn}, (∀ i, i < n → cs i a = 0) → sumC n cs a = 0
  | 0, _, _ => rfl
  | n + 1, cs, h => by
    have h1 := h 0 (Nat.succ_pos _)
    have h2 := sumC_zero (n := n) (cs := fun i => cs (i + 1)) fun i hi => h (i + 1) (Nat.succ_lt_succ hi)
    show cs 0 a + sumC n (fun i => cs (i + 1)) a = 0
    omega
theorem sumC_pos {a : Addr} : ∀ {n : Nat} {cs : Nat → Cn} {i : Nat}, i < n → cs i a ≤ sumC n cs a
  | n + 1, cs, 0, _ => by
    show cs 0 a ≤ cs 0 a + _
    omega
  | n + 1, cs, i + 1, h => by
    have := sumC_pos (n := n) (cs := fun i => cs (i + 1)) (a := a) (i := i) (Nat.lt_of_succ_lt_succ h)
    show cs (i + 1) a ≤ cs 0 a + _
    omega
theorem sumC_some {a : Addr} : ∀ {n : Nat} {cs : Nat → Cn}, sumC n cs a ≠ 0 → ∃ i, i < n ∧ cs i a ≠ 0
  | 0, _, h => absurd rfl h
  | n + 1, cs, h => by
    by_cases e : cs 0 a = 0
    · have h' : cs 0 a + sumC n (fun i => cs (i + 1)) a ≠ 0 := h
      obtain ⟨i, hi, q⟩ := sumC_some (n := n) (cs := fun i => cs (i + 1)) (a := a) (by omega)
      exact ⟨i + 1, Nat.succ_lt_succ hi, q⟩
    · exact ⟨0, Nat.succ_pos _, e⟩
section
variable {R : Rc} {C : Ctx} {W : WX} {S S' S1 H H' H1 : Hp} {σ σ' : St} {env env1 env' : Env} {c c1 f cr q : Cn} {Q Q' : VK} {e : E}
/-- one slot -/
def Sl (R : Rc) (S H : Hp) (x : Option D) (y : Option (Option V)) (c : Cn) : Prop := match x with
  | some d => ∃ v, y = some (some v) ∧ Rep R S H d v c
  | none => c = z0
theorem get0 {x : Option D} {e : Env} : get (x :: e) 0 = x := by cases x <;> rfl
theorem getS {x : Option D} {e : Env} {i : Nat} : get (x :: e) (i + 1) = get e i := rfl
theorem RepE.iff : ∀ {env : Env} {σ : St} {c : Cn}, RepE R S H env σ c ↔ (env.length = σ.length ∧ ∃ cs : Nat → Cn, (∀ i, i < env.length → Sl R S H (get env i) (σ[i]?) (cs i)) ∧ c = sumC env.length cs)
  | [], [], c => ⟨fun h => ⟨rfl, fun _ => z0, fun i hi => absurd hi (Nat.not_lt_zero _), h⟩, fun h => by obtain ⟨_, _, _, e⟩ := h; exact e⟩
  | [], _ :: _, c => ⟨fun h => h.elim, fun h => absurd h.1 (by simp)⟩
  | some _ :: _, [], c => ⟨fun h => h.elim, fun h => absurd h.1 (by simp)⟩
  | none :: _, [], c => ⟨fun h => h.elim, fun h => absurd h.1 (by simp)⟩
  | x :: env, y :: σ, c => by
    have ih := @RepE.iff env σ
    constructor
    · intro h
      have key : ∃ c1 c2, Sl R S H x (some y) c1 ∧ RepE R S H env σ c2 ∧ c = pl c1 c2 := by
        cases x with
        | none => exact ⟨z0, c, rfl, h, (z_pl c).symm⟩
        | some d =>
          cases y with
          | none => exact h.elim
          | some v =>
            obtain ⟨c1, c2, r, h2, e⟩ := h
            exact ⟨c1, c2, ⟨v, rfl, r⟩, h2, e⟩
      obtain ⟨c1, c2, h1, h2, rfl⟩ := key
      obtain ⟨hl, cs, hs, rfl⟩ := ih.mp h2
      refine ⟨by rw [List.length_cons, List.length_cons, hl], fun i => match i with | 0 => c1 | i + 1 => cs i, fun i hi => ?_, rfl⟩
      cases i with
      | zero => rw [get0]; exact h1
      | succ i => exact hs i (Nat.lt_of_succ_lt_succ hi)
    · rintro ⟨hl, cs, hs, rfl⟩
      have h2 : RepE R S H env σ (sumC env.length fun i => cs (i + 1)) := ih.mpr ⟨Nat.succ.inj hl, fun i => cs (i + 1), fun i hi => hs (i + 1) (Nat.succ_lt_succ hi), rfl⟩
      have h1 := hs 0 (Nat.succ_pos _)
      rw [get0] at h1
      cases x with
      | none =>
        have e : cs 0 = z0 := h1
        show RepE R S H env σ (pl (cs 0) _)
        rw [e, z_pl]
        exact h2
      | some d =>
        obtain ⟨v, e, r⟩ := h1
        cases y with
        | none => exact absurd (Option.some.inj e) (fun z => nomatch z)
        | some w =>
          have e : some w = some v := Option.some.inj e
          cases e
          exact ⟨cs 0, _, r, h2, rfl⟩
theorem Sl.mono {x : Option D} {y : Option (Option V)} (hS : ∀ a o, S a = some o → S' a = some o) (hT : ∀ a o, H a = some o → ¬ Mu o → H' a = some o) (h : Sl R S H x y c) (hc : ∀ a o, H a = some o → c a ≠ 0 → H' a = some o) : Sl R S' H' x y c := by
  cases x with
  | none => exact h
  | some d =>
    obtain ⟨v, e, r⟩ := h
    exact ⟨v, e, r.mono hS hT d hc⟩
theorem get_len {i : Nat} {d : D} (h : get env i = some d) : i < env.length := by
  by_cases z : i < env.length
  · exact z
  · unfold get at h
    rw [List.getElem?_eq_none (by omega)] at h
    cases h
theorem get_set_self {i : Nat} {x : Option D} (h : i < env.length) : get (env.set i x) i = x := by
  unfold get
  rw [List.getElem?_set_self h]
  rfl
theorem get_set_ne {i j : Nat} {x : Option D} (h : i ≠ j) : get (env.set i x) j = get env j := by
  unfold get
  rw [List.getElem?_set_ne h]
theorem get_set_none {i j : Nat} : get (env.set i none) j = if j = i then none else get env j := by
  by_cases z : j = i
  · subst z
    rw [if_pos rfl]
    by_cases h : j < env.length
    · exact get_set_self h
    · unfold get
      rw [List.getElem?_eq_none (by rw [List.length_set]; omega)]
      rfl
  · rw [if_neg z, get_set_ne (Ne.symm z)]
/-! ### borrowing -/
theorem occ_congr {a : Addr} (h : S a = S' a) : occ S a = occ S' a := by unfold occ; rw [h]
theorem set_none_len (is : List Nat) (env : Env) : (fzAt is env).length = env.length := by
  induction is generalizing env with
  | nil => rfl
  | cons i is ih =>
    show (fzAt is (env.set i ((get env i).map fz))).length = _
    rw [ih, List.length_set]
theorem fg_idem (o : Fg) : o.fz.fz = o.fz := by cases o <;> rfl
mutual
theorem fz_idem : ∀ d : D, fz (fz d) = fz d
  | .non => rfl | .bl _ => rfl | .int _ => rfl | .str _ => rfl | .fn _ => rfl
  | .lst o xs => by
    show D.lst o.fz.fz (fzs (fzs xs)) = .lst o.fz (fzs xs)
    rw [fg_idem, fzs_idem xs]
  | .tup xs => by
    show D.tup (fzs (fzs xs)) = .tup (fzs xs)
    rw [fzs_idem xs]
  | .dct o es => by
    show D.dct o.fz.fz (fzp (fzp es)) = .dct o.fz (fzp es)
    rw [fg_idem, fzp_idem es]
  | .exn c d => by
    show D.exn c (fz (fz d)) = .exn c (fz d)
    rw [fz_idem d]
termination_by structural x => x
theorem fzs_idem : ∀ ds : List D, fzs (fzs ds) = fzs ds
  | [] => rfl
  | d :: r => by
    show fz (fz d) :: fzs (fzs r) = fz d :: fzs r
    rw [fz_idem d, fzs_idem r]
termination_by structural x => x
theorem fzp_idem : ∀ ds : List (D × D), fzp (fzp ds) = fzp ds
  | [] => rfl
  | (k, d) :: r => by
    show (fz (fz k), fz (fz d)) :: fzp (fzp r) = (fz k, fz d) :: fzp r
    rw [fz_idem k, fz_idem d, fzp_idem r]
termination_by structural x => x
end
theorem fzAt_get : ∀ (is : List Nat) (env : Env) (j : Nat), get (fzAt is env) j = if j ∈ is then (get env j).map fz else get env j
  | [], env, j => by rw [if_neg (by simp)]; rfl
  | i :: is, env, j => by
    show get (fzAt is (env.set i ((get env i).map fz))) j = _
    rw [fzAt_get is]
    have e : get (env.set i ((get env i).map fz)) j = if j = i then (get env j).map fz else get env j := by
      by_cases z : j = i
      · subst z
        rw [if_pos rfl]
        by_cases h : j < env.length
        · exact get_set_self h
        · have n : get env j = none := by
            unfold get
            rw [List.getElem?_eq_none (by omega)]; rfl
          unfold get
          rw [List.getElem?_eq_none (by rw [List.length_set]; omega)]
          unfold get at n
          rw [n]; rfl
      · rw [if_neg z, get_set_ne (Ne.symm z)]
    rw [e]
    by_cases z : j = i
    · subst z
      rw [if_pos rfl, if_pos List.mem_cons_self]
      split
      · cases get env j with
        | none => rfl
        | some d => show some (fz (fz d)) = some (fz d); rw [fz_idem]
      · rfl
    · rw [if_neg z]
      have m : j ∈ i :: is ↔ j ∈ is := by simp [z]
      by_cases y : j ∈ is
      · rw [if_pos y, if_pos (m.mpr y)]
      · rw [if_neg y, if_neg fun q => y (m.mp q)]
theorem merge_spec : ∀ {js : List Nat} {n : Nat} {a b e' : Env}, merge js n a b = some e' → e'.length = a.length ∧ b.length = a.length ∧ ∀ k, k < a.length →
    (n + k ∈ js ∧ get e' k = get a k) ∨ (n + k ∉ js ∧ ((∃ d, get a k = some d ∧ pu d = true ∧ get e' k = some d) ∨ get e' k = none ∨ (∃ d', get b k = some d' ∧ nf d' = true ∧ get e' k = some d')))
  | js, n, [], [], e', h => by
    obtain rfl := Option.some.inj h
    exact ⟨rfl, rfl, fun k hk => absurd hk (Nat.not_lt_zero _)⟩
  | js, n, a :: r, b :: s, e', h => by
    unfold merge at h
    rw [Option.bind_eq_bind] at h
    obtain ⟨x, hx, h⟩ := Option.bind_eq_some_iff.mp h
    obtain ⟨y, hy, h⟩ := Option.bind_eq_some_iff.mp h
    obtain rfl := Option.some.inj h
    obtain ⟨l1, l2, sp⟩ := merge_spec hy
    refine ⟨by rw [List.length_cons, List.length_cons, l1], by rw [List.length_cons, List.length_cons, l2], fun k hk => ?_⟩
    cases k with
    | zero =>
      rw [get0, get0, get0, Nat.add_zero]
      split at hx
      · rename_i m
        obtain rfl := Option.some.inj hx
        exact .inl ⟨m, rfl⟩
      · rename_i m
        refine .inr ⟨m, ?_⟩
        split at hx
        · obtain rfl := Option.some.inj hx
          exact .inr (.inl rfl)
        · rename_i d
          split at hx
          · rename_i p
            obtain rfl := Option.some.inj hx
            exact .inl ⟨d, rfl, p, rfl⟩
          · split at hx
            · obtain rfl := Option.some.inj hx
              exact .inr (.inl rfl)
            · rename_i d'
              split at hx
              · rename_i p
                obtain rfl := Option.some.inj hx
                exact .inr (.inr ⟨d', rfl, p, rfl⟩)
              · cases hx
    | succ k =>
      have q := sp k (Nat.lt_of_succ_lt_succ hk)
      rw [show n + 1 + k = n + (k + 1) by omega] at q
      exact q
  | _, _, [], _ :: _, _, h => by cases h
  | _, _, _ :: _, [], _, h => by cases h
theorem tV_bor {is : List Nat} (h : tV R C W (.bor is e) σ H Q) : tV R C W e σ H Q := by
  obtain ⟨S, env, c, f, G, h⟩ := h
  simp only [ev] at h
  split at h
  · exact ⟨S, env, c, f, G, h⟩
  generalize hjs : owned is env = js at h
  obtain ⟨hl, cs, hs, hc⟩ := RepE.iff.mp G.env
  -- what is lent
  let cj : Cn := sumC env.length fun i => if i ∈ js then cs i else z0
  let ck : Cn := sumC env.length fun i => if i ∈ js then z0 else cs i
  have csum : ∀ a, c a = cj a + ck a := fun a => by
    rw [hc]
    refine sumC_add fun i hi => ?_
    by_cases m : i ∈ js
    · rw [if_pos m, if_pos m]; rfl
    · rw [if_neg m, if_neg m]
      show cs i a = 0 + cs i a
      omega
  have cj_in : ∀ a, cj a ≠ 0 → ∃ o, H a = some o ∧ Mu o := fun a n => G.env.mu a (by have := csum a; omega)
  have jS : ∀ a, S a ≠ none → cj a = 0 := fun a n => by
    have := G.dis a
    have := csum a
    rw [occ_pos n] at *
    omega
  have s1 : ∀ a o, S a = some o → give cj S H a = some o := give_sub jS
  have le_j : ∀ i, i < env.length → i ∈ js → ∀ a, cs i a ≤ cj a := fun i hi m a => by
    have := sumC_pos (cs := fun i => if i ∈ js then cs i else z0) (a := a) hi
    simp only [if_pos m] at this
    exact this
  have G1 : Good R (give cj S H) H σ (fzAt js env) ck f := by
    refine ⟨RepE.iff.mpr ⟨by rw [set_none_len]; exact hl, fun i => if i ∈ js then z0 else cs i, fun i hi => ?_, by rw [set_none_len]⟩, fun a o e => ?_, fun a => ?_, G.fr⟩
    · rw [set_none_len] at hi
      have q := hs i hi
      rw [fzAt_get]
      show Sl R (give cj S H) H (if i ∈ js then Option.map fz (get env i) else get env i) σ[i]? (if i ∈ js then z0 else cs i)
      by_cases m : i ∈ js
      · rw [if_pos m, if_pos m]
        cases x : get env i with
        | none => exact rfl
        | some d =>
          rw [x] at q
          obtain ⟨v, e, r⟩ := q
          refine ⟨v, e, r.fz s1 d fun a o n e => ?_⟩
          unfold give
          rw [if_neg (by have := le_j i hi m a; omega)]
          exact e
      · rw [if_neg m, if_neg m]
        exact q.mono s1 (fun _ _ h _ => h) fun _ _ h _ => h
    · unfold give at e
      split at e
      · exact G.sub a o e
      · exact e
    · have d := G.dis a
      have := csum a
      by_cases z : cj a = 0
      · have e : occ (give cj S H) a = occ S a := by unfold occ give; rw [if_pos z]
        rw [e]; omega
      · have := occ_le (give cj S H) a
        omega
  refine ⟨give cj S H, fzAt js env, ck, f, G1, ?_⟩
  cases x : ev C e (fzAt js env) with
  | st => rw [x] at h; exact h.elim
  | exc k dv env' => rw [x] at h; exact h.elim
  | ok d env' =>
    rw [x] at h
    simp only at h
    split at h
    · rename_i hn
      cases m : merge js 0 env env' with
      | none => rw [m] at h; exact h.elim
      | some e' =>
        rw [m] at h
        have h : AfterV R W Q S H σ f (.ok d e') := h
        obtain ⟨l1, l2, sp⟩ := merge_spec m
        intro S' H' c' v cr E' G' r
        obtain ⟨hl', cs', hs', hc'⟩ := RepE.iff.mp G'.env
        let S2 : Hp := fun a => if cj a = 0 then S' a else none
        have s2 : ∀ a o, S a = some o → S2 a = some o := fun a o e => by
          show (if cj a = 0 then S' a else none) = some o
          rw [if_pos (jS a (by rw [e]; exact fun z => nomatch z))]
          exact E'.sub a o (s1 a o e)
        have lent : ∀ a o, H a = some o → cj a ≠ 0 → S' a = some o := fun a o e n => E'.sub a o (by unfold give; rw [if_neg n]; exact e)
        have key : ∀ i, i < env.length → ∃ x, Sl R S2 H' (get e' i) σ[i]? x ∧ ((i ∈ js ∧ x = cs i) ∨ (i ∉ js ∧ ∀ a, x a ≤ cs' i a)) := fun i hi => by
          have q0 := hs i hi
          have q1 := hs' i (by rw [l2]; exact hi)
          have sp := sp i hi
          rw [Nat.zero_add] at sp
          rcases sp with ⟨mj, e⟩ | ⟨mj, sp⟩
          · refine ⟨cs i, ?_, .inl ⟨mj, rfl⟩⟩
            rw [e]
            refine q0.mono s2 E'.imm fun a o ea n => G'.sub a o (lent a o ea ?_)
            have := le_j i hi mj a
            omega
          · rcases sp with ⟨d0, ea, p, e⟩ | e | ⟨d', eb, p, e⟩
            · refine ⟨z0, ?_, .inr ⟨mj, fun a => Nat.zero_le _⟩⟩
              rw [e]
              rw [ea] at q0
              obtain ⟨v0, e0, r0⟩ := q0
              have z := r0.pu d0 p
              rw [z] at r0
              exact ⟨v0, e0, r0.mono s2 E'.imm d0 fun a o _ n => absurd rfl n⟩
            · refine ⟨z0, ?_, .inr ⟨mj, fun a => Nat.zero_le _⟩⟩
              rw [e]
              exact rfl
            · refine ⟨cs' i, ?_, .inr ⟨mj, fun a => Nat.le_refl _⟩⟩
              rw [e]
              rw [eb] at q1
              obtain ⟨v1, e1, r1⟩ := q1
              exact ⟨v1, e1, r1.alone d' p⟩
        let cs2 : Nat → Cn := fun i => if hi : i < env.length then Classical.choose (key i hi) else z0
        have cs2e : ∀ i (hi : i < env.length), cs2 i = Classical.choose (key i hi) := fun i hi => dif_pos hi
        refine h S2 H' (sumC env.length cs2) v cr ⟨s2, E'.keep, E'.imm⟩ ⟨RepE.iff.mpr ⟨l1.trans hl, cs2, fun i hi => ?_, by rw [l1]⟩, fun a o e => ?_, fun a => ?_, G'.fr⟩ (r.alone d hn)
        · rw [l1] at hi
          rw [cs2e i hi]
          exact (Classical.choose_spec (key i hi)).1
        · have e : (if cj a = 0 then S' a else none) = some o := e
          split at e
          · exact G'.sub a o e
          · cases e
        · have d' := G'.dis a
          have hcs := congrFun hc' a
          rw [l2] at hcs
          by_cases z : cj a = 0
          · have le : sumC env.length cs2 a ≤ c' a := by
              rw [hcs]
              refine sumC_le fun i hi => ?_
              rw [cs2e i hi]
              rcases (Classical.choose_spec (key i hi)).2 with ⟨mj, e⟩ | ⟨_, le⟩
              · rw [e]
                have := le_j i hi mj a
                omega
              · exact le a
            have e : occ S2 a = occ S' a := occ_congr (if_pos z)
            rw [e]
            omega
          · obtain ⟨o, eo, _⟩ := cj_in a z
            have e' := occ_some (lent a o eo z)
            have e : occ S2 a = 0 := occ_none (if_neg z)
            have le : sumC env.length cs2 a ≤ sumC env.length cs a + sumC env.length cs' a := by
              rw [← sumC_add (cs := fun i => pl (cs i) (cs' i)) fun i hi => rfl]
              refine sumC_le fun i hi => ?_
              rw [cs2e i hi, pl_at]
              rcases (Classical.choose_spec (key i hi)).2 with ⟨mj, e⟩ | ⟨_, le⟩
              · rw [e]; omega
              · have := le a; omega
            have h0 := G.dis a
            have hc0 := congrFun hc a
            rw [e]
            omega
    · exact h.elim
end
end PL
set_option Elab.async false
set_option linter.all false
set_option maxRecDepth 100000
/-! PL, part 12: statements. -/
namespace PL
open PySem PySem.Spec L2
open PyProof.Rows hiding St

abbrev Dt := PL.D
abbrev Stm := PL.S
/-- what is never stored anew stands as it stood -/
def Pm (C : Ctx) (σ0 σ : St) : Prop := ∀ i, C.pin i = true → σ[i]? = σ0[i]?
def AfterS (R : Rc) (C : Ctx) (W : WX) (σ0 : St) (D : Ends) (S H : Hp) (f : Cn) : O Fl → Prop
  | .ok .next env' => ∀ S' H' σ' c', Ext S H f S' H' → Pm C σ0 σ' → Good R S' H' σ' env' c' f → D.nx σ' H'
  | .ok .brk env' => ∀ S' H' σ' c', Ext S H f S' H' → Pm C σ0 σ' → Good R S' H' σ' env' c' f → D.bk σ' H'
  | .ok .cont env' => ∀ S' H' σ' c', Ext S H f S' H' → Pm C σ0 σ' → Good R S' H' σ' env' c' f → D.ct σ' H'
  | .ok (.ret d) env' => ∀ S' H' σ' c' v cr, Ext S H f S' H' → Pm C σ0 σ' → Good R S' H' σ' env' c' (pl cr f) → Rep R S' H' d v cr → D.rt v H'
  | .exc k dv env' => ∀ S' H' σ' c' dd, Ext S H f S' H' → Pm C σ0 σ' → Good R S' H' σ' env' c' f → Thrown R S' H' dv dd → W (.ref (R.cl k)) (some dd) σ' H'
  | .st => False
def tS (R : Rc) (C : Ctx) (W : WX) (σ0 : St) (s : Stm) : TS := fun D σ H => ∃ S env c f, Good R S H σ env c f ∧ Pm C σ0 σ ∧ AfterS R C W σ0 D S H f (ex C s env)
def tSs (R : Rc) (C : Ctx) (W : WX) (σ0 : St) (s : List Stm) : TS := fun D σ H => ∃ S env c f, Good R S H σ env c f ∧ Pm C σ0 σ ∧ AfterS R C W σ0 D S H f (exs C s env)
/-- behind a store -/
def AfterG (R : Rc) (C : Ctx) (W : WX) (σ0 : St) (Q : St → Hp → Prop) (S H : Hp) (f : Cn) : O Unit → Prop
  | .ok _ env' => ∀ S' H' σ' c', Ext S H f S' H' → Pm C σ0 σ' → Good R S' H' σ' env' c' f → Q σ' H'
  | .exc k dv env' => ∀ S' H' σ' c' dd, Ext S H f S' H' → Pm C σ0 σ' → Good R S' H' σ' env' c' f → Thrown R S' H' dv dd → W (.ref (R.cl k)) (some dd) σ' H'
  | .st => False

section
variable {R : Rc} {C : Ctx} {W : WX} {σ0 σ : St} {D D' : Ends} {S S1 H H1 : Hp} {env env1 : Env} {c c1 f cr q : Cn} {Q : VK} {e : E} {es : List E} {s : Stm} {r : List Stm}
theorem AfterS.on {x : O Fl} (E : Ext S H f S1 H1) (h : AfterS R C W σ0 D S H f x) : AfterS R C W σ0 D S1 H1 f x := by
  cases x with
  | st => exact h
  | exc k dv env' => exact fun S' H' σ' c' dd E' => h S' H' σ' c' dd (E.trans0 E')
  | ok fl env' =>
    cases fl with
    | next => exact fun S' H' σ' c' E' => h S' H' σ' c' (E.trans0 E')
    | brk => exact fun S' H' σ' c' E' => h S' H' σ' c' (E.trans0 E')
    | cont => exact fun S' H' σ' c' E' => h S' H' σ' c' (E.trans0 E')
    | ret d => exact fun S' H' σ' c' v cr E' => h S' H' σ' c' v cr (E.trans0 E')
theorem AfterG.on {Q : St → Hp → Prop} {x : O Unit} (E : Ext S H f S1 H1) (h : AfterG R C W σ0 Q S H f x) : AfterG R C W σ0 Q S1 H1 f x := by
  cases x with
  | st => exact h
  | exc k dv env' => exact fun S' H' σ' c' dd E' => h S' H' σ' c' dd (E.trans0 E')
  | ok fl env' => exact fun S' H' σ' c' E' => h S' H' σ' c' (E.trans0 E')
/-- an expression, then more -/
theorem AfterS.bindV {x : O Dt} {k : Dt → Env → O Fl} (p : Pm C σ0 σ) (h : AfterS R C W σ0 D S H f (x.bind k))
    (hk : ∀ d env1 S1 H1 c1 v cr, Ext S H f S1 H1 → Good R S1 H1 σ env1 c1 (pl cr f) → Rep R S1 H1 d v cr → AfterS R C W σ0 D S1 H1 f (k d env1) → Q v H1) : AfterV R W Q S H σ f x := by
  cases x with
  | ok d env' => exact fun S' H' c' v cr E' G' r => hk d env' S' H' c' v cr E' G' r (AfterS.on E' h)
  | exc k dv env' => exact fun S' H' c' dd E' G' t => h S' H' σ c' dd E' p G' t
  | st => exact h
theorem AfterS.bindL {x : O (List Dt)} {k : List Dt → Env → O Fl} {Q : List V → Hp → Prop} (p : Pm C σ0 σ) (h : AfterS R C W σ0 D S H f (x.bind k))
    (hk : ∀ ds env1 S1 H1 c1 vs cr, Ext S H f S1 H1 → Good R S1 H1 σ env1 c1 (pl cr f) → RepL R S1 H1 ds vs cr → AfterS R C W σ0 D S1 H1 f (k ds env1) → Q vs H1) : AfterL R W Q S H σ f x := by
  cases x with
  | ok d env' => exact fun S' H' c' v cr E' G' r => hk d env' S' H' c' v cr E' G' r (AfterS.on E' h)
  | exc k dv env' => exact fun S' H' c' dd E' G' t => h S' H' σ c' dd E' p G' t
  | st => exact h
theorem AfterG.bindV {Q' : St → Hp → Prop} {x : O Dt} {k : Dt → Env → O Unit} (p : Pm C σ0 σ) (h : AfterG R C W σ0 Q' S H f (x.bind k))
    (hk : ∀ d env1 S1 H1 c1 v cr, Ext S H f S1 H1 → Good R S1 H1 σ env1 c1 (pl cr f) → Rep R S1 H1 d v cr → AfterG R C W σ0 Q' S1 H1 f (k d env1) → Q v H1) : AfterV R W Q S H σ f x := by
  cases x with
  | ok d env' => exact fun S' H' c' v cr E' G' r => hk d env' S' H' c' v cr E' G' r (AfterG.on E' h)
  | exc k dv env' => exact fun S' H' c' dd E' G' t => h S' H' σ c' dd E' p G' t
  | st => exact h

/-! ### one behind another -/
theorem tSs_nil (h : tSs R C W σ0 [] D σ H) : tNext D σ H := by
  obtain ⟨S, env, c, f, G, p, h⟩ := h
  exact h S H σ c .refl p G
theorem tSs_cons (h : tSs R C W σ0 (s :: r) D σ H) : tSeq (tS R C W σ0 s) (tSs R C W σ0 r) D σ H := by
  obtain ⟨S, env, c, f, G, p, h⟩ := h
  refine ⟨S, env, c, f, G, p, ?_⟩
  have h : AfterS R C W σ0 D S H f ((ex C s env).bind fun fl env => match fl with
    | .next => exs C r env
    | fl => .ok fl env) := h
  cases x : ex C s env with
  | st => rw [x] at h; exact h
  | exc k dv env' => rw [x] at h; exact h
  | ok fl env1 =>
    rw [x] at h
    cases fl with
    | next => exact fun S' H' σ' c' E' p' G' => ⟨S', env1, c', f, G', p', AfterS.on E' h⟩
    | brk => exact h
    | cont => exact h
    | ret d => exact h
/-! ### simple statements -/
theorem tS_pass (h : tS R C W σ0 .pass D σ H) : tNext D σ H := by
  obtain ⟨S, env, c, f, G, p, h⟩ := h
  exact h S H σ c .refl p G
theorem tS_brk (h : tS R C W σ0 .brk D σ H) : tBreak D σ H := by
  obtain ⟨S, env, c, f, G, p, h⟩ := h
  exact h S H σ c .refl p G
theorem tS_cont (h : tS R C W σ0 .cont D σ H) : tCont D σ H := by
  obtain ⟨S, env, c, f, G, p, h⟩ := h
  exact h S H σ c .refl p G
theorem tS_stk (h : tS R C W σ0 .stk D σ H) : False := by
  obtain ⟨S, env, c, f, G, p, h⟩ := h
  exact h
theorem tS_ret (h : tS R C W σ0 (.ret e) D σ H) : tRet (tV R C W e) D σ H := by
  obtain ⟨S, env, c, f, G, p, h⟩ := h
  simp only [ex] at h
  exact ⟨S, env, c, f, G, AfterS.bindV p h fun d env1 S1 H1 c1 v cr E1 G1 r1 h => h S1 H1 σ c1 v cr .refl p G1 r1⟩
theorem tS_ex (h : tS R C W σ0 (.ex e) D σ H) : tDrop (tV R C W e) D σ H := by
  obtain ⟨S, env, c, f, G, p, h⟩ := h
  simp only [ex] at h
  exact ⟨S, env, c, f, G, AfterS.bindV p h fun d env1 S1 H1 c1 v cr E1 G1 r1 h => h S1 H1 σ c1 .refl p (G1.lessF fun a => by rw [pl_at]; omega)⟩
theorem tS_ite {t : E} {a b : List Stm} (h : tS R C W σ0 (.ite t a b) D σ H) : tIfS (tT R C W t) (tSs R C W σ0 a) (tSs R C W σ0 b) D σ H := by
  obtain ⟨S, env, c, f, G, p, h⟩ := h
  simp only [ex] at h
  refine ⟨S, env, c, f, G, AfterS.bindV p h fun d env1 S1 H1 c1 v cr E1 G1 r1 h => ?_⟩
  cases d with
  | bl k =>
    obtain ⟨rfl, rfl⟩ := r1
    rw [z_pl] at G1
    refine ⟨k, rfl, ?_⟩
    cases k with
    | true => exact ⟨S1, env1, c1, f, G1, p, h⟩
    | false => exact ⟨S1, env1, c1, f, G1, p, h⟩
  | _ => exact h.elim
/-! ### stores -/
/-- what is stored is at hand -/
def tG (R : Rc) (C : Ctx) (W : WX) (σ0 : St) (t : Tt) : TG := fun v σ H Q => ∃ S env c f d cr, Good R S H σ env c (pl cr f) ∧ Pm C σ0 σ ∧ Rep R S H d v cr ∧ AfterG R C W σ0 Q S H f (store C t d env)
def tGs (R : Rc) (C : Ctx) (W : WX) (σ0 : St) (ts : List Tt) : TGs := fun vs σ H Q => ∃ S env c f ds cr, Good R S H σ env c (pl cr f) ∧ Pm C σ0 σ ∧ RepL R S H ds vs cr ∧ ts.length = ds.length ∧ AfterG R C W σ0 Q S H f (stores C ts ds env)
theorem Pm.set {i : Nat} {v : Option V} (p : Pm C σ0 σ) (h : C.pin i = false) : Pm C σ0 (σ.set i v) := fun j hj => by
  rw [List.getElem?_set_ne (fun z => by subst z; rw [h] at hj; cases hj)]
  exact p j hj
/-- a slot takes a thing of the frame -/
theorem Good.put {d : Dt} {v : V} {i : Nat} (G : Good R S H σ env c (pl cr f)) (r : Rep R S H d v cr) (hi : i < env.length) : ∃ c2, Good R S H (σ.set i (some v)) (env.set i (some d)) c2 f := by
  obtain ⟨c2, h2, le⟩ := G.env.put r hi
  refine ⟨pl cr c2, h2, G.sub, fun a => ?_, fun a n => G.fr a (by rw [pl_at]; omega)⟩
  have := G.dis a
  have := le a
  rw [pl_at] at *
  omega
theorem tG_v {i : Nat} {v : V} {Q : St → Hp → Prop} (h : tG R C W σ0 (.v i) v σ H Q) : gName i v σ H Q := by
  obtain ⟨S, env, c, f, d, cr, G, p, r, h⟩ := h
  simp only [store] at h
  split at h
  · rename_i hc
    rw [Bool.and_eq_true, decide_eq_true_eq] at hc
    obtain ⟨c2, G2⟩ := G.put r hc.1
    exact h S H _ c2 .refl (p.set (by simpa using hc.2)) G2
  · exact h.elim
theorem tGs_nil {vs : List V} {Q : St → Hp → Prop} (h : tGs R C W σ0 [] vs σ H Q) : gNil vs σ H Q := by
  obtain ⟨S, env, c, f, ds, cr, G, p, r, hl, h⟩ := h
  cases ds with
  | nil =>
    obtain ⟨rfl, rfl⟩ := rl0 r
    rw [z_pl] at G
    exact ⟨rfl, h S H σ c .refl p G⟩
  | cons d ds => cases hl
theorem tGs_cons {t : Tt} {ts : List Tt} {vs : List V} {Q : St → Hp → Prop} (h : tGs R C W σ0 (t :: ts) vs σ H Q) : gCons (tG R C W σ0 t) (tGs R C W σ0 ts) vs σ H Q := by
  obtain ⟨S, env, c, f, ds, cr, G, p, r, hl, h⟩ := h
  cases ds with
  | nil => cases hl
  | cons d ds =>
    cases vs with
    | nil => exact r.elim
    | cons v vs =>
      obtain ⟨c1, c2, r1, r2, rfl⟩ := r
      refine ⟨v, vs, rfl, S, env, c, pl c2 f, d, c1, by rw [← pl_assoc]; exact G, p, r1, ?_⟩
      have h : AfterG R C W σ0 Q S H f ((store C t d env).bind fun _ env => stores C ts ds env) := h
      cases x : store C t d env with
      | st => rw [x] at h; exact h
      | exc k dv env' =>
        rw [x] at h
        exact fun S' H' σ' c' dd E' p' G' => h S' H' σ' c' dd (E'.lessF fun a n => right_ne n) p' (G'.lessF fun a => by rw [pl_at]; omega)
      | ok u env1 =>
        rw [x] at h
        intro S' H' σ' c' E' p' G'
        exact ⟨S', env1, c', f, ds, c2, G', p', r2.frame E' fun a n => left_ne n, by simpa using hl, AfterG.on (E'.lessF fun a n => right_ne n) h⟩
theorem store_len {ts : List Tt} {d : Dt} {Q : St → Hp → Prop} (h : AfterG R C W σ0 Q S H f (store C (.tup ts) d env)) : ∃ ds, (d = .tup ds ∨ ∃ o, d = .lst o ds) ∧ ts.length = ds.length ∧ AfterG R C W σ0 Q S H f (stores C ts ds env) := by
  cases d with
  | tup ds =>
    simp only [store] at h
    split at h
    · rename_i e
      exact ⟨ds, .inl rfl, e, h⟩
    · exact h.elim
  | lst o ds =>
    simp only [store] at h
    split at h
    · rename_i e
      exact ⟨ds, .inr ⟨o, rfl⟩, e, h⟩
    · exact h.elim
  | _ => simp only [store] at h; exact h.elim
theorem tG_tup {ts : List Tt} {v : V} {Q : St → Hp → Prop} {n : Nat} (hn : ts.length = n) (h : tG R C W σ0 (.tup ts) v σ H Q) : gTup R.K n (tGs R C W σ0 ts) v σ H Q ∨ gLst R.K n (tGs R C W σ0 ts) v σ H Q := by
  obtain ⟨S, env, c, f, d, cr, G, p, r, h⟩ := h
  obtain ⟨ds, e, hl, h2⟩ := store_len h
  rcases e with rfl | ⟨o, rfl⟩
  · obtain ⟨a, vs, rfl, sq, l⟩ := r
    exact .inl ⟨a, vs, rfl, sq, by rw [← l.length, ← hl, hn], S, env, c, f, ds, cr, G, p, l, hl, h2⟩
  · obtain ⟨a, vs, c', rfl, sq, _, l, le, _⟩ := r.lst G.sub
    exact .inr ⟨a, vs, rfl, sq, by rw [← l.length, ← hl, hn], S, env, c, f, ds, c', G.lessF fun x => by
      have := le x
      rw [pl_at, pl_at]; omega, p, l, hl, h2⟩
theorem tS_asg {t : Tt} (h : tS R C W σ0 (.asg t e) D σ H) : tAsg (tV R C W e) (tG R C W σ0 t) D σ H := by
  obtain ⟨S, env, c, f, G, p, h⟩ := h
  simp only [ex] at h
  refine ⟨S, env, c, f, G, AfterS.bindV p h fun d env1 S1 H1 c1 v cr E1 G1 r1 h => ⟨S1, env1, c1, f, d, cr, G1, p, r1, ?_⟩⟩
  cases x : store C t d env1 with
  | st => rw [x] at h; exact h
  | exc k dv env' => rw [x] at h; exact h
  | ok u env1 => rw [x] at h; exact h
/-- a list of a slot's own is changed: its new things come of its old ones and of the frame -/
theorem Good.mut {i : Nat} {xs : List Dt} (G : Good R S H σ env c (pl cr f)) (eo : get env i = some (.lst .own xs)) : ∃ (a : Addr) (vs : List V) (c' c2 : Cn), σ[i]? = some (some (.ref a)) ∧ H a = some (.lst vs) ∧ RepL R S H xs vs c' ∧ (∀ x, c' x + c2 x ≤ c x) ∧
    ∀ (xs' : List Dt) (vs' : List V) (q g : Cn), RepL R S H xs' vs' q → (∀ x, q x + g x ≤ c' x + cr x) → ∃ c3, Good R S (upd H a (.lst vs')) σ (env.set i (some (.lst .own xs'))) c3 (pl g f) ∧ Ext S H f S (upd H a (.lst vs')) ∧ (∀ d v, Rep R S H d v g → Rep R S (upd H a (.lst vs')) d v g) := by
  obtain ⟨u, co, c2, eu, ro, ec, _, rest⟩ := G.env.at_ eo
  obtain ⟨a, vs, c', rfl, hb, hl, rfl⟩ := ro
  have dis := fun x => G.dis x
  have at_a := dis a
  rw [ec, pl_at, pl_at, pl_at, one_at, if_pos rfl] at at_a
  refine ⟨a, vs, c', c2, eu, hb, hl, fun x => by rw [ec, pl_at, pl_at]; omega, fun xs' vs' q g hl' hq => ?_⟩
  have qa : q a + g a = 0 := by have := hq a; omega
  have mono : ∀ x o, H x = some o → x ≠ a → upd H a (.lst vs') x = some o := fun x o ex n => by rw [upd_ne n]; exact ex
  have imm : ∀ x o, H x = some o → ¬ Mu o → upd H a (.lst vs') x = some o := fun x o ex m => mono x o ex fun y => by subst y; rw [hb] at ex; cases ex; exact m trivial
  have hn : Rep R S (upd H a (.lst vs')) (.lst .own xs') (.ref a) (pl (one a) q) :=
    ⟨a, vs', q, rfl, upd_same, hl'.mono (fun _ _ h => h) imm _ fun x o ex n => mono x o ex fun y => by subst y; omega, rfl⟩
  have hr : RepE R S (upd H a (.lst vs')) (env.set i none) σ c2 := rest.mono (fun _ _ h => h) imm fun x o ex n => mono x o ex fun y => by subst y; omega
  obtain ⟨c3, h3, le⟩ := hr.put hn (by rw [List.length_set]; exact get_len eo)
  have es : σ.set i (some (.ref a)) = σ := by
    refine List.ext_getElem? fun j => ?_
    by_cases z : j = i
    · subst z
      rw [List.getElem?_set_self (List.getElem?_eq_some_iff.mp eu).1, eu]
    · rw [List.getElem?_set_ne (Ne.symm z)]
  rw [List.set_set, es] at h3
  have hg : ∀ x o, H x = some o → g x ≠ 0 → upd H a (.lst vs') x = some o := fun x o ex n => mono x o ex fun y => by subst y; omega
  have hf : ∀ x o, H x = some o → f x ≠ 0 → upd H a (.lst vs') x = some o := fun x o ex n => mono x o ex fun y => by subst y; omega
  refine ⟨_, ⟨h3, fun x o ex => mono x o (G.sub x o ex) fun y => ?_, fun x => ?_, fun x n => ?_⟩, ⟨fun _ _ h => h, hf, imm⟩, fun d v r => r.mono (fun _ _ h => h) imm d hg⟩
  · subst y
    rw [occ_some ex] at at_a
    omega
  · have h1 := dis x
    have h2 := hq x
    have h3 := le x
    rw [ec] at h1
    rw [pl_at] at *
    rw [pl_at] at *
    rw [pl_at] at *
    omega
  · by_cases z : g x = 0
    · rw [pl_at, z] at n
      obtain ⟨o, ex, m⟩ := G.fr x (by rw [pl_at]; omega)
      exact ⟨o, hf x o ex (by omega), m⟩
    · have h2 := hq x
      by_cases z1 : cr x = 0
      · obtain ⟨o, ex, m⟩ := hl.mu xs x (by omega)
        exact ⟨o, hg x o ex z, m⟩
      · obtain ⟨o, ex, m⟩ := G.fr x (by rw [pl_at]; omega)
        exact ⟨o, hg x o ex z, m⟩
theorem ixN_lt {n j : Nat} {i : Int} (ej : PL.ixN n i = some j) : j < n := by
  unfold PL.ixN at ej
  split at ej
  · split at ej
    · cases ej; omega
    · cases ej
  · split at ej
    · cases ej; omega
    · cases ej
/-- s[key] = .. of a list of a slot's own -/
theorem tG_sub {i : Nat} {key : E} {v : V} {Q : St → Hp → Prop} (h : tG R C W σ0 (.sub i [] key) v σ H Q) : gSub (tVar i) (tV R C W key) rSetL v σ H Q := by
  obtain ⟨S, env, c, f, d, cr, G, p, r, h⟩ := h
  simp only [store, List.isEmpty_nil, if_true] at h
  split at h
  · exact h.elim
  rename_i hsome
  cases e0 : get env i with
  | none => rw [e0] at hsome; exact absurd rfl hsome
  | some d0 =>
  obtain ⟨u, _, _, eu, _⟩ := G.env.at_ e0
  refine ⟨u, eu, S, env, c, pl cr f, G, ?_⟩
  cases x : ev C key env with
  | st => rw [x] at h; exact h
  | exc k dv env' =>
    rw [x] at h
    exact fun S' H' c' dd E' G' t => h S' H' σ c' dd (E'.lessF fun a n => right_ne n) p (G'.lessF fun a => by rw [pl_at]; omega) t
  | ok kd env1 =>
    rw [x] at h
    intro S1 H1 c1 kv ck E1 G1 rk
    have h : AfterG R C W σ0 Q S H f (match get env1 i with
      | some o => (match setAt o kd d with
        | some o' => .ok () (env1.set i (some o'))
        | none => .st)
      | none => .st) := h
    have h := AfterG.on (E1.lessF fun a n => right_ne n) h
    have r' : Rep R S1 H1 d v cr := r.frame E1 fun a n => left_ne n
    cases eo : get env1 i with
    | none => rw [eo] at h; exact h.elim
    | some o =>
      rw [eo] at h
      simp only at h
      cases es : setAt o kd d with
      | none => rw [es] at h; exact h.elim
      | some o' =>
        rw [es] at h
        unfold setAt at es
        split at es
        · rename_i xs n _
          obtain ⟨j, ej, rfl⟩ := Option.map_eq_some_iff.mp es
          obtain ⟨rfl, rfl⟩ := rk
          rw [z_pl] at G1
          obtain ⟨a, vs, c', c2, eu', hb, hl, _, mk⟩ := G1.mut eo
          rw [eu] at eu'
          cases eu'
          refine ⟨a, vs, n, j, rfl, rfl, hb, by rw [← hl.length]; exact ej, ?_⟩
          obtain ⟨w, k1, k2, ew, rw1, rfl, st, _⟩ := hl.take1 (i := j) (List.getElem?_eq_getElem (ixN_lt ej))
          obtain ⟨c3, G3, E3, _⟩ := mk (xs.set j d) (vs.set j v) (pl cr k2) z0 (st d v cr r') fun x => by rw [pl_at, pl_at]; show _ + 0 ≤ _; omega
          rw [z_pl] at G3
          exact h S1 _ σ c3 E3 p G3
        · cases es

/-! ### two, three at once -/
theorem putMany : ∀ {is : List Nat} {ds : List Dt} {vs : List V} {σ : St} {env : Env} {c cr : Cn}, Good R S H σ env c (pl cr f) → Pm C σ0 σ → RepL R S H ds vs cr → (is.all fun i => decide (i < env.length) && !C.pin i) = true → ds.length = is.length →
    ∃ c2, Good R S H (is.zip vs |>.foldl (fun s p => s.set p.1 (some p.2)) σ) (setMany is ds env) c2 f ∧ Pm C σ0 (is.zip vs |>.foldl (fun s p => s.set p.1 (some p.2)) σ)
  | [], [], vs, σ, env, c, cr, G, p, r, _, _ => by
    obtain ⟨rfl, rfl⟩ := rl0 r
    rw [z_pl] at G
    exact ⟨c, G, p⟩
  | i :: is, d :: ds, v :: vs, σ, env, c, cr, G, p, r, ha, hl => by
    obtain ⟨c1, c2, r1, r2, rfl⟩ := r
    rw [List.all_cons, Bool.and_eq_true, Bool.and_eq_true, decide_eq_true_eq] at ha
    rw [pl_assoc] at G
    obtain ⟨c3, G3⟩ := G.put r1 ha.1.1
    refine putMany (is := is) (ds := ds) (vs := vs) G3 (p.set (by simpa using ha.1.2)) r2 ?_ (by simpa using hl)
    refine Eq.trans ?_ ha.2
    congr 1
    funext j
    rw [List.length_set]
  | _ :: _, _ :: _, [], _, _, _, _, _, _, r, _, _ => r.elim
  | [], _ :: _, _, _, _, _, _, _, _, _, _, hl => by cases hl
  | _ :: _, [], _, _, _, _, _, _, _, _, _, hl => by cases hl
theorem tS_par2 {i j : Nat} {a b : E} (h : tS R C W σ0 (.par [i, j] [a, b]) D σ H) : tPar i j (tVs R C W [a, b]) D σ H := by
  obtain ⟨S, env, c, f, G, p, h⟩ := h
  simp only [ex] at h
  refine ⟨S, env, c, f, G, AfterS.bindL p h fun ds env1 S1 H1 c1 vs cr E1 G1 r1 h => ?_⟩
  split at h
  · rename_i hc
    rw [Bool.and_eq_true, decide_eq_true_eq] at hc
    obtain ⟨c2, G2, p2⟩ := putMany G1 p r1 hc.2 hc.1
    have hl : vs.length = 2 := by rw [← r1.length, hc.1]; rfl
    match vs, hl with
    | [v, w], _ => exact ⟨v, w, rfl, h S1 H1 _ c2 .refl p2 G2⟩
  · exact h.elim
theorem tS_par3 {i j l : Nat} {a b d : E} (h : tS R C W σ0 (.par [i, j, l] [a, b, d]) D σ H) : tPar3 i j l (tVs R C W [a, b, d]) D σ H := by
  obtain ⟨S, env, c, f, G, p, h⟩ := h
  simp only [ex] at h
  refine ⟨S, env, c, f, G, AfterS.bindL p h fun ds env1 S1 H1 c1 vs cr E1 G1 r1 h => ?_⟩
  split at h
  · rename_i hc
    rw [Bool.and_eq_true, decide_eq_true_eq] at hc
    obtain ⟨c2, G2, p2⟩ := putMany G1 p r1 hc.2 hc.1
    have hl : vs.length = 3 := by rw [← r1.length, hc.1]; rfl
    match vs, hl with
    | [u, v, w], _ => exact ⟨u, v, w, rfl, h S1 H1 _ c2 .refl p2 G2⟩
  · exact h.elim
end
end PL
set_option Elab.async false
set_option linter.all false
set_option maxRecDepth 100000
/-! PL, part 13: loops: what they walk, the targets' names; while, for. -/
namespace PL
open PySem PySem.Spec L2
open PyProof.Rows hiding St

mutual
def tgSlots : Tg → List Nat
  | .v i => [i]
  | .tup ts => tgsSlots ts
termination_by structural x => x
def tgsSlots : List Tg → List Nat
  | [] => []
  | t :: r => tgSlots t ++ tgsSlots r
termination_by structural x => x
end
mutual
theorem tgFree_not {p : Nat → Bool} : ∀ t : Tg, tgFree p t = true → ∀ j ∈ tgSlots t, p j = false
  | .v i, h, j, hj => by
    obtain rfl := List.mem_singleton.mp hj
    have h : (!p j) = true := h
    simpa using h
  | .tup ts, h, j, hj => tgsFree_not ts h j hj
termination_by structural x => x
theorem tgsFree_not {p : Nat → Bool} : ∀ ts : List Tg, tgsFree p ts = true → ∀ j ∈ tgsSlots ts, p j = false
  | [], _, j, hj => by cases hj
  | t :: ts, h, j, hj => by
    have h : (tgFree p t && tgsFree p ts) = true := h
    rw [Bool.and_eq_true] at h
    rcases List.mem_append.mp hj with hj | hj
    · exact tgFree_not t h.1 j hj
    · exact tgsFree_not ts h.2 j hj
termination_by structural x => x
end
/-- off some slots -/
def Off (is : List Nat) (σ σ2 : St) : Prop := σ2.length = σ.length ∧ ∀ j, j ∉ is → σ2[j]? = σ[j]?
section
variable {R : Rc} {C : Ctx} {W : WX} {σ0 σ : St} {D : Ends} {S S1 S2 H H1 H2 : Hp} {env env1 : Env} {c c1 f cr q : Cn} {Q : VK} {e : E} {es : List E}
def tB (R : Rc) (tg : Tg) : TG := fun v σ H Q => ∃ S env c f d env2, Good R S H σ env c f ∧ Rep R S H d v z0 ∧ bind tg d env = some env2 ∧ ∀ σ2 c2, Good R S H σ2 env2 c2 f → Off (tgSlots tg) σ σ2 → Q σ2 H
def tBs (R : Rc) (ts : List Tg) : TGs := fun vs σ H Q => ∃ S env c f ds env2, Good R S H σ env c f ∧ RepL R S H ds vs z0 ∧ ts.length = ds.length ∧ binds ts ds env = some env2 ∧ ∀ σ2 c2, Good R S H σ2 env2 c2 f → Off (tgsSlots ts) σ σ2 → Q σ2 H
theorem Off.set {i : Nat} {x : Option V} : Off [i] σ (σ.set i x) := ⟨List.length_set, fun j hj => List.getElem?_set_ne fun z => hj (by simp [z])⟩
theorem tB_v {i : Nat} {v : V} {Q : St → Hp → Prop} (h : tB R (.v i) v σ H Q) : gName i v σ H Q := by
  obtain ⟨S, env, c, f, d, env2, G, r, hb, k⟩ := h
  simp only [bind] at hb
  split at hb
  · rename_i hi
    obtain rfl := Option.some.inj hb
    obtain ⟨c2, G2⟩ := Good.put (cr := z0) (f := f) (by rw [z_pl]; exact G) r hi
    exact k _ c2 G2 .set
  · cases hb
theorem tBs_nil {vs : List V} {Q : St → Hp → Prop} (h : tBs R [] vs σ H Q) : gNil vs σ H Q := by
  obtain ⟨S, env, c, f, ds, env2, G, r, hl, hb, k⟩ := h
  cases ds with
  | nil =>
    obtain rfl := Option.some.inj hb
    obtain ⟨rfl, _⟩ := rl0 r
    exact ⟨rfl, k σ c G ⟨rfl, fun _ _ => rfl⟩⟩
  | cons d ds => cases hl
theorem tBs_cons {t : Tg} {ts : List Tg} {vs : List V} {Q : St → Hp → Prop} (h : tBs R (t :: ts) vs σ H Q) : gCons (tB R t) (tBs R ts) vs σ H Q := by
  obtain ⟨S, env, c, f, ds, env2, G, r, hl, hb, k⟩ := h
  cases ds with
  | nil => cases hl
  | cons d ds =>
    cases vs with
    | nil => exact r.elim
    | cons v vs =>
      obtain ⟨c1, c2, r1, r2, e⟩ := r
      obtain ⟨rfl, rfl⟩ := pl_eq_z e.symm
      obtain ⟨env1, h1, h2⟩ := Option.bind_eq_some_iff.mp (show (bind t d env).bind (binds ts ds) = some env2 from hb)
      refine ⟨v, vs, rfl, S, env, c, f, d, env1, G, r1, h1, fun σ1 c1 G1 o1 => ⟨S, env1, c1, f, ds, env2, G1, r2, by simpa using hl, h2, fun σ2 c2 G2 o2 => k σ2 c2 G2 ⟨o2.1.trans o1.1, fun j hj => ?_⟩⟩⟩
      have hj : j ∉ tgSlots t ++ tgsSlots ts := hj
      rw [List.mem_append, not_or] at hj
      exact (o2.2 j hj.2).trans (o1.2 j hj.1)
theorem tB_tup {ts : List Tg} {v : V} {Q : St → Hp → Prop} {n : Nat} (hn : ts.length = n) (h : tB R (.tup ts) v σ H Q) : gTup R.K n (tBs R ts) v σ H Q ∨ gLst R.K n (tBs R ts) v σ H Q := by
  obtain ⟨S, env, c, f, d, env2, G, r, hb, k⟩ := h
  cases d with
  | tup ds =>
    simp only [bind] at hb
    split at hb
    · rename_i e
      obtain ⟨a, vs, rfl, sq, l⟩ := r
      exact .inl ⟨a, vs, rfl, sq, by rw [← l.length, ← e, hn], S, env, c, f, ds, env2, G, l, e, hb, k⟩
    · cases hb
  | lst o ds =>
    simp only [bind] at hb
    split at hb
    · rename_i e
      obtain ⟨a, vs, c', rfl, sq, _, l, le, _⟩ := r.lst G.sub
      have z : c' = z0 := funext fun x => Nat.le_zero.mp (le x)
      subst z
      exact .inr ⟨a, vs, rfl, sq, by rw [← l.length, ← e, hn], S, env, c, f, ds, env2, G, l, e, hb, k⟩
    · cases hb
  | _ => simp only [bind] at hb; cases hb

/-! ### what is walked -/
/-- the walk J gives xs, one after another, as long as what was tracked is kept -/
def WalkI (R : Rc) (S H : Hp) (J : It) (xs : List Dt) : Prop := ∀ S' H', Ext S H z0 S' H' → (∀ a o, S' a = some o → H' a = some o) →
  J.stop xs.length H' ∧ ∀ i, i < xs.length → J.go i H' ∧ ∀ x H'', J.yld i H' x H'' → ∃ d, xs[i]? = some d ∧ New H' H'' ∧ Rep R S' H'' d x z0
def AfterI (R : Rc) (W : WX) (kd : Kd) (Q : It → Hp → Prop) (S H : Hp) (σ : St) (f : Cn) : O (List Dt) → Prop
  | .ok ds env' => ∃ xs, items kd (fzs ds) = some xs ∧ ∀ S' H' c' J, Ext S H f S' H' → Good R S' H' σ env' c' f → WalkI R S' H' J xs → Q J H'
  | .exc k dv env' => ∀ S' H' c' dd, Ext S H f S' H' → Good R S' H' σ env' c' f → Thrown R S' H' dv dd → W (.ref (R.cl k)) (some dd) σ H'
  | .st => False
def tI (R : Rc) (C : Ctx) (W : WX) (kd : Kd) (es : List E) : TI := fun σ H Q => ∃ S env c f, Good R S H σ env c f ∧ AfterI R W kd Q S H σ f (evs C es env)
/-- the things of a sequence -/
theorem walk_of {J : It} {n : Nat} {G : Hp → Prop} {vs : List V} {xs : List Dt} (w : Walk J n G (YAt vs)) (hn : n = xs.length) (hG : ∀ S' H', Ext S H z0 S' H' → (∀ a o, S' a = some o → H' a = some o) → G H') (hr : RepL R S H xs vs z0) : WalkI R S H J xs := by
  subst hn
  refine fun S' H' E sub => ⟨w.stops H' (hG S' H' E sub), fun i hi => ⟨w.goes i H' hi (hG S' H' E sub), fun x H'' y => ?_⟩⟩
  obtain ⟨e, hx⟩ := w.yields i H' x H'' hi (hG S' H' E sub) y
  subst e
  obtain ⟨v, ev, r⟩ := hr.get (List.getElem?_eq_getElem hi)
  rw [ev] at hx
  cases hx
  exact ⟨_, List.getElem?_eq_getElem hi, .refl, r.frame0 E⟩
theorem walk_s {z : List Nat} : WalkI R S H (Its (mkS z)) (signs z) := by
  intro S' H' E sub
  have hl : (signs z).length = (mkS z).cps.size := by
    show (List.map _ z).length = z.toArray.size
    rw [List.length_map, List.size_toArray]
  rw [hl]
  refine ⟨walk_str.stops H' trivial, fun i hi => ⟨walk_str.goes i H' hi trivial, fun x H'' y => ?_⟩⟩
  obtain ⟨e, c, hc, rfl⟩ := walk_str.yields i H' x H'' hi trivial y
  subst e
  have hc : z[i]? = some c := by
    have hc : z.toArray[i]? = some c := hc
    rw [List.getElem?_toArray] at hc
    exact hc
  refine ⟨.str [c], ?_, .refl, rfl, rfl⟩
  show (List.map _ z)[i]? = _
  rw [List.getElem?_map, hc]
  rfl
theorem fzs1 {ds : List Dt} {d : Dt} (h : fzs ds = [d]) : ∃ d0, ds = [d0] ∧ fz d0 = d := by
  match ds, h with
  | [d0], h => exact ⟨d0, rfl, (List.cons.inj h).1⟩
  | d0 :: d1 :: r, h => cases h
  | [], h => cases h
/-- freezing what an expression gave -/
theorem AfterV.frozen {x : O Dt} {k : Dt → Env → Prop} (h : ∀ d env', x = .ok d env' → ∀ S' H' c' v, Ext S H f S' H' → Good R S' H' σ env' c' f → Rep R S' H' (fz d) v z0 → Q v H')
    (hx : ∀ k dv env', x = .exc k dv env' → ∀ S' H' c' dd, Ext S H f S' H' → Good R S' H' σ env' c' f → Thrown R S' H' dv dd → W (.ref (R.cl k)) (some dd) σ H') (hs : x ≠ .st) : AfterV R W Q S H σ f x := by
  cases e : x with
  | st => exact hs e
  | exc k dv env' => exact hx k dv env' e
  | ok d env' =>
    intro S' H' c' v cr E G r
    obtain ⟨G2, s2⟩ := G.give
    refine h d env' e (give cr S' H') H' c' v (E.trans0 (.more (fun _ _ h => h) s2)) G2 (r.fz s2 d fun a o n ea => ?_)
    unfold PL.give
    rw [if_neg n]; exact ea
theorem tI_seq (h : tI R C W .seq [e] σ H Q') : iList R.K (tV R C W e) σ H Q' ∨ iTup R.K (tV R C W e) σ H Q' ∨ iStr (tV R C W e) σ H Q' := by
  obtain ⟨S, env, c, f, G, h⟩ := h
  have h : AfterI R W .seq Q' S H σ f ((ev C e env).bind fun d env => (O.ok [] env).bind fun ds env => .ok (d :: ds) env) := h
  cases x : ev C e env with
  | st => rw [x] at h; exact h.elim
  | exc k dv env' =>
    rw [x] at h
    exact .inl ⟨S, env, c, f, G, by rw [x]; exact h⟩
  | ok d env1 =>
    rw [x] at h
    obtain ⟨xs, ei, h⟩ := (show ∃ xs, items .seq (fzs [d]) = some xs ∧ ∀ S' H' c' J, Ext S H f S' H' → Good R S' H' σ env1 c' f → WalkI R S' H' J xs → Q' J H' from h)
    have ei : itemsOf (fz d) = some xs := ei
    have fin : ∀ (K : VK), (∀ S' H' c' v, Ext S H f S' H' → Good R S' H' σ env1 c' f → Rep R S' H' (fz d) v z0 → K v H') → tV R C W e σ H K := fun K hK => ⟨S, env, c, f, G, by
      rw [x]
      intro S' H' c' v cr E G r
      obtain ⟨G2, s2⟩ := G.give
      refine hK (give cr S' H') H' c' v (E.trans0 (.more (fun _ _ h => h) s2)) G2 (r.fz s2 d fun a o n ea => ?_)
      unfold PL.give
      rw [if_neg n]; exact ea⟩
    cases ed : fz d with
    | lst o ys =>
      rw [ed] at ei fin
      obtain rfl := Option.some.inj ei
      refine .inl (fin _ fun S' H' c' v E G r => ?_)
      obtain ⟨a, vs, c'', rfl, sq, _, l, le, _⟩ := r.lst G.sub
      have z : c'' = z0 := funext fun x => Nat.le_zero.mp (le x)
      subst z
      cases o with
      | own =>
        obtain ⟨_, _, _, _, _, _, z⟩ := r
        exact (one_ne (pl_eq_z z.symm).1).elim
      | sh t =>
        obtain ⟨a', vs', e', sq', _, l', _⟩ := r
        cases e'
        have sq2 : SqL R.K S' a vs' := sq'.elim (fun z => .inl (.inl z)) fun z => z.2
        exact ⟨a, rfl, ⟨vs, sq⟩, h S' H' c' _ E G (walk_of (walk_list (a := a)) l'.length.symm (fun S2 H2 E2 s2 => PL.SqL.mono s2 (PL.SqL.mono E2.sub sq2)) l')⟩
    | tup ys =>
      rw [ed] at ei fin
      obtain rfl := Option.some.inj ei
      refine .inr (.inl (fin _ fun S' H' c' v E G r => ?_))
      obtain ⟨a, vs, rfl, sq, l⟩ := r
      exact ⟨a, rfl, ⟨vs, sq⟩, h S' H' c' _ E G (walk_of (walk_tup (a := a)) l.length.symm (fun S2 H2 E2 s2 => PL.SqT.mono E2.imm sq) l)⟩
    | str z =>
      rw [ed] at ei fin
      obtain rfl := Option.some.inj ei
      refine .inr (.inr (fin _ fun S' H' c' v E G r => ?_))
      obtain ⟨rfl, _⟩ := r
      exact ⟨_, rfl, h S' H' c' _ E G walk_s⟩
    | _ => rw [ed] at ei; cases ei
theorem range_get : ∀ {n : Nat} {lo : Int} {i : Nat}, i < n → (rangeL lo n)[i]? = some (.int (lo + i))
  | n + 1, lo, 0, _ => by
    show some (D.int lo) = _
    rw [show lo + ((0 : Nat) : Int) = lo by omega]
  | n + 1, lo, i + 1, h => by
    show (rangeL (lo + 1) n)[i]? = _
    rw [range_get (Nat.lt_of_succ_lt_succ h)]
    congr 2
    omega
theorem range_len : ∀ {n : Nat} {lo : Int}, (rangeL lo n).length = n
  | 0, _ => rfl
  | n + 1, lo => by
    show (rangeL (lo + 1) n).length + 1 = n + 1
    rw [range_len]
theorem walk_r {lo : Int} {n : Nat} : WalkI R S H (Itr lo n) (rangeL lo n) := by
  intro S' H' E sub
  rw [range_len]
  refine ⟨walk_range.stops H' trivial, fun i hi => ⟨walk_range.goes i H' hi trivial, fun x H'' y => ?_⟩⟩
  obtain ⟨e, rfl⟩ := walk_range.yields i H' x H'' hi trivial y
  subst e
  exact ⟨_, range_get hi, .refl, rfl, rfl⟩
theorem small62_of {i : Int} (h : small62 i = true) : -(2 ^ 62) ≤ i ∧ i < 2 ^ 62 := by
  unfold small62 at h
  rw [Bool.and_eq_true, decide_eq_true_eq, decide_eq_true_eq] at h
  exact h
/-- what arguments gave, frozen -/
theorem evs_len : ∀ {es : List E} {env env' : Env} {ds : List Dt}, evs C es env = .ok ds env' → ds.length = es.length
  | [], env, env', ds, h => by
    simp only [evs] at h
    cases h; rfl
  | e :: es, env, env', ds, h => by
    have h : ((ev C e env).bind fun d env => (evs C es env).bind fun ds env => .ok (d :: ds) env) = .ok ds env' := h
    cases x : ev C e env with
    | st => rw [x] at h; cases h
    | exc k dv env' => rw [x] at h; cases h
    | ok d env1 =>
      rw [x] at h
      have h : ((evs C es env1).bind fun ds env => .ok (d :: ds) env) = .ok ds env' := h
      cases y : evs C es env1 with
      | st => rw [y] at h; cases h
      | exc k dv env' => rw [y] at h; cases h
      | ok ds2 env2 =>
        rw [y] at h
        have h : O.ok (d :: ds2) env2 = .ok ds env' := h
        cases h
        rw [List.length_cons, List.length_cons, evs_len y]
theorem fzs_len : ∀ ds : List Dt, (fzs ds).length = ds.length
  | [] => rfl
  | d :: ds => by
    show (fzs ds).length + 1 = ds.length + 1
    rw [fzs_len ds]
theorem AfterI.frozen {kd : Kd} {Q' : It → Hp → Prop} {QL : List V → Hp → Prop} (h : AfterI R W kd Q' S H σ f (evs C es env))
    (k : ∀ ds xs S' H' c' vs env', ds.length = es.length → items kd ds = some xs → Ext S H f S' H' → Good R S' H' σ env' c' f → RepL R S' H' ds vs z0 → (∀ J, WalkI R S' H' J xs → Q' J H') → QL vs H') : AfterL R W QL S H σ f (evs C es env) := by
  cases x : evs C es env with
  | st => rw [x] at h; exact h.elim
  | exc k dv env' => rw [x] at h; exact h
  | ok ds env1 =>
    rw [x] at h
    obtain ⟨xs, ei, h⟩ := h
    intro S' H' c' vs cr E G r
    obtain ⟨G2, s2⟩ := G.give
    have E2 := E.trans0 (.more (fun _ _ h => h) s2)
    refine k (fzs ds) xs (give cr S' H') H' c' vs env1 (by rw [fzs_len, evs_len x]) ei E2 G2 (r.fz s2 ds fun a o n ea => ?_) fun J w => h _ _ _ J E2 G2 w
    unfold PL.give
    rw [if_neg n]; exact ea
theorem AfterI.frozen' {kd : Kd} {Q' : It → Hp → Prop} {QL : List V → Hp → Prop} {ds : List Dt} {env1 : Env} (h : AfterI R W kd Q' S H σ f (evs C es env)) (x : evs C es env = .ok ds env1) {xs : List Dt} (ei : items kd (fzs ds) = some xs)
    (k : ∀ S' H' c' vs, Ext S H f S' H' → Good R S' H' σ env1 c' f → RepL R S' H' (fzs ds) vs z0 → (∀ J, WalkI R S' H' J xs → Q' J H') → QL vs H') : AfterL R W QL S H σ f (evs C es env) := by
  rw [x] at h ⊢
  obtain ⟨xs', ei', h⟩ := h
  rw [ei] at ei'
  cases ei'
  intro S' H' c' vs cr E G r
  obtain ⟨G2, s2⟩ := G.give
  have E2 := E.trans0 (.more (fun _ _ h => h) s2)
  refine k (give cr S' H') H' c' vs E2 G2 (r.fz s2 ds fun a o n ea => ?_) fun J w => h _ _ _ J E2 G2 w
  unfold PL.give
  rw [if_neg n]; exact ea
theorem tI_range1 {a : E} {Q' : It → Hp → Prop} (h : tI R C W .range [a] σ H Q') : iRng1 (tVs R C W [a]) σ H Q' := by
  obtain ⟨S, env, c, f, G, h⟩ := h
  refine ⟨S, env, c, f, G, AfterI.frozen h fun ds xs S' H' c' vs env' hl ei E G r kk => ?_⟩
  change i_range ds = some xs at ei
  unfold i_range at ei
  split at ei
  · split at ei
    · rename_i hs
      obtain rfl := Option.some.inj ei
      obtain ⟨v, rfl, rfl, _⟩ := rl1 r
      exact ⟨_, rfl, (small62_of hs).1, (small62_of hs).2, kk _ walk_r⟩
    · cases ei
  · cases hl
  · cases ei
theorem tI_range2 {a b : E} {Q' : It → Hp → Prop} (h : tI R C W .range [a, b] σ H Q') : iRng2 (tVs R C W [a, b]) σ H Q' := by
  obtain ⟨S, env, c, f, G, h⟩ := h
  refine ⟨S, env, c, f, G, AfterI.frozen h fun ds xs S' H' c' vs env' hl ei E G r kk => ?_⟩
  change i_range ds = some xs at ei
  unfold i_range at ei
  split at ei
  · cases hl
  · split at ei
    · rename_i hs
      rw [Bool.and_eq_true] at hs
      obtain rfl := Option.some.inj ei
      obtain ⟨v, w, _, _, rfl, ⟨rfl, _⟩, ⟨rfl, _⟩, _⟩ := rl2 r
      exact ⟨_, _, rfl, ⟨(small62_of hs.1).1, (small62_of hs.1).2, (small62_of hs.2).1, (small62_of hs.2).2⟩, kk _ walk_r⟩
    · cases ei
  · cases ei
/-- a new pair at each turn -/
theorem walk_pair {J : It} {n : Nat} {G : Hp → Prop} {xs ys : Nat → Option V} {zs : List Dt} (w : Walk J n G (YPair xs ys)) (hn : n = zs.length) (hG : ∀ S' H', Ext S H z0 S' H' → (∀ a o, S' a = some o → H' a = some o) → G H')
    (hr : ∀ i x y, xs i = some x → ys i = some y → i < n → ∃ d e, zs[i]? = some (.tup [d, e]) ∧ Rep R S H d x z0 ∧ Rep R S H e y z0) : WalkI R S H J zs := by
  subst hn
  refine fun S' H' E sub => ⟨w.stops H' (hG S' H' E sub), fun i hi => ⟨w.goes i H' hi (hG S' H' E sub), fun x H'' yy => ?_⟩⟩
  obtain ⟨T, x, y, rfl, hT, rfl, ex, ey⟩ := w.yields i H' x H'' hi (hG S' H' E sub) yy
  obtain ⟨d, e, ez, r1, r2⟩ := hr i x y ex ey hi
  have nn : New H' (upd H' T (.tup [x, y])) := .upd hT
  exact ⟨_, ez, nn, T, [x, y], rfl, .inl (.inl upd_same), z0, z0, (r1.frame0 E).new nn, ⟨z0, z0, (r2.frame0 E).new nn, rfl, rfl⟩, rfl⟩
theorem enum_get : ∀ {xs : List Dt} {n : Int} {i : Nat} {d : Dt}, xs[i]? = some d → (enumFrom n xs)[i]? = some (.tup [.int (n + i), d])
  | x :: xs, n, 0, d, h => by
    cases h
    show some (D.tup [.int n, x]) = _
    rw [show n + ((0 : Nat) : Int) = n by omega]
  | x :: xs, n, i + 1, d, h => by
    show (enumFrom (n + 1) xs)[i]? = _
    rw [enum_get (show xs[i]? = some d from h)]
    congr 4
    omega
theorem enum_len : ∀ {xs : List Dt} {n : Int}, (enumFrom n xs).length = xs.length
  | [], _ => rfl
  | x :: xs, n => by
    show (enumFrom (n + 1) xs).length + 1 = xs.length + 1
    rw [enum_len]
theorem zip_get : ∀ {xs ys : List Dt} {i : Nat} {d e : Dt}, xs[i]? = some d → ys[i]? = some e → (zipT xs ys)[i]? = some (.tup [d, e])
  | x :: xs, y :: ys, 0, d, e, h, h' => by cases h; cases h'; rfl
  | x :: xs, y :: ys, i + 1, d, e, h, h' => by
    show (zipT xs ys)[i]? = _
    exact zip_get (show xs[i]? = some d from h) (show ys[i]? = some e from h')
theorem zip_len : ∀ {xs ys : List Dt}, (zipT xs ys).length = min xs.length ys.length
  | [], _ => by simp [zipT]
  | _ :: _, [] => by simp [zipT]
  | x :: xs, y :: ys => by
    show (zipT xs ys).length + 1 = _
    rw [zip_len, List.length_cons, List.length_cons]
    omega
/-- a list that nobody owns -/
theorem Rep.lst0 {o : Fg} {xs : List Dt} {v : V} (sub : ∀ a o, S a = some o → H a = some o) (h : Rep R S H (.lst o xs) v z0) : ∃ a vs, v = .ref a ∧ SqL R.K S a vs ∧ RepL R S H xs vs z0 := by
  cases o with
  | own =>
    obtain ⟨_, _, _, _, _, _, z⟩ := h
    exact (one_ne (pl_eq_z z.symm).1).elim
  | sh t =>
    obtain ⟨a, vs, e, sq, _, l, _⟩ := h
    exact ⟨a, vs, e, sq.elim (fun z => .inl (.inl z)) fun z => z.2, l⟩
theorem RepL.back {ds : List Dt} {vs : List V} {i : Nat} {v : V} (h : RepL R S H ds vs z0) (e : vs[i]? = some v) : ∃ d, ds[i]? = some d ∧ Rep R S H d v z0 := by
  have hi : i < ds.length := by rw [h.length]; exact (List.getElem?_eq_some_iff.mp e).1
  obtain ⟨w, ew, r⟩ := h.get (List.getElem?_eq_getElem hi)
  rw [e] at ew
  cases ew
  exact ⟨_, List.getElem?_eq_getElem hi, r⟩
theorem tI_enum {a : E} {Q' : It → Hp → Prop} (h : tI R C W .enum [a] σ H Q') : iEnum R.K (tVs R C W [a]) σ H Q' := by
  obtain ⟨S, env, c, f, G, h⟩ := h
  refine ⟨S, env, c, f, G, AfterI.frozen h fun ds xs S' H' c' vs env' hl ei E G r kk => ?_⟩
  change i_enum ds = some xs at ei
  unfold i_enum at ei
  split at ei
  · obtain rfl := Option.some.inj ei
    obtain ⟨v, rfl, r1⟩ := rl1 r
    obtain ⟨a, ws, rfl, sq, l⟩ := r1.lst0 G.sub
    refine ⟨a, ws, rfl, PL.SqL.mono G.sub sq, kk _ (walk_pair walk_enum (by rw [enum_len, l.length]) (fun S2 H2 E2 s2 => PL.SqL.mono s2 (PL.SqL.mono E2.sub sq)) fun i x y ex ey hi => ?_)⟩
    cases ex
    obtain ⟨d, e1, e2⟩ := l.back ey
    refine ⟨_, _, enum_get e1, ⟨?_, rfl⟩, e2⟩
    rw [show (0 : Int) + (i : Int) = i by omega]
  · cases ei
/-- two texts, sign by sign, in new pairs -/
def ItzS (x y : Str) : It :=
  ⟨fun i _ => i < x.cps.size ∧ i < y.cps.size, fun i H v H' => ∃ T c d, v = .ref T ∧ H T = none ∧ H' = upd H T (.tup [.str ⟨#[c]⟩, .str ⟨#[d]⟩]) ∧ x.cps[i]? = some c ∧ y.cps[i]? = some d,
    fun i _ => x.cps.size ≤ i ∨ y.cps.size ≤ i⟩
def iZipS (ta : TA) : TI := fun σ H Q => ta σ H fun vs H1 => ∃ x y, vs = [.str x, .str y] ∧ Q (ItzS x y) H1
theorem walk_zipS {x y : Str} : Walk (ItzS x y) (min x.cps.size y.cps.size) (fun _ => True) (YPair (fun i => (x.cps[i]?).map fun c => .str ⟨#[c]⟩) (fun i => (y.cps[i]?).map fun c => .str ⟨#[c]⟩)) := by
  refine ⟨fun i H hi _ => ⟨?_, ?_⟩, fun H _ => ?_, fun i H v H' hi _ y => ?_⟩
  · omega
  · omega
  · show _ ≤ min _ _ ∨ _ ≤ min _ _
    omega
  · obtain ⟨T, c, d, h1, h2, h3, h4, h5⟩ := y
    exact ⟨T, _, _, h1, h2, h3, congrArg _ h4, congrArg _ h5⟩
theorem walk_zipT {K : PySem.W.Frag} {a b : Addr} {xs ys : List V} {n : Nat} (hn : n = min xs.length ys.length) : Walk (RZ.ItzT K a b) n (fun H => SqT K H a xs ∧ SqT K H b ys) (YPair (fun i => xs[i]?) (fun i => ys[i]?)) := by
  subst hn
  refine ⟨fun i _ hi q => ?_, fun _ q => ⟨xs, ys, q.1, q.2, by omega⟩, fun i H v H' _ q y => ?_⟩
  · have h1 : i < xs.length := by omega
    have h2 : i < ys.length := by omega
    exact ⟨xs, ys, xs[i], ys[i], q.1, q.2, by simp [h1], by simp [h2]⟩
  · obtain ⟨T, x, z, h1, h2, h3, h4, h5⟩ := y
    exact ⟨T, x, z, h1, h2, h3, h4 xs q.1, h5 ys q.2⟩
theorem signs_at {z : List Nat} {i : Nat} {v : V} (h : ((mkS z).cps[i]?).map (fun c => V.str ⟨#[c]⟩) = some v) : ∃ d, (signs z)[i]? = some d ∧ Rep R S H d v z0 := by
  obtain ⟨c, hc, rfl⟩ := Option.map_eq_some_iff.mp h
  have hc : z[i]? = some c := by
    have hc : z.toArray[i]? = some c := hc
    rw [List.getElem?_toArray] at hc
    exact hc
  refine ⟨.str [c], ?_, rfl, rfl⟩
  show (List.map _ z)[i]? = _
  rw [List.getElem?_map, hc]
  rfl
theorem tI_zip {a b : E} {Q' : It → Hp → Prop} (h : tI R C W .zip [a, b] σ H Q') : RZ.iZipA R.K (tVs R C W [a, b]) σ H Q' ∨ iZipS (tVs R C W [a, b]) σ H Q' := by
  obtain ⟨S, env, c, f, G, h⟩ := h
  cases x : evs C [a, b] env with
  | st => rw [x] at h; exact h.elim
  | exc k dv env' =>
    rw [x] at h
    exact .inl ⟨S, env, c, f, G, by rw [x]; exact h⟩
  | ok ds env1 =>
    have h0 := h
    rw [x] at h0
    obtain ⟨xs, ei, _⟩ := h0
    have ei : i_zip (fzs ds) = some xs := ei
    by_cases isS : ∃ u v, fzs ds = [.str u, .str v]
    · refine .inr ⟨S, env, c, f, G, AfterI.frozen' h x ei fun S' H' c' vs E G r kk => ?_⟩
      obtain ⟨u, v, e⟩ := isS
      rw [e] at r ei
      obtain rfl := Option.some.inj ei
      obtain ⟨x, y, _, _, rfl, ⟨rfl, _⟩, ⟨rfl, _⟩, _⟩ := rl2 r
      refine ⟨_, _, rfl, kk _ (walk_pair walk_zipS ?_ (fun _ _ _ _ => trivial) fun i p q ep eq hi => ?_)⟩
      · rw [zip_len]
        show _ = min (List.map _ u).length (List.map _ v).length
        rw [List.length_map, List.length_map]
        show min u.toArray.size v.toArray.size = _
        rw [List.size_toArray, List.size_toArray]
      · obtain ⟨d, e1, r1⟩ := signs_at ep
        obtain ⟨e, e2, r2⟩ := signs_at eq
        exact ⟨d, e, zip_get e1 e2, r1, r2⟩
    · refine .inl ⟨S, env, c, f, G, AfterI.frozen' h x ei fun S' H' c' vs E G r kk => ?_⟩
      unfold i_zip at ei
      split at ei
      · rename_i e
        rw [e] at r
        obtain rfl := Option.some.inj ei
        obtain ⟨x, y, k1, k2, rfl, r1, r2, z⟩ := rl2 r
        obtain ⟨rfl, rfl⟩ := pl_eq_z z.symm
        obtain ⟨a, ws, rfl, sq, l⟩ := r1.lst0 G.sub
        obtain ⟨a2, ws2, rfl, sq2, l2⟩ := r2.lst0 G.sub
        refine ⟨a, a2, ws, ws2, rfl, .inl ⟨PL.SqL.mono G.sub sq, PL.SqL.mono G.sub sq2, kk _ (walk_pair (L2.walk_zip rfl) ?_ (fun S2 H2 E2 s2 => ⟨PL.SqL.mono s2 (PL.SqL.mono E2.sub sq), PL.SqL.mono s2 (PL.SqL.mono E2.sub sq2)⟩) fun i p q ep eq hi => ?_)⟩⟩
        · rw [zip_len, l.length, l2.length]
        · obtain ⟨d, e1, r1⟩ := l.back ep
          obtain ⟨e, e2, r2⟩ := l2.back eq
          exact ⟨d, e, zip_get e1 e2, r1, r2⟩
      · rename_i e
        rw [e] at r
        obtain rfl := Option.some.inj ei
        obtain ⟨x, y, k1, k2, rfl, r1, r2, z⟩ := rl2 r
        obtain ⟨rfl, rfl⟩ := pl_eq_z z.symm
        obtain ⟨a, ws, rfl, sq, l⟩ := r1
        obtain ⟨a2, ws2, rfl, sq2, l2⟩ := r2
        refine ⟨a, a2, ws, ws2, rfl, .inr ⟨sq, sq2, kk _ (walk_pair (walk_zipT rfl) ?_ (fun S2 H2 E2 s2 => ⟨PL.SqT.mono E2.imm sq, PL.SqT.mono E2.imm sq2⟩) fun i p q ep eq hi => ?_)⟩⟩
        · rw [zip_len, l.length, l2.length]
        · obtain ⟨d, e1, r1⟩ := l.back ep
          obtain ⟨e, e2, r2⟩ := l2.back eq
          exact ⟨d, e, zip_get e1 e2, r1, r2⟩
      · rename_i e
        exact absurd ⟨_, _, e⟩ isS
      · cases ei
/-! ### for, while -/
theorem tS_for {tg : Tg} {kd : Kd} {b : List Stm} (h : tS R C W σ0 (.for_ tg kd es b) D σ H) : tFor (tI R C W kd es) (tB R tg) (tSs R C W σ0 b) D σ H := by
  obtain ⟨S, env, c, f, G, p, h⟩ := h
  simp only [ex] at h
  split at h
  · rename_i hfree
    have free := tgFree_not tg hfree
    refine ⟨S, env, c, f, G, ?_⟩
    cases x : evs C es env with
    | st => rw [x] at h; exact h.elim
    | exc k dv env' =>
      rw [x] at h
      exact fun S' H' c' dd E' G' t => h S' H' σ c' dd E' p G' t
    | ok ds env1 =>
      rw [x] at h
      have h : AfterS R C W σ0 D S H f (match items kd (fzs ds) with
        | none => .st
        | some xs => forLoop tg (exs C b) xs env1) := h
      cases ei : items kd (fzs ds) with
      | none => rw [ei] at h; exact h.elim
      | some xs =>
        rw [ei] at h
        refine ⟨xs, ei, fun S1 H1 c1 J E1 G1 w => ?_⟩
        have h := AfterS.on E1 h
        let N : Nat → St → Hp → Prop := fun i σ' H' => ∃ S' env' c', Ext S1 H1 f S' H' ∧ Good R S' H' σ' env' c' f ∧ Pm C σ0 σ' ∧ AfterS R C W σ0 D S' H' f (forLoop tg (exs C b) (xs.drop i) env')
        refine ⟨fun i m σ' H' => m = xs.length - i ∧ i ≤ xs.length ∧ N i σ' H', ⟨_, rfl, Nat.zero_le _, S1, env1, c1, .refl, G1, p, h⟩, ?_⟩
        rintro i m σ' H' ⟨rfl, hi, S', env', c', E', G', p', h'⟩
        obtain ⟨stop, go⟩ := w S' H' (E'.lessF fun a n => absurd rfl n) G'.sub
        by_cases hlt : i < xs.length
        · obtain ⟨g1, g2⟩ := go i hlt
          refine .inr ⟨g1, N (i + 1), fun σ2 H2 n => ⟨xs.length - (i + 1), by omega, rfl, hlt, n⟩, fun v H'' y => ?_⟩
          obtain ⟨d, ed, nn, r⟩ := g2 v H'' y
          have e2 : Ext S' H' f S' H'' := .more nn fun _ _ h => h
          have G2 : Good R S' H'' σ' env' c' f := by
            have := Good.after (cr := z0) (cr' := z0) (by rw [z_pl]; exact G') nn .z fun a n => absurd rfl n
            rw [z_pl] at this; exact this
          have edr : xs.drop i = d :: xs.drop (i + 1) := by
            rw [List.drop_eq_getElem_cons hlt]
            congr 1
            rw [List.getElem?_eq_getElem hlt] at ed
            exact Option.some.inj ed
          rw [edr] at h'
          have h' : AfterS R C W σ0 D S' H' f (match bind tg d env' with
            | none => .st
            | some env => (exs C b env).bind fun f env => (match f with
              | .next => forLoop tg (exs C b) (xs.drop (i + 1)) env
              | .cont => forLoop tg (exs C b) (xs.drop (i + 1)) env
              | .brk => .ok .next env
              | .ret d => .ok (.ret d) env)) := h'
          cases eb : bind tg d env' with
          | none => rw [eb] at h'; exact h'.elim
          | some env2 =>
            rw [eb] at h'
            have h' := AfterS.on e2 h'
            refine ⟨S', env', c', f, d, env2, G2, r, eb, fun σ2 c2 G3 off => ⟨S', env2, c2, f, G3, fun j hj => ?_, ?_⟩⟩
            · rw [off.2 j fun z => by rw [free j z] at hj; cases hj]
              exact p' j hj
            · simp only at h'
              cases xb : exs C b env2 with
              | st => rw [xb] at h'; exact h'
              | exc k dv env' => rw [xb] at h'; exact h'
              | ok fl env3 =>
                rw [xb] at h'
                cases fl with
                | next => exact fun S3 H3 σ3 c3 E3 p3 G3 => ⟨S3, env3, c3, (E'.trans0 e2).trans0 E3, G3, p3, AfterS.on E3 h'⟩
                | cont => exact fun S3 H3 σ3 c3 E3 p3 G3 => ⟨S3, env3, c3, (E'.trans0 e2).trans0 E3, G3, p3, AfterS.on E3 h'⟩
                | brk => exact h'
                | ret d => exact h'
        · have e : i = xs.length := by omega
          subst e
          rw [List.drop_length] at h'
          exact .inl ⟨stop, h' S' H' σ' c' .refl p' G'⟩
  · exact h.elim
theorem tS_wh {t : E} {b : List Stm} (h : tS R C W σ0 (.wh t b) D σ H) : tWhile (tT R C W t) (tSs R C W σ0 b) D σ H := by
  obtain ⟨S, env, c, f, G, p, h⟩ := h
  simp only [ex] at h
  refine ⟨fun m σ' H' => ∃ S' env' c', Good R S' H' σ' env' c' f ∧ Pm C σ0 σ' ∧ AfterS R C W σ0 D S' H' f (whLoop (ev C t) (exs C b) m env'), ⟨C.L, S, env, c, G, p, h⟩, ?_⟩
  rintro m σ1 H1 ⟨S1, env1, c1, G1, p1, h1⟩
  cases m with
  | zero => exact h1.elim
  | succ m =>
    refine ⟨S1, env1, c1, f, G1, AfterS.bindV p1 (show AfterS R C W σ0 D S1 H1 f ((ev C t env1).bind _) from h1) fun d env2 S2 H2 c2 v cr E2 G2 r2 h2 => ?_⟩
    cases d with
    | bl k =>
      obtain ⟨rfl, rfl⟩ := r2
      rw [z_pl] at G2
      refine ⟨k, rfl, ?_⟩
      cases k with
      | false => exact h2 S2 H2 σ1 c2 .refl p1 G2
      | true =>
        refine ⟨fun σ' H' => ∃ S' env' c', Good R S' H' σ' env' c' f ∧ Pm C σ0 σ' ∧ AfterS R C W σ0 D S' H' f (whLoop (ev C t) (exs C b) m env'), fun σ' H' q => ⟨m, Nat.lt_succ_self m, q⟩, S2, env2, c2, f, G2, p1, ?_⟩
        simp only at h2
        cases xb : exs C b env2 with
        | st => rw [xb] at h2; exact h2
        | exc k dv env' => rw [xb] at h2; exact h2
        | ok fl env3 =>
          rw [xb] at h2
          cases fl with
          | next => exact fun S3 H3 σ3 c3 E3 p3 G3 => ⟨S3, env3, c3, G3, p3, AfterS.on E3 h2⟩
          | cont => exact fun S3 H3 σ3 c3 E3 p3 G3 => ⟨S3, env3, c3, G3, p3, AfterS.on E3 h2⟩
          | brk => exact h2
          | ret d => exact h2
    | _ => exact h2.elim
end
end PL
set_option Elab.async false
set_option linter.all false
set_option maxRecDepth 100000
/-! PL, part 14: comprehensions. -/
namespace PL
open PySem PySem.Spec L2
open PyProof.Rows hiding St

theorem env_ext {a b : Env} (hl : a.length = b.length) (h : ∀ j, get a j = get b j) : a = b := by
  refine List.ext_getElem? fun j => ?_
  have q := h j
  unfold get at q
  by_cases z : j < a.length
  · rw [List.getElem?_eq_getElem z, List.getElem?_eq_getElem (hl ▸ z)] at *
    exact congrArg some q
  · rw [List.getElem?_eq_none (by omega), List.getElem?_eq_none (by omega)]
theorem wipe_len : ∀ (is : List Nat) (env : Env), (PL.wipe is env).length = env.length
  | [], _ => rfl
  | i :: is, env => by
    show (PL.wipe is (env.set i none)).length = _
    rw [wipe_len is, List.length_set]
theorem wipe_get : ∀ (is : List Nat) (env : Env) (j : Nat), get (PL.wipe is env) j = if j ∈ is then none else get env j
  | [], env, j => by rw [if_neg (by simp)]; rfl
  | i :: is, env, j => by
    show get (PL.wipe is (env.set i none)) j = _
    rw [wipe_get is, get_set_none]
    by_cases z : j = i
    · subst z; simp
    · rw [if_neg z]
      by_cases y : j ∈ is
      · simp [y]
      · simp [y, z]
theorem back_len : ∀ (is : List Nat) (old env : Env), (back is old env).length = env.length
  | [], _, _ => rfl
  | i :: is, old, env => by
    show (back is old (env.set i (get old i))).length = _
    rw [back_len is, List.length_set]
theorem back_get : ∀ (is : List Nat) (old env : Env) (j : Nat), env.length = old.length → get (back is old env) j = if j ∈ is then get old j else get env j
  | [], old, env, j, _ => by rw [if_neg (by simp)]; rfl
  | i :: is, old, env, j, hl => by
    show get (back is old (env.set i (get old i))) j = _
    rw [back_get is old _ j (by rw [List.length_set]; exact hl)]
    have e : get (env.set i (get old i)) j = if j = i then get old j else get env j := by
      by_cases z : j = i
      · subst z
        rw [if_pos rfl]
        by_cases h : j < env.length
        · exact get_set_self h
        · unfold get
          rw [List.getElem?_eq_none (by rw [List.length_set]; omega), List.getElem?_eq_none (by omega)]
      · rw [if_neg z, get_set_ne (Ne.symm z)]
    rw [e]
    by_cases z : j = i
    · subst z; simp
    · by_cases y : j ∈ is
      · simp [y]
      · simp [y, z]
theorem swipe_in {σ : St} : ∀ {vs : List Nat} {i : Nat}, i ∈ vs → (L2.wipe σ vs)[i]? = if i < σ.length then some none else none
  | v :: vs, i, h => by
    show ((L2.wipe σ vs).set v none)[i]? = _
    by_cases z : v = i
    · subst z
      by_cases y : v < σ.length
      · rw [if_pos y, List.getElem?_set_self (by rw [wipe_length]; exact y)]
      · rw [if_neg y, List.getElem?_eq_none (by rw [List.length_set, wipe_length]; omega)]
    · rw [List.getElem?_set_ne z]
      rcases List.mem_cons.mp h with e | h
      · exact absurd e.symm z
      · exact swipe_in h
theorem swipe_off {is : List Nat} {σ σ2 : St} {ts : List Nat} (o : Off ts σ σ2) (h : ∀ j ∈ ts, j ∈ is) : L2.wipe σ2 is = L2.wipe σ is := by
  refine List.ext_getElem? fun j => ?_
  by_cases z : j ∈ is
  · rw [swipe_in z, swipe_in z, o.1]
  · rw [wipe_out z, wipe_out z]
    exact o.2 j fun y => z (h j y)
theorem swipe_idem {is : List Nat} {σ : St} : L2.wipe (L2.wipe σ is) is = L2.wipe σ is := by
  refine List.ext_getElem? fun j => ?_
  by_cases z : j ∈ is
  · rw [swipe_in z, swipe_in z, wipe_length]
  · rw [wipe_out z]

section
variable {R : Rc} {C : Ctx} {W : WX} {σ σ' : St} {S S1 S2 S' H H1 H2 H' : Hp} {env env1 e1 e2 : Env} {c c1 f g cr q cy ca : Cn} {Q : VK} {es : List E}
/-- a block's own slots are put by -/
theorem RepE.split {own : List Nat} (h : RepE R S H env σ c) : ∃ ck cw : Cn, RepE R S H (PL.wipe own env) (L2.wipe σ own) ck ∧ (∀ a, ck a + cw a = c a) ∧ (∀ a, cw a ≠ 0 → c a ≠ 0) ∧
    ∀ (S' H' : Hp) (e2 : Env) (c2 : Cn), (∀ a o, S a = some o → S' a = some o) → (∀ a o, H a = some o → ¬ Mu o → H' a = some o) → (∀ a o, H a = some o → cw a ≠ 0 → H' a = some o) → e2.length = env.length →
      RepE R S' H' (PL.wipe own e2) (L2.wipe σ own) c2 → ∃ c3, RepE R S' H' (back own env e2) σ c3 ∧ ∀ a, c3 a ≤ c2 a + cw a := by
  obtain ⟨hl, cs, hs, rfl⟩ := RepE.iff.mp h
  refine ⟨sumC env.length fun i => if i ∈ own then z0 else cs i, sumC env.length fun i => if i ∈ own then cs i else z0, RepE.iff.mpr ⟨?_, fun i => if i ∈ own then z0 else cs i, fun i hi => ?_, by rw [wipe_len]⟩, fun a => ?_, fun a n => ?_, ?_⟩
  · rw [wipe_len, wipe_length, hl]
  · rw [wipe_len] at hi
    rw [wipe_get]
    show Sl R S H (if i ∈ own then none else get env i) _ (if i ∈ own then z0 else cs i)
    by_cases m : i ∈ own
    · rw [if_pos m, if_pos m]; exact rfl
    · rw [if_neg m, if_neg m, wipe_out m]
      exact hs i hi
  · refine (sumC_add fun i hi => ?_).symm
    by_cases m : i ∈ own
    · rw [if_pos m, if_pos m]
      show cs i a = 0 + cs i a
      omega
    · rw [if_neg m, if_neg m]; rfl
  · obtain ⟨i, hi, n⟩ := sumC_some n
    have : cs i a ≤ sumC env.length cs a := sumC_pos hi
    by_cases m : i ∈ own
    · simp only [if_pos m] at n; omega
    · simp only [if_neg m] at n; exact absurd rfl n
  · intro S' H' e2 c2 hS hT hc hl2 h2
    obtain ⟨_, ds, hd, rfl⟩ := RepE.iff.mp h2
    rw [wipe_len] at hd
    refine ⟨sumC env.length fun i => if i ∈ own then cs i else ds i, RepE.iff.mpr ⟨?_, fun i => if i ∈ own then cs i else ds i, fun i hi => ?_, by rw [back_len, hl2]⟩, fun a => ?_⟩
    · rw [back_len, hl2, hl]
    · rw [back_len] at hi
      rw [back_get own env e2 i hl2]
      have q := hd i hi
      rw [wipe_get] at q
      show Sl R S' H' (if i ∈ own then get env i else get e2 i) _ (if i ∈ own then cs i else ds i)
      by_cases m : i ∈ own
      · rw [if_pos m, if_pos m]
        refine (hs i (by omega)).mono hS hT fun a o ea n => hc a o ea ?_
        have : (fun i => if i ∈ own then cs i else z0) i a ≤ sumC env.length (fun i => if i ∈ own then cs i else z0) a := sumC_pos (n := env.length) (cs := fun i => if i ∈ own then cs i else z0) (a := a) (i := i) (by rw [← hl2]; exact hi)
        simp only [if_pos m] at this
        omega
      · rw [if_neg m, if_neg m]
        rw [if_neg m, wipe_out m] at q
        exact q
    · rw [wipe_len, hl2]
      rw [← sumC_add (cs := fun i => pl (ds i) (if i ∈ own then cs i else z0)) fun i hi => rfl]
      refine sumC_le fun i hi => ?_
      rw [pl_at]
      by_cases m : i ∈ own
      · rw [if_pos m, if_pos m]; omega
      · rw [if_neg m, if_neg m]; omega
/-- a thing more in the new list at D -/
theorem Good.app {D : Addr} {acc : List Dt} {vs : List V} {dy : Dt} {y : V} (G : Good R S H σ env c (pl cy (pl (pl (one D) ca) g))) (hD : H D = some (.lst vs)) (hl : RepL R S H acc vs ca) (hy : Rep R S H dy y cy) :
    Good R S (upd H D (.lst (vs ++ [y]))) σ env c (pl (pl (one D) (pl ca cy)) g) ∧ RepL R S (upd H D (.lst (vs ++ [y]))) (acc ++ [dy]) (vs ++ [y]) (pl ca cy) ∧ Ext S H g S (upd H D (.lst (vs ++ [y]))) := by
  have at_D := G.dis D
  rw [pl_at, pl_at, pl_at, one_at, if_pos rfl] at at_D
  have mono : ∀ x o, H x = some o → x ≠ D → upd H D (.lst (vs ++ [y])) x = some o := fun x o ex n => by rw [upd_ne n]; exact ex
  have imm : ∀ x o, H x = some o → ¬ Mu o → upd H D (.lst (vs ++ [y])) x = some o := fun x o ex m => mono x o ex fun z => by subst z; rw [hD] at ex; cases ex; exact m trivial
  have h2 : RepL R S (upd H D (.lst (vs ++ [y]))) (acc ++ [dy]) (vs ++ [y]) (pl ca cy) :=
    (hl.append (show RepL R S H [dy] [y] cy from ⟨cy, z0, hy, rfl, rfl⟩)).mono (fun _ _ h => h) imm _ fun x o ex n => mono x o ex fun z => by subst z; rw [pl_at] at n; omega
  refine ⟨⟨G.env.mono (fun _ _ h => h) imm fun x o ex n => mono x o ex fun z => by subst z; omega, fun x o ex => mono x o (G.sub x o ex) fun z => by subst z; rw [occ_some ex] at at_D; omega, fun x => ?_, fun x n => ?_⟩, h2, fun _ _ h => h, fun x o ex n => mono x o ex fun z => by subst z; omega, imm⟩
  · have d := G.dis x
    simp only [pl_at] at d ⊢
    omega
  · by_cases z : x = D
    · subst z; exact ⟨_, upd_same, trivial⟩
    · obtain ⟨o, ex, m⟩ := G.fr x (by
        simp only [pl_at] at n ⊢
        omega)
      exact ⟨o, mono x o ex z, m⟩
abbrev WF : WX := fun _ _ _ _ => False
theorem fits_of {n : Nat} (h : fits n = true) : n ≤ sizeLine := fits_le h
/-- a turn's end -/
theorem Good.wiped {own : List Nat} (G : Good R S H σ' env c f) (hw : L2.wipe σ' own = L2.wipe σ own) : ∃ c2, Good R S H (L2.wipe σ own) (PL.wipe own env) c2 f := by
  obtain ⟨ck, cw, h, le, _, _⟩ := RepE.split (own := own) G.env
  rw [hw] at h
  exact ⟨ck, h, G.sub, fun a => by
    have := le a
    have := G.dis a
    omega, G.fr⟩
theorem tV_lc {elt cond : E} {tg : Tg} {kd : Kd} {own : List Nat} (hsub : ∀ j ∈ tgSlots tg, j ∈ own) (h : tV R C W (.lc elt tg kd es cond own) σ H Q) :
    tLc (tI R C W kd es) (tB R tg) (tT R C WF cond) (tV R C WF elt) own σ H Q := by
  obtain ⟨S, env, c, f, G, h⟩ := h
  simp only [ev] at h
  refine ⟨S, env, c, f, G, ?_⟩
  cases x : evs C es env with
  | st => rw [x] at h; exact h.elim
  | exc k dv env' => rw [x] at h; exact h
  | ok ds e1 =>
    rw [x] at h
    have h : AfterV R W Q S H σ f (match items kd (fzs ds) with
      | none => .st
      | some xs => (match lcLoop own tg (ev C cond) (fun e => (ev C elt e).bind fun d e => .ok [d] e) xs e1 with
        | .ok ys e2 => if fits ys.length then .ok (.lst .own ys) (back own e1 e2) else .st
        | _ => .st)) := h
    cases ei : items kd (fzs ds) with
    | none => rw [ei] at h; exact h.elim
    | some xs =>
      rw [ei] at h
      refine ⟨xs, ei, fun S1 H1 c1 J E1 G1 w D hD => ?_⟩
      have h := AfterV.on E1 h fun _ _ (q : Q _ _) => q
      simp only at h
      cases el : lcLoop own tg (ev C cond) (fun e => (ev C elt e).bind fun d e => .ok [d] e) xs e1 with
      | st => rw [el] at h; exact h.elim
      | exc k dv env' => rw [el] at h; exact h.elim
      | ok ys0 ez =>
        rw [el] at h
        simp only at h
        split at h
        · rename_i hfit
          have hfit := fits_of hfit
          obtain ⟨ck, cw, hck, hsum, _, hback⟩ := RepE.split (own := own) G1.env
          have hn : New H1 (upd H1 D (.lst [])) := .upd hD
          have Ga : Good R S1 H1 (L2.wipe σ own) (PL.wipe own e1) ck (pl z0 (pl cw f)) := by
            rw [z_pl]
            refine ⟨hck, G1.sub, fun a => ?_, fun a n => ?_⟩
            · have := G1.dis a
              have := hsum a
              simp only [pl_at] at *
              omega
            · by_cases z : f a = 0
              · simp only [pl_at] at n
                exact G1.env.mu a (by have := hsum a; omega)
              · exact G1.fr a z
          have Gb : Good R S1 (upd H1 D (.lst [])) (L2.wipe σ own) (PL.wipe own e1) ck (pl (pl (one D) z0) (pl cw f)) := by
            refine Good.after Ga hn (cr' := pl (one D) z0) ?_ fun a n => ?_
            · refine ⟨fun a o e => ?_, fun a e => ?_⟩
              · simp only [pl_at, one_at]
                rw [if_neg (ne_of_none e hD)]; exact Nat.le_refl _
              · simp only [pl_at, one_at]
                show (if a = D then 1 else 0) + 0 ≤ 1
                split <;> omega
            · by_cases z : a = D
              · subst z; exact ⟨_, upd_same, trivial⟩
              · simp only [pl_at, one_at] at n
                rw [if_neg z] at n
                exact absurd rfl n
          let N : Nat → Hp → Prop := fun i H' => ∃ S' env' ei c' acc vs ca, Ext S1 (upd H1 D (.lst [])) (pl cw f) S' H' ∧ env' = PL.wipe own ei ∧ Good R S' H' (L2.wipe σ own) env' c' (pl (pl (one D) ca) (pl cw f)) ∧ RepL R S' H' acc vs ca ∧ H' D = some (.lst vs) ∧ ei.length = e1.length ∧
            ∃ ys, lcLoop own tg (ev C cond) (fun e => (ev C elt e).bind fun d e => .ok [d] e) (xs.drop i) ei = .ok ys ez ∧ acc ++ ys = ys0
          refine ⟨fun i m H' => m = xs.length - i ∧ i ≤ xs.length ∧ N i H', ⟨_, rfl, Nat.zero_le _, S1, _, e1, ck, [], [], z0, .refl, rfl, Gb, rfl, upd_same, rfl, ys0, el, rfl⟩, ?_⟩
          rintro i m H' ⟨rfl, hi, S', env', en, c', acc, vs, ca, E', rfl, G', ra, hD', hlen, ys, hloop, rfl⟩
          have E0 : Ext S1 H1 (pl cw f) S' H' := Ext.trans0 (.more hn fun _ _ h => h) E'
          obtain ⟨stop, go⟩ := w S' H' (E0.lessF fun a n => absurd rfl n) G'.sub
          by_cases hlt : i < xs.length
          · obtain ⟨g1, g2⟩ := go i hlt
            refine .inr ⟨g1, N (i + 1), fun H2 n => ⟨xs.length - (i + 1), by omega, rfl, hlt, n⟩, fun v H'' y => ?_⟩
            obtain ⟨d, ed, nn, r⟩ := g2 v H'' y
            have e2 : ∀ g, Ext S' H' g S' H'' := fun g => .more nn fun _ _ h => h
            have G2 : Good R S' H'' (L2.wipe σ own) (PL.wipe own en) c' (pl (pl (one D) ca) (pl cw f)) := by
              have := Good.after (cr := z0) (cr' := z0) (by rw [z_pl]; exact G') nn .z fun a n => absurd rfl n
              rw [z_pl] at this; exact this
            have edr : xs.drop i = d :: xs.drop (i + 1) := by
              rw [List.drop_eq_getElem_cons hlt]
              congr 1
              rw [List.getElem?_eq_getElem hlt] at ed
              exact Option.some.inj ed
            rw [edr] at hloop
            unfold lcLoop at hloop
            cases eb : bind tg d (PL.wipe own en) with
            | none => rw [eb] at hloop; cases hloop
            | some env2 =>
              rw [eb] at hloop
              simp only at hloop
              refine ⟨S', PL.wipe own en, c', _, d, env2, G2, r, eb, fun σ2 c2 G3 off => ⟨(swipe_off off hsub).trans swipe_idem, ?_⟩⟩
              have hw2 : L2.wipe σ2 own = L2.wipe σ own := (swipe_off off hsub).trans swipe_idem
              have l2 : env2.length = e1.length := by rw [G3.env.length, off.1, wipe_length, ← hlen, ← wipe_len own en, ← wipe_length σ own]; exact G2.env.length.symm ▸ rfl
              refine ⟨S', env2, c2, _, G3, ?_⟩
              cases xc : ev C cond env2 with
              | st => rw [xc] at hloop; cases hloop
              | exc k dv env' => rw [xc] at hloop; cases hloop
              | ok dc e3 =>
                rw [xc] at hloop
                intro S3 H3 c3 vb crb E3 G4 rb
                cases dc with
                | bl k =>
                  obtain ⟨rfl, rfl⟩ := rb
                  rw [z_pl] at G4
                  refine ⟨k, rfl, ?_⟩
                  have E03 : Ext S1 (upd H1 D (.lst [])) (pl cw f) S3 H3 := (E'.trans0 (e2 _)).trans E3
                  have hD3 : H3 D = some (.lst vs) := E3.keep D _ (nn D _ hD') (by simp only [pl_at, one_at, if_pos]; omega)
                  have ra3 : RepL R S3 H3 acc vs ca := (ra.frame (e2 (pl (pl (one D) ca) (pl cw f))) fun a n => by simp only [pl_at]; omega).frame E3 fun a n => by simp only [pl_at]; omega
                  cases k with
                  | false =>
                    simp only at hloop
                    obtain ⟨c4, G5⟩ := Good.wiped (own := own) G4 hw2
                    show N (i + 1) H3
                    exact ⟨S3, _, e3, c4, acc, vs, ca, E03, rfl, G5, ra3, hD3, by rw [G4.env.length, ← G3.env.length, l2], ys, hloop, rfl⟩
                  | true =>
                    simp only at hloop
                    show tV R C WF elt σ2 H3 _
                    refine ⟨S3, e3, c3, _, G4, ?_⟩
                    cases xe : ev C elt e3 with
                    | st => rw [xe] at hloop; cases hloop
                    | exc k dv env' => rw [xe] at hloop; cases hloop
                    | ok dy e4 =>
                      rw [xe] at hloop
                      intro S4 H4 c4 y cy E4 G5 ry
                      have hloop : (match lcLoop own tg (ev C cond) (fun e => (ev C elt e).bind fun d e => .ok [d] e) (xs.drop (i + 1)) e4 with
                        | .ok ys e4 => O.ok ([dy] ++ ys) e4
                        | _ => .st) = .ok ys ez := hloop
                      cases xl : lcLoop own tg (ev C cond) (fun e => (ev C elt e).bind fun d e => .ok [d] e) (xs.drop (i + 1)) e4 with
                      | st => rw [xl] at hloop; cases hloop
                      | exc k dv env' => rw [xl] at hloop; cases hloop
                      | ok ys' ez' =>
                        rw [xl] at hloop
                        cases hloop
                        have hD4 : H4 D = some (.lst vs) := E4.keep D _ hD3 (by simp only [pl_at, one_at, if_pos]; omega)
                        have ra4 : RepL R S4 H4 acc vs ca := ra3.frame E4 fun a n => by simp only [pl_at]; omega
                        refine ⟨vs, hD4, ?_, ?_⟩
                        · rw [← ra.length]
                          simp only [List.length_append, List.length_cons] at hfit
                          omega
                        · obtain ⟨c5, G6⟩ := Good.wiped (own := own) G5 hw2
                          obtain ⟨G7, ra5, E5⟩ := Good.app G6 hD4 ra4 ry
                          exact ⟨S4, _, e4, c5, acc ++ [dy], vs ++ [y], pl ca cy, (E03.trans E4).trans0 E5, rfl, G7, ra5, upd_same, by rw [G5.env.length, ← G3.env.length, l2], ys', xl, by simp⟩
                | _ => cases hloop
          · have e : i = xs.length := by omega
            subst e
            rw [List.drop_length] at hloop
            have hloop : O.ok [] en = O.ok ys ez := hloop
            cases hloop
            refine .inl ⟨stop, ?_⟩
            obtain ⟨c3, h3, le3⟩ := hback S' H' _ c' E0.sub E0.imm (fun a o ea n => E0.keep a o ea (by simp only [pl_at]; omega)) hlen G'.env
            rw [List.append_nil] at h
            refine h S' H' c3 _ (pl (one D) ca) (E0.lessF fun a n => by simp only [pl_at]; omega) ⟨h3, G'.sub, fun a => ?_, fun a n => ?_⟩ ⟨D, vs, ca, rfl, hD', ra, rfl⟩
            · have d1 := G'.dis a
              have d2 := le3 a
              simp only [pl_at] at d1 ⊢
              omega
            · exact G'.fr a (by simp only [pl_at] at n ⊢; omega)
        · exact h.elim
/-- no test -/
theorem tT_true {Q : Bool → Hp → Prop} (h : tT R C W (.k (.bl true)) σ H Q) : tYes σ H Q := by
  obtain ⟨S, env, c, f, G, h⟩ := h
  obtain ⟨b, e, q⟩ := h S H c (.bl true) z0 .refl (by rw [z_pl]; exact G) ⟨rfl, rfl⟩
  cases e; exact q
end
end PL
set_option Elab.async false
set_option linter.all false
set_option maxRecDepth 100000
/-! PL, part 15: methods of a slot's own list; a place of it; the rules of the text, by form. -/
namespace PL
open PySem PySem.Spec L2
open PyProof.Rows hiding St

section
variable {R : Rc} {C : Ctx} {W : WX} {σ : St} {S S1 H H1 : Hp} {env env1 : Env} {c c1 f cr q : Cn} {Q : VK} {as : List E} {e : E}
theorem seqIx {n j : Nat} {i : Int} (h : PL.ixN n i = some j) : seqIndex? i n = some j := by
  unfold PL.ixN at h
  unfold seqIndex?
  split at h
  · rename_i h0
    split at h
    · rename_i h1
      cases h
      have e : (if i < 0 then i + n else i) = i := if_neg (by omega)
      rw [e]
      simp only [Bool.and_eq_true, decide_eq_true_eq]
      rw [if_pos ⟨h0, h1⟩]
    · cases h
  · rename_i h0
    split at h
    · rename_i h1
      cases h
      have e : (if i < 0 then i + n else i) = i + n := if_pos (by omega)
      rw [e]
      simp only [Bool.and_eq_true, decide_eq_true_eq]
      rw [if_pos ⟨by omega, by omega⟩]
    · cases h
theorem tV_mth {m : Mt} {i : Nat} {rr : V → List V → Hp → VK → Prop} (key : ∀ S H env c f ds vs cr o o' r u, Good R S H σ env c (pl cr f) → RepL R S H ds vs cr → get env i = some o → mtd m o ds = some (o', r) → AfterV R W Q S H σ f (.ok r (env.set i (some o'))) → σ[i]? = some (some u) → rr u vs H Q)
    (h : tV R C W (.mth m i [] as) σ H Q) : tBM R.K "list" rr (tVar i) (tVs R C W as) σ H Q := by
  obtain ⟨S, env, c, f, G, h⟩ := h
  simp only [ev, List.isEmpty_nil, if_true] at h
  cases e0 : get env i with
  | none => rw [e0] at h; exact h.elim
  | some d0 =>
    rw [e0] at h
    cases d0 with
    | lst o xs =>
      cases o with
      | own =>
        obtain ⟨a, vs, c', c2, eu, hb, _⟩ := Good.mut (cr := z0) (f := f) (by rw [z_pl]; exact G) e0
        refine ⟨_, eu, .inl ⟨rfl, vs, .inl (.inl hb)⟩, S, env, c, f, G, ?_⟩
        have h : AfterV R W Q S H σ f ((evs C as env).bind fun ds env => match get env i with
          | some o => (match mtd m o ds with
            | some (o', r) => .ok r (env.set i (some o'))
            | none => .st)
          | none => .st) := h
        refine AfterL.bindV h fun ds env1 S1 H1 c1 vs cr hx E1 G1 r1 h => ?_
        have h := AfterV.on E1 h fun _ _ (q : Q _ _) => q
        cases eo : get env1 i with
        | none => rw [eo] at h; exact h.elim
        | some o =>
          rw [eo] at h
          simp only at h
          cases em : mtd m o ds with
          | none => rw [em] at h; exact h.elim
          | some p =>
            rw [em] at h
            exact key S1 H1 env1 c1 f ds vs cr o p.1 p.2 _ G1 r1 eo em h eu
      | sh t => exact h.elim
    | _ => exact h.elim
theorem k_append {i : Nat} : ∀ S H env c f ds vs cr o o' r u, Good R S H σ env c (pl cr f) → RepL R S H ds vs cr → get env i = some o → mtd .append o ds = some (o', r) → AfterV R W Q S H σ f (.ok r (env.set i (some o'))) → σ[i]? = some (some u) → rAppend u vs H Q := by
  intro S H env c f ds vs cr o o' r u G hr eo em h eu
  change m_append o ds = some (o', r) at em
  unfold m_append at em
  split at em
  · rename_i xs x
    split at em
    · rename_i hf
      cases em
      obtain ⟨v, rfl, rv⟩ := rl1 hr
      obtain ⟨a, vs, c', c2, eu', hb, hl, _, mk⟩ := G.mut eo
      rw [eu] at eu'
      cases eu'
      refine ⟨a, vs, v, rfl, rfl, hb, ?_, ?_⟩
      · have := fits_of hf
        rw [← hl.length]
        omega
      · obtain ⟨c3, G3, E3, _⟩ := mk (xs ++ [x]) (vs ++ [v]) (pl c' cr) z0 (hl.append (show RepL R S H [x] [v] cr from ⟨cr, z0, rv, rfl, rfl⟩)) fun x => by simp only [pl_at]; show _ + 0 ≤ _; omega
        exact h S _ c3 _ z0 E3 G3 ⟨rfl, rfl⟩
    · cases em
  · cases em
theorem k_popAt {i : Nat} : ∀ S H env c f ds vs cr o o' r u, Good R S H σ env c (pl cr f) → RepL R S H ds vs cr → get env i = some o → mtd .popAt o ds = some (o', r) → AfterV R W Q S H σ f (.ok r (env.set i (some o'))) → σ[i]? = some (some u) → rPopAt u vs H Q := by
  intro S H env c f ds vs cr o o' r u G hr eo em h eu
  change m_popAt o ds = some (o', r) at em
  unfold m_popAt at em
  split at em
  · rename_i xs n
    split at em
    · rename_i hf
      obtain ⟨j, ej, em⟩ := Option.bind_eq_some_iff.mp em
      obtain ⟨x, ex, em⟩ := Option.map_eq_some_iff.mp em
      cases em
      obtain ⟨v, rfl, rfl, rfl⟩ := rl1 hr
      obtain ⟨a, vs, c', c2, eu', hb, hl, _, mk⟩ := G.mut eo
      rw [eu] at eu'
      cases eu'
      obtain ⟨w, k1, k2, ew, rw1, rfl, _, er⟩ := RepL.take1 hl ex
      refine ⟨a, vs, n, j, w, rfl, rfl, hb, ?_, ?_, by rw [← hl.length]; exact seqIx ej, ew, ?_⟩
      · have := (small62_of hf).1; omega
      · have := (small62_of hf).2; omega
      · obtain ⟨c3, G3, E3, kr⟩ := mk (xs.eraseIdx j) (vs.eraseIdx j) k2 k1 er fun x => by simp only [pl_at]; show _ ≤ _ + 0; omega
        exact h S _ c3 w k1 E3 G3 (kr _ w rw1)
    · cases em
  · cases em
theorem tV_pk {i : Nat} {k : E} (h : tV R C W (.pk i [k]) σ H Q) : tOp (rIx R.K) (tVar i) (tV R C W k) σ H Q := by
  obtain ⟨S, env, c, f, G, h⟩ := h
  simp only [ev] at h
  split at h
  · exact h.elim
  rename_i hsome
  cases e0 : get env i with
  | none => rw [e0] at hsome; exact absurd rfl hsome
  | some d0 =>
  obtain ⟨u, _, _, eu, _⟩ := G.env.at_ e0
  refine ⟨u, eu, S, env, c, f, G, ?_⟩
  have h : AfterV R W Q S H σ f (((ev C k env).bind fun d env => (O.ok [] env).bind fun ds env => .ok (d :: ds) env).bind fun ps env => match get env i with
    | some o => (match peek ps o with
      | some d => if pu d then .ok d env else .st
      | none => .st)
    | none => .st) := h
  cases x : ev C k env with
  | st => rw [x] at h; exact h.elim
  | exc e dv env' => rw [x] at h; exact h
  | ok kd env1 =>
    rw [x] at h
    intro S1 H1 c1 kv ck E1 G1 rk
    have h : AfterV R W Q S H σ f (match get env1 i with
      | some o => (match peek [kd] o with
        | some d => if pu d then .ok d env1 else .st
        | none => .st)
      | none => .st) := h
    have h := AfterV.on E1 h fun _ _ (q : Q _ _) => q
    cases eo : get env1 i with
    | none => rw [eo] at h; exact h.elim
    | some o =>
      rw [eo] at h
      simp only at h
      cases ep : peek [kd] o with
      | none => rw [ep] at h; exact h.elim
      | some d =>
        rw [ep] at h
        simp only at h
        split at h
        · rename_i hp
          obtain ⟨d', e1, e2⟩ := Option.bind_eq_some_iff.mp (show (prim (fun _ => none) .ix [o, kd]).bind (peek []) = some d from ep)
          cases e2
          obtain ⟨u', co, c2, eu', ro, ec, _, _⟩ := G1.env.at_ eo
          rw [eu] at eu'
          cases eu'
          have hl : RepL R S1 H1 [o, kd] [u, kv] (pl co ck) := ⟨co, ck, ro, ⟨ck, z0, rk, rfl, rfl⟩, rfl⟩
          refine r2i (ok_ix (fun _ => none) S1 H1 [o, kd] [u, kv] (pl co ck) d Q G1.sub hl e1 fun H' v cr' hn hr _ => ?_)
          obtain rfl := hr.pu d hp
          exact h S1 H' c1 v z0 (.more hn fun _ _ h => h) (Good.after (cr := z0) (by rw [z_pl]; exact G1.lessF fun a => by rw [pl_at]; omega) hn .z fun a n => absurd rfl n) hr
        · exact h.elim
theorem tV_g {n : Nat} {d : Dt} {v : V} (hd : C.const n = some d) (r : ∀ S H, Rep R S H d v z0) (h : tV R C W (.g n) σ H Q) : Q v H := by
  obtain ⟨S, env, c, f, G, h⟩ := h
  simp only [ev, hd] at h
  exact h S H c v z0 .refl (by rw [z_pl]; exact G) (r S H)
end
section
variable {X : Cx} {T : Tags} {C : Ctx} {W : WX} {σ0 : St} {x y : Expr} {xs rest : List Expr} {e a b t : E} {es as : List E} {pos : Pos}
theorem pi_or {X : Cx} {tg it : Expr} {w1 w2 : TI} (h1 : PI X tg it w1) (h2 : PI X tg it w2) : PI X tg it (fun σ H R => w1 σ H R ∨ w2 σ H R) := ⟨fun pins s σ H R I h => by
  rcases h with h | h
  · exact h1.run pins s σ H R I h
  · exact h2.run pins s σ H R I h⟩
theorem pg_or {X : Cx} {tg : Expr} {w1 w2 : TG} (h1 : PG X tg w1) (h2 : PG X tg w2) : PG X tg (fun v σ H Q => w1 v σ H Q ∨ w2 v σ H Q) := ⟨fun pins s σ H v u Q I r h => by
  rcases h with h | h
  · exact h1.run pins s σ H v u Q I r h
  · exact h2.run pins s σ H v u Q I r h⟩
theorem pi_imp {X : Cx} {tg it : Expr} {w w' : TI} (h : PI X tg it w) (i : ∀ σ H R, w' σ H R → w σ H R) : PI X tg it w' := ⟨fun pins s σ H R I q => h.run pins s σ H R I (i σ H R q)⟩
theorem pg_imp {X : Cx} {tg : Expr} {w w' : TG} (h : PG X tg w) (i : ∀ v σ H Q, w' v σ H Q → w v σ H Q) : PG X tg w' := ⟨fun pins s σ H v u Q I r q => h.run pins s σ H v u Q I r (i v σ H Q q)⟩
theorem pgs_imp {X : Cx} {tg : List Expr} {w w' : TGs} (h : PGs X tg w) (i : ∀ v σ H Q, w' v σ H Q → w v σ H Q) : PGs X tg w' := ⟨fun pins s σ H v u Q I r q => h.run pins s σ H v u Q I r (i v σ H Q q)⟩
theorem ps_imp {X : Cx} {s : Stmt} {w w' : TS} (h : PS X s w) (i : ∀ D σ H, w' D σ H → w D σ H) : PS X s w' := ⟨fun pins s σ H D I q => h.run pins s σ H D I (i D σ H q)⟩
theorem pss_imp {X : Cx} {s : List Stmt} {w w' : TS} (h : PSs X s w) (i : ∀ D σ H, w' D σ H → w D σ H) : PSs X s w' := ⟨fun pins s σ H D I q => h.run pins s σ H D I (i D σ H q)⟩
/-! ### names -/
theorem pe_vV {i : Nat} {nm : Str} (h : PE X (.Name nm pos) (tVar i)) : PE X (.Name nm pos) (tV (rc X T) C W (.v i)) := pe_imp h fun _ _ _ q => tV_v q
theorem pe_movV {i : Nat} {nm : Str} (h : PE X (.Name nm pos) (tVar i)) : PE X (.Name nm pos) (tV (rc X T) C W (.mov i)) := pe_imp h fun _ _ _ q => tV_mov q
theorem pe_gV {n : Nat} {d : Dt} {v : V} (h : PE X x (tC v)) (hd : C.const n = some d) (r : ∀ S H, Rep (rc X T) S H d v z0) : PE X x (tV (rc X T) C W (.g n)) := pe_imp h fun _ _ _ q => tV_g hd r q
theorem pe_borV {is : List Nat} (h : PE X x (tV (rc X T) C W e)) : PE X x (tV (rc X T) C W (.bor is e)) := pe_imp h fun _ _ _ q => tV_bor q
theorem pt_borV {is : List Nat} (h : PT X x (tT (rc X T) C W e)) : PT X x (tT (rc X T) C W (.bor is e)) := pt_imp h fun _ _ _ q => tV_bor q
theorem pe_appendV {i : Nat} {o : Expr} {nm : Str} {ap cp : Pos} (ho : PE X o (tVar i)) (pa : PlainAttrs "list") (slot : Slot "list" nm "list.append") (hty : typeOf (.builtin "list.append") = pure (.type "method_descriptor")) (ha : PA X (x :: xs) (tVs (rc X T) C W as))
    (hbase : attributeBase o nm X.env (eval o X.env) = eval o X.env := by rfl)
    (hfew : ((backTo cp (starEach (x :: xs) X.env)).all (fun x => !x.1) && (backToKw cp (keywordEach [] X.env)).all (fun x => x.1.isSome)
      && decide ((x :: xs).length + ([] : List Keyword).length + (if ([] : List Keyword).isEmpty then 0 else 1) < 30)) = true := by rfl)
    (hline : (ap.endLine == cp.line) = true := by rfl) (hs : starEach (x :: xs) X.env = (false, eval x X.env) :: starEach xs X.env := by rfl) (hplain : (backTo cp (starEach xs X.env)).any (·.1) = false := by rfl) :
    PE X (.Call (.Attribute o nm ap) (x :: xs) [] cp) (tV (rc X T) C W (.mth .append i [] as)) := pe_imp (pe_bm pa slot hty mt_append ho ha hbase hfew hline hs hplain) fun _ _ _ q => tV_mth k_append q
theorem pe_popAtV {i : Nat} {o : Expr} {nm : Str} {ap cp : Pos} (ho : PE X o (tVar i)) (pa : PlainAttrs "list") (slot : Slot "list" nm "list.pop") (hty : typeOf (.builtin "list.pop") = pure (.type "method_descriptor")) (ha : PA X (x :: xs) (tVs (rc X T) C W as))
    (hbase : attributeBase o nm X.env (eval o X.env) = eval o X.env := by rfl)
    (hfew : ((backTo cp (starEach (x :: xs) X.env)).all (fun x => !x.1) && (backToKw cp (keywordEach [] X.env)).all (fun x => x.1.isSome)
      && decide ((x :: xs).length + ([] : List Keyword).length + (if ([] : List Keyword).isEmpty then 0 else 1) < 30)) = true := by rfl)
    (hline : (ap.endLine == cp.line) = true := by rfl) (hs : starEach (x :: xs) X.env = (false, eval x X.env) :: starEach xs X.env := by rfl) (hplain : (backTo cp (starEach xs X.env)).any (·.1) = false := by rfl) :
    PE X (.Call (.Attribute o nm ap) (x :: xs) [] cp) (tV (rc X T) C W (.mth .popAt i [] as)) := pe_imp (pe_bm pa slot hty mt_popAt ho ha hbase hfew hline hs hplain) fun _ _ _ q => tV_mth k_popAt q
/-! ### what is walked -/
theorem pi_seqV {tg : Expr} (h : PE X x (tV (rc X T) C W e)) : PI X tg x (tI (rc X T) C W .seq [e]) := pi_imp (pi_or (pi_list h) (pi_or (pi_tup h) (pi_str h))) fun _ _ _ q => tI_seq q
theorem pi_rng1V {tg : Expr} {nm : Str} {p : Pos} (h : PI X tg (.Call (.Name nm p) [x] [] pos) (iRng1 (tVs (rc X T) C W [a]))) : PI X tg (.Call (.Name nm p) [x] [] pos) (tI (rc X T) C W .range [a]) := pi_imp h fun _ _ _ q => tI_range1 q
theorem pi_rng2V {tg : Expr} {nm : Str} {p : Pos} (h : PI X tg (.Call (.Name nm p) [x, y] [] pos) (iRng2 (tVs (rc X T) C W [a, b]))) : PI X tg (.Call (.Name nm p) [x, y] [] pos) (tI (rc X T) C W .range [a, b]) := pi_imp h fun _ _ _ q => tI_range2 q
theorem pi_enumV {tg : Expr} {nm : Str} {p : Pos} (h : PI X tg (.Call (.Name nm p) [x] [] pos) (iEnum X.K (tVs (rc X T) C W [a]))) : PI X tg (.Call (.Name nm p) [x] [] pos) (tI (rc X T) C W .enum [a]) := pi_imp h fun _ _ _ q => tI_enum q
theorem pi_zipV {tg : Expr} {nm : Str} {p : Pos} (h : PI X tg (.Call (.Name nm p) [x, y] [] pos) (RZ.iZipA X.K (tVs (rc X T) C W [a, b]))) (h2 : PI X tg (.Call (.Name nm p) [x, y] [] pos) (iZipS (tVs (rc X T) C W [a, b]))) : PI X tg (.Call (.Name nm p) [x, y] [] pos) (tI (rc X T) C W .zip [a, b]) := pi_imp (pi_or h h2) fun _ _ _ q => tI_zip q
/-! ### targets -/
theorem pb_v {i : Nat} {tg : Expr} {R : Rc} (h : PG X tg (gName i)) : PG X tg (tB R (.v i)) := pg_imp h fun _ _ _ _ q => tB_v q
theorem pbs_nil {R : Rc} : PGs X [] (tBs R []) := pgs_imp pgs_nil fun _ _ _ _ q => tBs_nil q
theorem pbs_cons {R : Rc} {tg : Tg} {tgs : List Tg} (h1 : PG X x (tB R tg)) (h2 : PGs X xs (tBs R tgs)) (hs : (assignEach (x :: xs) X.env).map (·.2) = assign x X.env :: (assignEach xs X.env).map (·.2) := by rfl) : PGs X (x :: xs) (tBs R (tg :: tgs)) := pgs_imp (pgs_cons h1 h2 hs) fun _ _ _ _ q => tBs_cons q
theorem pb_tup {k n : Nat} {ts : List Tg} (hc : X.calm = true) (h : PGs X xs (tBs (rc X T) ts)) (hl : ts.length = n := by rfl) (hn : (assignEach xs X.env).length = n := by rfl) (hst : (assignEach xs X.env).findIdx? (·.1) = none := by rfl) : PG X (.Tuple xs k pos) (tB (rc X T) (.tup ts)) :=
  pg_imp (pg_or (pg_tup hc h hn hst) (pg_lst hc h hn hst)) fun _ _ _ _ q => tB_tup hl q
theorem pg_vV {i : Nat} {tg : Expr} {R : Rc} (h : PG X tg (gName i)) : PG X tg (tG R C W σ0 (.v i)) := pg_imp h fun _ _ _ _ q => tG_v q
theorem pgs_nilV {R : Rc} : PGs X [] (tGs R C W σ0 []) := pgs_imp pgs_nil fun _ _ _ _ q => tGs_nil q
theorem pgs_consV {R : Rc} {tg : Tt} {tgs : List Tt} (h1 : PG X x (tG R C W σ0 tg)) (h2 : PGs X xs (tGs R C W σ0 tgs)) (hs : (assignEach (x :: xs) X.env).map (·.2) = assign x X.env :: (assignEach xs X.env).map (·.2) := by rfl) : PGs X (x :: xs) (tGs R C W σ0 (tg :: tgs)) := pgs_imp (pgs_cons h1 h2 hs) fun _ _ _ _ q => tGs_cons q
theorem pg_tupV {k n : Nat} {ts : List Tt} (hc : X.calm = true) (h : PGs X xs (tGs (rc X T) C W σ0 ts)) (hl : ts.length = n := by rfl) (hn : (assignEach xs X.env).length = n := by rfl) (hst : (assignEach xs X.env).findIdx? (·.1) = none := by rfl) : PG X (.Tuple xs k pos) (tG (rc X T) C W σ0 (.tup ts)) :=
  pg_imp (pg_or (pg_tup hc h hn hst) (pg_lst hc h hn hst)) fun _ _ _ _ q => tG_tup hl q
theorem pg_subV {i : Nat} {key : E} (ho : PE X x (tVar i)) (hk : PE X y (tV (rc X T) C W key))
    (ha : ∀ v, assign (.Subscript x y pos) X.env v = (do
      let ov ← holding [v] (eval x X.env)
      let iv ← holding [v, ov] (eval y X.env)
      standAt pos
      holding [v, ov, iv] (setItem ov iv v)
      release [v, ov, iv] []) := by intro _; rfl) : PG X (.Subscript x y pos) (tG (rc X T) C W σ0 (.sub i [] key)) := pg_imp (pg_sub ho hk set_list ha) fun _ _ _ _ q => tG_sub q
/-! ### statements -/
variable {st : Stmt} {sts sts2 : List Stmt} {s : Stm} {ss ss2 : List Stm}
theorem pss_nilV : PSs X [] (tSs (rc X T) C W σ0 []) := pss_imp pss_nil fun _ _ _ q => tSs_nil q
theorem pss_consV (h : PS X st (tS (rc X T) C W σ0 s)) (h2 : PSs X sts (tSs (rc X T) C W σ0 ss)) : PSs X (st :: sts) (tSs (rc X T) C W σ0 (s :: ss)) := pss_imp (pss_cons h h2) fun _ _ _ q => tSs_cons q
theorem ps_retV (h : PE X x (tV (rc X T) C W e)) : PS X (.Return (some x) pos) (tS (rc X T) C W σ0 (.ret e)) := ps_imp (ps_ret h) fun _ _ _ q => tS_ret q
theorem ps_exV (h : PE X x (tV (rc X T) C W e)) (hs : swapsWith x none pos.line X.env = pure false := by rfl) : PS X (.Expr x pos) (tS (rc X T) C W σ0 (.ex e)) := ps_imp (ps_expr h hs) fun _ _ _ q => tS_ex q
theorem ps_iteV (ht : PT X x (tT (rc X T) C W t)) (h1 : PSs X sts (tSs (rc X T) C W σ0 ss)) (h2 : PSs X sts2 (tSs (rc X T) C W σ0 ss2)) : PS X (.If x sts sts2 pos) (tS (rc X T) C W σ0 (.ite t ss ss2)) := ps_imp (ps_if ht h1 h2) fun _ _ _ q => tS_ite q
theorem ps_asgV {tg : Expr} {tt : Tt} (he : PE X x (tV (rc X T) C W e)) (hg : PG X tg (tG (rc X T) C W σ0 tt)) (hs : swapsWithSole [tg] x pos.line X.env = pure false := by rfl) (hw : swappedStores [tg] x X.env = pure none := by rfl)
    (h1 : (assignEach [tg] X.env).map (·.2) = [assign tg X.env] := by rfl) : PS X (.Assign [tg] x pos) (tS (rc X T) C W σ0 (.asg tt e)) := ps_imp (ps_asg he hg hs hw h1) fun _ _ _ q => tS_asg q
theorem ps_passV : PS X (.Pass pos) (tS (rc X T) C W σ0 .pass) := ps_imp ps_pass fun _ _ _ q => tS_pass q
theorem ps_brkV : PS X (.Break pos) (tS (rc X T) C W σ0 .brk) := ps_imp ps_break fun _ _ _ q => tS_brk q
theorem ps_contV : PS X (.Continue pos) (tS (rc X T) C W σ0 .cont) := ps_imp ps_continue fun _ _ _ q => tS_cont q
theorem ps_stkV : PS X st (tS (rc X T) C W σ0 .stk) := ⟨fun _ _ _ _ _ _ h => (tS_stk h).elim⟩
theorem ps_whV (hp : PassesOwn (model X.prog X.w) X.A X.env X.xe) (ht : PT X x (tT (rc X T) C W t)) (h1 : PSs X sts (tSs (rc X T) C W σ0 ss)) : PS X (.While x sts [] pos) (tS (rc X T) C W σ0 (.wh t ss)) := ps_imp (ps_while hp ht h1) fun _ _ _ q => tS_wh q
theorem ps_forV {tg : Expr} {tt : Tg} {kd : Kd} (hp : PassesOwn (model X.prog X.w) X.A X.env X.xe) (hc : X.calm = true) (hi : PI X tg x (tI (rc X T) C W kd es)) (hg : PG X tg (tB (rc X T) tt)) (hb : PSs X sts (tSs (rc X T) C W σ0 ss))
    (hs : ∀ v, foldedSetIterable x X.env v = pure v := by intro _; rfl) : PS X (.For tg x sts [] pos) (tS (rc X T) C W σ0 (.for_ tt kd es ss)) := ps_imp (ps_for hp hc hi hg hb hs) fun _ _ _ q => tS_for q
end
end PL
set_option Elab.async false
set_option linter.all false
set_option maxRecDepth 100000
/-! PL, part 16: a def keeps the interpreter's promise. -/
namespace PL
open PySem PySem.Spec L2
open PyProof.Rows hiding St

section
variable {R : Rc} {S H : Hp}
theorem start_rep : ∀ {ds : List Dt} {vs : List V} {c : Cn} {m : Nat}, RepL R S H ds vs c → RepE R S H (ds.map some ++ List.replicate m none) (vs.map some ++ List.replicate m none) c
  | [], [], c, m, h => by
    have h : c = z0 := h
    subst h
    induction m with
    | zero => exact rfl
    | succ m ih => exact ih
  | d :: ds, v :: vs, c, m, h => by
    obtain ⟨c1, c2, h1, h2, rfl⟩ := h
    exact ⟨c1, c2, h1, start_rep h2, rfl⟩
  | [], _ :: _, _, _, h => h.elim
  | _ :: _, [], _, _, h => h.elim
theorem outs_rep : ∀ {io : List Bool} {env : Env} {σ : St} {c : Cn} {outs : List (Option Dt)} {vs : List V}, outsOf io env = some outs → RepE R S H env σ c → io.length = vs.length → (∀ i : Nat, io[i]? = some true → σ[i]? = (vs[i]?).map some) →
    ∃ co, RepO R S H outs vs co ∧ ∀ a, co a ≤ c a
  | [], env, σ, c, outs, vs, h, r, hl, hv => by
    unfold outsOf at h
    cases h
    exact ⟨z0, rfl, fun a => Nat.zero_le _⟩
  | true :: io, some d :: env, some w :: σ, c, outs, v :: vs, h, r, hl, hv => by
    obtain ⟨os, ho, rfl⟩ := Option.map_eq_some_iff.mp (show (outsOf io env).map (some d :: ·) = some outs from h)
    obtain ⟨c1, c2, r1, r2, rfl⟩ := r
    obtain ⟨co, h1, le⟩ := outs_rep ho r2 (Nat.succ.inj hl) fun i e => hv (i + 1) e
    have e : some (some w) = some (some v) := hv 0 rfl
    cases e
    exact ⟨pl c1 co, ⟨c1, co, r1, h1, rfl⟩, fun a => by have := le a; simp only [pl_at]; omega⟩
  | false :: io, x :: env, y :: σ, c, outs, v :: vs, h, r, hl, hv => by
    obtain ⟨os, ho, rfl⟩ := Option.map_eq_some_iff.mp (show (outsOf io env).map (none :: ·) = some outs from (by cases x <;> exact h))
    have r2 : ∃ c2, RepE R S H env σ c2 ∧ ∀ a, c2 a ≤ c a := by
      cases x with
      | none => exact ⟨c, r, fun a => Nat.le_refl _⟩
      | some d =>
        cases y with
        | none => exact r.elim
        | some w =>
          obtain ⟨c1, c2, r1, r2, rfl⟩ := r
          exact ⟨c2, r2, fun a => by simp only [pl_at]; omega⟩
    obtain ⟨c2, r2, le2⟩ := r2
    obtain ⟨co, h1, le⟩ := outs_rep ho r2 (Nat.succ.inj hl) fun i e => hv (i + 1) e
    exact ⟨co, h1, fun a => Nat.le_trans (le a) (le2 a)⟩
  | true :: io, none :: env, _, _, _, _, h, _, _, _ => by cases h
  | true :: io, [], _, _, _, _, h, _, _, _ => by cases h
  | false :: io, [], _, _, _, _, h, _, _, _ => by cases h
  | true :: io, some d :: env, [], _, _, _, _, r, _, _ => r.elim
  | true :: io, some d :: env, none :: _, _, _, _, _, r, _, _ => r.elim
  | true :: io, some d :: env, some _ :: _, _, _, [], _, _, hl, _ => by cases hl
  | false :: io, none :: env, [], _, _, _, _, r, _, _ => r.elim
  | false :: io, some _ :: env, [], _, _, _, _, r, _, _ => r.elim
  | false :: io, x :: env, y :: σ, _, _, [], _, _, hl, _ => by cases hl
theorem getD_true {io : List Bool} {i : Nat} (h : io.getD i false = true) : io[i]? = some true := by
  rw [List.getD_eq_getElem?_getD] at h
  cases e : io[i]? with
  | none => rw [e] at h; cases h
  | some b => rw [e] at h; cases b with
    | true => rfl
    | false => cases h
/-- what a promise gives of the body -/
theorem body_of {G : Prog} {L k g : Nat} {Fn : Fn} {N : List Str} {vs : List V} {Q : VK} {E : XK} (hG : G.fns g = some Fn) (hN : N.length = Fn.ns) (h : spF R G L (k + 1) g vs H Q E) :
    tSs R ⟨G.par, G.const, callF G L k, L, fun i => Fn.io.getD i false⟩ (fun cls d _ H => E cls d H) (L2.start N vs) Fn.body { nx := fun _ H' => Q .non H', rt := Q } (L2.start N vs) H := by
  obtain ⟨S, ds, c, fr, hr, sub, dis, hf, h⟩ := h
  unfold callF at h
  rw [hG] at h
  simp only at h
  split at h
  · rename_i hc
    rw [Bool.and_eq_true, decide_eq_true_eq] at hc
    have hlv : Fn.io.length = vs.length := by rw [argsOk_len hc.2, hr.length]
    have est : L2.start N vs = vs.map some ++ List.replicate (Fn.ns - ds.length) none := by
      unfold L2.start
      rw [hN, hr.length]
    refine ⟨S, PL.start Fn.ns ds, c, fr, ⟨by rw [est]; exact start_rep hr, sub, dis, hf⟩, fun _ _ => rfl, ?_⟩
    have pin : ∀ {σ' : St}, Pm ⟨G.par, G.const, callF G L k, L, fun i => Fn.io.getD i false⟩ (L2.start N vs) σ' → ∀ i : Nat, Fn.io[i]? = some true → σ'[i]? = (vs[i]?).map some := fun {σ'} p i hi => by
      rw [p i (by show Fn.io.getD i false = true; rw [List.getD_eq_getElem?_getD, hi]; rfl), est]
      have hi' : i < vs.length := by rw [← hlv]; exact (List.getElem?_eq_some_iff.mp hi).1
      rw [List.getElem?_append_left (by rw [List.length_map]; exact hi'), List.getElem?_map]
    cases x : exs ⟨G.par, G.const, callF G L k, L, fun i => Fn.io.getD i false⟩ Fn.body (PL.start Fn.ns ds) with
    | st => rw [x] at h; exact h.elim
    | exc e dv env' =>
      rw [x] at h
      simp only at h
      split at h
      · exact h.elim
      · intro S' H' σ' c' dd E' p' G' t
        exact h S' H' dd E' G'.sub (fun a => by have := G'.dis a; omega) t
    | ok fl env' =>
      rw [x] at h
      cases fl with
      | brk => exact h.elim
      | cont => exact h.elim
      | next =>
        simp only at h
        cases ho : outsOf Fn.io env' with
        | none => rw [ho] at h; exact h.elim
        | some outs =>
          rw [ho] at h
          intro S' H' σ' c' E' p' G'
          obtain ⟨co, r, le⟩ := outs_rep ho G'.env hlv (pin p')
          exact h S' H' .non z0 co E' G'.sub (fun a => by have := G'.dis a; have := le a; show occ S' a + (0 + co a) + fr a ≤ 1; omega) ⟨rfl, rfl⟩ r
      | ret d =>
        simp only at h
        cases ho : outsOf Fn.io env' with
        | none => rw [ho] at h; exact h.elim
        | some outs =>
          rw [ho] at h
          intro S' H' σ' c' v cr E' p' G' rv
          obtain ⟨co, r, le⟩ := outs_rep ho G'.env hlv (pin p')
          exact h S' H' v cr co E' G'.sub (fun a => by have d := G'.dis a; have := le a; rw [pl_at] at d; omega) rv r
  · exact h.elim
end
section
variable {P : Program} {w : World} {K : PySem.W.Frag} {mg : Str → Option Value} {base : Heap} {T : Tags} {G : Prog} {L k g : Nat} {Fn : Fn} {x qual : Str} {params : Arguments} {body : List Stmt} {scope : Scope} {fd : FuncData} {N ps : List Str}
/-- the frame of a def, laid: its body does what is told (no repr under way) -/
theorem fnG_of {oc dV kV doc pm cdv ct : Value} {an od : Option Addr} {osl : Array (Option Value)} {sp : Sp} {f : Addr} {name qual : Str} (lk : K.lookup f = some ⟨oc, od, .func (PySem.W.fnOf name qual params body scope dV kV doc pm an cdv ct), osl⟩)
    (hcd : PySem.W.codeIn K cdv qual = true) (Sc : FnScope N ps scope) (len : ∀ vs H Q E, sp vs H Q E → vs.length = ps.length)
    (hbody : ∀ (A : Around) (outer : List PySem.Env) (s : Shared) (H : Hp) (vs : List V) (Q : VK) (E : XK), RoomG k (A.deeper (envOfC qual scope s.heap.objs.size f cdv)) → sp vs H Q E →
      ∃ t, PSs (cxOf (L2.CX P w) P w K mg base N qual scope f cdv A outer s H E) body t ∧ t { nx := fun _ H' => Q .non H', rt := Q } (L2.start N vs) H) :
    FnG P w K mg base (k + 1) f (PySem.W.fnOf name qual params body scope dV kV doc pm an cdv ct) ps sp := by
  refine ⟨len, fun A outer s H args us vs Q E hr env0 bnd rel q => ?_⟩
  have inK : K.In s.heap := env0.mod.kin.keeps fun b o e => (env0.bs b o e).1
  have noL : s.heap.NoLimit := env0.mod.nolimit.keeps fun b o e => (env0.bs b o e).1
  refine codeAny_call_function hr.toRoom.depth (inK _ _ lk) rfl Sc.co Sc.gen rfl (PySem.W.codeRec_of inK hcd) (bnd _ _ _ _ ?_)
  refine wpAny_newFunctionEnv_cells Sc.kind (fun y hy => ?_) fun env he s1 lay => ?_
  · obtain ⟨n, v⟩ := y
    have z := Sc.par n (List.of_mem_zip hy).1
    exact z.imp id fun z => ⟨z, PySem.W.cellsFrom_some _ _ _ (.inl z)⟩
  · subst he
    refine ⟨noL.keeps lay.toInCall.keep, codeAny_func ?_⟩
    obtain ⟨t, ht, hq⟩ := hbody A outer s H vs Q E (hr.deep _) q
    have I := inv_start (E := E) (CX := L2.CX P w) Sc hr.hd env0 (len _ _ _ _ q) rel lay
    refine wpAny_mono (ht.run [] s1 (L2.start N vs) H _ I hq) (fun fl s' hs => ?_) fun _ _ z => z
    cases fl with
    | ret u => obtain ⟨v, _, H', J, rv, z⟩ := hs; exact ⟨v, H', J.os, J.bare, J.base, J.hok, rv, z⟩
    | next => obtain ⟨_, H', J, z⟩ := hs; exact ⟨.non, H', J.os, J.bare, J.base, J.hok, rfl, z⟩
    | brk => obtain ⟨_, _, _, z⟩ := hs; exact z.elim
    | cont => obtain ⟨_, _, _, z⟩ := hs; exact z.elim
theorem def_ok (F : FunD K x qual params body scope [] [] (T.fa g) fd) (Sc : FnScope N ps scope) (hG : G.fns g = some Fn) (hN : N.length = Fn.ns) (hp : Fn.np = ps.length)
    (hb : ∀ (cdv : Value) (A : Around) (outer : List PySem.Env) (s : Shared) (H : Hp) (E : XK) (σ0 : St), RoomG k (A.deeper (envOfC qual scope s.heap.objs.size (T.fa g) cdv)) →
      PSs (cxOf (L2.CX P w) P w K mg base N qual scope (T.fa g) cdv A outer s H E) body (tSs ⟨K, P, w, T.τ, T.fa, T.cl⟩ ⟨G.par, G.const, callF G L k, L, fun i => Fn.io.getD i false⟩ (fun cls d _ H => E cls d H) σ0 Fn.body)) :
    FnG P w K mg base (k + 1) (T.fa g) fd ps (spF ⟨K, P, w, T.τ, T.fa, T.cl⟩ G L (k + 1) g) := by
  obtain ⟨oc, od, dV, kV, doc, pm, an, cdv, ct, osl, rfl, lk, hcd, _, _⟩ := F.ex
  exact fnG_of lk hcd Sc (fun vs H Q E h => spF_len (fun F' e => by rw [hG] at e; cases e; exact hp) h) fun A outer s H vs Q E hr h => ⟨_, hb cdv A outer s H E (L2.start N vs) hr, body_of hG hN h⟩
theorem def_0 : FnG P w K mg base 0 (T.fa g) fd ps (spF ⟨K, P, w, T.τ, T.fa, T.cl⟩ G L 0 g) :=
  ⟨fun vs H Q E h => by obtain ⟨_, _, _, _, _, _, _, _, h⟩ := h; exact h.elim, fun A outer s H args us vs Q E _ _ _ _ h => by obtain ⟨_, _, _, _, _, _, _, _, h⟩ := h; exact h.elim⟩
end
end PL
set_option Elab.async false
set_option linter.all false
set_option maxRecDepth 100000
/-! PL, part 17: more primitives: is True, -x, int, str, list, tuple, bit_length, isinstance, join, index. -/
namespace PL
open PySem PySem.Spec L2
open PyProof.Rows hiding St

section
variable {X : Cx} {R : Rc}
/-! ### is True, is False -/
def rIsBA (neg : Bool) : R2 := fun x y H Q => ∃ b : Bool, y = .bl b ∧ Q (.bl (neg ^^ decide (x = .bl b))) H
theorem is_dec {x : V} {v : Value} {b : Bool} (r : RelV x v) : (v == Value.bool b) = decide (x = .bl b) := by
  cases x with
  | non => cases r; rfl
  | bl c =>
    cases r
    rw [Bool.eq_iff_iff]
    simp
  | int i => obtain ⟨t, rfl⟩ := r; rfl
  | str s => obtain ⟨t, rfl⟩ := r; rfl
  | byt s => obtain ⟨t, rfl⟩ := r; rfl
  | flt s => obtain ⟨t, rfl⟩ := r; rfl
  | ref s => cases r; rfl
  | ty s => cases r; rfl
theorem plain_b {x : V} {v : Value} {b : Bool} (r : RelV x v) : plainIs v (.bool b) = true := by
  cases x with
  | non => cases r; rfl
  | bl c => cases r; rfl
  | int i => obtain ⟨t, rfl⟩ := r; rfl
  | str s => obtain ⟨t, rfl⟩ := r; rfl
  | byt s => obtain ⟨t, rfl⟩ := r; rfl
  | flt s => obtain ⟨t, rfl⟩ := r; rfl
  | ref s => cases r; rfl
  | ty s => cases r; rfl
theorem or_isB : OpR X (compareOp .Is) (rIsBA false) := by
  intro pins s σ H x y v u Q I rx ry h
  obtain ⟨b, rfl, q⟩ := h
  cases (show u = Value.bool b from ry)
  refine wpAny_is_plain (plain_b rx) ?_
  rw [is_dec rx]
  exact ⟨.bl _, H, I, rfl, by rw [Bool.false_xor] at q; exact q⟩
theorem or_notB : OpR X (compareOp .IsNot) (rIsBA true) := by
  intro pins s σ H x y v u Q I rx ry h
  obtain ⟨b, rfl, q⟩ := h
  cases (show u = Value.bool b from ry)
  refine wpAny_isNot_plain (plain_b rx) ?_
  rw [is_dec rx]
  exact ⟨.bl _, H, I, rfl, by rw [Bool.true_xor] at q; exact q⟩
/-- x is b: x alone is told -/
theorem ok_isB (b : Bool) : POk R (.isB b) (fun vs H Q => ∃ x, vs = [x] ∧ Q (.bl (decide (x = .bl b))) H) := by
  intro par S H ds vs cr d Q hS hr hp k
  change p_isB b ds = some d at hp
  unfold p_isB at hp
  split at hp
  · rename_i a
    obtain ⟨x, rfl, h1⟩ := rl1 hr
    obtain rfl := Option.some.inj hp
    refine ⟨x, rfl, scal k ⟨?_, rfl⟩⟩
    cases a with
    | bl c =>
      obtain ⟨rfl, _⟩ := h1
      congr 1
      rw [Bool.eq_iff_iff]
      simp
    | non => obtain ⟨rfl, _⟩ := h1; rfl
    | int c => obtain ⟨rfl, _⟩ := h1; rfl
    | str c => obtain ⟨rfl, _⟩ := h1; rfl
    | lst o c =>
      obtain ⟨a, _, _, rfl, _⟩ := h1.lst hS
      rfl
    | tup c => obtain ⟨_, _, rfl, _⟩ := h1; rfl
    | dct o c =>
      cases o with
      | own => obtain ⟨_, _, _, rfl, _⟩ := h1; rfl
      | sh t => obtain ⟨_, _, rfl, _⟩ := h1; rfl
    | fn c => obtain ⟨rfl, _⟩ := h1; rfl
    | exn c e => obtain ⟨_, _, _, rfl, _⟩ := h1; rfl
  · cases hp
theorem ok_notB (b : Bool) : POk R (.notB b) (fun vs H Q => ∃ x, vs = [x] ∧ Q (.bl (!decide (x = .bl b))) H) := by
  intro par S H ds vs cr d Q hS hr hp k
  change p_notB b ds = some d at hp
  have hb : ∃ c, p_isB b ds = some (.bl c) ∧ d = .bl (!c) := by
    unfold p_notB at hp
    split at hp
    · rename_i a
      obtain rfl := Option.some.inj hp
      refine ⟨_, rfl, ?_⟩
      cases a <;> rfl
    · cases hp
  obtain ⟨c, hc, rfl⟩ := hb
  obtain ⟨x, e, q⟩ := ok_isB (R := R) b par S H ds vs cr (.bl c) (fun v H' => ∃ e, v = .bl e ∧ Q (.bl (!e)) H') hS hr hc fun H' v cr' hn r hl => by
    obtain ⟨rfl, rfl⟩ := r
    exact ⟨c, rfl, k H' _ z0 hn ⟨rfl, rfl⟩ .z⟩
  obtain ⟨e', e2, q⟩ := q
  cases e2
  exact ⟨x, e, q⟩
/-! ### -x -/
theorem ok_neg : POk R .neg (fun vs H Q => ∃ x, vs = [x] ∧ rU (fun i => .int (-i)) x H Q) := by
  intro par S H ds vs cr d Q hS hr hp k
  change p_neg ds = some d at hp
  unfold p_neg at hp
  split at hp
  · obtain ⟨x, rfl, ⟨rfl, rfl⟩⟩ := rl1 hr
    obtain rfl := Option.some.inj hp
    exact ⟨_, rfl, _, rfl, scal k ⟨rfl, rfl⟩⟩
  · cases hp
/-! ### int, str -/
theorem numAux_val : ∀ {s : List Nat} {n m : Nat}, numAux s n = some m → (s.all (fun c => decide (48 ≤ c) && decide (c ≤ 57)) = true) ∧ s.foldl (fun a c => a * 10 + (c - 48)) n = m
  | [], n, m, h => by cases h; exact ⟨rfl, rfl⟩
  | c :: r, n, m, h => by
    unfold numAux at h
    split at h
    · rename_i hc
      obtain ⟨h1, h2⟩ := numAux_val h
      exact ⟨by rw [List.all_cons, h1, decide_eq_true hc.1, decide_eq_true hc.2]; rfl, h2⟩
    · cases h
theorem numOf_val {s : List Nat} {m : Nat} (h : numOf s = some m) (hl : s.length ≤ 640) : intText? (mkS s) = some ((m : Nat) : Int) := by
  cases s with
  | nil => cases h
  | cons c r =>
    obtain ⟨h1, h2⟩ := numAux_val (show numAux (c :: r) 0 = some m from h)
    have e := SX.int_S h1 (by simp) (by omega)
    have v : NumText.digitsVal (c :: r) = m := h2
    rw [v] at e
    exact e
def rIntA : RC := fun xs H Q => ((∃ i, xs = [.int i] ∧ Q (.int i) H) ∨ ∃ k, xs = [.bl k] ∧ Q (.int (if k then 1 else 0)) H) ∨ ∃ a n, xs = [.str a] ∧ PySem.intText? a = some n ∧ a.length ≤ 640 ∧ Q (.int n) H
theorem cr_or {f : Value} {r r' : RC} (h : CallR X f r) (h' : CallR X f r') : CallR X f (fun xs H Q => r xs H Q ∨ r' xs H Q) := fun pins s σ H xs us Q I rr q => q.elim (h pins s σ H xs us Q I rr) (h' pins s σ H xs us Q I rr)
theorem cr_int : CallR X (.type "int") rIntA := cr_or call_int1 call_int_str
theorem ok_int : POk R .int rIntA := by
  intro par S H ds vs cr d Q hS hr hp k
  change p_int ds = some d at hp
  unfold p_int at hp
  split at hp
  · obtain ⟨x, rfl, ⟨rfl, rfl⟩⟩ := rl1 hr
    obtain rfl := Option.some.inj hp
    exact .inl (.inl ⟨_, rfl, scal k ⟨rfl, rfl⟩⟩)
  · rename_i b
    obtain ⟨x, rfl, ⟨rfl, rfl⟩⟩ := rl1 hr
    obtain rfl := Option.some.inj hp
    exact .inl (.inr ⟨_, rfl, scal k ⟨by cases b <;> rfl, rfl⟩⟩)
  · split at hp
    · rename_i hl
      obtain ⟨x, rfl, ⟨rfl, rfl⟩⟩ := rl1 hr
      obtain ⟨m, hm, rfl⟩ := Option.map_eq_some_iff.mp hp
      have hl := Nat.le_of_ble_eq_true hl
      exact .inr ⟨_, _, rfl, numOf_val hm hl, by rw [lenS]; exact hl, scal k ⟨rfl, rfl⟩⟩
    · cases hp
  · cases hp
theorem str_of_nat (n : Nat) : (Str.ofString (toString ((n : Nat) : Int))) = mkS (digits n) := TL.ext_tl (TL.tl_num n)
theorem str_of_int (i : Int) : Str.ofString (toString i) = mkS (strInt i) := by
  cases i with
  | ofNat n =>
    have e : strInt (Int.ofNat n) = digits n := if_neg (by simp)
    rw [e]
    exact str_of_nat n
  | negSucc n =>
    have e : strInt (Int.negSucc n) = 45 :: digits (n + 1) := if_pos (Int.negSucc_lt_zero n)
    rw [e]
    refine TL.ext_tl ?_
    rw [TL.tl_ofString]
    have h : toString (Int.negSucc n) = "-" ++ toString (n + 1) := rfl
    rw [h, String.toList_append, List.map_append]
    have h2 := TL.tl_num (n + 1)
    rw [TL.tl_ofString] at h2
    have h3 : toString (((n + 1 : Nat) : Int)) = toString (n + 1) := rfl
    rw [h3] at h2
    rw [h2]
    rfl
theorem ok_str : POk R .str (fun xs H Q => ∃ i, xs = [.int i] ∧ i.natAbs.log2 < 1920 ∧ Q (.str (toString i)) H) := by
  intro par S H ds vs cr d Q hS hr hp k
  change p_str ds = some d at hp
  unfold p_str at hp
  split at hp
  · split at hp
    · rename_i hl
      obtain ⟨x, rfl, ⟨rfl, rfl⟩⟩ := rl1 hr
      obtain rfl := Option.some.inj hp
      exact ⟨_, rfl, Nat.lt_of_lt_of_le (Nat.lt_succ_self _) (Nat.le_of_ble_eq_true hl), scal k ⟨by rw [str_of_int], rfl⟩⟩
    · cases hp
  · cases hp
theorem ok_bitlen : POk R .bitlen (fun vs H Q => ∃ i, vs = [.int i] ∧ Q (.int (Builtin.Int.intBits i : Nat)) H) := by
  intro par S H ds vs cr d Q hS hr hp k
  change p_bitlen ds = some d at hp
  unfold p_bitlen at hp
  split at hp
  · rename_i i
    obtain ⟨x, rfl, ⟨rfl, rfl⟩⟩ := rl1 hr
    obtain rfl := Option.some.inj hp
    refine ⟨i, rfl, scal k ⟨?_, rfl⟩⟩
    congr 2
    unfold Builtin.Int.intBits
    by_cases z : i = 0
    · subst z; rfl
    · rw [if_neg (by simpa using z), if_neg (by omega)]
  · cases hp
/-! ### list, tuple of a list or tuple -/
def rListA (K : PySem.W.Frag) : RC := fun xs H Q => ∃ p ys, xs = [.ref p] ∧ (SqL K H p ys ∨ SqT K H p ys) ∧ ∀ l, H l = none → Q (.ref l) (upd H l (.lst ys))
/-- what stands in a slot may be had by another name: things that nobody owns, or all of a thing of the frame's -/
theorem ok_tuple : POk R .tuple (fun xs H Q => ∃ p ys, xs = [.ref p] ∧ ((SqL R.K H p ys ∧ ∀ l, H l = none → Q (.ref l) (upd H l (.tup ys))) ∨ (SqT R.K H p ys ∧ Q (.ref p) H))) := by
  intro par S H ds vs cr d Q hS hr hp k
  change p_tuple ds = some d at hp
  unfold p_tuple at hp
  split at hp
  · obtain ⟨x, rfl, h1⟩ := rl1 hr
    obtain rfl := Option.some.inj hp
    obtain ⟨a, ws, c', rfl, sq, _, l, le, hn⟩ := h1.lst hS
    exact ⟨a, ws, rfl, .inl ⟨sq, fun p hp => k _ _ c' (.upd hp) (mk_tup l hp) (Le.of le hn)⟩⟩
  · obtain ⟨x, rfl, h1⟩ := rl1 hr
    obtain rfl := Option.some.inj hp
    obtain ⟨a, ws, rfl, sq, l⟩ := id h1
    exact ⟨a, ws, rfl, .inr ⟨sq, k _ _ cr .refl h1 (Le.of (fun _ => Nat.le_refl _) h1.noC)⟩⟩
  · cases hp
/-! ### isinstance of built-in types -/
def tyN : D → String
  | .non => "NoneType" | .bl _ => "bool" | .int _ => "int" | .str _ => "str" | .lst _ _ => "list" | .tup _ => "tuple" | .dct _ _ => "dict" | .fn _ => "function" | .exn _ _ => ""
def tyS : Ty → Option String
  | .int => some "int" | .bool => some "bool" | .str => some "str" | .list => some "list" | .tuple => some "tuple" | .dict => some "dict" | .own _ => none
def simpleD : D → Bool
  | .dct _ _ => false | .fn _ => false | .exn _ _ => false | _ => true
theorem tyX_of {S H : Hp} {d : D} {v : V} {c : Cn} (hS : ∀ a o, S a = some o → H a = some o) (h : Rep R S H d v c) (hs : simpleD d = true) : TyX R.K H v (.type (tyN d)) := by
  cases d with
  | non => obtain ⟨rfl, _⟩ := h; exact .base .non
  | bl b => obtain ⟨rfl, _⟩ := h; exact .base (.bl b)
  | int b => obtain ⟨rfl, _⟩ := h; exact .base (.int b)
  | str b => obtain ⟨rfl, _⟩ := h; exact .base (.str _)
  | lst o xs =>
    obtain ⟨a, ws, c', rfl, sq, _⟩ := h.lst hS
    rcases sq with (sq | ⟨o, sq⟩) | ⟨o, its, n, e, ec, _⟩
    · exact .base (.lst sq)
    · exact .base (.frz sq)
    · exact .kList e ec
  | tup xs =>
    obtain ⟨a, ws, rfl, sq, _⟩ := h
    rcases sq with (sq | ⟨o, sq⟩) | ⟨o, its, n, e, ec, _⟩
    · exact .base (.tup sq)
    · exact .fTuple sq
    · exact .kTuple e ec
  | dct _ _ => cases hs
  | fn _ => cases hs
  | exn _ _ => cases hs
/-- what isinstance may be asked of -/
def KitV (R : Rc) (H : Hp) (x : V) (t : Value) : Prop := TyX R.K H x t ∨ ∃ a es, x = .ref a ∧ H a = some (dO R a es) ∧ t = .type "dict"
theorem kitV_of {pins : List (Addr × Obj)} {σ : L2.St} {H : Hp} {s : Shared} {x : V} {u t : Value} (hK : R.K = X.K) (I : Inv X pins σ H s) (rx : RelV x u) (ty : KitV R H x t) : ∃ P : Heap → Prop, PySem.W.KitX X.K u t P ∧ P s.heap ∧ u ≠ .builtin "__main__.__loader__#opaque" := by
  rcases ty with ty | ⟨a, es, rfl, e, rfl⟩
  · rw [hK] at ty
    exact kit_of I rx ty
  · cases (show u = Value.ref a from rx)
    have x := I.hok a _ e
    obtain ⟨⟨_, _, o, ents, ep, h1, h2, _⟩, _⟩ := x
    exact ⟨_, PySem.W.kitx_dict, ⟨o, h1, h2.1⟩, fun z => nomatch z⟩
def rIsi2 (R : Rc) : RC := fun xs H Q => ∃ (x c : V) (t u : Value) (b : Bool), xs = [x, c] ∧ ClsV c u ∧ KitV R H x t ∧ PySem.W.kitOne R.K t u = some b ∧ Q (.bl b) H
theorem cr_isi (hK : R.K = X.K) : CallR X (.builtin "isinstance") (rIsi2 R) := by
  intro pins s σ H xs us Q I r h
  obtain ⟨x, c, t, u, b, rfl, k, ty, e, q⟩ := h
  obtain ⟨u1, u2, rfl, r1, r2⟩ := vals2 r
  have e2 := k.eq r2
  subst e2
  obtain ⟨P, Z, p, hx⟩ := kitV_of hK I r1 ty
  rw [hK] at e
  exact PySem.W.kia_one Z I.kIn p e hx fun tk => ⟨.bl b, H, I.tok tk, rfl, q⟩
def rIsi2T (R : Rc) : RC := fun xs H Q => ∃ (x : V) (tp : Addr) (cs : List V) (t : Value) (us : List Value) (b : Bool), xs = [x, .ref tp] ∧ H tp = some (.tup cs) ∧ Paired ClsV cs us ∧ KitV R H x t ∧ PySem.W.kitAny R.K t us = some b ∧ Q (.bl b) H
theorem cr_isiT (hK : R.K = X.K) : CallR X (.builtin "isinstance") (rIsi2T R) := by
  intro pins s σ H xs us Q I r h
  obtain ⟨x, tp, cs, t, ws, b, rfl, hT, k, ty, e, q⟩ := h
  obtain ⟨u1, u2, rfl, r1, r2⟩ := vals2 r
  cases (show u2 = Value.ref tp from r2)
  obtain ⟨P, Z, p, hx⟩ := kitV_of hK I r1 ty
  obtain ⟨_, its, rv, o, h1, h2, n, h3⟩ := (show ObjOk X.prog X.w H s.heap tp (.tup cs) from I.hok tp _ hT)
  have e3 := ClsV.all k rv
  subst e3
  obtain ⟨oc, od, dt, sl⟩ := o
  simp only at h2 h3
  subst h2 h3
  rw [hK] at e
  exact PySem.W.kia_tup Z I.kIn p h1 e hx fun tk => ⟨.bl b, H, I.tok tk, rfl, q⟩
theorem kitV_rep {S H : Hp} {d : D} {v : V} {c : Cn} (hS : ∀ a o, S a = some o → H a = some o) (h : Rep R S H d v c) (hs : simpleD2 d = true) : KitV R H v (.type (tyN d)) := by
  cases d with
  | dct o es =>
    cases o with
    | own => obtain ⟨a, vs, c', rfl, e, _⟩ := h; exact .inr ⟨a, _, rfl, e, rfl⟩
    | sh t => obtain ⟨a, vs, rfl, e, _⟩ := h; exact .inr ⟨a, _, rfl, hS _ _ e, rfl⟩
  | fn _ => cases hs
  | exn _ _ => cases hs
  | _ => exact .inl (tyX_of hS h rfl)
theorem kit_ty (par : Nat → Option Nat) (K : PySem.W.Frag) (T : Ty) (n : String) (d : D) (hT : tyS T = some n) (hs : simpleD2 d = true) : PySem.W.kitOne K (.type (tyN d)) (.type n) = some (isTy par 8 T d) := by
  cases T <;> cases hT <;> cases d <;> first | (cases hs; done) | rfl | decide +kernel
end
end PL
set_option Elab.async false
set_option linter.all false
set_option maxRecDepth 100000
/-! PL, part 18: the rules of the primitives, by form. -/
namespace PL
open PySem PySem.Spec L2
open PyProof.Rows hiding St

section
variable {X : Cx} {T : Tags} {C : Ctx} {W : WX} {nm : Str} {x y z : Expr} {xs : List Expr} {a b d : E} {as : List E} {p pos pos' pos2 : Pos} {j : Nat}
/-! ### displays -/
theorem pe_lstV (h : PA X xs (tVs (rc X T) C W as)) : PE X (.List xs pos) (tV (rc X T) C W (.pr .mkLst as)) := pe_imp (pe_lst h) fun _ _ _ q => tV_pr ok_mkLst q
theorem pe_tupV {k : Nat} (h : PA X xs (tVs (rc X T) C W as)) : PE X (.Tuple xs k pos) (tV (rc X T) C W (.pr .mkTup as)) := pe_imp (pe_tup h) fun _ _ _ q => tV_pr ok_mkTup q
/-- arguments -/
theorem pa_v (h : PE X x (tV (rc X T) C W a)) (h2 : PA X xs (tVs (rc X T) C W as)) (hs : starEach (x :: xs) X.env = (false, eval x X.env) :: starEach xs X.env := by rfl) : PA X (x :: xs) (tVs (rc X T) C W (a :: as)) := pa_consV h h2 hs
/-! ### -x, is True -/
theorem pe_negV (h : PE X x (tV (rc X T) C W a)) : PE X (.UnaryOp .USub x pos) (tV (rc X T) C W (.pr .neg [a])) :=
  pe_imp (pe_un un_neg h) fun σ H Q q => tV_mono (tVs1 (tV_pr ok_neg q)) fun v H1 ⟨u, e, q⟩ => by cases e; exact q
theorem pe_isBV {v : Bool} (h : PE X x (tV (rc X T) C W a)) : PE X (.Compare x [.Is] [.Constant (.bool v) j pos'] pos) (tV (rc X T) C W (.pr (.isB v) [a])) :=
  pe_imp (pe_cmpR or_isB h pe_bl (by rfl)) fun σ H Q q => tV_mono (tVs1 (tV_pr (ok_isB v) q)) fun u H1 ⟨w, e, q⟩ => by
    cases e
    exact ⟨v, rfl, by rw [Bool.false_xor]; exact q⟩
theorem pe_notBV {v : Bool} (h : PE X x (tV (rc X T) C W a)) : PE X (.Compare x [.IsNot] [.Constant (.bool v) j pos'] pos) (tV (rc X T) C W (.pr (.notB v) [a])) :=
  pe_imp (pe_cmpR or_notB h pe_bl (by rfl)) fun σ H Q q => tV_mono (tVs1 (tV_pr (ok_notB v) q)) fun u H1 ⟨w, e, q⟩ => by
    cases e
    exact ⟨v, rfl, by rw [Bool.true_xor]; exact q⟩
theorem pt_isBV {v : Bool} (h : PE X x (tV (rc X T) C W a)) : PT X (.Compare x [.Is] [.Constant (.bool v) j pos'] pos) (tT (rc X T) C W (.pr (.isB v) [a])) :=
  pt_imp (pt_cmpR or_isB h pe_bl (by rfl)) fun σ H Q q => tV_mono (tVs1 (tV_pr (ok_isB v) q)) fun u H1 ⟨w, e, q⟩ => by
    cases e
    exact ⟨v, rfl, by rw [Bool.false_xor]; exact q⟩
theorem pt_notBV {v : Bool} (h : PE X x (tV (rc X T) C W a)) : PT X (.Compare x [.IsNot] [.Constant (.bool v) j pos'] pos) (tT (rc X T) C W (.pr (.notB v) [a])) :=
  pt_imp (pt_cmpR or_notB h pe_bl (by rfl)) fun σ H Q q => tV_mono (tVs1 (tV_pr (ok_notB v) q)) fun u H1 ⟨w, e, q⟩ => by
    cases e
    exact ⟨v, rfl, by rw [Bool.true_xor]; exact q⟩
/-! ### isinstance -/
theorem ok_inst {R : Rc} {t : Ty} {n : String} (hT : tyS t = some n) : POk R (.inst t) (fun vs H Q => ∃ x, vs = [x] ∧ rIsi2 R [x, .ty n] H Q) := by
  intro par S H ds vs cr d Q hS hr hp k
  change p_inst par t ds = some d at hp
  unfold p_inst at hp
  split at hp
  · split at hp
    · rename_i hs
      obtain ⟨x, rfl, h1⟩ := rl1 hr
      obtain rfl := Option.some.inj hp
      exact ⟨x, rfl, x, .ty n, _, _, _, rfl, .ty n, kitV_rep hS h1 hs, kit_ty par R.K t n _ hT hs, scal k ⟨rfl, rfl⟩⟩
    · cases hp
  · cases hp
theorem ok_inst2 {R : Rc} {t u : Ty} {n m : String} (hT : tyS t = some n) (hU : tyS u = some m) : POk R (.inst2 t u) (fun vs H Q => ∃ x, vs = [x] ∧ ∀ tp, H tp = none → rIsi2T R [x, .ref tp] (upd H tp (.tup [.ty n, .ty m])) Q) := by
  intro par S H ds vs cr d Q hS hr hp k
  change p_inst2 par t u ds = some d at hp
  unfold p_inst2 at hp
  split at hp
  · split at hp
    · rename_i hs
      obtain ⟨x, rfl, h1⟩ := rl1 hr
      obtain rfl := Option.some.inj hp
      refine ⟨x, rfl, fun tp htp => ⟨x, tp, [.ty n, .ty m], _, [.type n, .type m], _, rfl, upd_same, .cons (.ty n) (.cons (.ty m) .nil), kitV_rep (fun a o e => New.upd htp a o (hS a o e)) (h1.new (.upd htp)) hs, ?_, k _ _ z0 (.upd htp) ⟨rfl, rfl⟩ .z⟩⟩
      show (match PySem.W.kitOne R.K _ (.type n) with
        | some true => some true
        | some false => PySem.W.kitAny R.K _ [.type m]
        | none => none) = _
      rw [kit_ty par R.K t n _ hT hs]
      cases isTy par 8 t _ with
      | true => rfl
      | false =>
        show (match PySem.W.kitOne R.K _ (.type m) with
          | some true => some true
          | some false => some false
          | none => none) = _
        rw [kit_ty par R.K u m _ hU hs]
        cases isTy par 8 u _ <;> rfl
    · cases hp
  · cases hp
theorem pe_instV {t : Ty} {n : String} (hT : tyS t = some n) (hg : Gl X nm) (hm : X.mg nm = none) (hv : bootBuiltins nm = some (.builtin "isinstance")) (ha : PE X x (tV (rc X T) C W a)) (hc : PE X y (tC (.ty n))) (hn : nm ≠ "__name__" := by decide) (hdb : (nm == ("__debug__" : Str)) = false := by decide)
    (hs : starEach [x, y] X.env = (false, eval x X.env) :: starEach [y] X.env := by rfl) (hs2 : starEach [y] X.env = (false, eval y X.env) :: starEach [] X.env := by rfl) (hpl : (backTo pos (starEach [y] X.env)).any (·.1) = false := by rfl) :
    PE X (.Call (.Name nm p) [x, y] [] pos) (tV (rc X T) C W (.pr (.inst t) [a])) :=
  pe_imp (pe_callB (cr_isi (R := rc X T) rfl) hg hm hv (pa_cons ha (pa_cons hc pa_nil hs2) hs) hn hdb hs hpl) fun σ H Q q => tV_mono (tVs1 (tV_pr (ok_inst hT) q)) fun u H1 ⟨w, e, q⟩ => by
    cases e
    exact q
theorem pe_inst2V {t u : Ty} {n m : String} {k : Nat} {ty1 ty2 : Expr} (hT : tyS t = some n) (hU : tyS u = some m) (hg : Gl X nm) (hm : X.mg nm = none) (hv : bootBuiltins nm = some (.builtin "isinstance")) (ha : PE X x (tV (rc X T) C W a)) (hc : PE X ty1 (tC (.ty n))) (hc2 : PE X ty2 (tC (.ty m))) (hn : nm ≠ "__name__" := by decide) (hdb : (nm == ("__debug__" : Str)) = false := by decide)
    (hs : starEach [x, .Tuple [ty1, ty2] k pos'] X.env = (false, eval x X.env) :: starEach [.Tuple [ty1, ty2] k pos'] X.env := by rfl) (hs2 : starEach [.Tuple [ty1, ty2] k pos'] X.env = (false, eval (.Tuple [ty1, ty2] k pos') X.env) :: starEach [] X.env := by rfl) (hpl : (backTo pos (starEach [.Tuple [ty1, ty2] k pos'] X.env)).any (·.1) = false := by rfl)
    (ht : starEach [ty1, ty2] X.env = (false, eval ty1 X.env) :: starEach [ty2] X.env := by rfl) (ht2 : starEach [ty2] X.env = (false, eval ty2 X.env) :: starEach [] X.env := by rfl) :
    PE X (.Call (.Name nm p) [x, .Tuple [ty1, ty2] k pos'] [] pos) (tV (rc X T) C W (.pr (.inst2 t u) [a])) :=
  pe_imp (pe_callB (cr_isiT (R := rc X T) rfl) hg hm hv (pa_cons ha (pa_cons (pe_tup (pa_cons hc (pa_cons hc2 pa_nil ht2) ht)) pa_nil hs2) hs) hn hdb hs hpl) fun σ H Q q => tV_mono (tVs1 (tV_pr (ok_inst2 hT hU) q)) fun u H1 ⟨w, e, q⟩ => by
    cases e
    exact ⟨by rw [sizeLine_eq]; exact (by decide : 2 ≤ 16777216), fun tp htp => q tp htp⟩
/-! ### bit_length -/
theorem pe_bitV {ap : Pos} (ho : PE X x (tV (rc X T) C W a)) (hbase : attributeBase x "bit_length" X.env (eval x X.env) = eval x X.env := by rfl) (hline : (ap.endLine == pos.line) = true := by rfl) : PE X (.Call (.Attribute x "bit_length" ap) [] [] pos) (tV (rc X T) C W (.pr .bitlen [a])) :=
  pe_imp (pe_bits ho hbase hline) fun σ H Q q => tV_mono (tVs1 (tV_pr ok_bitlen q)) fun u H1 ⟨i, e, q⟩ => by
    cases e
    exact ⟨i, rfl, q⟩
/-! ### slices, places -/
theorem tV_kn {R : Rc} {σ : L2.St} {H : Hp} {Q : VK} (h : tV R C W (.k .non) σ H Q) : Q .non H := tV_k (d := .non) (v := .non) (fun _ _ => ⟨rfl, rfl⟩) h
theorem pe_ixV (h : PE X x (tV (rc X T) C W a)) (h2 : PE X y (tV (rc X T) C W b)) (hs : PlainIx y := by intro _ _; rfl) : PE X (.Subscript x y pos) (tV (rc X T) C W (.pr .ix [a, b])) :=
  pe_imp (pe_ix ix_seq h h2 hs) fun σ H Q q => tV_mono (tVs2 (tV_pr ok_ix q)) fun u H1 q => tV_mono q fun v H2 q => r2i q
theorem pe_pkV {i : Nat} (h : PE X x (tVar i)) (h2 : PE X y (tV (rc X T) C W b)) (hs : PlainIx y := by intro _ _; rfl) : PE X (.Subscript x y pos) (tV (rc X T) C W (.pk i [b])) :=
  pe_imp (pe_ix ix_seq h h2 hs) fun σ H Q q => tV_pk q
theorem tV_part {l : Bool} {σ : L2.St} {H : Hp} {Q : V → Hp → Prop} {QO : Option Int → Hp → Prop} (h : tV (rc X T) C W a σ H Q) (k : ∀ v H', Q v H' → ∃ o, bndV true v = some o ∧ QO o H') : tPart (tV (rc X T) C W a) σ H QO :=
  tV_mono h fun v H' q => by
    obtain ⟨o, e, q⟩ := k v H' q
    cases v with
    | int i => cases e; exact ⟨i, rfl, q⟩
    | _ => cases e
theorem pe_sl00 (h : PE X x (tV (rc X T) C W a)) : PE X (.Subscript x (.Slice none none none pos2) pos) (tV (rc X T) C W (.pr (.sl false false) [a, .k .non, .k .non])) :=
  pe_imp (pe_slice sl_all h po_none po_none) fun σ H Q q => tV_mono (tVs3 (tV_pr (ok_sl false false) q)) fun u H1 q => by
    obtain ⟨_, _, _, lo, hi, e, e1, e2, q⟩ := tV_kn (tV_kn q)
    cases e; cases e1; cases e2
    exact q
theorem pe_sl01 (h : PE X x (tV (rc X T) C W a)) (h2 : PE X y (tV (rc X T) C W b)) : PE X (.Subscript x (.Slice none (some y) none pos2) pos) (tV (rc X T) C W (.pr (.sl false true) [a, .k .non, b])) :=
  pe_imp (pe_slice sl_all h po_none (po_some h2)) fun σ H Q q => tV_mono (tVs3 (tV_pr (ok_sl false true) q)) fun u H1 q => by
    show tPart (tV (rc X T) C W b) σ H1 (fun hi H2 => rSlAll X.K u none hi H2 Q)
    refine tV_part (l := true) (tV_kn q) fun v H' q => ?_
    obtain ⟨_, _, _, lo, hi, e, e1, e2, q⟩ := q
    cases e; cases e1
    exact ⟨hi, e2, q⟩
theorem pe_sl10 (h : PE X x (tV (rc X T) C W a)) (h2 : PE X y (tV (rc X T) C W b)) : PE X (.Subscript x (.Slice (some y) none none pos2) pos) (tV (rc X T) C W (.pr (.sl true false) [a, b, .k .non])) :=
  pe_imp (pe_slice sl_all h (po_some h2) po_none) fun σ H Q q => tV_mono (tVs3 (tV_pr (ok_sl true false) q)) fun u H1 q => by
    refine tV_part (l := true) q fun v H' q => ?_
    obtain ⟨_, _, _, lo, hi, e, e1, e2, q⟩ := tV_kn q
    cases e; cases e2
    exact ⟨lo, e1, q⟩
end
end PL
set_option Elab.async false
set_option linter.all false
set_option maxRecDepth 100000
/-! PL, part 19: comprehensions by form; several things stored at once; what a law's top says. -/
namespace PL
open PySem PySem.Spec L2
open PyProof.Rows hiding St

section
variable {X : Cx} {T : Tags} {C : Ctx} {W : WX} {σ0 : L2.St} {elt tg iter : Expr} {ifs : List Expr} {scope : Scope} {own : List (Str × Nat)} {pos spos py : Pos} {tt : Tg} {kd : Kd} {es : List E} {cond e : E} {is : List Nat}
theorem pts_imp {X : Cx} {ifs : List Expr} {t t' : TT} (h : PTs X ifs t) (i : ∀ σ H Q, t' σ H Q → t σ H Q) : PTs X ifs t' := ⟨fun pins s σ H Q I q => h.run pins s σ H Q I (i σ H Q q)⟩
theorem pts_0 {X : Cx} {R : Rc} : PTs X [] (tT R C W (.k (.bl true))) := pts_imp pts_nil fun _ _ _ q => tT_true q
theorem pe_lcV (ow : List (Str × Nat)) (hc : X.calm = true) (hN : X.N.Nodup) (hi : PI X tg iter (tI (rc X T) C W kd es)) (ok : BlkOk X.N X.env.scope scope ow) (hsub : ∀ j ∈ tgSlots tt, j ∈ is) (ho : ow.map (·.2) = is)
    (hg : ∀ (s : Shared) (H : Hp) (c : Addr) (cl : List (Str × Addr)) (fp : List Addr), PG (X.blk s H scope (compEnvC scope cl c X.env) fp) tg (tB (rc X T) tt))
    (ht : ∀ (s : Shared) (H : Hp) (c : Addr) (cl : List (Str × Addr)) (fp : List Addr), PTs (X.blk s H scope (compEnvC scope cl c X.env) fp) ifs (tT (rc X T) C WF cond))
    (he : ∀ (s : Shared) (H : Hp) (c : Addr) (cl : List (Str × Addr)) (fp : List Addr), PE (X.blk s H scope (compEnvC scope cl c X.env) fp) elt (tV (rc X T) C WF e)) (hs : ∀ x, foldedSetIterable iter X.env x = pure x := by intro _; rfl) :
    PE X (.ListComp elt [⟨tg, iter, ifs, 0⟩] scope pos) (tV (rc X T) C W (.lc e tt kd es cond is)) := by
  subst ho
  exact pe_imp (pe_lc hc hN hi ok hg ht he hs) fun σ H Q q => tV_lc hsub q
/-- name = [..] on one line -/
theorem ps_lcV (ow : List (Str × Nat)) {e' : E} {i : Nat} {y : Str} (lift : ∀ σ H Q, tV (rc X T) C W e' σ H Q → tV (rc X T) C W (.lc e tt kd es cond is) σ H Q) (hc : X.calm = true) (hN : X.N.Nodup) (hy : X.N[i]? = some y) (hyl : X.env.scope.names.lookup y = some .local)
    (hsw : swapsWith (.ListComp elt [⟨tg, iter, ifs, 0⟩] scope pos) (some (.Name y py)) spos.line X.env = pure true) (hi : PI X tg iter (tI (rc X T) C W kd es)) (ok : BlkOk X.N X.env.scope scope ow) (hsub : ∀ j ∈ tgSlots tt, j ∈ is) (ho : ow.map (·.2) = is)
    (hg : ∀ (s : Shared) (H : Hp) (c : Addr) (cl : List (Str × Addr)) (fp : List Addr), PG (X.blk s H scope (compEnvC scope cl c X.env) fp) tg (tB (rc X T) tt))
    (ht : ∀ (s : Shared) (H : Hp) (c : Addr) (cl : List (Str × Addr)) (fp : List Addr), PTs (X.blk s H scope (compEnvC scope cl c X.env) fp) ifs (tT (rc X T) C WF cond))
    (he : ∀ (s : Shared) (H : Hp) (c : Addr) (cl : List (Str × Addr)) (fp : List Addr), PE (X.blk s H scope (compEnvC scope cl c X.env) fp) elt (tV (rc X T) C WF e)) (hs : ∀ x, foldedSetIterable iter X.env x = pure x := by intro _; rfl) :
    PS X (.Assign [.Name y py] (.ListComp elt [⟨tg, iter, ifs, 0⟩] scope pos) spos) (tS (rc X T) C W σ0 (.asg (.v i) e')) := by
  subst ho
  refine ps_imp (ps_setLc hc hN hy hyl hsw hi ok hg ht he hs) fun D σ H q => ?_
  have q := tS_asg q
  exact tV_lc hsub (lift _ _ _ (tV_mono q fun v H1 q => tG_v q))
theorem ps_par2V {i j : Nat} {x y : Str} {a b : Expr} {ea eb : E} {px p2 pt pos : Pos} {kt k2 pt2} (hc : X.calm = true) (hN : X.N.Nodup) (hi : X.N[i]? = some x) (hj : X.N[j]? = some y) (hij : i ≠ j)
    (hx : X.env.scope.names.lookup x = some .local) (hy : X.env.scope.names.lookup y = some .local) (ha : PA X [a, b] (tVs (rc X T) C W [ea, eb]))
    (hw : swappedStores [.Tuple [.Name x px, .Name y p2] kt pt] (.Tuple [a, b] k2 pt2) X.env = pure (some [x, y]))
    (hs : swapsWithSole [.Tuple [.Name x px, .Name y p2] kt pt] (.Tuple [a, b] k2 pt2) pos.line X.env = pure false := by rfl) :
    PS X (.Assign [.Tuple [.Name x px, .Name y p2] kt pt] (.Tuple [a, b] k2 pt2) pos) (tS (rc X T) C W σ0 (.par [i, j] [ea, eb])) := ps_imp (ps_par hc hN hi hj hij hx hy ha hw hs) fun _ _ _ q => tS_par2 q
end

theorem pt_of {X : Cx} {e : Expr} {t : TT} (h : PW X e t) : PT X e t := h.pt
/-- a constant of the top -/
theorem pe_gF {X : Cx} {T : Tags} {C : Ctx} {W : WX} {n : Nat} {nm : Str} {d : Dt} {pos : Pos} (h : ∃ v u, X.mg nm = some u ∧ RelV v u ∧ (∀ P w S H, Rep ⟨X.K, P, w, T.τ, T.fa, T.cl⟩ S H d v z0) ∧ ∀ a, v = .ref a → ∃ o, X.K.lookup a = some o ∧ o.cls = .type "tuple" ∧ o.dict = none) (hd : C.const n = some d) (hg : Gl X nm) (hb : (nm == ("__debug__" : Str)) = false := by decide) :
    PE X (.Name nm pos) (tV (rc X T) C W (.g n)) := by
  obtain ⟨v, u, hm, r, rp, _⟩ := h
  exact pe_gV (pe_glob hg hm r hb) hd fun S H => rp X.prog X.w S H
/-! ### a law's top -/
structure DefI where
  name : Str
  st : Stmt
  N : List Str
  ps : List Str
structure Facts (K : PySem.W.Frag) (mg : Str → Option Value) (ds : List DefI) (free : List Str) (cns : List (Str × Dt)) (T : Tags) (fd : Nat → FuncData) : Prop where
  fn : ∀ (i : Nat) (d : DefI), ds[i]? = some d → FunD K d.name d.name (defArgs d.st) (defBody d.st) (defScope d.st) [] [] (T.fa i) (fd i)
  glo : ∀ (i : Nat) (d : DefI), ds[i]? = some d → mg d.name = some (.ref (T.fa i))
  fre : ∀ (i : Nat) (x : Str), free[i]? = some x → mg x = none
  bnd : ∀ (i : Nat) (d : DefI), ds[i]? = some d → Binds K (fd i) d.ps []
  con : ∀ (i : Nat) (nm : Str) (d : Dt), cns[i]? = some (nm, d) → ∃ v u, mg nm = some u ∧ RelV v u ∧ (∀ P w S H, Rep ⟨K, P, w, T.τ, T.fa, T.cl⟩ S H d v z0) ∧ ∀ a, v = .ref a → ∃ o, K.lookup a = some o ∧ o.cls = .type "tuple" ∧ o.dict = none
/-- every def at depth k keeps its promise -/
def AllOk (P : Program) (w : World) (K : PySem.W.Frag) (mg : Str → Option Value) (base : Heap) (ds : List DefI) (T : Tags) (fd : Nat → FuncData) (G : Prog) (L k : Nat) : Prop :=
  ∀ (i : Nat) (d : DefI), ds[i]? = some d → FnG P w K mg base k (T.fa i) (fd i) d.ps (spF ⟨K, P, w, T.τ, T.fa, T.cl⟩ G L k i)
/-- the body of the i-th def, told by the interpreter's form -/
def BodyOk (P : Program) (w : World) (K : PySem.W.Frag) (mg : Str → Option Value) (base : Heap) (d : DefI) (T : Tags) (G : Prog) (L k i : Nat) (Fn : Fn) : Prop :=
  ∀ (cdv : Value) (A : Around) (outer : List PySem.Env) (s : Shared) (H : Hp) (E : XK) (σ0 : L2.St), RoomG k (A.deeper (envOfC d.name (defScope d.st) s.heap.objs.size (T.fa i) cdv)) →
    PSs (cxOf (L2.CX P w) P w K mg base d.N d.name (defScope d.st) (T.fa i) cdv A outer s H E) (defBody d.st) (tSs ⟨K, P, w, T.τ, T.fa, T.cl⟩ ⟨G.par, G.const, callF G L k, L, fun i => Fn.io.getD i false⟩ (fun cls d _ H => E cls d H) σ0 Fn.body)
end PL
set_option Elab.async false
set_option linter.all false
set_option maxRecDepth 100000
/-! PL, part 20: a += b; freezing of a slot; zip of two texts. -/
namespace PL
open PySem PySem.Spec L2
open PyProof.Rows hiding St

/-- a primitive does what a rule says, where its first value is an int or a text -/
def POkS (R : Rc) (p : P) (r : R2) : Prop := ∀ (par : Nat → Option Nat) (S H : Hp) (x y : Dt) (u v : V) (cr : Cn) (d : Dt) (Q : VK), isScal x = true →
  (∀ a o, S a = some o → H a = some o) → Rep R S H x u z0 → Rep R S H y v cr → prim par p [x, y] = some d →
  (∀ H' v cr', New H H' → Rep R S H' d v cr' → Le H cr' cr → Q v H') → r u v H Q
theorem POk.s {R : Rc} {p : P} {r : R2} (ok : POk R p (r2 r)) : POkS R p r := fun par S H x y u v cr d Q _ hS hx hy hp k =>
  r2i (ok par S H [x, y] [u, v] cr d Q hS ⟨z0, cr, hx, ⟨cr, z0, hy, rfl, rfl⟩, (z_pl cr).symm⟩ hp k)
def rAugAdd : R2 := fun x y H Q => rI0 (fun i j => .int (i + j)) x y H Q ∨ ∃ i j, x = .str i ∧ y = .str j ∧ i.length + j.length ≤ sizeLine ∧ Q (.str (i ++ j)) H
section
variable {X : Cx} {R : Rc} {C : Ctx} {W : WX} {σ0 σ : L2.St} {D : Ends} {e : E} {H : Hp}
theorem oi_add : OpR X (inplaceOp .Add) rAugAdd := iop_add.or iop_add_str
theorem os_add : POkS R .add rAugAdd := by
  intro par S H x y u v cr d Q hs hS hx hy hp k
  change p_add [x, y] = some d at hp
  unfold p_add at hp
  split at hp
  · rename_i i j e
    cases e
    obtain ⟨rfl, _⟩ := hx
    obtain ⟨rfl, rfl⟩ := hy
    obtain rfl := Option.some.inj hp
    exact .inl ⟨_, _, rfl, rfl, scal k ⟨rfl, rfl⟩⟩
  · rename_i s t e
    cases e
    obtain ⟨rfl, _⟩ := hx
    obtain ⟨rfl, rfl⟩ := hy
    split at hp
    · rename_i hf
      obtain rfl := Option.some.inj hp
      refine .inr ⟨_, _, rfl, rfl, by rw [lenS, lenS]; exact fits_le hf, scal k ⟨?_, rfl⟩⟩
      congr 1
      exact TL.ext_tl (by rw [TL.tl_append]; rfl)
    · cases hp
  · rename_i e
    cases e
    cases hs
  · rename_i e
    cases e
    cases hs
  · cases hp
theorem tS_aug {i : Nat} {p : P} {r : R2} (ok : POkS R p r) (h : tS R C W σ0 (.aug p i e) D σ H) : tAug i (tV R C W e) r D σ H := by
  obtain ⟨S, env, c, f, G, pm, h⟩ := h
  simp only [ex] at h
  cases eo : get env i with
  | none => rw [eo] at h; exact h.elim
  | some x =>
    rw [eo] at h
    simp only at h
    split at h
    · rename_i hc
      rw [Bool.and_eq_true] at hc
      obtain ⟨u, c1, c2, eu, r1, ec, _⟩ := G.env.at_ eo
      have hx0 : c1 = z0 := r1.pu x (by cases x <;> first | rfl | cases hc.1)
      subst hx0
      refine ⟨u, eu, S, env, c, f, G, AfterS.bindV pm h fun y env1 S1 H1 k1 v cr E1 G1 ry h => ?_⟩
      cases ep : prim C.par p [x, y] with
      | none => rw [ep] at h; exact h.elim
      | some z =>
        rw [ep] at h
        have h : AfterS R C W σ0 D S1 H1 f (.ok .next (env1.set i (some z))) := h
        refine ok C.par S1 H1 x y u v cr z _ hc.1 G1.sub (r1.frame0 E1) ry ep fun H2 w cr' hn rz hl => ?_
        have G2 := G1.after hn hl (rz.mu z)
        have hi : i < env1.length := by
          rw [G1.env.length]
          exact (List.getElem?_eq_some_iff.mp eu).1
        obtain ⟨c3, G3⟩ := G2.put rz hi
        exact h S1 H2 _ c3 (.more hn fun _ _ h => h) (pm.set (by simpa using hc.2)) G3
    · exact h.elim
end
section
variable {X : Cx} {T : Tags} {C : Ctx} {W : WX} {σ0 : L2.St} {x : Expr} {e : E} {pos pos' : Pos} {nm : Str}
theorem ps_augV {i : Nat} {op : Operator} {p : P} {r : R2} (ho : OpR X (inplaceOp op) r) (ok : POkS (rc X T) p r) (hN : X.N.Nodup) (hi : X.N[i]? = some nm) (hx : Loc X.env.scope nm) (he : PE X x (tV (rc X T) C W e)) (hf : X.fn nm = true ∨ X.env.scope.names.lookup nm = some .local := by first | exact .inl rfl | exact .inr rfl | assumption) :
    PS X (.AugAssign (.Name nm pos') op x pos) (tS (rc X T) C W σ0 (.aug p i e)) := ps_imp (ps_aug hN hi hx he ho hf) fun _ _ _ q => tS_aug ok q
end
/-! ### a slot's own thing is made common -/
section
variable {R : Rc} {C : Ctx} {W : WX} {σ0 σ : L2.St} {D : Ends} {S H : Hp} {env : Env} {c f : Cn} {r : List Stm}
theorem set_at {i : Nat} {v : V} (h : σ[i]? = some (some v)) : σ.set i (some v) = σ := by
  refine List.ext_getElem? (fun j => ?_)
  by_cases z : j = i
  · subst z
    rw [List.getElem?_set_self (List.getElem?_eq_some_iff.mp h).1, h]
  · rw [List.getElem?_set_ne (Ne.symm z)]
theorem Good.frz (G : Good R S H σ env c f) (i : Nat) : ∃ S2 c2, (∀ a o, S a = some o → S2 a = some o) ∧ Good R S2 H σ (fzAt [i] env) c2 f := by
  have e : fzAt [i] env = env.set i ((get env i).map fz) := rfl
  rw [e]
  cases eo : get env i with
  | none =>
    obtain ⟨c2, h, le⟩ := G.env.drop i
    exact ⟨S, c2, fun _ _ h => h, G.less h le⟩
  | some d =>
    obtain ⟨v, c1, c2, ev, r1, rfl, _, rest⟩ := G.env.at_ eo
    have G1 : Good R S H σ (env.set i none) c2 (pl c1 f) := G.split rest (fun a => by rw [pl_at]; omega) (r1.mu d)
    obtain ⟨G2, s2⟩ := G1.give
    have rf : Rep R (PL.give c1 S H) H (fz d) v z0 := r1.fz s2 d fun a o n ea => by
      unfold PL.give
      rw [if_neg n]; exact ea
    obtain ⟨c3, G3⟩ := Good.put (cr := z0) (by rw [z_pl]; exact G2) rf (by rw [List.length_set]; exact get_len eo)
    rw [List.set_set, set_at ev] at G3
    exact ⟨_, c3, s2, G3⟩
theorem tSs_frz {i : Nat} (h : tSs R C W σ0 (.frz i :: r) D σ H) : tSs R C W σ0 r D σ H := by
  obtain ⟨S, env, c, f, G, p, h⟩ := h
  obtain ⟨S2, c2, s2, G2⟩ := G.frz i
  exact ⟨S2, _, c2, f, G2, p, AfterS.on (.more (fun _ _ h => h) s2) (show AfterS R C W σ0 D S H f (exs C r (fzAt [i] env)) from h)⟩
end
theorem pss_frzV {X : Cx} {T : Tags} {C : Ctx} {W : WX} {σ0 : L2.St} {sts : List Stmt} {ss : List Stm} {i : Nat} (h : PSs X sts (tSs (rc X T) C W σ0 ss)) : PSs X sts (tSs (rc X T) C W σ0 (.frz i :: ss)) := pss_imp h fun _ _ _ q => tSs_frz q
end PL
set_option Elab.async false
set_option linter.all false
set_option maxRecDepth 100000
/-! PL, part 21: join, list, index. -/
namespace PL
open PySem PySem.Spec L2
open PyProof.Rows hiding St

section
variable {X : Cx} {R : Rc} {S H : Hp}
/-! ### join -/
theorem strs_of : ∀ {xs : List Dt} {vs : List V} {c : Cn} {sep r : List Nat}, RepL R S H xs vs c → joinS sep xs = some r → ∃ ys : List (List Nat), vs = (ys.map mkS).map V.str ∧ TL.joinL sep ys = r ∧ sumLen xs = (ys.map List.length).sum ∧ xs.length = ys.length
  | [], vs, c, sep, r, h, e => by
    obtain ⟨rfl, _⟩ := rl0 h
    cases e
    exact ⟨[], rfl, rfl, rfl, rfl⟩
  | [.str s], vs, c, sep, r, h, e => by
    obtain ⟨x, rfl, rfl, _⟩ := rl1 h
    cases e
    exact ⟨[s], rfl, rfl, rfl, rfl⟩
  | .str s :: y :: xs, [], c, sep, r, h, e => h.elim
  | .str s :: y :: xs, v :: vs, c, sep, r, h, e => by
    obtain ⟨_, c2, ⟨rfl, _⟩, h2, _⟩ := h
    have e : (joinS sep (y :: xs)).map (fun t => s ++ sep ++ t) = some r := by
      cases y <;> exact e
    obtain ⟨t, e1, rfl⟩ := Option.map_eq_some_iff.mp e
    obtain ⟨ys, rfl, h3, h4, h5⟩ := strs_of h2 e1
    refine ⟨s :: ys, rfl, ?_, ?_, ?_⟩
    · cases ys with
      | nil => cases h5
      | cons z ys =>
        show s ++ (sep ++ TL.joinL sep (z :: ys)) = s ++ sep ++ t
        rw [h3, List.append_assoc]
    · show s.length + sumLen (y :: xs) = _
      rw [h4, List.map_cons, List.sum_cons]
    · exact congrArg (· + 1) h5
  | .non :: _, _, _, _, _, _, e => by cases e
  | .bl _ :: _, _, _, _, _, _, e => by cases e
  | .int _ :: _, _, _, _, _, _, e => by cases e
  | .lst _ _ :: _, _, _, _, _, _, e => by cases e
  | .tup _ :: _, _, _, _, _, _, e => by cases e
  | .dct _ _ :: _, _, _, _, _, _, e => by cases e
  | .fn _ :: _, _, _, _, _, _, e => by cases e
  | .exn _ _ :: _, _, _, _, _, _, e => by cases e
def rJoin (K : PySem.W.Frag) : V → List V → Hp → VK → Prop := fun x xs H Q => ∃ a p, ∃ ys : List Str, x = .str a ∧ xs = [.ref p] ∧ (SqL K H p (ys.map V.str) ∨ SqT K H p (ys.map V.str)) ∧
  (ys.map (·.length)).sum + ys.length * a.length ≤ 16777216 ∧ Q (.str (Txt.join a ys)) H
theorem ok_join : POk R .join (fun vs H Q => ∃ x y, vs = [x, y] ∧ rJoin R.K x [y] H Q) := by
  intro par S H ds vs cr d Q hS hr hp k
  change p_join ds = some d at hp
  unfold p_join at hp
  split at hp
  · split at hp
    · rename_i sep o xs hf
      obtain ⟨r, e, rfl⟩ := Option.map_eq_some_iff.mp hp
      obtain ⟨u, v, c1, c2, rfl, ⟨rfl, rfl⟩, h2, rfl⟩ := rl2 hr
      obtain ⟨a, ws, c', rfl, sq, _, l, _⟩ := h2.lst hS
      obtain ⟨ys, rfl, h3, h4, h5⟩ := strs_of l e
      have hm : (ys.map mkS).map (·.length) = ys.map List.length := by
        rw [List.map_map]
        exact List.map_congr_left fun s _ => lenS s
      refine ⟨_, _, rfl, _, a, ys.map mkS, rfl, rfl, .inl sq, ?_, scal k ⟨?_, rfl⟩⟩
      · have := Nat.le_of_ble_eq_true hf
        rw [hm, List.length_map, lenS]
        rw [h4, h5] at this
        exact this
      · congr 1
        rw [TL.join_eq]
        refine TL.ext_tl ?_
        rw [TL.tl_join, List.map_map]
        have hid : ys.map (TL.tl ∘ mkS) = ys := by
          conv => rhs; rw [← List.map_id ys]
          exact List.map_congr_left fun s _ => rfl
        rw [hid]
        exact h3
    · cases hp
  · cases hp
/-! ### list -/
def rListS : RC := fun xs H Q => ∃ z : Str, xs = [.str z] ∧ z.cps.size ≤ sizeLine ∧ ∀ l, H l = none → Q (.ref l) (upd H l (.lst (z.cps.toList.map fun c => .str ⟨#[c]⟩)))
theorem vals_signs {z : Str} {acc : Array Value} (h : ItemsOf (SignAt z) acc z.cps.size) : Vals (z.cps.toList.map fun c => V.str ⟨#[c]⟩) acc.toList := by
  have gen : ∀ (cs : List Nat) (us : List Value), us.length = cs.length → (∀ (j : Nat) v, us[j]? = some v → ∃ c u, cs[j]? = some c ∧ v = .str ⟨#[c]⟩ u) → Vals (cs.map fun c => V.str ⟨#[c]⟩) us := by
    intro cs
    induction cs with
    | nil =>
      intro us hl _
      cases us with
      | nil => exact .nil
      | cons _ _ => cases hl
    | cons c cs ih =>
      intro us hl hv
      cases us with
      | nil => cases hl
      | cons u us =>
        obtain ⟨c', t, e1, e2⟩ := hv 0 u rfl
        cases e1
        exact .cons ⟨t, e2⟩ (ih us (Nat.succ.inj hl) fun j v e => hv (j + 1) v e)
  refine gen _ _ (by rw [Array.length_toList, Array.length_toList]; exact h.1) fun j v e => ?_
  obtain ⟨c, u, e1, e2⟩ := h.2 j v (by rw [← Array.getElem?_toList]; exact e)
  exact ⟨c, u, by rw [Array.getElem?_toList]; exact e1, e2⟩
theorem cr_listS (hc : X.calm = true) : CallR X (.type "list") rListS := by
  intro pins s σ H xs us Q I rs q
  obtain ⟨z, rfl, hz, q⟩ := q
  obtain ⟨u, rfl, t, rfl⟩ := vals1 rs
  refine call_list_str (I.ok.hd hc) z t (fun h' tk acc c' kp e it => ?_) hz
  exact ⟨.ref s.heap.objs.size, _, I.laid (t' := tk) kp (Nat.le_refl _) (show ObjOk X.prog X.w _ h' _ (.lst _) from ⟨by rw [List.length_map, Array.length_toList]; exact hz, acc.toList, c', vals_signs it, e⟩), rfl, q _ (I.hok.fresh (Nat.le_refl _))⟩
theorem cr_list (hc : X.calm = true) : CallR X (.type "list") (fun xs H Q => rListA X.K xs H Q ∨ rListS xs H Q) := cr_or call_list_of (cr_listS hc)
theorem rep_signs : ∀ (z : List Nat), RepL R S H (signs z) (z.map fun c => .str ⟨#[c]⟩) z0
  | [] => rfl
  | c :: z => ⟨z0, z0, ⟨rfl, rfl⟩, rep_signs z, rfl⟩
theorem ok_list : POk R .list (fun xs H Q => rListA R.K xs H Q ∨ rListS xs H Q) := by
  intro par S H ds vs cr d Q hS hr hp k
  change p_list ds = some d at hp
  unfold p_list at hp
  split at hp
  · obtain ⟨x, rfl, h1⟩ := rl1 hr
    obtain rfl := Option.some.inj hp
    obtain ⟨a, ws, c', rfl, sq, _, l, le, hn⟩ := h1.lst hS
    exact .inl ⟨a, ws, rfl, .inl sq, fun p hp => k _ _ (pl (one p) c') (.upd hp) (mk_lst l hp) (.new hp le hn)⟩
  · obtain ⟨x, rfl, h1⟩ := rl1 hr
    obtain rfl := Option.some.inj hp
    have hn := h1.noC
    obtain ⟨a, ws, rfl, sq, l⟩ := h1
    exact .inl ⟨a, ws, rfl, .inr sq, fun p hp => k _ _ (pl (one p) cr) (.upd hp) (mk_lst l hp) (.new hp (fun _ => Nat.le_refl _) hn)⟩
  · split at hp
    · rename_i s hf
      obtain ⟨x, rfl, ⟨rfl, rfl⟩⟩ := rl1 hr
      obtain rfl := Option.some.inj hp
      refine .inr ⟨_, rfl, ?_, fun p hp => k _ _ (pl (one p) z0) (.upd hp) (mk_lst (rep_signs s) hp) (.new hp (fun _ => Nat.le_refl _) fun _ _ => rfl)⟩
      show s.toArray.size ≤ _
      rw [List.size_toArray]
      exact fits_le hf
    · cases hp
  · cases hp
/-! ### list(range(n)) -/
theorem rep_range : ∀ {n : Nat} {lo : Int}, RepL R S H (rangeL lo n) ((List.range n).map fun i => .int (lo + (i : Nat))) z0
  | 0, _ => rfl
  | n + 1, lo => by
    rw [List.range_succ_eq_map, List.map_cons, List.map_map]
    refine ⟨z0, z0, ⟨?_, rfl⟩, ?_, rfl⟩
    · rw [show lo + ((0 : Nat) : Int) = lo by omega]
    · have e : ((fun i : Nat => V.int (lo + (i : Nat))) ∘ Nat.succ) = fun i : Nat => V.int (lo + 1 + (i : Nat)) := by
        funext i
        show V.int (lo + ((i + 1 : Nat) : Int)) = _
        congr 1
        omega
      rw [e]
      exact rep_range
theorem ok_listR : POk R .listR (fun vs H Q => ∃ n : Int, vs = [.int n] ∧ RgOk 0 n ∧ ∀ q, H q = none → Q (.ref q) (upd H q (.lst (rgV 0 n)))) := by
  intro par S H ds vs cr d Q hS hr hp k
  change p_listR ds = some d at hp
  unfold p_listR at hp
  split at hp
  · rename_i n
    split at hp
    · rename_i hf
      rw [Bool.and_eq_true] at hf
      obtain ⟨x, rfl, ⟨rfl, rfl⟩⟩ := rl1 hr
      obtain rfl := Option.some.inj hp
      obtain ⟨h1, h2⟩ := small62_of hf.1
      have h3 := Nat.le_of_ble_eq_true hf.2
      refine ⟨n, rfl, ⟨by omega, by omega, h1, h2, by rw [Int.sub_zero]; exact h3⟩, fun p hp => k _ _ (pl (one p) z0) (.upd hp) (mk_lst ?_ hp) (.new hp (fun _ => Nat.le_refl _) fun _ _ => rfl)⟩
      have e : rgV 0 n = (List.range n.toNat).map fun i => V.int (0 + (i : Nat)) := by
        unfold rgV
        rw [Int.sub_zero]
      rw [e]
      exact rep_range
    · cases hp
  · cases hp
/-! ### the place of a text in a tuple -/
theorem idx_of : ∀ {xs : List Dt} {vs : List V} {c : Cn} {z : List Nat} {n : Nat}, RepL R S H xs vs c → allStr xs = true → idxS z xs = some n → ∃ ys : List Str, vs = ys.map V.str ∧ ys[n]? = some (mkS z) ∧ ∀ m, m < n → ys[m]? ≠ some (mkS z)
  | .str s :: xs, [], _, _, _, h, _, _ => h.elim
  | .str s :: xs, v :: vs, c, z, n, h, ha, e => by
    obtain ⟨_, c2, ⟨rfl, _⟩, h2, _⟩ := h
    unfold idxS at e
    have tails : ∃ ys : List Str, vs = ys.map V.str := strs_all h2 ha
    split at e
    · rename_i es
      subst es
      cases e
      obtain ⟨ys, rfl⟩ := tails
      exact ⟨mkS s :: ys, rfl, rfl, fun m hm => absurd hm (Nat.not_lt_zero _)⟩
    · rename_i ne
      obtain ⟨m, e1, rfl⟩ := Option.map_eq_some_iff.mp e
      obtain ⟨ys, rfl, h3, h4⟩ := idx_of h2 ha e1
      refine ⟨mkS s :: ys, rfl, h3, fun j hj => ?_⟩
      cases j with
      | zero =>
        intro q
        have q : some (mkS s) = some (mkS z) := q
        have q2 := congrArg TL.tl (Option.some.inj q)
        exact ne q2
      | succ j => exact h4 j (by omega)
  | [], _, _, _, _, _, _, e => by cases e
  | .non :: _, _, _, _, _, _, ha, _ => by cases ha
  | .bl _ :: _, _, _, _, _, _, ha, _ => by cases ha
  | .int _ :: _, _, _, _, _, _, ha, _ => by cases ha
  | .lst _ _ :: _, _, _, _, _, _, ha, _ => by cases ha
  | .tup _ :: _, _, _, _, _, _, ha, _ => by cases ha
  | .dct _ _ :: _, _, _, _, _, _, ha, _ => by cases ha
  | .fn _ :: _, _, _, _, _, _, ha, _ => by cases ha
  | .exn _ _ :: _, _, _, _, _, _, ha, _ => by cases ha
where
  strs_all : ∀ {xs : List Dt} {vs : List V} {c : Cn}, RepL R S H xs vs c → allStr xs = true → ∃ ys : List Str, vs = ys.map V.str
  | [], vs, _, h, _ => by
    obtain ⟨rfl, _⟩ := rl0 h
    exact ⟨[], rfl⟩
  | .str s :: xs, [], _, h, _ => h.elim
  | .str s :: xs, v :: vs, _, h, ha => by
    obtain ⟨_, c2, ⟨rfl, _⟩, h2, _⟩ := h
    obtain ⟨ys, rfl⟩ := strs_all h2 ha
    exact ⟨mkS s :: ys, rfl⟩
  | .non :: _, _, _, _, ha => by cases ha
  | .bl _ :: _, _, _, _, ha => by cases ha
  | .int _ :: _, _, _, _, ha => by cases ha
  | .lst _ _ :: _, _, _, _, ha => by cases ha
  | .tup _ :: _, _, _, _, ha => by cases ha
  | .dct _ _ :: _, _, _, _, ha => by cases ha
  | .fn _ :: _, _, _, _, ha => by cases ha
  | .exn _ _ :: _, _, _, _, ha => by cases ha
theorem ok_index : POk R .index (fun vs H Q => ∃ x y, vs = [x, y] ∧ ∃ p, ∃ ys : List Str, ∃ z j, x = .ref p ∧ [y] = [.str z] ∧ SqT R.K H p (ys.map V.str) ∧ ys[j]? = some z ∧ (∀ m, m < j → ys[m]? ≠ some z) ∧ Q (.int (j : Nat)) H) := by
  intro par S H ds vs cr d Q hS hr hp k
  change p_index ds = some d at hp
  unfold p_index at hp
  split at hp
  · split at hp
    · rename_i xs z ha
      obtain ⟨n, e, rfl⟩ := Option.map_eq_some_iff.mp hp
      obtain ⟨u, v, c1, c2, rfl, h1, ⟨rfl, rfl⟩, rfl⟩ := rl2 hr
      obtain ⟨a, ws, rfl, sq, l⟩ := h1
      obtain ⟨ys, rfl, h3, h4⟩ := idx_of l ha e
      exact ⟨_, _, rfl, a, ys, mkS z, n, rfl, rfl, sq, h3, h4, scal k ⟨rfl, rfl⟩⟩
    · cases hp
  · cases hp
end
section
variable {X : Cx} {T : Tags} {C : Ctx} {W : WX} {x y : Expr} {a b : E} {pos p p2 : Pos} {nm nm2 : Str}
/-- sep.join(..), sep a text that is written -/
theorem pe_joinV {s : List Nat} {ap : Pos} (slot : Slot "str" nm "str.join") (ty : typeOf (.builtin "str.join") = pure (.type "method_descriptor")) (ho : PE X x (tC (.str (mkS s)))) (he : PE X y (tV (rc X T) C W b))
    (hs : starEach [y] X.env = [(false, eval y X.env)] := by rfl) (hbase : attributeBase x nm X.env (eval x X.env) = eval x X.env := by rfl) (hline : (ap.endLine == pos.line) = true := by rfl) :
    PE X (.Call (.Attribute x nm ap) [y] [] pos) (tV (rc X T) C W (.pr .join [.k (.str s), b])) :=
  pe_imp (pe_m1 slot ty mt_join ho he hs hbase hline) fun σ H Q q => by
    have q := tV_k (d := .str s) (v := .str (mkS s)) (fun _ _ => ⟨rfl, rfl⟩) (tVs2 (tV_pr ok_join q))
    refine ⟨⟨_, rfl⟩, tV_mono q fun v H1 ⟨_, _, e, q⟩ => ?_⟩
    cases e
    exact q
/-- list(range(n)) -/
theorem pe_listRV {p3 : Pos} (hc : X.calm = true) (hg : Gl X "list") (hm : X.mg "list" = none) (hg2 : Gl X "range") (hm2 : X.mg "range" = none) (ha : PE X x (tV (rc X T) C W a))
    (na : starEach [.Call (.Name "range" p2) [x] [] p] X.env = (false, eval (.Call (.Name "range" p2) [x] [] p) X.env) :: starEach [] X.env := by rfl) (na2 : starEach [x] X.env = (false, eval x X.env) :: starEach [] X.env := by rfl) :
    PE X (.Call (.Name "list" p3) [.Call (.Name "range" p2) [x] [] p] [] pos) (tV (rc X T) C W (.pr .listR [a])) :=
  pe_imp (pe_listRg hc hg hm (prg_1 hg2 hm2 ha na2) na) fun σ H Q q => tV_mono (tVs1 (tV_pr ok_listR q)) fun v H1 ⟨n, e, h1, h2⟩ => by
    cases e
    exact ⟨n, rfl, h1, h2⟩
/-- NAME.index(z), NAME a constant: a tuple of texts -/
theorem pe_indexV {n : Nat} {d : Dt} {ap : Pos} (pa : PlainAttrs "tuple") (slot : Slot "tuple" nm "tuple.index") (hty : typeOf (.builtin "tuple.index") = pure (.type "method_descriptor"))
    (h : ∃ v u, X.mg nm2 = some u ∧ RelV v u ∧ (∀ P w S H, Rep ⟨X.K, P, w, T.τ, T.fa, T.cl⟩ S H d v z0) ∧ ∀ a, v = .ref a → ∃ o, X.K.lookup a = some o ∧ o.cls = .type "tuple" ∧ o.dict = none) (hd : C.const n = some d) (ht : ∃ xs, d = .tup xs) (hg : Gl X nm2) (he : PE X y (tV (rc X T) C W b))
    (hb : (nm2 == ("__debug__" : Str)) = false := by decide) (hbase : attributeBase (.Name nm2 p) nm X.env (eval (.Name nm2 p) X.env) = eval (.Name nm2 p) X.env := by rfl)
    (hfew : ((backTo pos (starEach (y :: []) X.env)).all (fun x => !x.1) && (backToKw pos (keywordEach [] X.env)).all (fun x => x.1.isSome)
      && decide ((y :: []).length + ([] : List Keyword).length + (if ([] : List Keyword).isEmpty then 0 else 1) < 30)) = true := by rfl)
    (hline : (ap.endLine == pos.line) = true := by rfl) (hs : starEach (y :: []) X.env = (false, eval y X.env) :: starEach [] X.env := by rfl) (hplain : (backTo pos (starEach [] X.env)).any (·.1) = false := by rfl) :
    PE X (.Call (.Attribute (.Name nm2 p) nm ap) [y] [] pos) (tV (rc X T) C W (.pr .index [.g n, b])) := by
  obtain ⟨v, u, hm, r, rp, hk⟩ := h
  obtain ⟨xs, rfl⟩ := ht
  refine pe_imp (pe_bm pa slot hty mt_tup_index (pe_glob hg hm r hb) (pa_cons he pa_nil hs) hbase hfew hline hs hplain) fun σ H Q q => ?_
  have q := tV_g hd (fun S H => rp X.prog X.w S H) (tVs2 (tV_pr ok_index q))
  obtain ⟨a, vs, e, _⟩ := rp X.prog X.w (fun _ => none) (fun _ => none)
  refine ⟨?_, tV_mono q fun z H1 ⟨_, _, e2, q⟩ => ?_⟩
  · obtain ⟨o, h1, h2, h3⟩ := hk a e
    subst e
    exact .inr (.inl ⟨rfl, o, h1, h2, h3⟩)
  · cases e2
    exact q
end
end PL
set_option Elab.async false
set_option linter.all false
set_option maxRecDepth 100000
/-! PL, part 22: calls with keywords. -/
namespace PL
open PySem PySem.Spec L2
open PyProof.Rows hiding St

/-- values in the parameters' order -/
def permL {α : Type} (perm : List Nat) (l : List α) : List α := perm.filterMap fun i => l[i]?
theorem permute_eq {perm : List Nat} {ds xs : List Dt} (hp : perm ≠ []) (h : permute perm ds = some xs) : xs = permL perm ds := by
  unfold permute at h
  rw [if_neg hp] at h
  clear hp
  induction perm generalizing xs with
  | nil =>
    cases h
    rfl
  | cons i perm ih =>
    rw [List.mapM_cons] at h
    obtain ⟨d, e1, h⟩ := Option.bind_eq_some_iff.mp h
    obtain ⟨r, e2, h⟩ := Option.bind_eq_some_iff.mp h
    cases h
    have e1 : ds[i]? = some d := e1
    have e3 : permL (i :: perm) ds = d :: permL perm ds := List.filterMap_cons_some e1
    rw [e3, ← ih e2]
section
variable {R : Rc} {C : Ctx} {W : WX} {σ : L2.St} {S H : Hp} {Q : VK} {as bs : List E}
theorem RepL.perm {ds : List Dt} {vs : List V} (h : RepL R S H ds vs z0) : ∀ perm : List Nat, RepL R S H (permL perm ds) (permL perm vs) z0
  | [] => rfl
  | i :: perm => by
    cases e : ds[i]? with
    | none =>
      have e2 : vs[i]? = none := by
        rw [List.getElem?_eq_none_iff] at e ⊢
        rw [← h.length]; exact e
      have e3 : permL (i :: perm) ds = permL perm ds := List.filterMap_cons_none e
      have e4 : permL (i :: perm) vs = permL perm vs := List.filterMap_cons_none e2
      rw [e3, e4]
      exact RepL.perm h perm
    | some d =>
      obtain ⟨v, e2, r⟩ := RepL.get h e
      have e3 : permL (i :: perm) ds = d :: permL perm ds := List.filterMap_cons_some e
      have e4 : permL (i :: perm) vs = v :: permL perm vs := List.filterMap_cons_some e2
      rw [e3, e4]
      exact ⟨z0, z0, r, RepL.perm h perm, rfl⟩
theorem vals_perm {vs : List V} {us : List Value} (h : Vals vs us) : ∀ perm : List Nat, Vals (permL perm vs) (permL perm us)
  | [] => .nil
  | i :: perm => by
    cases e : vs[i]? with
    | none =>
      have e2 := h.none_of e
      have e3 : permL (i :: perm) vs = permL perm vs := List.filterMap_cons_none e
      have e4 : permL (i :: perm) us = permL perm us := List.filterMap_cons_none e2
      rw [e3, e4]
      exact vals_perm h perm
    | some v =>
      obtain ⟨u, e2, r⟩ := h.get e
      have e3 : permL (i :: perm) vs = v :: permL perm vs := List.filterMap_cons_some e
      have e4 : permL (i :: perm) us = u :: permL perm us := List.filterMap_cons_some e2
      rw [e3, e4]
      exact .cons r (vals_perm h perm)
theorem evs_app : ∀ {as : List E} {env : Env}, evs C (as ++ bs) env = (evs C as env).bind fun ds env => (evs C bs env).bind fun es env => .ok (ds ++ es) env
  | [], env => by
    show evs C bs env = (O.ok [] env).bind _
    show evs C bs env = (evs C bs env).bind fun es env => .ok ([] ++ es) env
    cases evs C bs env <;> rfl
  | a :: as, env => by
    show (ev C a env).bind _ = ((ev C a env).bind _).bind _
    cases ev C a env with
    | st => rfl
    | exc k dv e => rfl
    | ok d env1 =>
      show (evs C (as ++ bs) env1).bind _ = ((evs C as env1).bind _).bind _
      rw [evs_app]
      cases evs C as env1 with
      | st => rfl
      | exc k dv e => rfl
      | ok ds env2 =>
        show ((evs C bs env2).bind _).bind _ = (evs C bs env2).bind _
        cases evs C bs env2 <;> rfl
theorem tVs_len {Q : List V → Hp → Prop} (h : tVs R C W as σ H Q) : tVs R C W as σ H fun vs H1 => vs.length = as.length ∧ Q vs H1 := by
  obtain ⟨S, env, c, f, G, h⟩ := h
  refine ⟨S, env, c, f, G, ?_⟩
  cases x : evs C as env with
  | st => rw [x] at h; exact h
  | exc k dv env' => rw [x] at h; exact h
  | ok ds env1 =>
    rw [x] at h
    exact fun S1 H1 c1 vs cr E1 G1 r1 => ⟨by rw [← r1.length, evs_len x], h S1 H1 c1 vs cr E1 G1 r1⟩
theorem tVs_app : ∀ {as : List E} {H : Hp} {Q : List V → Hp → Prop}, tVs R C W (as ++ bs) σ H Q → tVs R C W as σ H fun vs H1 => tVs R C W bs σ H1 fun zs H2 => Q (vs ++ zs) H2
  | [], H, Q, h => by
    obtain ⟨S, env, c, f, G, h⟩ := h
    refine ⟨S, env, c, f, G, ?_⟩
    intro S1 H1 c1 vs cr E1 G1 r1
    obtain ⟨rfl, rfl⟩ := rl0 r1
    rw [z_pl] at G1
    refine ⟨S1, env, c1, f, G1, ?_⟩
    cases x : evs C bs env with
    | st => rw [show evs C ([] ++ bs) env = evs C bs env from rfl, x] at h; exact h
    | exc k dv env' => rw [show evs C ([] ++ bs) env = evs C bs env from rfl, x] at h; exact fun S' H' c' dd E' => h S' H' c' dd (E1.trans0 E')
    | ok ds env' => rw [show evs C ([] ++ bs) env = evs C bs env from rfl, x] at h; exact fun S' H' c' vs cr E' => h S' H' c' vs cr (E1.trans0 E')
  | a :: as, H, Q, h => by
    obtain ⟨S, env, c, f, G, h⟩ := h
    refine ⟨S, env, c, f, G, ?_⟩
    have h : AfterL R W Q S H σ f ((ev C a env).bind fun d env => (evs C (as ++ bs) env).bind fun ds env => .ok (d :: ds) env) := h
    show AfterL R W _ S H σ f ((ev C a env).bind fun d env => (evs C as env).bind fun ds env => .ok (d :: ds) env)
    cases x : ev C a env with
    | st => rw [x] at h; exact h
    | exc k dv env' => rw [x] at h; exact h
    | ok d env1 =>
      rw [x] at h
      have h : AfterL R W Q S H σ f ((evs C (as ++ bs) env1).bind fun ds env => .ok (d :: ds) env) := h
      show AfterL R W _ S H σ f ((evs C as env1).bind fun ds env => .ok (d :: ds) env)
      cases y : evs C as env1 with
      | st =>
        rw [evs_app, y] at h
        exact h
      | exc k dv env' =>
        rw [evs_app, y] at h
        exact h
      | ok ds env2 =>
        rw [evs_app, y] at h
        have h : AfterL R W Q S H σ f (((evs C bs env2).bind fun es env => .ok (ds ++ es) env).bind fun ds env => .ok (d :: ds) env) := h
        intro S1 H1 c1 vs cr E1 G1 r1
        refine ⟨S1, env2, c1, pl cr f, G1, ?_⟩
        cases z : evs C bs env2 with
        | st => rw [z] at h; exact h
        | exc k dv env' =>
          rw [z] at h
          exact fun S' H' c' dd E' G' t => h S' H' c' dd (E1.trans E') (G'.lessF fun a => by rw [pl_at]; omega) t
        | ok es env3 =>
          rw [z] at h
          intro S2 H2 c2 zs cr2 E2 G2 r2
          refine h S2 H2 c2 (vs ++ zs) (pl cr cr2) (E1.trans E2) (by rw [pl_assoc, pl_left]; exact G2) ((r1.frame E2 fun a n => left_ne n).append r2)
/-- a call whose values are put in the parameters' order -/
theorem tV_callK {G : Prog} {L k g : Nat} {perm : List Nat} (hC : C.call = callF G L k) (hp : perm ≠ []) (h : tV R C W (.call g as [] perm) σ H Q) : tVs R C W as σ H fun vs H1 => spF R G L k g (permL perm vs) H1 Q (WE W σ) := by
  obtain ⟨S, env, c, f, Gd, h⟩ := h
  refine ⟨S, env, c, f, Gd, ?_⟩
  simp only [ev] at h
  refine AfterL.bindV h fun ds env1 S1 H1 c1 vs cr hx E1 G1 r1 h => ?_
  have h := AfterV.on E1 h fun _ _ (q : Q _ _) => q
  obtain ⟨G2, s2⟩ := G1.give
  have r2 : RepL R (PL.give cr S1 H1) H1 (fzs ds) vs z0 := r1.fz s2 ds fun a o n ea => by
    unfold PL.give
    rw [if_neg n]; exact ea
  have E2 : Ext S1 H1 f (PL.give cr S1 H1) H1 := .more (fun _ _ h => h) s2
  have h := AfterV.on E2 h fun _ _ (q : Q _ _) => q
  have ef : fzArgs [] ds = fzs ds := by cases ds <;> rfl
  rw [ef] at h
  cases ep : permute perm (fzs ds) with
  | none => rw [ep] at h; exact h.elim
  | some xs =>
    rw [ep] at h
    simp only [hC, if_neg hp, if_true] at h
    obtain rfl := permute_eq hp ep
    refine ⟨PL.give cr S1 H1, permL perm (fzs ds), z0, pl c1 f, r2.perm perm, G2.sub, fun a => ?_, fun a n => ?_, ?_⟩
    · have := G2.dis a
      simp only [pl_at]
      show _ + 0 + _ ≤ 1
      omega
    · by_cases z : f a = 0
      · rw [pl_at, z] at n
        exact G2.env.mu a (by omega)
      · exact G2.fr a z
    cases er : callF G L k g (permL perm (fzs ds)) with
    | st => rw [er] at h; exact h.elim
    | exc e dv =>
      rw [er] at h
      intro S' H' dd E' sub dis t
      refine h S' H' c1 dd (E'.lessF fun a n => right_ne n) ?_ t
      have G3 := Good.back (cr := z0) (co := z0) (q := z0) (by rw [z_pl]; exact G2) E' sub (fun a => by have := dis a; show occ S' a + (0 + 0) + _ ≤ 1; omega) (fun a n => absurd rfl n)
      rw [z_pl] at G3; exact G3
    | ok d outs =>
      rw [er] at h
      intro S' H' v cr' co E' sub dis rv ro
      exact h S' H' c1 v cr' (E'.lessF fun a n => right_ne n) (Good.back (cr := cr') (co := co) (q := z0) (by rw [z_pl]; exact G2) E' sub dis (rv.mu d)) rv
end
section
variable {X : Cx} {T : Tags} {C : Ctx} {W : WX} {x : Str} {e : Expr} {kws : List Keyword} {a : E} {as : List E} {p pos kpos : Pos} {G : Prog} {L k g lv n : Nat} {fd : FuncData} {ps ks : List Str} {perm : List Nat} {nm : Option Str}
theorem pk_nilV : PK X [] (tVs (rc X T) C W []) := ⟨fun pos pins s σ H Q I h => pk_nil.run pos pins s σ H Q I (tVs_nil h)⟩
theorem pk_consV (h : PE X e (tV (rc X T) C W a)) (h2 : PK X kws (tVs (rc X T) C W as)) : PK X (⟨nm, e, kpos⟩ :: kws) (tVs (rc X T) C W (a :: as)) := ⟨fun pos pins s σ H Q I q => (pk_cons h h2).run pos pins s σ H Q I (tVs_cons q)⟩
/-- how such a call binds: the values by name, in the parameters' order -/
theorem kbn_of {K : PySem.W.Frag} {xn qual : Str} {params : Arguments} {body : List Stmt} {scope : Scope} {f : Addr} (F : FunD K xn qual params body scope [] [] f fd) (n : Nat) (ks : List Str) (perm : List Nat)
    (h : ∀ (kV doc pm : Value) (an : Option Addr) (cdv ct : Value) (us ws : List Value), us.length = n → ws.length = ks.length → bindArgs (PySem.W.fnOf xn qual params body scope .none kV doc pm an cdv ct) ⟨us, ks.zip ws⟩ = pure (ps.zip (permL perm (us ++ ws)))) :
    KBn K fd ps n ks (fun us ws => permL perm (us ++ ws)) (fun vs zs => permL perm (vs ++ zs)) := by
  obtain ⟨oc, od, dV, kV, doc, pm, an, cdv, ct, osl, rfl, lk, hcd, hD, hK⟩ := F.ex
  rcases hD with ⟨_, rfl⟩ | ⟨z, _⟩
  · exact ⟨fun s us ws _ l1 l2 => .of_eq (h kV doc pm an cdv ct us ws l1 l2), fun r1 r2 => vals_perm (r1.append r2) perm⟩
  · exact absurd rfl z
/-- f(k = v, ..): all by name -/
theorem pe_fnK0 (F : FnG X.prog X.w X.K X.mg X.base lv (T.fa g) fd ps (spF (rc X T) G L k g)) (hr : RoomG lv X.A) (hC : C.call = callF G L k) (hg : Gl X x) (hm : X.mg x = some (.ref (T.fa g))) (hk : PySem.W.keepIn X.K (.ref (T.fa g)) = true)
    (hb : KBn X.K fd ps 0 ks (fun us ws => permL perm (us ++ ws)) (fun vs zs => permL perm (vs ++ zs))) (hp : perm ≠ []) (tk : Takes X W) (hkw : PK X kws (tVs (rc X T) C W as)) (hn : as.length = ks.length)
    (hall : (backToKw pos (keywordEach kws X.env)).all (·.1.isSome) = true := by rfl) (hks : (backToKw pos (keywordEach kws X.env)).filterMap (·.1) = ks := by rfl)
    (hdb : (x == ("__debug__" : Str)) = false := by decide) (hpl : ((backTo pos (starEach [] X.env)).any (·.1) || (backToKw pos (keywordEach kws X.env)).any (·.1.isNone)) = false := by rfl) :
    PE X (.Call (.Name x p) [] kws pos) (tV (rc X T) C W (.call g as [] perm)) := by
  refine ⟨fun pins s σ H Q I h => ?_⟩
  have h := tVs_len (tV_callK hC hp h)
  refine wpAny_Call_Name_kw (ld_glob I hg hm ?_ hdb)
  refine PySem.W.callWith_KW0 (h₀ := X.base) I.ok.mod.kin hk hall (thn (hkw.run pos pins s σ H _ I h) fun ws s2 ⟨zs, H2, I2, rz, hlz, q⟩ => ⟨I2.kIn, ?_⟩) hpl
  rw [hks]
  refine wpAny_call (codeAny_mono (F.run X.A X.stack s2 H2 ⟨[], ks.zip ws⟩ (permL perm ([] ++ ws)) (permL perm ([] ++ zs)) Q (WE W σ) hr I2.env0 (hb.to s2 [] ws I2.kIn rfl (by rw [← rz.length, hlz, hn])) (hb.rel .nil rz) q) fun fin s' hq => ?_)
  cases fin with
  | error er => exact passAt tk σ pins H2 s2 er s' I2 hq
  | ok fl =>
    cases fl with
    | ret u => exact I2.after hq
    | next => exact hq.elim
    | brk => exact hq.elim
    | cont => exact hq.elim
end
end PL
set_option Elab.async false
set_option linter.all false
set_option maxRecDepth 100000
/-! PL, part 23: comprehensions of two clauses. -/
namespace PL
open PySem PySem.Spec L2
open PyProof.Rows hiding St

section
variable {R : Rc} {C : Ctx} {W : WX} {σ σ' : L2.St} {S S1 S2 S' H H1 H2 H' : Hp} {env env1 e1 e2 ez : Env} {c c1 f g cr q cy ca : Cn} {Q : VK} {es es2 : List E}
/-- the turns of one clause: the new list at D stands in the frame -/
theorem lc_turns {elt cond : E} {tg : Tg} {own : List Nat} {J : It} {xs ys acc : List Dt} {vs : List V} {D : Addr} {Fin : Hp → Prop} (hsub : ∀ j ∈ tgSlots tg, j ∈ own) (w : WalkI R S1 H1 J xs) (G1 : Good R S1 H1 σ e1 c1 (pl (pl (one D) ca) f))
    (ra0 : RepL R S1 H1 acc vs ca) (hD : H1 D = some (.lst vs)) (el : lcLoop own tg (ev C cond) (fun e => (ev C elt e).bind fun d e => .ok [d] e) xs e1 = .ok ys ez) (hz : (acc ++ ys).length ≤ sizeLine)
    (fin : ∀ S' H' c' vs' ca', Ext S1 H1 f S' H' → Good R S' H' (L2.wipe σ own) (PL.wipe own ez) c' (pl (pl (one D) ca') f) → ez.length = e1.length → RepL R S' H' (acc ++ ys) vs' ca' → H' D = some (.lst vs') → Fin H') :
    ∃ W1 : Nat → Nat → Hp → Prop, (∃ m, W1 0 m H1) ∧ ∀ j k H, W1 j k H →
      (J.stop j H ∧ Fin H) ∨ (J.go j H ∧ ∃ Nx1 : Hp → Prop, (∀ H', Nx1 H' → ∃ k', k' < k ∧ W1 (j + 1) k' H') ∧ ∀ x H', J.yld j H x H' → tB R tg x (L2.wipe σ own) H' fun σ3 H5 => L2.wipe σ3 own = L2.wipe σ own ∧ tT R C WF cond σ3 H5 fun b H6 =>
        if b = true then tV R C WF elt σ3 H6 fun y H7 => ∃ acc, H7 D = some (.lst acc) ∧ acc.length < sizeLine ∧ Nx1 (upd H7 D (.lst (acc ++ [y]))) else Nx1 H6) := by
  let N : Nat → Hp → Prop := fun i H' => ∃ S' en c' acc' vs' ca' zs, Ext S1 H1 f S' H' ∧ Good R S' H' (L2.wipe σ own) (PL.wipe own en) c' (pl (pl (one D) ca') f) ∧ en.length = e1.length ∧ RepL R S' H' acc' vs' ca' ∧ H' D = some (.lst vs') ∧
    lcLoop own tg (ev C cond) (fun e => (ev C elt e).bind fun d e => .ok [d] e) (xs.drop i) en = .ok zs ez ∧ acc' ++ zs = acc ++ ys
  obtain ⟨k0, Gw⟩ := Good.wiped (own := own) G1 rfl
  refine ⟨fun i m H' => m = xs.length - i ∧ i ≤ xs.length ∧ N i H', ⟨_, rfl, Nat.zero_le _, S1, e1, k0, acc, vs, ca, ys, .refl, Gw, rfl, ra0, hD, el, rfl⟩, ?_⟩
  rintro i m H' ⟨rfl, hi, S', en, c', acc', vs', ca', zs, E', G', hlen, ra, hD', hloop, hsum⟩
  obtain ⟨stop, go⟩ := w S' H' (E'.lessF fun a n => absurd rfl n) G'.sub
  by_cases hlt : i < xs.length
  · obtain ⟨g1, g2⟩ := go i hlt
    refine .inr ⟨g1, N (i + 1), fun H2 n => ⟨xs.length - (i + 1), by omega, rfl, hlt, n⟩, fun v H'' y => ?_⟩
    obtain ⟨d, ed, nn, r⟩ := g2 v H'' y
    have e2 : ∀ g, Ext S' H' g S' H'' := fun g => .more nn fun _ _ h => h
    have G2 : Good R S' H'' (L2.wipe σ own) (PL.wipe own en) c' (pl (pl (one D) ca') f) := by
      have := Good.after (cr := z0) (cr' := z0) (by rw [z_pl]; exact G') nn .z fun a n => absurd rfl n
      rw [z_pl] at this; exact this
    have edr : xs.drop i = d :: xs.drop (i + 1) := by
      rw [List.drop_eq_getElem_cons hlt]
      congr 1
      rw [List.getElem?_eq_getElem hlt] at ed
      exact Option.some.inj ed
    rw [edr] at hloop
    unfold lcLoop at hloop
    cases eb : bind tg d (PL.wipe own en) with
    | none => rw [eb] at hloop; cases hloop
    | some env2 =>
      rw [eb] at hloop
      simp only at hloop
      refine ⟨S', PL.wipe own en, c', _, d, env2, G2, r, eb, fun σ2 c2 G3 off => ?_⟩
      have hw2 : L2.wipe σ2 own = L2.wipe σ own := (swipe_off off hsub).trans swipe_idem
      refine ⟨hw2, ?_⟩
      have l2 : env2.length = e1.length := by rw [G3.env.length, off.1, wipe_length, ← hlen, ← wipe_len own en, ← wipe_length σ own]; exact G2.env.length.symm ▸ rfl
      refine ⟨S', env2, c2, _, G3, ?_⟩
      cases xc : ev C cond env2 with
      | st => rw [xc] at hloop; cases hloop
      | exc k dv env' => rw [xc] at hloop; cases hloop
      | ok dc e3 =>
        rw [xc] at hloop
        intro S3 H3 c3 vb crb E3 G4 rb
        cases dc with
        | bl k =>
          obtain ⟨rfl, rfl⟩ := rb
          rw [z_pl] at G4
          refine ⟨k, rfl, ?_⟩
          have E03 : Ext S1 H1 f S3 H3 := (E'.trans0 (e2 _)).trans E3
          have hD3 : H3 D = some (.lst vs') := E3.keep D _ (nn D _ hD') (by simp only [pl_at, one_at, if_pos]; omega)
          have ra3 : RepL R S3 H3 acc' vs' ca' := (ra.frame (e2 (pl (pl (one D) ca') f)) fun a n => by simp only [pl_at]; omega).frame E3 fun a n => by simp only [pl_at]; omega
          cases k with
          | false =>
            simp only at hloop
            obtain ⟨c4, G5⟩ := Good.wiped (own := own) G4 hw2
            show N (i + 1) H3
            exact ⟨S3, e3, c4, acc', vs', ca', zs, E03, G5, by rw [G4.env.length, ← G3.env.length, l2], ra3, hD3, hloop, hsum⟩
          | true =>
            simp only at hloop
            show tV R C WF elt σ2 H3 _
            refine ⟨S3, e3, c3, _, G4, ?_⟩
            cases xe : ev C elt e3 with
            | st => rw [xe] at hloop; cases hloop
            | exc k dv env' => rw [xe] at hloop; cases hloop
            | ok dy e4 =>
              rw [xe] at hloop
              intro S4 H4 c4 y cy E4 G5 ry
              have hloop : (match lcLoop own tg (ev C cond) (fun e => (ev C elt e).bind fun d e => .ok [d] e) (xs.drop (i + 1)) e4 with
                | .ok ys e4 => O.ok ([dy] ++ ys) e4
                | _ => .st) = .ok zs ez := hloop
              cases xl : lcLoop own tg (ev C cond) (fun e => (ev C elt e).bind fun d e => .ok [d] e) (xs.drop (i + 1)) e4 with
              | st => rw [xl] at hloop; cases hloop
              | exc k dv env' => rw [xl] at hloop; cases hloop
              | ok zs' ez' =>
                rw [xl] at hloop
                cases hloop
                have hD4 : H4 D = some (.lst vs') := E4.keep D _ hD3 (by simp only [pl_at, one_at, if_pos]; omega)
                have ra4 : RepL R S4 H4 acc' vs' ca' := ra3.frame E4 fun a n => by simp only [pl_at]; omega
                refine ⟨vs', hD4, ?_, ?_⟩
                · rw [← ra.length]
                  rw [← hsum] at hz
                  simp only [List.length_append, List.length_cons] at hz
                  omega
                · obtain ⟨c5, G6⟩ := Good.wiped (own := own) G5 hw2
                  obtain ⟨G7, ra5, E5⟩ := Good.app G6 hD4 ra4 ry
                  exact ⟨S4, e4, c5, acc' ++ [dy], vs' ++ [y], pl ca' cy, zs', (E03.trans E4).trans0 E5, G7, by rw [G5.env.length, ← G3.env.length, l2], ra5, upd_same, xl, by rw [← hsum]; simp⟩
        | _ => cases hloop
  · have e : i = xs.length := by omega
    subst e
    rw [List.drop_length] at hloop
    have hloop : O.ok [] en = O.ok zs ez := hloop
    cases hloop
    rw [List.append_nil] at hsum
    subst hsum
    exact .inl ⟨stop, fin S' H' c' vs' ca' E' G' hlen ra hD'⟩
theorem wipe_wipe {is js : List Nat} (h : ∀ j ∈ js, j ∈ is) : L2.wipe (L2.wipe σ js) is = L2.wipe σ is := by
  refine List.ext_getElem? (fun j => ?_)
  by_cases z : j ∈ is
  · rw [swipe_in z, swipe_in z, wipe_length]
  · rw [wipe_out z, wipe_out z, wipe_out fun y => z (h j y)]
theorem wipe_wipeE {is js : List Nat} {e : Env} (h : ∀ j ∈ js, j ∈ is) : PL.wipe is (PL.wipe js e) = PL.wipe is e := by
  refine env_ext (by rw [wipe_len, wipe_len, wipe_len]) fun j => ?_
  rw [wipe_get, wipe_get, wipe_get]
  by_cases z : j ∈ is
  · rw [if_pos z, if_pos z]
  · rw [if_neg z, if_neg z, if_neg fun y => z (h j y)]
theorem tV_lc2 {elt cond cond2 : E} {tg tg2 : Tg} {kd kd2 : Kd} {own own2 : List Nat} (hsub : ∀ j ∈ tgSlots tg, j ∈ own) (hsub2 : ∀ j ∈ tgSlots tg2, j ∈ own2) (hin : ∀ j ∈ own2, j ∈ own) (h : tV R C W (.lc2 elt tg kd es cond tg2 kd2 es2 cond2 own own2) σ H Q) :
    tLc2 (tI R C W kd es) (tB R tg) (tT R C WF cond) (tI R C WF kd2 es2) (tB R tg2) (tT R C WF cond2) (tV R C WF elt) own own2 σ H Q := by
  obtain ⟨S, env, c, f, G, h⟩ := h
  simp only [ev] at h
  refine ⟨S, env, c, f, G, ?_⟩
  cases x : evs C es env with
  | st => rw [x] at h; exact h.elim
  | exc k dv env' => rw [x] at h; exact h
  | ok ds e1 =>
    rw [x] at h
    let inn : Env → O (List Dt) := fun e => (evs C es2 e).bind fun ds2 e2 => match items kd2 (fzs ds2) with
      | none => .st
      | some ys => lcLoop own2 tg2 (ev C cond2) (fun e => (ev C elt e).bind fun d e => .ok [d] e) ys e2
    have h : AfterV R W Q S H σ f (match items kd (fzs ds) with
      | none => .st
      | some xs => (match lcLoop own tg (ev C cond) inn xs e1 with
        | .ok ys e2 => if fits ys.length then .ok (.lst .own ys) (back own e1 e2) else .st
        | _ => .st)) := h
    cases ei : items kd (fzs ds) with
    | none => rw [ei] at h; exact h.elim
    | some xs =>
      rw [ei] at h
      refine ⟨xs, ei, fun S1 H1 c1 J E1 G1 w D hD => ?_⟩
      have h := AfterV.on E1 h fun _ _ (q : Q _ _) => q
      simp only at h
      cases el : lcLoop own tg (ev C cond) inn xs e1 with
      | st => rw [el] at h; exact h.elim
      | exc k dv env' => rw [el] at h; exact h.elim
      | ok ys0 ez =>
        rw [el] at h
        simp only at h
        split at h
        · rename_i hfit
          have hfit := fits_of hfit
          obtain ⟨ck, cw, hck, hsum, _, hback⟩ := RepE.split (own := own) G1.env
          have hn : New H1 (upd H1 D (.lst [])) := .upd hD
          have Ga : Good R S1 H1 (L2.wipe σ own) (PL.wipe own e1) ck (pl z0 (pl cw f)) := by
            rw [z_pl]
            refine ⟨hck, G1.sub, fun a => ?_, fun a n => ?_⟩
            · have := G1.dis a
              have := hsum a
              simp only [pl_at] at *
              omega
            · by_cases z : f a = 0
              · simp only [pl_at] at n
                exact G1.env.mu a (by have := hsum a; omega)
              · exact G1.fr a z
          have Gb : Good R S1 (upd H1 D (.lst [])) (L2.wipe σ own) (PL.wipe own e1) ck (pl (pl (one D) z0) (pl cw f)) := by
            refine Good.after Ga hn (cr' := pl (one D) z0) ?_ fun a n => ?_
            · refine ⟨fun a o e => ?_, fun a e => ?_⟩
              · simp only [pl_at, one_at]
                rw [if_neg (ne_of_none e hD)]; exact Nat.le_refl _
              · simp only [pl_at, one_at]
                show (if a = D then 1 else 0) + 0 ≤ 1
                split <;> omega
            · by_cases z : a = D
              · subst z; exact ⟨_, upd_same, trivial⟩
              · simp only [pl_at, one_at] at n
                rw [if_neg z] at n
                exact absurd rfl n
          let N : Nat → Hp → Prop := fun i H' => ∃ S' en c' acc vs ca ys, Ext S1 (upd H1 D (.lst [])) (pl cw f) S' H' ∧ Good R S' H' (L2.wipe σ own) (PL.wipe own en) c' (pl (pl (one D) ca) (pl cw f)) ∧ RepL R S' H' acc vs ca ∧ H' D = some (.lst vs) ∧ en.length = e1.length ∧
            lcLoop own tg (ev C cond) inn (xs.drop i) en = .ok ys ez ∧ acc ++ ys = ys0
          refine ⟨fun i m H' => m = xs.length - i ∧ i ≤ xs.length ∧ N i H', ⟨_, rfl, Nat.zero_le _, S1, e1, ck, [], [], z0, ys0, .refl, Gb, rfl, upd_same, rfl, el, rfl⟩, ?_⟩
          rintro i m H' ⟨rfl, hi, S', en, c', acc, vs, ca, ys, E', G', ra, hD', hlen, hloop, hys⟩
          have E0 : Ext S1 H1 (pl cw f) S' H' := Ext.trans0 (.more hn fun _ _ h => h) E'
          obtain ⟨stop, go⟩ := w S' H' (E0.lessF fun a n => absurd rfl n) G'.sub
          by_cases hlt : i < xs.length
          · obtain ⟨g1, g2⟩ := go i hlt
            refine .inr ⟨g1, N (i + 1), fun H2 n => ⟨xs.length - (i + 1), by omega, rfl, hlt, n⟩, fun v H'' y => ?_⟩
            obtain ⟨d, ed, nn, r⟩ := g2 v H'' y
            have e2 : ∀ g, Ext S' H' g S' H'' := fun g => .more nn fun _ _ h => h
            have G2 : Good R S' H'' (L2.wipe σ own) (PL.wipe own en) c' (pl (pl (one D) ca) (pl cw f)) := by
              have := Good.after (cr := z0) (cr' := z0) (by rw [z_pl]; exact G') nn .z fun a n => absurd rfl n
              rw [z_pl] at this; exact this
            have edr : xs.drop i = d :: xs.drop (i + 1) := by
              rw [List.drop_eq_getElem_cons hlt]
              congr 1
              rw [List.getElem?_eq_getElem hlt] at ed
              exact Option.some.inj ed
            rw [edr] at hloop
            unfold lcLoop at hloop
            cases eb : bind tg d (PL.wipe own en) with
            | none => rw [eb] at hloop; cases hloop
            | some env2 =>
              rw [eb] at hloop
              simp only at hloop
              refine ⟨S', PL.wipe own en, c', _, d, env2, G2, r, eb, fun σ2 c2 G3 off => ?_⟩
              have hw2 : L2.wipe σ2 own = L2.wipe σ own := (swipe_off off hsub).trans swipe_idem
              refine ⟨hw2, ?_⟩
              have l2 : env2.length = e1.length := by rw [G3.env.length, off.1, wipe_length, ← hlen, ← wipe_len own en, ← wipe_length σ own]; exact G2.env.length.symm ▸ rfl
              refine ⟨S', env2, c2, _, G3, ?_⟩
              cases xc : ev C cond env2 with
              | st => rw [xc] at hloop; cases hloop
              | exc k dv env' => rw [xc] at hloop; cases hloop
              | ok dc e3 =>
                rw [xc] at hloop
                intro S3 H3 c3 vb crb E3 G4 rb
                cases dc with
                | bl k =>
                  obtain ⟨rfl, rfl⟩ := rb
                  rw [z_pl] at G4
                  refine ⟨k, rfl, ?_⟩
                  have E03 : Ext S1 (upd H1 D (.lst [])) (pl cw f) S3 H3 := (E'.trans0 (e2 _)).trans E3
                  have hD3 : H3 D = some (.lst vs) := E3.keep D _ (nn D _ hD') (by simp only [pl_at, one_at, if_pos]; omega)
                  have ra3 : RepL R S3 H3 acc vs ca := (ra.frame (e2 (pl (pl (one D) ca) (pl cw f))) fun a n => by simp only [pl_at]; omega).frame E3 fun a n => by simp only [pl_at]; omega
                  have l3 : e3.length = e1.length := by rw [G4.env.length, ← G3.env.length, l2]
                  cases k with
                  | false =>
                    simp only at hloop
                    obtain ⟨c4, G5⟩ := Good.wiped (own := own) G4 hw2
                    show N (i + 1) H3
                    exact ⟨S3, e3, c4, acc, vs, ca, ys, E03, G5, ra3, hD3, l3, hloop, hys⟩
                  | true =>
                    simp only at hloop
                    show tI R C WF kd2 es2 σ2 H3 _
                    refine ⟨S3, e3, c3, _, G4, ?_⟩
                    cases xe : evs C es2 e3 with
                    | st => rw [show inn e3 = (evs C es2 e3).bind _ from rfl, xe] at hloop; cases hloop
                    | exc k dv env' => rw [show inn e3 = (evs C es2 e3).bind _ from rfl, xe] at hloop; cases hloop
                    | ok ds2 e4 =>
                      rw [show inn e3 = (evs C es2 e3).bind _ from rfl, xe] at hloop
                      have hloop : (match (match items kd2 (fzs ds2) with
                        | none => O.st
                        | some ys => lcLoop own2 tg2 (ev C cond2) (fun e => (ev C elt e).bind fun d e => .ok [d] e) ys e4) with
                        | .ok xs' e3 => (match lcLoop own tg (ev C cond) inn (xs.drop (i + 1)) e3 with
                          | .ok ys e4 => O.ok (xs' ++ ys) e4
                          | _ => .st)
                        | _ => .st) = .ok ys ez := hloop
                      cases ei2 : items kd2 (fzs ds2) with
                      | none => rw [ei2] at hloop; cases hloop
                      | some xs2 =>
                        rw [ei2] at hloop
                        simp only at hloop
                        refine ⟨xs2, ei2, fun S4 H4 c4 J1 E4 G5 w1 => ?_⟩
                        cases xl : lcLoop own2 tg2 (ev C cond2) (fun e => (ev C elt e).bind fun d e => .ok [d] e) xs2 e4 with
                        | st => rw [xl] at hloop; cases hloop
                        | exc k dv env' => rw [xl] at hloop; cases hloop
                        | ok zs e5 =>
                          rw [xl] at hloop
                          simp only at hloop
                          cases xm : lcLoop own tg (ev C cond) inn (xs.drop (i + 1)) e5 with
                          | st => rw [xm] at hloop; cases hloop
                          | exc k dv env' => rw [xm] at hloop; cases hloop
                          | ok ys' e6 =>
                            rw [xm] at hloop
                            cases hloop
                            have hD4 : H4 D = some (.lst vs) := E4.keep D _ hD3 (by simp only [pl_at, one_at, if_pos]; omega)
                            have ra4 : RepL R S4 H4 acc vs ca := ra3.frame E4 fun a n => by simp only [pl_at]; omega
                            refine lc_turns hsub2 w1 G5 ra4 hD4 xl ?_ fun S5 H5 c5 vs' ca' E5 G6 hl6 ra5 hD5 => ?_
                            · rw [← hys] at hfit
                              simp only [List.length_append] at hfit ⊢
                              omega
                            · obtain ⟨c6, G7⟩ := Good.wiped (own := own) (σ := σ) G6 (by
                                rw [← hw2]
                                exact wipe_wipe hin)
                              rw [wipe_wipeE hin] at G7
                              exact ⟨S5, e5, c6, acc ++ zs, vs', ca', ys', (E03.trans E4).trans0 (E5), G7, ra5, hD5, by rw [hl6, G5.env.length, ← G4.env.length, l3], xm, by rw [← hys, List.append_assoc]⟩
                | _ => cases hloop
          · have e : i = xs.length := by omega
            subst e
            rw [List.drop_length] at hloop
            have hloop : O.ok [] en = O.ok ys ez := hloop
            cases hloop
            refine .inl ⟨stop, ?_⟩
            obtain ⟨c3, h3, le3⟩ := hback S' H' _ c' E0.sub E0.imm (fun a o ea n => E0.keep a o ea (by simp only [pl_at]; omega)) hlen G'.env
            rw [List.append_nil] at hys
            subst hys
            refine h S' H' c3 _ (pl (one D) ca) (E0.lessF fun a n => by simp only [pl_at]; omega) ⟨h3, G'.sub, fun a => ?_, fun a n => ?_⟩ ⟨D, vs, ca, rfl, hD', ra, rfl⟩
            · have d1 := G'.dis a
              have d2 := le3 a
              simp only [pl_at] at d1 ⊢
              omega
            · exact G'.fr a (by simp only [pl_at] at n ⊢; omega)
        · exact h.elim
end
section
variable {X : Cx} {T : Tags} {C : Ctx} {W : WX} {elt tg iter tg1 iter1 : Expr} {ifs ifs1 : List Expr} {scope : Scope} {pos : Pos} {tt tt1 : Tg} {kd kd1 : Kd} {es es1 : List E} {cond cond1 e : E} {is is1 : List Nat}
theorem pe_lc2V (ow : List (Str × Nat)) (hc : X.calm = true) (hN : X.N.Nodup) (hi : PI X tg iter (tI (rc X T) C W kd es)) (ok : BlkOk X.N X.env.scope scope ow) (hsub : ∀ j ∈ tgSlots tt, j ∈ is) (hsub1 : ∀ j ∈ tgSlots tt1, j ∈ is1) (hin : ∀ j ∈ is1, j ∈ is) (ho : ow.map (·.2) = is)
    (hg : ∀ (s : Shared) (H : Hp) (c : Addr) (cl : List (Str × Addr)) (fp : List Addr), PG (X.blk s H scope (compEnvC scope cl c X.env) fp) tg (tB (rc X T) tt))
    (ht : ∀ (s : Shared) (H : Hp) (c : Addr) (cl : List (Str × Addr)) (fp : List Addr), PTs (X.blk s H scope (compEnvC scope cl c X.env) fp) ifs (tT (rc X T) C WF cond))
    (hi1 : ∀ (s : Shared) (H : Hp) (c : Addr) (cl : List (Str × Addr)) (fp : List Addr), PI (X.blk s H scope (compEnvC scope cl c X.env) fp) tg1 iter1 (tI (rc X T) C WF kd1 es1))
    (hg1 : ∀ (s : Shared) (H : Hp) (c : Addr) (cl : List (Str × Addr)) (fp : List Addr), PG (X.blk s H scope (compEnvC scope cl c X.env) fp) tg1 (tB (rc X T) tt1))
    (ht1 : ∀ (s : Shared) (H : Hp) (c : Addr) (cl : List (Str × Addr)) (fp : List Addr), PTs (X.blk s H scope (compEnvC scope cl c X.env) fp) ifs1 (tT (rc X T) C WF cond1))
    (he : ∀ (s : Shared) (H : Hp) (c : Addr) (cl : List (Str × Addr)) (fp : List Addr), PE (X.blk s H scope (compEnvC scope cl c X.env) fp) elt (tV (rc X T) C WF e)) (hs : ∀ x, foldedSetIterable iter X.env x = pure x := by intro _; rfl) (hs1 : ∀ env x, foldedSetIterable iter1 env x = pure x := by intro _ _; rfl) :
    PE X (.ListComp elt [⟨tg, iter, ifs, 0⟩, ⟨tg1, iter1, ifs1, 0⟩] scope pos) (tV (rc X T) C W (.lc2 e tt kd es cond tt1 kd1 es1 cond1 is is1)) := by
  subst ho
  exact pe_imp (pe_lc2 hc hN hi ok hin hg ht hi1 hg1 ht1 he hs hs1) fun σ H Q q => tV_lc2 hsub hsub1 hin q
theorem ps_lc2V {i : Nat} {y : Str} {py spos : Pos} {σ0 : L2.St} {e' : E} (ow : List (Str × Nat)) (lift : ∀ σ H Q, tV (rc X T) C W e' σ H Q → tV (rc X T) C W (.lc2 e tt kd es cond tt1 kd1 es1 cond1 is is1) σ H Q) (hc : X.calm = true) (hN : X.N.Nodup) (hy : X.N[i]? = some y) (hyl : X.env.scope.names.lookup y = some .local)
    (hsw : swapsWith (.ListComp elt [⟨tg, iter, ifs, 0⟩, ⟨tg1, iter1, ifs1, 0⟩] scope pos) (some (.Name y py)) spos.line X.env = pure true) (hi : PI X tg iter (tI (rc X T) C W kd es)) (ok : BlkOk X.N X.env.scope scope ow) (hsub : ∀ j ∈ tgSlots tt, j ∈ is) (hsub1 : ∀ j ∈ tgSlots tt1, j ∈ is1) (hin : ∀ j ∈ is1, j ∈ is) (ho : ow.map (·.2) = is)
    (hg : ∀ (s : Shared) (H : Hp) (c : Addr) (cl : List (Str × Addr)) (fp : List Addr), PG (X.blk s H scope (compEnvC scope cl c X.env) fp) tg (tB (rc X T) tt))
    (ht : ∀ (s : Shared) (H : Hp) (c : Addr) (cl : List (Str × Addr)) (fp : List Addr), PTs (X.blk s H scope (compEnvC scope cl c X.env) fp) ifs (tT (rc X T) C WF cond))
    (hi1 : ∀ (s : Shared) (H : Hp) (c : Addr) (cl : List (Str × Addr)) (fp : List Addr), PI (X.blk s H scope (compEnvC scope cl c X.env) fp) tg1 iter1 (tI (rc X T) C WF kd1 es1))
    (hg1 : ∀ (s : Shared) (H : Hp) (c : Addr) (cl : List (Str × Addr)) (fp : List Addr), PG (X.blk s H scope (compEnvC scope cl c X.env) fp) tg1 (tB (rc X T) tt1))
    (ht1 : ∀ (s : Shared) (H : Hp) (c : Addr) (cl : List (Str × Addr)) (fp : List Addr), PTs (X.blk s H scope (compEnvC scope cl c X.env) fp) ifs1 (tT (rc X T) C WF cond1))
    (he : ∀ (s : Shared) (H : Hp) (c : Addr) (cl : List (Str × Addr)) (fp : List Addr), PE (X.blk s H scope (compEnvC scope cl c X.env) fp) elt (tV (rc X T) C WF e)) (hs : ∀ x, foldedSetIterable iter X.env x = pure x := by intro _; rfl) (hs1 : ∀ env x, foldedSetIterable iter1 env x = pure x := by intro _ _; rfl) :
    PS X (.Assign [.Name y py] (.ListComp elt [⟨tg, iter, ifs, 0⟩, ⟨tg1, iter1, ifs1, 0⟩] scope pos) spos) (tS (rc X T) C W σ0 (.asg (.v i) e')) := by
  subst ho
  refine ps_imp (ps_setLc2 hc hN hy hyl hsw hi ok hin hg ht hi1 hg1 ht1 he hs hs1) fun D σ H q => ?_
  have q := tS_asg q
  exact tV_lc2 hsub hsub1 hin (lift _ _ _ (tV_mono q fun v H1 q => tG_v q))
end
end PL
set_option Elab.async false
set_option linter.all false
set_option maxRecDepth 100000
/-! PL, part 24: zip of two texts. -/
namespace PL
open PySem PySem.Spec L2
open PyProof.Rows hiding St

/-- an iterator over the text x, k signs on -/
def SI (h : Heap) (i : Addr) (x : Str) (k : Nat) : Prop := ∃ t, h.IsStrIter i "str_ascii_iterator" x t k ∨ h.IsStrIter i "str_iterator" x t k
theorem SI.up {h h' : Heap} {i b : Addr} {x : Str} {k : Nat} (y : SI h i x k) (e : Heap.ExtBut b h h') (n : i ≠ b) : SI h' i x k := by
  obtain ⟨t, y | y⟩ := y
  · exact ⟨t, .inl (y.extBut e n)⟩
  · exact ⟨t, .inr (y.extBut e n)⟩
section
variable {prog : Program} {w : World} {A : Around} {E : Value → Shared → Prop} {s : Shared}
theorem next_sign {it : Addr} {x : Str} {k c : Nat} {Q : Value → Shared → Prop} (y : SI s.heap it x k) (hx : x.cps[k]? = some c)
    (q : ∀ h' t, SI h' it x (k + 1) → Heap.SameBut it s.heap h' → Q (.str ⟨#[c]⟩ t) { s with heap := h', toks := s.toks + 1 }) : wpAny (model prog w) A (Builtin.SmallTypes.nextOf (.ref it)) Q E s := by
  obtain ⟨t, y | y⟩ := y
  · obtain ⟨o, ho, hc, hd⟩ := id y
    unfold Builtin.SmallTypes.nextOf
    refine wpAny_bind (wpAny_callSpecial?_slot (name := Str.ofString "__next__") y.typeIs F.slot_str_ascii_iterator_next (wpAny_call_entry F.slot_str_ascii_iterator_next y.typeIs F.entry_str_ascii_iterator_next ?_ (F.args_str_ascii_iterator_next_1 _)))
    show wpAny _ _ (field (.ref it) 0 >>= _) _ _ s
    refine wpAny_bind (wpAny_field ho hd (x := .str x t) rfl (show wpAny _ _ (field (.ref it) 1 >>= _) _ _ s from wpAny_bind (wpAny_field ho hd (x := .int k 0) rfl ?_)))
    simp only [Int.toNat_natCast, hx]
    refine wpAny_bind (wpAny_setField ho hd (by simp) (wpAny_bind (wpAny_mkStr (wpAny_pure ⟨_, rfl, wpAny_pure (q _ _ ⟨t, .inl ?_⟩ (Heap.SameBut.update ..))⟩) (by show 1 ≤ sizeLine; decide))))
    exact ⟨_, Heap.get?_update_self _ ho (Obj.isFreed_of_fields (Obj.data_mapFields hd _)), (Obj.cls_mapFields ..).trans hc, by rw [Obj.data_mapFields hd]; simp [rawInt]⟩
  · obtain ⟨o, ho, hc, hd⟩ := id y
    unfold Builtin.SmallTypes.nextOf
    refine wpAny_bind (wpAny_callSpecial?_slot (name := Str.ofString "__next__") y.typeIs F.slot_str_iterator_next (wpAny_call_entry F.slot_str_iterator_next y.typeIs F.entry_str_iterator_next ?_ (F.args_str_iterator_next_1 _)))
    show wpAny _ _ (field (.ref it) 0 >>= _) _ _ s
    refine wpAny_bind (wpAny_field ho hd (x := .str x t) rfl (show wpAny _ _ (field (.ref it) 1 >>= _) _ _ s from wpAny_bind (wpAny_field ho hd (x := .int k 0) rfl ?_)))
    simp only [Int.toNat_natCast, hx]
    refine wpAny_bind (wpAny_setField ho hd (by simp) (wpAny_bind (wpAny_mkStr (wpAny_pure ⟨_, rfl, wpAny_pure (q _ _ ⟨t, .inr ?_⟩ (Heap.SameBut.update ..))⟩) (by show 1 ≤ sizeLine; decide))))
    exact ⟨_, Heap.get?_update_self _ ho (Obj.isFreed_of_fields (Obj.data_mapFields hd _)), (Obj.cls_mapFields ..).trans hc, by rw [Obj.data_mapFields hd]; simp [rawInt]⟩
theorem sign_end {it : Addr} {x : Str} {k : Nat} {Q : Value → Shared → Prop} (hh : A.handled = none) (y : SI s.heap it x k) (hx : x.cps[k]? = none)
    (q : ∀ h' e, Heap.ExtBut it s.heap h' → (∃ o, h'.get? e = some o ∧ o.cls = .type "StopIteration") → E (.ref e) { s with heap := h' }) : wpAny (model prog w) A (Builtin.SmallTypes.nextOf (.ref it)) Q E s := by
  obtain ⟨t, y | y⟩ := y
  · obtain ⟨o, ho, hc, hd⟩ := id y
    unfold Builtin.SmallTypes.nextOf
    refine wpAny_bind (wpAny_callSpecial?_slot (name := Str.ofString "__next__") y.typeIs F.slot_str_ascii_iterator_next (wpAny_call_entry F.slot_str_ascii_iterator_next y.typeIs F.entry_str_ascii_iterator_next ?_ (F.args_str_ascii_iterator_next_1 _)))
    show wpAny _ _ (field (.ref it) 0 >>= _) _ _ s
    refine wpAny_bind (wpAny_field ho hd (x := .str x t) rfl (show wpAny _ _ (field (.ref it) 1 >>= _) _ _ s from wpAny_bind (wpAny_field ho hd (x := .int k 0) rfl ?_)))
    simp only [Int.toNat_natCast, hx]
    refine wpAny_bind (wpAny_rule (wpAny_bind (wpAny_setField ho hd (by simp) (wpAny_bind (wpAny_letGo (show wpAny _ _ (newExc (.type "StopIteration") [] >>= _) _ _ _ from wpAny_bind ?_))))))
    simp only [newExc, newTuple]
    refine wpAny_bind (wpAny_newObj_type (wpAny_bind (m := firstArgMember _ _) (wpAny_of_eq (a := Value.none) (by first | rfl | (simp only [firstArgMember]; rfl)) (wpAny_newObj_type ?_ (by size_fits)))) (by size_fits))
    simp only [raiseNew]
    refine wpAny_bind (wpAny_handled ?_)
    first | rw [show A.in1.handled = none from hh] | rw [hh]
    exact wpAny_bind (wpAny_pure (wpAny_throw (q _ _ (((Heap.SameBut.update ..).extBut.push _).push _) ⟨_, Heap.get?_push_size _ rfl, rfl⟩)))
  · obtain ⟨o, ho, hc, hd⟩ := id y
    unfold Builtin.SmallTypes.nextOf
    refine wpAny_bind (wpAny_callSpecial?_slot (name := Str.ofString "__next__") y.typeIs F.slot_str_iterator_next (wpAny_call_entry F.slot_str_iterator_next y.typeIs F.entry_str_iterator_next ?_ (F.args_str_iterator_next_1 _)))
    show wpAny _ _ (field (.ref it) 0 >>= _) _ _ s
    refine wpAny_bind (wpAny_field ho hd (x := .str x t) rfl (show wpAny _ _ (field (.ref it) 1 >>= _) _ _ s from wpAny_bind (wpAny_field ho hd (x := .int k 0) rfl ?_)))
    simp only [Int.toNat_natCast, hx]
    refine wpAny_bind (wpAny_rule (wpAny_bind (wpAny_setField ho hd (by simp) (wpAny_bind (wpAny_letGo (show wpAny _ _ (newExc (.type "StopIteration") [] >>= _) _ _ _ from wpAny_bind ?_))))))
    simp only [newExc, newTuple]
    refine wpAny_bind (wpAny_newObj_type (wpAny_bind (m := firstArgMember _ _) (wpAny_of_eq (a := Value.none) (by first | rfl | (simp only [firstArgMember]; rfl)) (wpAny_newObj_type ?_ (by size_fits)))) (by size_fits))
    simp only [raiseNew]
    refine wpAny_bind (wpAny_handled ?_)
    first | rw [show A.in1.handled = none from hh] | rw [hh]
    exact wpAny_bind (wpAny_pure (wpAny_throw (q _ _ (((Heap.SameBut.update ..).extBut.push _).push _) ⟨_, Heap.get?_push_size _ rfl, rfl⟩)))
/-- a zip's own things stand apart -/
structure Ap (z TI TO i1 i2 : Addr) : Prop where
  a1 : TI ≠ z
  a2 : TO ≠ z
  a3 : i1 ≠ z
  a4 : i2 ≠ z
  a5 : TI ≠ TO
  a6 : TI ≠ i1
  a7 : TI ≠ i2
  a8 : TO ≠ i1
  a9 : TO ≠ i2
  a0 : i1 ≠ i2
theorem zs_item {z TI TO i1 i2 : Addr} {x y : Str} {k c d : Nat} {a b : Value} {Q : Value → Shared → Prop} (D : Ap z TI TO i1 i2) (zz : IsZip s.heap z TI TO .none) (pI : IsPair s.heap TI (.ref i1) (.ref i2)) (pO : IsPair s.heap TO a b)
    (n1 : SI s.heap i1 x k) (n2 : SI s.heap i2 y k) (hx : x.cps[k]? = some c) (hy : y.cps[k]? = some d)
    (q : ∀ h' t u tk, IsZip h' z TI TO (rawInt s.heap.objs.size) → IsPair h' TO (.str ⟨#[c]⟩ t) (.str ⟨#[d]⟩ u) → SI h' i1 x (k + 1) → SI h' i2 y (k + 1) → IsPair h' s.heap.objs.size (.str ⟨#[c]⟩ t) (.str ⟨#[d]⟩ u) → h'.objs.size = s.heap.objs.size + 1 →
      (∀ b o, b ≠ z → b ≠ TO → b ≠ i1 → b ≠ i2 → s.heap.get? b = some o → h'.get? b = some o) → Q (.ref s.heap.objs.size) { s with heap := h', toks := tk }) :
    wpAny (model prog w) A (Builtin.«zip.__next__» ⟨[.ref z], []⟩) (fun fin s' => ∃ v, fin = .done (.ret v) ∧ Q v s') E s := by
  show wpAny _ _ (field (.ref z) 2 >>= _) _ _ _
  refine wpAny_bind (wpAny_field zz rfl (x := .bool false) rfl (show wpAny _ _ (field (.ref z) 3 >>= _) _ _ _ from wpAny_bind (wpAny_field zz rfl (x := .ref TI) rfl (wpAny_bind (wpAny_seqItems pI rfl ?_)))))
  refine wpAny_bind (m := Builtin.SmallTypes.ownedTupleIsFree (.ref z)) ?_
  unfold Builtin.SmallTypes.ownedTupleIsFree
  refine wpAny_bind (wpAny_field zz rfl (x := .none) rfl (wpAny_pure ?_))
  simp only [if_true]
  refine wpAny_bind (wpAny_rule (wpAny_bind (wpAny_field zz rfl (x := .ref TO) rfl (wpAny_bind (wpAny_setField_rec zz (by simp) fun g1 zz1 s1 => ?_)))))
  replace zz1 : IsZip g1 z TI TO .ellipsis := zz1
  refine wpAny_bind ?_
  simp only [List.zipIdx_cons, List.zipIdx_nil, List.forIn_cons, List.forIn_nil]
  refine wpAny_bind (wpAny_bind (wpAny_onRaise (show wpAny _ _ (Builtin.SmallTypes.nextOf (.ref i1) >>= _) _ _ _ from wpAny_bind (next_sign (n1.up s1.extBut D.a3) hx fun g2 t m1 s2 => wpAny_pure ?_))))
  have o2 : IsPair g2 TO a b := s2.extBut _ _ D.a8 (s1.extBut _ _ D.a2 pO)
  refine wpAny_bind (wpAny_seqItems o2 rfl (wpAny_bind (wpAny_updateSeq_pair o2 fun g3 o3 s3 => wpAny_bind (wpAny_letGo (wpAny_pure ?_)))))
  replace o3 : IsPair g3 TO (.str ⟨#[c]⟩ t) b := o3
  refine wpAny_bind (wpAny_bind (wpAny_onRaise (show wpAny _ _ (Builtin.SmallTypes.nextOf (.ref i2) >>= _) _ _ _ from wpAny_bind (next_sign (((n2.up s1.extBut D.a4).up s2.extBut D.a0.symm).up s3.extBut D.a9.symm) hy fun g4 u m2 s4 => wpAny_pure ?_))))
  have o4 : IsPair g4 TO (.str ⟨#[c]⟩ t) b := s4.extBut _ _ D.a9 o3
  refine wpAny_bind (wpAny_seqItems o4 rfl (wpAny_bind (wpAny_updateSeq_pair o4 fun g5 o5 s5 => wpAny_bind (wpAny_letGo (wpAny_pure (wpAny_pure ?_))))))
  replace o5 : IsPair g5 TO (.str ⟨#[c]⟩ t) (.str ⟨#[d]⟩ u) := o5
  refine wpAny_bind (wpAny_seqItems o5 rfl (wpAny_bind (wpAny_newTuple ?_)))
  have sz : g5.objs.size = s.heap.objs.size := by rw [s5.1, s4.1, s3.1, s2.1, s1.1]
  have zz5 : IsZip g5 z TI TO .ellipsis := s5.extBut _ _ D.a2.symm (s4.extBut _ _ D.a4.symm (s3.extBut _ _ D.a2.symm (s2.extBut _ _ D.a3.symm zz1)))
  have kp : ∀ b o, b ≠ z → b ≠ TO → b ≠ i1 → b ≠ i2 → s.heap.get? b = some o → g5.get? b = some o := fun b o b1 b2 b3 b4 e =>
    s5.extBut _ _ b2 (s4.extBut _ _ b4 (s3.extBut _ _ b2 (s2.extBut _ _ b3 (s1.extBut _ _ b1 e))))
  have p1 : SI g5 i1 x (k + 1) := ((m1.up s3.extBut D.a8.symm).up s4.extBut D.a0).up s5.extBut D.a8.symm
  have p2 : SI g5 i2 y (k + 1) := m2.up s5.extBut D.a9.symm
  refine wpAny_bind (m := Builtin.SmallTypes.ownedTupleHandOut (.ref z) (.ref g5.objs.size)) ?_
  unfold Builtin.SmallTypes.ownedTupleHandOut
  have zz6 : IsZip (g5.push { cls := .type "tuple", data := .seq #[.str ⟨#[c]⟩ t, .str ⟨#[d]⟩ u] }) z TI TO .ellipsis := Heap.get?_push_of_some _ zz5
  refine wpAny_bind (wpAny_setField_rec zz6 (by simp) fun g7 zz7 s7 => ?_)
  replace zz7 : IsZip g7 z TI TO (rawInt g5.objs.size) := zz7
  refine wpAny_setField_rec zz7 (by simp) fun g8 zz8 s8 => ?_
  replace zz8 : IsZip g8 z TI TO (rawInt g5.objs.size) := zz8
  have ext : Heap.ExtBut z g5 g8 := fun b o b1 e => s8.extBut _ _ b1 (s7.extBut _ _ b1 (Heap.get?_push_of_some _ e))
  have lz : z < g5.objs.size := Heap.lt_size zz5
  have new : IsPair g8 g5.objs.size (.str ⟨#[c]⟩ t) (.str ⟨#[d]⟩ u) := s8.extBut _ _ (Nat.ne_of_gt lz) (s7.extBut _ _ (Nat.ne_of_gt lz) (Heap.get?_push_size _ rfl))
  have sz8 : g8.objs.size = g5.objs.size + 1 := by rw [s8.1, s7.1, Heap.size_push]
  rw [sz] at zz8 new sz8
  refine wpAny_pure ⟨_, rfl, ?_⟩
  show Q (.ref g5.objs.size) _
  rw [sz]
  exact q g8 t u _ zz8 (ext _ _ D.a2 o5) (p1.up ext D.a3) (p2.up ext D.a4) new sz8 fun b o b1 b2 b3 b4 e => ext b o b1 (kp b o b1 b2 b3 b4 e)
theorem zs_end {z TI TO i1 i2 : Addr} {x y : Str} {k : Nat} {a b : Value} {Q : Fin → Shared → Prop} (hh : A.handled = none) (D : Ap z TI TO i1 i2) (zz : IsZip s.heap z TI TO .none) (pI : IsPair s.heap TI (.ref i1) (.ref i2)) (pO : IsPair s.heap TO a b)
    (n1 : SI s.heap i1 x k) (n2 : SI s.heap i2 y k) (he : x.cps[k]? = none ∨ y.cps[k]? = none)
    (q : ∀ h' e tk, (∀ b o, b ≠ z → b ≠ TO → b ≠ i1 → b ≠ i2 → s.heap.get? b = some o → h'.get? b = some o) → (∃ o, h'.get? e = some o ∧ o.cls = .type "StopIteration") → E (.ref e) { s with heap := h', toks := tk }) :
    wpAny (model prog w) A (Builtin.«zip.__next__» ⟨[.ref z], []⟩) Q E s := by
  show wpAny _ _ (field (.ref z) 2 >>= _) _ _ _
  refine wpAny_bind (wpAny_field zz rfl (x := .bool false) rfl (show wpAny _ _ (field (.ref z) 3 >>= _) _ _ _ from wpAny_bind (wpAny_field zz rfl (x := .ref TI) rfl (wpAny_bind (wpAny_seqItems pI rfl ?_)))))
  refine wpAny_bind (m := Builtin.SmallTypes.ownedTupleIsFree (.ref z)) ?_
  unfold Builtin.SmallTypes.ownedTupleIsFree
  refine wpAny_bind (wpAny_field zz rfl (x := .none) rfl (wpAny_pure ?_))
  simp only [if_true]
  refine wpAny_bind (wpAny_rule (wpAny_bind (wpAny_field zz rfl (x := .ref TO) rfl (wpAny_bind (wpAny_setField_rec zz (by simp) fun g1 zz1 s1 => ?_)))))
  replace zz1 : IsZip g1 z TI TO .ellipsis := zz1
  refine wpAny_bind ?_
  simp only [List.zipIdx_cons, List.zipIdx_nil, List.forIn_cons, List.forIn_nil]
  refine wpAny_bind (wpAny_bind (wpAny_onRaise (show wpAny _ _ (Builtin.SmallTypes.nextOf (.ref i1) >>= _) _ _ _ from ?_)))
  cases hx : x.cps[k]? with
  | none =>
    refine wpAny_bind (sign_end hh (n1.up s1.extBut D.a3) hx fun g2 e s2 ⟨oe, e1, e2⟩ => ?_)
    have zz2 : IsZip g2 z TI TO .ellipsis := s2 _ _ D.a3.symm zz1
    have ne : e ≠ z := fun w => by
      subst w
      rw [zz2] at e1
      cases e1
      simp at e2
    exact wpAny_setField_rec zz2 (by simp) fun g3 _ s3 => q g3 e s.toks (fun b o b1 _ b3 _ w => s3.extBut _ _ b1 (s2 _ _ b3 (s1.extBut _ _ b1 w))) ⟨oe, s3.extBut _ _ ne e1, e2⟩
  | some c =>
    have hy : y.cps[k]? = none := he.elim (fun w => by rw [hx] at w; cases w) id
    refine wpAny_bind (next_sign (n1.up s1.extBut D.a3) hx fun g2 t m1 s2 => wpAny_pure ?_)
    have o2 : IsPair g2 TO a b := s2.extBut _ _ D.a8 (s1.extBut _ _ D.a2 pO)
    refine wpAny_bind (wpAny_seqItems o2 rfl (wpAny_bind (wpAny_updateSeq_pair o2 fun g3 o3 s3 => wpAny_bind (wpAny_letGo (wpAny_pure ?_)))))
    refine wpAny_bind (wpAny_bind (wpAny_onRaise (show wpAny _ _ (Builtin.SmallTypes.nextOf (.ref i2) >>= _) _ _ _ from wpAny_bind (sign_end hh (((n2.up s1.extBut D.a4).up s2.extBut D.a0.symm).up s3.extBut D.a9.symm) hy fun g4 e s4 ⟨oe, e1, e2⟩ => ?_))))
    have zz4 : IsZip g4 z TI TO .ellipsis := s4 _ _ D.a4.symm (s3.extBut _ _ D.a2.symm (s2.extBut _ _ D.a3.symm zz1))
    have ne : e ≠ z := fun w => by
      subst w
      rw [zz4] at e1
      cases e1
      simp at e2
    exact wpAny_setField_rec zz4 (by simp) fun g5 _ s5 => q g5 e (s.toks + 1) (fun b o b1 b2 b3 b4 w => s5.extBut _ _ b1 (s4 _ _ b4 (s3.extBut _ _ b2 (s2.extBut _ _ b3 (s1.extBut _ _ b1 w))))) ⟨oe, s5.extBut _ _ ne e1, e2⟩
end
def ity (x : Str) : String := if x.cps.all (· < 128) = true then "str_ascii_iterator" else "str_iterator"
theorem iter_text {prog : Program} {w : World} {A : Around} {E : Value → Shared → Prop} {s : Shared} {x : Str} {t : Tok} {Q : Value → Shared → Prop}
    (q : Q (.ref s.heap.objs.size) { s with heap := s.heap.push { cls := .type (ity x), data := .fields #[.str x t, .int 0 0] } }) : wpAny (model prog w) A (pyIter (.str x t)) Q E s := by
  unfold ity at q
  cases h : x.cps.all (· < 128) with
  | true =>
    rw [h, if_pos rfl] at q
    exact wpAny_pyIter_ascii h q
  | false =>
    rw [h, if_neg Bool.false_ne_true] at q
    exact wpAny_pyIter_wide h q
theorem si_new {h : Heap} {i : Addr} {x : Str} {t : Tok} (e : h.get? i = some { cls := .type (ity x), data := .fields #[.str x t, .int 0 0] }) : SI h i x 0 := by
  unfold ity at e
  by_cases z : x.cps.all (· < 128) = true
  · rw [if_pos z] at e
    exact ⟨t, .inl ⟨_, e, rfl, rfl⟩⟩
  · rw [if_neg z] at e
    exact ⟨t, .inr ⟨_, e, rfl, rfl⟩⟩
abbrev sH1 (h : Heap) (x : Str) (t : Tok) : Heap := h.push { cls := .type (ity x), data := .fields #[.str x t, .int 0 0] }
abbrev sH2 (h : Heap) (x y : Str) (t u : Tok) : Heap := (sH1 h x t).push { cls := .type (ity y), data := .fields #[.str y u, .int 0 0] }
abbrev sH3 (h : Heap) (x y : Str) (t u : Tok) : Heap := (sH2 h x y t u).push { cls := .type "tuple", data := .seq #[.ref h.objs.size, .ref (sH1 h x t).objs.size] }
abbrev sH4 (h : Heap) (x y : Str) (t u : Tok) : Heap := (sH3 h x y t u).push { cls := .type "tuple", data := .seq #[.none, .none] }
abbrev sH5 (h : Heap) (x y : Str) (t u : Tok) : Heap := (sH4 h x y t u).push { cls := .type "zip", data := .fields #[.none, .bool false, .bool false, .ref (sH2 h x y t u).objs.size, .ref (sH3 h x y t u).objs.size] }
set_option maxHeartbeats 2000000 in
theorem meets_zipS (x y : Str) (t u : Tok) : Meets (Builtin.«zip.__new__» ⟨[.type "zip", .str x t, .str y u], []⟩) (fun _ R s => R (.ok (.ret (.ref (sH4 s.heap x y t u).objs.size))) { s with heap := sH5 s.heap x y t u }) :=
  .of_wp fun prog w A R s h => by
    obtain ⟨hp, g, d, tk, os⟩ := s
    have hsub := sub_zip
    wp_walk using iter_text (x := x) (t := t), iter_text (x := y) (t := u)
    exact ⟨_, rfl, h⟩
end PL
set_option Elab.async false
set_option linter.all false
set_option maxRecDepth 100000
/-! PL, part 25: loops over zip of two texts. -/
namespace PL
open PySem PySem.Spec L2
open PyProof.Rows hiding St

section
variable {prog : Program} {w : World} {A : Around} {E : Value → Shared → Prop} {s : Shared}
theorem call_zipS {x y : Str} {t u : Tok} {Q : Value → Shared → Prop}
    (q : ∀ h', IsZip h' (s.heap.objs.size + 4) (s.heap.objs.size + 2) (s.heap.objs.size + 3) .none → IsPair h' (s.heap.objs.size + 2) (.ref s.heap.objs.size) (.ref (s.heap.objs.size + 1)) → IsPair h' (s.heap.objs.size + 3) .none .none →
      SI h' s.heap.objs.size x 0 → SI h' (s.heap.objs.size + 1) y 0 → (∀ b o, s.heap.get? b = some o → h'.get? b = some o) → Q (.ref (s.heap.objs.size + 4)) { s with heap := h' }) :
    wpAny (model prog w) A (call (.type "zip") [.str x t, .str y u]) Q E s := by
  refine callType_new F.called_zip (by decide) (F.typeCall_zip_2 _ _) (F.newCall_zip_2 _ _) (fun obj => F.args_object_init_3 obj _ _) F.entry_zip_new (meets_zipS x y t u) ?_
  have z1 : (sH1 s.heap x t).objs.size = s.heap.objs.size + 1 := Heap.size_push ..
  have z2 : (sH2 s.heap x y t u).objs.size = s.heap.objs.size + 2 := by rw [Heap.size_push, z1]
  have z3 : (sH3 s.heap x y t u).objs.size = s.heap.objs.size + 3 := by rw [Heap.size_push, z2]
  have z4 : (sH4 s.heap x y t u).objs.size = s.heap.objs.size + 4 := by rw [Heap.size_push, z3]
  have g5 : (sH5 s.heap x y t u).get? (sH4 s.heap x y t u).objs.size = some _ := Heap.get?_push_size _ rfl
  have g4 : (sH5 s.heap x y t u).get? (sH3 s.heap x y t u).objs.size = some _ := Heap.get?_push_of_some _ (Heap.get?_push_size _ rfl)
  have g3 : (sH5 s.heap x y t u).get? (sH2 s.heap x y t u).objs.size = some _ := Heap.get?_push_of_some _ (Heap.get?_push_of_some _ (Heap.get?_push_size _ rfl))
  have g2 : (sH5 s.heap x y t u).get? (sH1 s.heap x t).objs.size = some _ := Heap.get?_push_of_some _ (Heap.get?_push_of_some _ (Heap.get?_push_of_some _ (Heap.get?_push_size _ rfl)))
  have g1 : (sH5 s.heap x y t u).get? s.heap.objs.size = some _ := Heap.get?_push_of_some _ (Heap.get?_push_of_some _ (Heap.get?_push_of_some _ (Heap.get?_push_of_some _ (Heap.get?_push_size _ rfl))))
  show _ ∧ _
  rw [z2, z3, z4] at g5
  rw [z1, z2] at g3
  rw [z3] at g4
  rw [z1] at g2
  rw [z4]
  exact ⟨⟨_, g5, rfl⟩, q _ g5 g3 g4 (si_new g1) (si_new g2) fun b o e =>
    Heap.get?_push_of_some _ (Heap.get?_push_of_some _ (Heap.get?_push_of_some _ (Heap.get?_push_of_some _ (Heap.get?_push_of_some _ e))))⟩
theorem SI.there {h : Heap} {i : Addr} {x : Str} {k : Nat} (y : SI h i x k) : ∃ o, h.get? i = some o ∧ ∀ v, o.data ≠ .cell v := by
  obtain ⟨t, ⟨o, e, _, d⟩ | ⟨o, e, _, d⟩⟩ := y
  · exact ⟨o, e, fun v z => by rw [d] at z; cases z⟩
  · exact ⟨o, e, fun v z => by rw [d] at z; cases z⟩
theorem SI.keeps {h h' : Heap} {i : Addr} {x : Str} {k : Nat} (y : SI h i x k) (e : ∀ o, h.get? i = some o → h'.get? i = some o) : SI h' i x k := by
  obtain ⟨t, ⟨o, e1, r⟩ | ⟨o, e1, r⟩⟩ := y
  · exact ⟨t, .inl ⟨o, e o e1, r⟩⟩
  · exact ⟨t, .inr ⟨o, e o e1, r⟩⟩
end
theorem turn_zipS {P : Program} {w : World} {K : PySem.W.Frag} {elts : List Expr} {kk : Nat} {tpos : Pos} {x y : Str} {z TI TO i1 i2 : Addr} (D : Ap z TI TO i1 i2) :
    Turn P w K (.Tuple elts kk tpos) (ItzS x y) [z, TI, TO, i1, i2] z (fun i h => IsZip h z TI TO .none ∧ IsPair h TI (.ref i1) (.ref i2) ∧ (∃ a b, IsPair h TO a b) ∧ SI h i1 x i ∧ SI h i2 y i) where
  mem := by simp
  obj := fun i h st c hc => by
    obtain ⟨hz, hI, ⟨a, b, hO⟩, h1, h2⟩ := st
    have hc : c = z ∨ c = TI ∨ c = TO ∨ c = i1 ∨ c = i2 := by simpa using hc
    rcases hc with rfl | rfl | rfl | rfl | rfl
    · exact ⟨_, hz, fun v q => nomatch q⟩
    · exact ⟨_, hI, fun v q => nomatch q⟩
    · exact ⟨_, hO, fun v q => nomatch q⟩
    · exact h1.there
    · exact h2.there
  keep := fun i h h' st k => by
    obtain ⟨hz, hI, ⟨a, b, hO⟩, h1, h2⟩ := st
    exact ⟨k z (by simp) _ hz, k TI (by simp) _ hI, ⟨a, b, k TO (by simp) _ hO⟩, h1.keeps fun o q => k i1 (by simp) o q, h2.keeps fun o q => k i2 (by simp) o q⟩
  item := by
    intro X hP hw hK hc i pins s σ H E I hf st hg
    subst hP hw hK
    obtain ⟨hz, hI, ⟨a, b, hO⟩, h1, h2⟩ := st
    obtain ⟨l1, l2⟩ := hg
    have hzl : z < s.heap.objs.size := Heap.lt_size hz
    have hT : s.TypeIs (.ref z) "zip" := ⟨_, hz, rfl⟩
    unfold pyNext
    refine wpAny_bind (wpAny_attempt (wpAny_callSpecial?_slot (name := Str.ofString "__next__") hT F.slot_zip_next (wpAny_call_entry F.slot_zip_next hT F.entry_zip_next (zs_item D hz hI hO h1 h2 (Array.getElem?_eq_getElem l1) (Array.getElem?_eq_getElem l2) fun h' t u tk z' O' n1 n2 hN hsz hk => wpAny_pure ?_) (F.args_zip_next_1 _))))
    refine ⟨_, rfl, wpAny_letOwnedTupleGo_zip (s := { s with heap := h', toks := tk }) z' fun h'' z'' sb => ?_⟩
    have hN2 : h''.get? s.heap.objs.size = some { cls := .type "tuple", data := .seq #[.str ⟨#[x.cps[i]]⟩ t, .str ⟨#[y.cps[i]]⟩ u] } := (sb.2 _ (Nat.ne_of_gt hzl)).trans hN
    have new : ObjOk X.prog X.w (upd H s.heap.objs.size (.tup [.str ⟨#[x.cps[i]]⟩, .str ⟨#[y.cps[i]]⟩])) h'' s.heap.objs.size (.tup [.str ⟨#[x.cps[i]]⟩, .str ⟨#[y.cps[i]]⟩]) :=
      ⟨by show 2 ≤ sizeLine; decide, [.str ⟨#[x.cps[i]]⟩ t, .str ⟨#[y.cps[i]]⟩ u], .cons ⟨t, rfl⟩ (.cons ⟨u, rfl⟩ .nil), ⟨_, hN2, rfl, _, rfl⟩⟩
    have I1 : Inv X pins σ (upd H s.heap.objs.size (.tup [.str ⟨#[x.cps[i]]⟩, .str ⟨#[y.cps[i]]⟩])) { s with heap := h'', toks := tk } :=
      I.turnedNew (t' := tk) (ch := [z, TI, TO, i1, i2]) (fun c o hb q => (sb.2 c (fun q' => hb (by simp [q']))).trans (hk c o (fun q' => hb (by simp [q'])) (fun q' => hb (by simp [q'])) (fun q' => hb (by simp [q'])) (fun q' => hb (by simp [q'])) q)) hf (Nat.le_refl _) new
    refine ⟨.ref s.heap.objs.size, _, I1, rfl, ⟨_, _, _, rfl, I.hok.fresh (Nat.le_refl _), rfl, Array.getElem?_eq_getElem l1, Array.getElem?_eq_getElem l2⟩, ⟨z'', ?_, ⟨.str ⟨#[x.cps[i]]⟩ t, .str ⟨#[y.cps[i]]⟩ u, ?_⟩, ?_, ?_⟩, fun c hcm => ?_⟩
    · exact (sb.2 _ D.a1).trans (hk _ _ D.a1 D.a5 D.a6 D.a7 hI)
    · exact (sb.2 _ D.a2).trans O'
    · exact n1.keeps fun o q => (sb.2 _ D.a3).trans q
    · exact n2.keeps fun o q => (sb.2 _ D.a4).trans q
    · have hlt : c < s.heap.objs.size := by
        have hcm : c = z ∨ c = TI ∨ c = TO ∨ c = i1 ∨ c = i2 := by simpa using hcm
        rcases hcm with rfl | rfl | rfl | rfl | rfl
        · exact hzl
        · exact Heap.lt_size hI
        · exact Heap.lt_size hO
        · obtain ⟨_, e, _⟩ := h1.there; exact Heap.lt_size e
        · obtain ⟨_, e, _⟩ := h2.there; exact Heap.lt_size e
      rw [upd_ne (Nat.ne_of_lt hlt)]
      exact (hf c hcm).1
  done := by
    intro X hP hw hK hc i pins s σ H E I hf st hg
    subst hP hw hK
    obtain ⟨hz, hI, ⟨a, b, hO⟩, h1, h2⟩ := st
    have hT : s.TypeIs (.ref z) "zip" := ⟨_, hz, rfl⟩
    have he : x.cps[i]? = none ∨ y.cps[i]? = none := hg.imp Array.getElem?_eq_none Array.getElem?_eq_none
    unfold pyNext
    refine wpAny_bind (wpAny_attempt (wpAny_callSpecial?_slot (name := Str.ofString "__next__") hT F.slot_zip_next (wpAny_call_entry F.slot_zip_next hT F.entry_zip_next (zs_end (I.ok.hd hc) D hz hI hO h1 h2 he fun h' e tk hk ⟨o, ho, hcl⟩ => ?_) (F.args_zip_next_1 _))))
    refine wpAny_bind (wpAny_isInstance (T := "StopIteration") (b := true) ⟨o, ho, hcl⟩ isSubtype_stop (wpAny_pure ⟨rfl, ?_⟩))
    exact I.turnedL (t' := tk) (ch := [z, TI, TO, i1, i2]) (fun c o hb q => hk c o (fun q' => hb (by simp [q'])) (fun q' => hb (by simp [q'])) (fun q' => hb (by simp [q'])) (fun q' => hb (by simp [q'])) q) hf
  self := fun A i s Q E st h => wpAny_pyIter_zip st.1 h
theorem ne_nat {a b : Nat} (h : a ≠ b) : (a : Addr) ≠ (b : Addr) := h
theorem ap_new (n : Nat) : Ap (n + 4) (n + 2) (n + 3) n (n + 1) := by
  constructor <;> (refine ne_nat ?_; omega)
theorem pi_zipS {X : Cx} {e e2 : Expr} {ta : TA} {p pos tpos : Pos} {elts : List Expr} {kk : Nat} (hg : Gl X "zip") (hm : X.mg "zip" = none) (ha : PA X [e, e2] ta)
    (hs : starEach [e, e2] X.env = (false, eval e X.env) :: starEach [e2] X.env := by rfl) (hpl : (backTo pos (starEach [e2] X.env)).any (·.1) = false := by rfl) :
    PI X (.Tuple elts kk tpos) (.Call (.Name "zip" p) [e, e2] [] pos) (iZipS ta) := by
  refine ⟨fun pins s σ H R I h => ?_⟩
  refine Call_ (ld_blt I hg hm PyProof.Rows.boot_zip (PyProof.Rows.callWith_type1 (thn (ha.run pos pins s σ H _ I h) fun us s1 ⟨vs, H1, I1, r1, x, y, ex, q⟩ => ?_) hs hpl))
  subst ex
  cases r1 with
  | cons r rr =>
    cases rr with
    | cons r' rr =>
      cases rr
      obtain ⟨t, rfl⟩ := r
      obtain ⟨u, rfl⟩ := r'
      refine call_zipS fun h' hz hI hO h1 h2 hk => wpAny_pyIter_zip hz ?_
      refine ⟨s1.heap.objs.size + 4, [s1.heap.objs.size + 4, s1.heap.objs.size + 2, s1.heap.objs.size + 3, s1.heap.objs.size, s1.heap.objs.size + 1], _, _, H1, rfl, I1.kept (t' := s1.toks) hk,
        turn_zipS (ap_new _), ⟨hz, hI, ⟨_, _, hO⟩, h1, h2⟩, fun c hc => ?_, q⟩
      have hle : s1.heap.objs.size ≤ c := by
        have hc : c = s1.heap.objs.size + 4 ∨ c = s1.heap.objs.size + 2 ∨ c = s1.heap.objs.size + 3 ∨ c = s1.heap.objs.size ∨ c = s1.heap.objs.size + 1 := by simpa using hc
        rcases hc with z | z | z | z | z
        · rw [z]; exact Nat.le_add_right _ _
        · rw [z]; exact Nat.le_add_right _ _
        · rw [z]; exact Nat.le_add_right _ _
        · rw [z]; exact Nat.le_refl _
        · rw [z]; exact Nat.le_add_right _ _
      exact I1.fpOk hle (I1.hok.fresh hle)
end PL
set_option Elab.async false
set_option linter.all false
set_option maxRecDepth 100000
/-! PL, part 26: dicts: the empty one. -/
namespace PL
open PySem PySem.Spec L2
open PyProof.Rows hiding St

section
variable {X : Cx} {T : Tags} {C : Ctx} {W : WX} {pos : Pos}
theorem dO_stay {R : Rc} {a : Addr} {es : List (Dt × V × V)} {φ : Heap → Prop} (e : dO R a es = .ext φ) : ∀ h1 h2 : Heap, φ h1 → (∀ o, h1.get? a = some o → h2.get? a = some o) → φ h2 := by
  unfold dO at e
  injection e with e
  subst e
  rintro h1 h2 ⟨n, l, o, ents, ep, h, r⟩ k
  exact ⟨n, l, o, ents, ep, k o h, r⟩
/-- {} -/
def rNewD (R : Rc) : TE := fun _ H Q => ∀ p, H p = none → Q (.ref p) (upd H p (dO R p []))
theorem pe_newD {R : Rc} : PE X (.Dict [] [] pos) (rNewD R) := ⟨fun pins s σ H Q I h => by
  refine wpAny_Dict_empty ⟨.ref s.heap.objs.size, _, I.laid (a := s.heap.objs.size) (o := dO R s.heap.objs.size []) (t' := s.toks) (fun _ _ q => Heap.get?_push_of_some _ q) (Nat.le_refl _) ?_, rfl, h _ (I.hok.fresh (Nat.le_refl _))⟩
  have e : (s.heap.push { cls := .type "dict", data := .dict #[] }).get? s.heap.objs.size = some { cls := .type "dict", data := .dict #[] } := Heap.get?_push_size _ rfl
  exact ⟨⟨beq_eq_false_iff_ne.mpr (Ne.symm (Nat.ne_of_lt I.big)), Nat.zero_le _, _, #[], 0, e, ⟨rfl, rfl, rfl⟩, rfl, .nil⟩, ⟨_, e⟩, dO_stay rfl⟩⟩
theorem ok_newD {R : Rc} {σ : L2.St} {H : Hp} {Q : VK} (h : tV R C W (.pr .mkDct []) σ H Q) : rNewD R σ H Q := by
  obtain ⟨S, env, c, f, G, h⟩ := h
  intro p hp
  have h : AfterV R W Q S H σ f (.ok (.dct .own []) env) := h
  have hn : New H (upd H p (dO R p [])) := .upd hp
  refine h S _ c (.ref p) (one p) (.more hn fun _ _ h => h) ?_ ⟨p, [], z0, rfl, upd_same, rfl, (pl_z _).symm⟩
  refine Good.after (cr := z0) (by rw [z_pl]; exact G) hn ⟨fun a o e => ?_, fun a e => ?_⟩ fun a n => ?_
  · rw [one_at, if_neg (ne_of_none e hp)]
    exact Nat.le_refl _
  · rw [one_at]
    split <;> omega
  · by_cases z : a = p
    · subst z; exact ⟨_, upd_same, trivial⟩
    · rw [one_at, if_neg z] at n
      exact absurd rfl n
theorem pe_newDV : PE X (.Dict [] [] pos) (tV (rc X T) C W (.pr .mkDct [])) := pe_imp pe_newD fun _ _ _ q => ok_newD q
end
end PL
set_option Elab.async false
set_option linter.all false
set_option maxRecDepth 100000
set_option maxHeartbeats 2000000
/-! PL, part 27: the package's own errors: made (LoneError.__init__), raised. -/
namespace PL
open PySem PySem.W PySem.Calls PySem.HandSPX
open PyProof.Rows hiding St

/-! ### the text of LoneError.__init__ -/
def inA : Arguments := { posonlyargs := [], args := [{ arg := "self", annotation := none, pos := ⟨4, 17, 4, 21⟩ }, { arg := "value", annotation := none, pos := ⟨4, 23, 4, 28⟩ }], vararg := none, kwonlyargs := [], kw_defaults := [], kwarg := none, defaults := [] }
def inB : List Stmt := [.Expr (.Call (.Attribute (.Call (.Name "super" ⟨5, 8, 5, 13⟩) [] [] ⟨5, 8, 5, 15⟩) "__init__" ⟨5, 8, 5, 24⟩) [.Name "value" ⟨5, 25, 5, 30⟩] [] ⟨5, 8, 5, 31⟩) ⟨5, 8, 5, 31⟩,
  .Assign [.Attribute (.Name "self" ⟨6, 8, 6, 12⟩) "value" ⟨6, 8, 6, 18⟩] (.Name "value" ⟨6, 21, 6, 26⟩) ⟨6, 8, 6, 26⟩]
def inS : Scope := { kind := .function, names := [(PySem.Str.ofString "self", .local), (PySem.Str.ofString "value", .local), (PySem.Str.ofString "__class__", .free), (PySem.Str.ofString "super", .globalImplicit)], isGenerator := false, isCoroutine := false, more := [] }
/-- what the written part says of an error class at C, and of LoneError (at D), its __init__ (at fI), the cell and the code of that -/
structure Lone (P : Program) (K : Frag) (mg : Str → Option Value) (D fI cc cda C : Addr) : Prop where
  cls : ∃ nm q N bs bm sn sub ab col dd k0 k1 k2 k3 k5, K.lookup C = some (excClassObj nm q C N bs bm true sn sub ab col dd k0 k1 k2 k3 k5 "ValueError.__new__") ∧ refsVE bm = true
  sa : findIn K (.ref C) "__setattr__" = some (some (.builtin "object.__setattr__"))
  ga : findIn K (.ref C) "__getattribute__" = some (some (.builtin "BaseException.__getattribute__"))
  gg : findIn K (.ref C) "__getattr__" = some none
  noN : findIn K (.ref C) "value" = some none
  iC : findIn K (.ref C) "__init__" = some (some (.ref fI))
  tC : typeIn K (.ref fI) = some (.type "function")
  kC : keepIn K (.ref C) = true
  exC : subIn K (.ref C) (.type "BaseException") = some true
  veC : subIn K (.ref C) (.type "ValueError") = some true
  tyC : typeIn K (.ref C) = some (.type "type")
  hdC : hasDictIn K C = true
  lo : mroIn K C (.ref D) = some true
  sup : ks_superIn K C D "__init__" = some (some (.builtin "ValueError.__init__"))
  tp : nsIn K cStatics "thirdparty.any" = some none
  hD : (clsIn K D).isSome = true
  fn : ∃ (oc : Value) (od : Option Addr) (doc pm : Value) (an : Option Addr) (ct : Value) (osl : Array (Option Value)),
    K.lookup fI = some ⟨oc, od, .func (ksFn "__init__" "LoneError.__init__" inA inB inS .none .none doc pm an (.ref cda) ct cc), osl⟩ ∧ codeIn K (.ref cda) "LoneError.__init__" = true
  code : ∃ ccl cdd vs ccs file tf, K.lookup cda = some ⟨ccl, cdd, .fields vs, ccs⟩ ∧ vs[2]? = some (.str file tf) ∧ ((P.main.file : Str) == file) = true
  cell : ∃ cl cld csl, K.lookup cc = some ⟨cl, cld, .cell (some (.ref D)), csl⟩
  msu : mg "super" = none
  top : (P.main.scope.names.lookup ("super" : Str)).isSome = false
/-- what the making leaves of a fresh error at x -/
structure InEnd (h h' : Heap) (x C dx t1 : Addr) (v : Value) : Prop where
  keep : ∀ b o, b ≠ x → h.get? b = some o → h'.get? b = some o
  obj : h'.get? x = some { cls := .ref C, dict := some dx, data := .fields #[.ref t1, .none, .none, .none, .bool false, .none] }
  dbig : h.objs.size ≤ dx
  dne : dx ≠ x
  ns : h'.Ns1 dx (fun y => if y = "value" then some v else none)
theorem len1 (v : Value) : [v].length ≤ sizeLine := by
  rw [sizeLine_eq]
  exact (by decide : 1 ≤ 16777216)
section
variable {P : Program} {w : World} {A : Around} {E : Value → Shared → Prop} {R : Result → Shared → Prop} {s : Shared} {K : Frag} {mg mb : Str → Option Value} {C D fI cc cda : Addr}
/-- super().__init__(v) -/
theorem call_mw {h : Heap} {g : Array GenState} {d : Drawn} {t : Nat} {os : OsState} {u e t0 : Addr} {us : List Value} {Q : Value → Shared → Prop} {nm q : Str} {N : Addr} {bs bm : List Value} {hdct : Bool} {sn : List Str} {sub : List Value} {ab : Bool} {col : Option Bool} {dd : Option Addr} {k0 k1 k2 k3 k5 : Option Value}
    (hC : h.get? C = some (excClassObj nm q C N bs bm hdct sn sub ab col dd k0 k1 k2 k3 k5 "ValueError.__new__")) (he : h.get? e = some (excO C t0)) (hu : h.get? u = some (kxs_mw "ValueError.__init__" e)) (hl : us.length ≤ sizeLine)
    (hq : ∀ h' t1, (∀ b o, b ≠ e → h.get? b = some o → h'.get? b = some o) → h'.get? e = some (excO C t1) → Q .none ⟨h', g, d, t, os⟩) :
    wpAny (model P w) A (call (.ref u) us) Q E ⟨h, g, d, t, os⟩ := by
  refine wpAny_call (codeAny_of_tree ?_)
  show wpAny _ A.in1 (callAny (.ref u) ⟨us, []⟩) _ _ _
  simp only [callAny]
  refine wpAny_bind (wpAny_load hu ?_)
  simp only [kxs_mw, show (Value.type "method-wrapper" == Value.type "method" || Value.type "method-wrapper" == Value.type "builtin_function_or_method" || Value.type "method-wrapper" == Value.type "method-wrapper") = true by decide, if_true]
  refine KFB.if_so (by decide) ?_
  refine wpAny_bind (check_bound_init PySem.F.excBase_ValueError.toExcCallFacts hC he rfl ?_)
  refine wpAny_bind (wpAny_pure (wpAny_pure ?_))
  refine ⟨plainId_quiet PySem.F.excBase_ValueError.init.plain _, codeAny_builtin PySem.F.excBase_ValueError.initEntry ?_⟩
  exact exc_init_tree (cls := .ref C) (t0 := t0) (dv := none) (c2 := .none) (c3 := .none) (b4 := .bool false) he hl fun h' k e' _ => hq h' _ k e'

theorem lone_init (T : Lone P K mg D fI cc cda C) {x t0 : Addr} {v : Value} (X : K.In s.heap) (Mg : s.heap.Ns mainGlobals mg) (Mb : s.heap.Ns builtinsNs mb) (hb : ∀ x : Str, x ≠ "__name__" → mb x = bootBuiltins x) (hlim : s.heap.NoLimit) (hx : s.heap.get? x = some (excO C t0)) (hnx : K.lookup x = none) (hroom : A.depth < recursionLimit)
    (hq : ∀ h' tk dx t1, InEnd s.heap h' x C dx t1 v → R (.ok (.ret .none)) { s with heap := h', toks := tk }) :
    codeAny (model P w) A (.call (.ref fI) ⟨[.ref x, v], []⟩) R s := by
  obtain ⟨oc, od, doc, pm, an, ct, osl, ho, hcd⟩ := T.fn
  obtain ⟨nm, q, N, bs, bm, sn, sub, ab, col, dd, k0, k1, k2, k3, k5, hC, hbm⟩ := T.cls
  obtain ⟨ccl, cdd, vs, ccs, file, tf, hcode, hvs, hfile⟩ := T.code
  obtain ⟨cl, cld, csl, hcell⟩ := T.cell
  obtain ⟨cdD, hD⟩ := Option.isSome_iff_exists.mp T.hD
  have hcl : clsIn K C = some { name := nm, bases := bs, mro := .ref C :: bm, ns := N, qualname := q, hasDict := true, slotNames := sn, subclasses := sub, abstract := ab, collection := col, hasDel := false } := by unfold clsIn; rw [hC] <;> rfl
  obtain ⟨oD, hD1, hD2⟩ : ∃ oD, K.lookup D = some oD ∧ oD.data = .cls cdD := by
    unfold clsIn at hD
    split at hD
    · rename_i c d cd' sl ho
      cases hD
      exact ⟨_, ho, rfl⟩
    · cases hD
  refine ks_codeAny_call_defAt (fd := ksFn "__init__" "LoneError.__init__" inA inB inS .none .none doc pm an (.ref cda) ct cc) (body := inB) (binds := [("self", .ref x), ("value", v)]) hroom (X _ _ ho) rfl hlim (codeRec_of X hcd) rfl (BindsTo.of_eq (by first | rfl | with_unfolding_all rfl)) (show ∀ x ∈ inS.names, x.2 ≠ .cell by decide) (by
    intro y hy
    rcases List.mem_cons.mp hy with rfl | hy
    · rfl
    · rcases List.mem_cons.mp hy with rfl | hy
      · rfl
      · cases hy) (fun h₁ hn k₁ => ?_)
  have X₁ : K.In h₁ := X.keeps k₁
  have hx₁ := k₁ _ _ hx
  have hxC : x ≠ C := fun z => by rw [z, hC] at hnx; cases hnx
  -- the first statement
  refine ks_wpAt_execs_cons (ks_wpAt_Expr_any (ks_wpAt_MethodCall ?_))
  refine ks_wpAt_super_base (env := ksEnv "LoneError.__init__" inS s.heap.objs.size fI (.ref cda) cc) (by rfl) (by rfl) (by decide) rfl (X₁ _ _ ho) rfl (by rfl) rfl (X₁ _ _ hcode) rfl hvs hfile T.top ?_
  refine ks_loadName_global rfl (by rfl) (loadGlobal_builtin (Mg.keeps k₁) T.msu (Mb.keeps k₁) ((hb _ (by decide +kernel)).trans (show bootBuiltins "super" = some (.type "super") by first | rfl | kernel_rfl)) ⟨rfl, ?_⟩)
  refine wpAny_loadName_free rfl (by rfl) rfl ⟨_, X₁ _ _ hcell, rfl⟩ ?_
  refine wpAny_loadName_local rfl (by rfl) hn (by rfl) ?_
  refine ks_wpAny_isType_cls (X₁ _ _ hD1) hD2 ⟨rfl, ?_⟩
  refine ks_wpAny_call_super (X₁ _ _ hD1) hD2 hx₁ rfl (fun c e => nomatch e) (looks_mroIn X₁ T.lo) (fun h₂ e₂ k₂ => ?_)
  have X₂ : K.In h₂ := X₁.keeps k₂
  have hx₂ := k₂ _ _ hx₁
  have hms := T.sup
  unfold ks_superIn at hms
  rw [hcl] at hms
  have I₂ : InstAt h₂ x (excO C t0) C none := ⟨hx₂, rfl, rfl, trivial⟩
  refine kxs_getMethod kxs_ValueError e₂ (looks_opaque X₂ T.tp) (l₀ := .ref C :: bm) (fun A Q E s k q => wpAny_bind ((looks_clsIn X₂ hcl) A _ E s k (wpAny_pure q))) rfl X₂ hms (I₂.type.andThen (looks_subIn X₂ T.veC)) hxC (by decide) ?_
  have k₃ : ∀ b o, h₂.get? b = some o → (h₂.push (kxs_mw "ValueError.__init__" x)).get? b = some o := fun b o e => Heap.get?_push_of_some _ e
  have hu : (h₂.push (kxs_mw "ValueError.__init__" x)).get? h₂.objs.size = some (kxs_mw "ValueError.__init__" x) := Heap.get?_push_at rfl rfl
  refine kxs_callWith (i := "ValueError.__init__") (x := x) (by rfl) (evalArgs_plain ?_)
  refine Calls.spliced_cons (wpAny_Name (wpAny_loadName_local rfl (by rfl) (hn.keeps fun b o e => k₃ b o (k₂ b o e)) (by rfl) ?_) (by decide))
  refine Calls.spliced_nil ⟨hu, ?_⟩
  refine call_mw (C := C) (t0 := t0) (k₃ _ _ (X₂ _ _ hC)) (k₃ _ _ hx₂) hu (len1 v) fun h₄ t1 k₄ e₄ => ?_
  -- the second
  have k14 : ∀ b o, b ≠ x → h₁.get? b = some o → h₄.get? b = some o := fun b o n e => k₄ b o n (k₃ b o (k₂ b o e))
  have hn₄ : h₄.Ns s.heap.objs.size (fun y => List.lookup y (List.reverse [("self", Value.ref x), ("value", v)])) := by
    obtain ⟨o, es, ep, e, r⟩ := hn
    exact ⟨o, es, ep, k14 _ _ (fun z => by rw [z, hx₁] at e; cases e; obtain ⟨z, _⟩ := r; cases z) e, r⟩
  have X₄ : K.In h₄ := fun b o e => k14 b o (fun z => by rw [z, hnx] at e; cases e) (X₁ b o e)
  refine _root_.PySem.wpAt_of_wpAny (wpAny_execs_cons (plainObj_wpAny_Assign_Attribute ?_))
  refine wpAny_Name (wpAny_loadName_local rfl (by rfl) hn₄ (by rfl) ?_) (by decide)
  refine wpAny_Name (wpAny_loadName_local rfl (by rfl) hn₄ (by rfl) ?_) (by decide)
  refine set_plain X₄ (ox := excO C t1) (od := none) ⟨e₄, rfl, rfl, trivial⟩ T.sa ?_
  refine exc_osa X₄ e₄ hcl (show refsVE (.ref C :: bm) = true from hbm) rfl T.noN (fun h₅ tk₅ dx k₅ dn dne hx₅ hn₅ => ?_)
  have z : s.heap.objs.size < h₄.objs.size := hn₄.lt
  exact wpAny_execs_nil (hq h₅ tk₅ dx t1 ⟨fun b o n e => k₅ b o n (k14 b o n (k₁ b o e)), hx₅, Nat.le_of_lt (Nat.lt_of_lt_of_le z dn), dne, hn₅⟩)
end
end PL
set_option Elab.async false
set_option linter.all false
set_option maxRecDepth 100000
set_option maxHeartbeats 2000000
/-! PL, part 28: an own error made, as an expression's rule; try, except X as e: the error is kept. -/
namespace PL
open PySem PySem.Spec L2
open PyProof.Rows hiding St

/-! ### raise X(e) -/
section
variable {X : Cx} {D fI cc cda C : Addr}
theorem relO_val {v : V} {u : Value} (r : RelV v u) (f : Str) : RelO (List.lookup f [(fldV, v)]) (if f = "value" then some u else none) := by
  have e : ("value" : Str) = fldV := rfl
  rw [e]
  by_cases h : f = fldV
  · subst h
    rw [if_pos rfl]
    have q : List.lookup fldV [(fldV, v)] = some v := by simp [List.lookup]
    rw [q]
    exact r
  · rw [if_neg h]
    have q : (f == fldV) = false := by simpa using h
    have q2 : List.lookup f [(fldV, v)] = none := by simp [List.lookup, q]
    rw [q2]
    trivial
def tMkE (C : Addr) (ta : TA) : L2.St → Hp → XK → Prop := fun σ H Q => ta σ H fun vs H1 => ∃ v, vs = [v] ∧ ∀ d, H1 d = none → Q (.ref C) (some d) (upd H1 d (.xd [(fldV, v)]))
theorem pmk_lone {a : Expr} {ta : TA} {nm : Str} {p pos : Pos} {k : Nat} (T : Lone X.prog X.K X.mg D fI cc cda C) (gC : X.mg nm = some (.ref C)) (hr : Room k X.A) (ha : PA X [a] ta) (hg : Gl X nm)
    (hdb : (nm == ("__debug__" : Str)) = false := by decide) (he : starEach [a] X.env = (false, eval a X.env) :: starEach [] X.env := by rfl) (hpl : (backTo pos (starEach [] X.env)).any (·.1) = false := by rfl) :
    PMk X (.Call (.Name nm p) [a] [] pos) (tMkE C ta) := by
  intro pins s σ H Q I h
  refine wpAny_Call_Name_kw (ld_glob I hg gC ?_ hdb)
  refine PySem.W.callWith_K (h₀ := X.base) I.ok.mod.kin T.kC (thn (ha.run pos pins s σ H _ I h) fun us s1 hh => ?_) he hpl
  obtain ⟨vs, H1, I1, r1, v, ev, q1⟩ := hh
  subst ev
  refine ⟨I1.kIn, ?_⟩
  cases r1 with
  | cons rv rn =>
    rename_i u us'
    cases rn
    show wpAny _ _ (call (.ref C) [u]) _ _ _
    have hlim := I1.nolimit
    have Mg := I1.mod.glob.keeps I1.bk
    obtain ⟨mb, Mb, hb⟩ := I1.mod.blt
    have Mb := Mb.keeps I1.bk
    have X1 := I1.kIn
    obtain ⟨nm', q, N, bs, bm, sn, sub, ab, col, dd, k0, k1, k2, k3, k5, hC, hbm⟩ := T.cls
    obtain ⟨hp, g, dr, tk, os⟩ := s1
    have k : ∀ b o, hp.get? b = some o → ((hp.push (PySem.W.kdv_tup [u])).push (PySem.HandSPX.excO C hp.objs.size)).get? b = some o := fun b o e => Heap.get?_push_of_some _ (Heap.get?_push_of_some _ e)
    have hget : ((hp.push (PySem.W.kdv_tup [u])).push (PySem.HandSPX.excO C hp.objs.size)).get? (hp.objs.size + 1) = some (PySem.HandSPX.excO C hp.objs.size) := by heap_get
    have hnx : X.K.lookup (hp.objs.size + 1) = none := by
      cases e : X.K.lookup (hp.objs.size + 1) with
      | none => rfl
      | some o =>
        have z : hp.get? (hp.objs.size + 1) = some o := X1 _ _ e
        exact absurd (Nat.lt_of_succ_lt (Heap.lt_size z)) (Nat.lt_irrefl _)
    refine wpAny_call (PySem.HandSPX.call_own PySem.F.excBase_ValueError (fun Y => PySem.HandSPX.refsVE_contains Y bm hbm) (X1 _ _ hC) (PySem.W.looks_findIn X1 T.iC) (fun self => PySem.W.bind_fn X1 self T.tC) (len1 u) ?_)
    refine lone_init (s := ⟨(hp.push (PySem.W.kdv_tup [u])).push (PySem.HandSPX.excO C hp.objs.size), g, dr, tk, os⟩) T (X1.keeps k) (Mg.keeps k) (Mb.keeps k) hb (hlim.keeps k) hget hnx (by have := hr.dp; show X.A.depth + 1 < recursionLimit; omega) fun h' tk' dx t1 M => ?_
    obtain ⟨k', hx, dn, dne, hns⟩ := M
    have old : ∀ b o, hp.get? b = some o → h'.get? b = some o := fun b o e => k' b o (Nat.ne_of_lt (Nat.lt_succ_of_lt (Heap.lt_size e))) (k b o e)
    have z : hp.objs.size + 1 + 1 ≤ dx := by
      have q := dn
      rw [Heap.size_push, Heap.size_push] at q
      exact q
    have dbig : hp.objs.size ≤ dx := by omega
    refine ⟨rfl, ?_⟩
    show MkP X pins σ Q (.ref (hp.objs.size + 1)) ⟨h', g, dr, tk', os⟩
    obtain ⟨G', g1, g2⟩ := restrict h' fun b => decide (b ≠ hp.objs.size + 1)
    have gk : ∀ b, b ≠ hp.objs.size + 1 → G'.get? b = h'.get? b := fun b hb => g1 b (decide_eq_true hb)
    have ge : G'.get? (hp.objs.size + 1) = none := g2 _ (by simp)
    have oldG : ∀ b o, hp.get? b = some o → G'.get? b = some o := fun b o q => (gk b (Nat.ne_of_lt (Nat.lt_succ_of_lt (Heap.lt_size q)))).trans (old b o q)
    have ob : ObjOk X.prog X.w (upd H1 dx (.xd [(fldV, v)])) G' dx (.xd [(fldV, v)]) :=
      ⟨_, hns.at (fun o q => (gk dx dne).trans q), fun f => relO_val rv f⟩
    have J : Inv X pins σ (upd H1 dx (.xd [(fldV, v)])) ⟨G', g, dr, tk', os⟩ := I1.laid (t' := tk') oldG dbig ob
    refine ⟨hp.objs.size + 1, _, _, ⟨G', g, dr, tk', os⟩, _, .ref C, some dx, rfl, J, fun b o q => ?_, ge, hx, ⟨rfl, rfl⟩, rfl, rfl, ?_, rfl, I1.bare, raises_own T.exC T.tyC, q1 dx (I1.hok.fresh dbig)⟩
    · by_cases hb : b = hp.objs.size + 1
      · have q' : G'.get? b = some o := q
        rw [hb, ge] at q'; cases q'
      · exact (gk b hb).symm.trans q
    · rw [upd_ne (Ne.symm dne)]
      exact I1.hok.fresh (show hp.objs.size ≤ hp.objs.size + 1 by omega)
end

/-! ### what was not tracked is tracked -/
section
variable {X : Cx} {pins : List (Addr × Obj)} {σ : L2.St} {H : Hp} {s : Shared} {a C dd : Addr} {oe : Obj} {vs : Array Value}
theorem inv_track (I : Inv X pins σ H s) (ho : s.heap.get? a = some oe) (h1 : oe.cls = .ref C) (h2 : oe.dict = some dd) (h3 : oe.data = .fields vs) (na : H a = none) (n0 : X.s_0.heap.get? a = none) (nL : a ≠ X.env.locals) (hp : ∀ p ∈ X.pn ++ pins, p.1 ≠ a) :
    Inv X pins σ (upd H a (xO C dd a)) s := by
  have ne0 : ∀ b o, X.s_0.heap.get? b = some o → b ≠ a := fun b o e z => by rw [z, n0] at e; cases e
  have neH : ∀ b u, H b = some u → b ≠ a := fun b u e z => by rw [z, na] at e; cases e
  refine ⟨I.ok, I.os, I.bare, ⟨I.base.keep, I.base.slot, fun b o e n hx => ?_, I.base.there, fun b xs e => ?_, fun b o u e => ?_, fun b ps e => ?_⟩, I.loc, I.cell, ?_, fun x c e => ?_, fun p q => ?_, fun b u e => ?_, I.len⟩
  · rw [upd_ne (ne0 b o e)]
    exact I.base.free b o e n hx
  · have q := I.base.tups b xs e
    rw [upd_ne (neH b _ q)]
    exact q
  · have q := I.base.frzs b o u e
    rw [upd_ne (neH b _ q)]
    exact q
  · obtain ⟨m, q⟩ := I.base.tbls b ps e
    exact ⟨m, by rw [upd_ne (neH b _ q)]; exact q⟩
  · rw [upd_ne (Ne.symm nL)]
    exact I.free
  · have nc : c ≠ a := fun z => by
      obtain ⟨v, o, e1, e2⟩ := I.cell x c e
      rw [z, ho] at e1
      cases e1
      rw [h3] at e2
      cases e2
    rw [upd_ne nc]
    exact I.freeC x c e
  · obtain ⟨e1, e2, r⟩ := I.pin p q
    exact ⟨e1, by rw [upd_ne (hp p q)]; exact e2, r⟩
  · by_cases hb : b = a
    · subst hb
      rw [upd_same] at e
      cases e
      exact ⟨⟨oe, vs, ho, h1, h2, h3⟩, ⟨oe, ho⟩, fun _ _ ⟨o, v, q, r⟩ k => ⟨o, v, k o q, r⟩⟩
    · rw [upd_ne hb] at e
      exact (I.hok b u e).stay (fun c v _ q => q) (fun c q => by rw [upd_ne (neH c _ q)]; exact q) fun c xs q => by rw [upd_ne (neH c _ q)]; exact q
end
/-- what a clause wishes that keeps the error: n's slot is i -/
def wKp (K : PySem.W.Frag) (c : Value) (i : Nat) (ts : TS) (D : Ends) : WX := fun cls d σ H => ∃ C dd, cls = .ref C ∧ d = some dd ∧ PySem.W.exmOne K cls c = some true ∧
  ∀ a, H a = none → ts { nx := fun σ' H' => D.nx (σ'.set i none) (upd H' a (xO C dd a)), rt := fun _ _ => False, bk := fun _ _ => False, ct := fun _ _ => False } (σ.set i (some (.ref a))) H
section
variable {X : Cx} {x n : Str} {c : Value} {i : Nat} {body suite : List Stmt} {b₀ : Stmt} {np pos pos' : Pos} {tb : WX → TS} {ts : TS}
theorem ps_try_kp (hs : X.stack = X.env :: X.outer) (hf : X.env.frame = some X.env.locals) (hex : X.ex = []) (hN : X.N.Nodup) (hi : X.N[i]? = some n) (hln : X.env.kindOf n = some .local) (hc : Names X x c)
    (hb : ∀ (W : WX) (pn : List (Addr × Obj)) (xe : Value → Shared → Prop), Takes (X.tr pn xe) W → PassesOwn (model X.prog X.w) X.A X.env xe → PSs (X.tr pn xe) body (tb W))
    (hsu : ∀ (a : Addr) (oe : Obj) (pn : List (Addr × Obj)), (∃ vs, oe.data = .fields vs) → PSs (X.suite a ((a, oe) :: pn)) (b₀ :: suite) ts) :
    PS X (.Try body [.ExceptHandler (some (.Name x np)) (some n) (b₀ :: suite) pos'] [] [] pos) (fun D σ H => tb (wKp X.K c i ts D) D σ H) := by
  refine ⟨fun pins s σ H D I h => ?_⟩
  have ok := I.ok
  have hfr : X.A.frames = some (X.env :: X.outer) := by rw [ok.frames, hs]
  refine wpAny_Try_except ?_
  refine wpAny_mono ((hb (wKp X.K c i ts D) (X.pn ++ pins) (fun e s₁ => wpAny (model X.prog X.w) X.A (noteFrame e X.env) (fun _ s₂ => wpAny (model X.prog X.w) X.A (setFlight e none) (fun _ s₃ =>
    wpAny (model X.prog X.w) X.A (handleBy e X.env [.ExceptHandler (some (.Name x np)) (some n) (b₀ :: suite) pos']) (SP X pins D) X.xe s₃) X.xe s₂) X.xe s₁) (fun u s' xx => ?_) PassesOwn.looking).run [] s σ H D (I.toTry _) h) (fun f s1 hsp => ?_) (fun e s1 he => he)
  · obtain ⟨a, B, sI, pins', σ', H', cls, d, rfl, J', nb, up, sky, na, os, ag, C, dd, rfl, rfl, hb1, hyes⟩ := xx
    have J : Inv X pins σ' H' sI := J'.ofTry ok
    have sky' : Sky B (X.env :: X.outer) a (Zc (.ref C) (some dd)) X.env.locals s'.heap := by rw [← hs]; exact sky
    show wpAny (model X.prog X.w) X.A (noteFrame (.ref a) X.env) _ _ _
    refine Sky.land Zc.steady hfr hf sky' fun h3 fl3 up3 => ?_
    have J3 : Inv X pins σ' H' { s' with heap := h3 } := J.landed nb fl3.1 (up.trans up3) os ag
    obtain ⟨oe3, vs3, he3, hz3, hd3⟩ := fl3.there
    have nfr : a ∉ frs (X.env :: X.outer) := fun hm => by
      obtain ⟨_, o', e', hnf⟩ := fl3.2.2.1.mem hm
      rw [he3] at e'; cases e'
      exact hnf _ hd3
    have nL : a ≠ X.env.locals := fun z => nfr (List.mem_filterMap.mpr ⟨X.env, List.mem_cons_self, by rw [hf, z]⟩)
    have nF : a ∉ X.fs := fun hm => by
      obtain ⟨e, he, q⟩ := List.mem_filterMap.mp hm
      exact nfr (List.mem_filterMap.mpr ⟨e, List.mem_cons_of_mem _ he, q⟩)
    have nB : B.get? a = none := fl3.2.1
    have notI : ∀ o, sI.heap.get? a ≠ some o := fun o e => by
      have q := nb a o e (by rw [hs]; exact nfr)
      rw [nB] at q
      cases q
    have n0 : X.s_0.heap.get? a = none := by
      cases e : X.s_0.heap.get? a with
      | none => rfl
      | some o =>
        obtain ⟨o', e'⟩ := J.base.there a o e (by rw [hex]; exact fun z => nomatch z)
        exact absurd e' (notI o')
    have hpn : ∀ p ∈ X.pn ++ pins, p.1 ≠ a := fun p hp z => by
      have e := (J.pin p hp).1
      rw [z] at e
      exact notI _ e
    have S3 := J3.suite he3 hd3 na nL nF
    refine wpAny_handleBy_cons (codeAny_handlers_test ?_) (by intro q; cases q)
    have LT : PySem.W.Looks (model X.prog X.w) h3 (typeOf (.ref a)) (.ref C) := fun A Q E s k q => wpAny_typeOf_ref (k _ _ he3) (by rw [hz3.1]; exact q)
    have LM := PySem.W.exm_one (M := model X.prog X.w) (J3.kIn) LT hb1
    have test : ∀ {Q : Value → Shared → Prop} {E : Value → Shared → Prop}, Q c { s' with heap := h3 } → wpAny (model X.prog X.w) (X.A.mark (some (.ref a))) (eval (.Name x np) X.env) Q E { s' with heap := h3 } := fun {Q E} q => by
      obtain ⟨hg, hdbg, hm | ⟨hm, hv, hnn⟩⟩ := hc
      · exact ld_glob (X := X.suite a ((a, oe3) :: (X.pn ++ pins))) S3 hg hm q hdbg
      · exact ld_blt (X := X.suite a ((a, oe3) :: (X.pn ++ pins))) S3 hg hm hv q hnn hdbg
    refine test (LM.here ?_)
    refine codeAny_handlers_suite_as ?_
    refine HandSPX.lands_againZ fl3 fun h4 fl4 up4 => ?_
    have J4 : Inv X pins σ' H' { s' with heap := h4 } := J.landed nb fl4.1 ((up.trans up3).trans up4) os ag
    obtain ⟨oe4, vs4, he4, hz4, hd4⟩ := fl4.there
    have S4 := J4.suite he4 hd4 na nL nF
    refine store_ok (X := X.suite a ((a, oe4) :: (X.pn ++ pins))) (v := .ref a) S4 hN hi (.inl hln) rfl (fun s5 S5 => ?_) (.inr hln)
    refine wpAny_mono ((hsu a oe4 (X.pn ++ pins) ⟨_, hd4⟩).run [] s5 _ H' _ S5 (hyes a na)) (fun f s6 hsp => ?_) (fun _ _ z => False.elim z)
    cases f with
    | next =>
      obtain ⟨σ6, H6, S6, q6⟩ := hsp
      refine gone_ok (X := X.suite a ((a, oe4) :: (X.pn ++ pins))) S6 hN hi hln fun s7 S7 => ?_
      obtain ⟨p1, p2, _⟩ := S7.pin (a, oe4) (List.mem_append_left _ List.mem_cons_self)
      exact ⟨_, _, inv_track (S7.unsuite ok) p1 hz4.1 hz4.2 hd4 p2 n0 nL hpn, q6⟩
    | brk => obtain ⟨_, _, _, q⟩ := hsp; exact q.elim
    | cont => obtain ⟨_, _, _, q⟩ := hsp; exact q.elim
    | ret u => obtain ⟨_, _, _, _, _, q⟩ := hsp; exact q.elim
  · cases f with
    | next =>
      obtain ⟨σ', H', J', q⟩ := hsp
      exact wpAny_execs_nil ⟨σ', H', J'.ofTry ok, q⟩
    | brk =>
      obtain ⟨σ', H', J', q⟩ := hsp
      exact ⟨σ', H', J'.ofTry ok, q⟩
    | cont =>
      obtain ⟨σ', H', J', q⟩ := hsp
      exact ⟨σ', H', J'.ofTry ok, q⟩
    | ret u =>
      obtain ⟨v, σ', H', J', r, q⟩ := hsp
      exact ⟨v, σ', H', J'.ofTry ok, r, q⟩
end
end PL
set_option Elab.async false
set_option linter.all false
set_option maxRecDepth 100000
set_option maxHeartbeats 2000000
/-! PL, part 29: raise, try, error.value, isinstance of own classes. -/
namespace PL
open PySem PySem.Spec L2
open PyProof.Rows hiding St

/-- what the written part says of all error classes -/
structure Errs (P : Program) (K : PySem.W.Frag) (mg : Str → Option Value) (par : Nat → Option Nat) (cl : Nat → Addr) (D fI cc cda : Addr) : Prop where
  lone : ∀ k, okc par k = true → Lone P K mg D fI cc cda (cl k)
  exm : ∀ k c, okc par k = true → okc par c = true → isTy.anc par 8 k c = true → PySem.W.exmOne K (.ref (cl k)) (.ref (cl c)) = some true
  kit : ∀ k c, okc par k = true → okc par c = true → PySem.W.kitOne K (.ref (cl k)) (.ref (cl c)) = some (isTy.anc par 8 k c)
  kitN : ∀ c, okc par c = true → PySem.W.kitOne K (.type "NoneType") (.ref (cl c)) = some false
  ha : ∀ k, okc par k = true → PySem.W.findIn K (.ref (cl k)) "__class__" = some (some (.builtin "object.__class__"))
  hn : PySem.W.specialIn K (.builtin "object.__class__") "__get__" = some (some (.builtin "getset_descriptor.__get__"))
  ht : PySem.W.takesIn K (.builtin "object.__class__") = some true
  hm : ∀ k, okc par k = true → PySem.W.mroIn K (cl k) (.type "object") = some true
theorem Lone.xf {P : Program} {K : PySem.W.Frag} {mg : Str → Option Value} {D fI cc cda C : Addr} (T : Lone P K mg D fI cc cda C) : XfC K C := ⟨T.ga, T.gg, T.exC, T.hdC⟩

section
variable {R : Rc} {C : Ctx} {W : WX} {σ0 σ : L2.St} {D : Ends} {S S1 H H1 : Hp} {env env1 : Env} {c c1 f cr q : Cn} {Q : VK} {e : E}
theorem tS_raise {k : Nat} (h : tS R C W σ0 (.raise k e) D σ H) : tMkE (R.cl k) (tVs R C W [e]) σ H fun cls d H' => W cls d σ H' := by
  obtain ⟨S, env, c, f, G, p, h⟩ := h
  simp only [ex] at h
  refine ⟨S, env, c, f, G, ?_⟩
  show AfterL R W _ S H σ f ((ev C e env).bind fun d env => (O.ok [] env).bind fun ds env => .ok (d :: ds) env)
  cases x : ev C e env with
  | st => rw [x] at h; exact h.elim
  | exc k' dv env' =>
    rw [x] at h
    exact fun S' H' c' dd E' G' t => h S' H' σ c' dd E' p G' t
  | ok d env1 =>
    rw [x] at h
    intro S1 H1 c1 vs cr E1 G1 r1
    obtain ⟨v, rfl, rv⟩ := rl1 r1
    refine ⟨v, rfl, fun dd hd => ?_⟩
    obtain ⟨G2, s2⟩ := G1.give
    have rf : Rep R (give cr S1 H1) H1 (fz d) v z0 := rv.fz s2 d fun a o n ea => by
      unfold PL.give
      rw [if_neg n]; exact ea
    have G3 : Good R (give cr S1 H1) (upd H1 dd (.xd [(fldV, v)])) σ env1 c1 (pl z0 f) := Good.after (cr := z0) (by rw [z_pl]; exact G2) (.upd hd) .z fun a n => absurd rfl n
    rw [z_pl] at G3
    exact h _ _ σ c1 dd (E1.trans0 (.more (fun a o e => New.upd hd a o e) s2)) p G3 ⟨v, upd_same, rf.new (.upd hd)⟩
/-- a forgotten slot -/
theorem RepE.forget {i : Nat} {y : Option V} (h : RepE R S H env σ c) (n : get env i = none) : RepE R S H env (σ.set i y) c := by
  obtain ⟨hl, cs, hs, e⟩ := RepE.iff.mp h
  refine RepE.iff.mpr ⟨by rw [List.length_set]; exact hl, cs, fun j hj => ?_, e⟩
  have q := hs j hj
  by_cases z : j = i
  · subst z
    rw [n] at q ⊢
    exact q
  · rw [List.getElem?_set_ne (Ne.symm z)]
    exact q
theorem tS_try {b : List Stm} {k n dst : Nat} (hx : ∀ j, okc C.par j = true → isTy.anc C.par 8 j k = true → PySem.W.exmOne R.K (.ref (R.cl j)) (.ref (R.cl k)) = some true) (h : tS R C W σ0 (.try_ b k n dst) D σ H) :
    tSs R C (wKp R.K (.ref (R.cl k)) n (tAsg (tVar n) (gName dst)) D) σ0 b D σ H := by
  obtain ⟨S, env, c, f, G, p, h⟩ := h
  refine ⟨S, env, c, f, G, p, ?_⟩
  simp only [ex] at h
  cases x : exs C b env with
  | st => rw [x] at h; exact h.elim
  | ok fl env' =>
    rw [x] at h
    cases fl <;> exact h
  | exc j dv env' =>
    rw [x] at h
    simp only at h
    split at h
    · rename_i hc
      simp only [Bool.and_eq_true, decide_eq_true_eq, Bool.not_eq_true'] at hc
      obtain ⟨⟨⟨⟨⟨⟨o1, o2⟩, o3⟩, o4⟩, o5⟩, o6⟩, o7⟩ := hc
      intro S' H' σ' c' dd E' p' G' t
      refine ⟨R.cl j, dd, rfl, rfl, hx j o1 o2, fun a na => ?_⟩
      obtain ⟨v, hd, rv⟩ := t
      have hl : σ'.length = env'.length := (G'.env.length).symm
      refine ⟨.ref a, List.getElem?_set_self (by rw [hl]; exact o6), ?_⟩
      show D.nx ((((σ'.set n (some (.ref a))).set dst (some (.ref a))).set n none)) (upd H' a (xO (R.cl j) dd a))
      -- the heaps
      have nad : a ≠ dd := fun z => by rw [z, hd] at na; cases na
      have hS : ∀ b o, S' b = some o → upd (upd S' dd (.xd [(fldV, v)])) a (xO (R.cl j) dd a) b = some o := fun b o e => by
        have e' := G'.sub b o e
        rw [upd_ne (fun z => by rw [z, na] at e'; cases e')]
        by_cases z : b = dd
        · rw [z] at e' ⊢
          rw [upd_same]
          rw [hd] at e'
          exact e'
        · rw [upd_ne z]; exact e
      have hH : New H' (upd H' a (xO (R.cl j) dd a)) := New.upd na
      have cd0 : ∀ (q : Cn), (∀ a, q a ≠ 0 → ∃ o, H' a = some o ∧ Mu o) → q dd = 0 := fun q hq => by
        by_cases z : q dd = 0
        · exact z
        · obtain ⟨o, e, m⟩ := hq dd z
          rw [hd] at e
          cases e
          exact m.elim
      have Sdd : upd (upd S' dd (.xd [(fldV, v)])) a (xO (R.cl j) dd a) dd = some (.xd [(fldV, v)]) := by rw [upd_ne (Ne.symm nad), upd_same]
      have rx : Rep R (upd (upd S' dd (.xd [(fldV, v)])) a (xO (R.cl j) dd a)) (upd H' a (xO (R.cl j) dd a)) (.exn j dv) (.ref a) z0 :=
        ⟨a, dd, v, rfl, upd_same, Sdd, rv.mono hS (fun b o e _ => hH b o e) dv fun b o e _ => hH b o e, rfl⟩
      have r1 : RepE R (upd (upd S' dd (.xd [(fldV, v)])) a (xO (R.cl j) dd a)) (upd H' a (xO (R.cl j) dd a)) env' σ' c' := G'.env.mono hS (fun b o e _ => hH b o e) fun b o e _ => hH b o e
      obtain ⟨c2, r2, l2⟩ := r1.drop n
      obtain ⟨c3, r3, l3⟩ := r2.put rx (i := dst) (by rw [List.length_set]; exact o7)
      rw [z_pl] at r3
      have gn : get ((env'.set n none).set dst (some (.exn j dv))) n = none := by
        rw [get_set_ne (Ne.symm o5)]
        exact get_set_self o6
      have r4 := r3.forget (i := n) (y := (none : Option V)) gn
      have es : ((σ'.set n (some (.ref a))).set dst (some (.ref a))).set n none = (σ'.set dst (some (.ref a))).set n none := by
        refine List.ext_getElem? fun m => ?_
        by_cases z : m = n
        · subst z
          rw [List.getElem?_set_self (by simp [hl, o6]), List.getElem?_set_self (by simp [hl, o6])]
        · rw [List.getElem?_set_ne (Ne.symm z), List.getElem?_set_ne (Ne.symm z)]
          by_cases y : m = dst
          · subst y
            rw [List.getElem?_set_self (by simp [hl, o7]), List.getElem?_set_self (by simp [hl, o7])]
          · rw [List.getElem?_set_ne (Ne.symm y), List.getElem?_set_ne (Ne.symm y), List.getElem?_set_ne (Ne.symm z)]
      rw [es]
      refine h _ _ _ c3 ⟨fun b o e => hS b o (E'.sub b o e), fun b o e n => hH b o (E'.keep b o e n), fun b o e n => hH b o (E'.imm b o e n)⟩ ?_ ⟨r4, fun b o e => ?_, fun b => ?_, fun b nb => ?_⟩
      · refine (p'.set (v := some (.ref a)) o4).set (by simpa using o3)
      · by_cases z : b = a
        · subst z
          rw [upd_same] at e ⊢
          exact e
        · rw [upd_ne z] at e ⊢
          by_cases y : b = dd
          · subst y
            rw [upd_same] at e
            rw [hd]; exact e
          · rw [upd_ne y] at e
            exact G'.sub b o e
      · have d1 := G'.dis b
        have d2 := l2 b
        have d3 := l3 b
        by_cases z : b = a
        · subst z
          have q1 := G'.noC na
          have q2 := G'.noF na
          have q3 := occ_le (upd (upd S' dd (.xd [(fldV, v)])) b (xO (R.cl j) dd b)) b
          omega
        · by_cases y : b = dd
          · subst y
            have q1 := cd0 c' G'.env.mu
            have q2 := cd0 f G'.fr
            have q3 := occ_le (upd (upd S' b (.xd [(fldV, v)])) a (xO (R.cl j) b a)) b
            omega
          · have q : occ (upd (upd S' dd (.xd [(fldV, v)])) a (xO (R.cl j) dd a)) b = occ S' b := occ_congr (by rw [upd_ne z, upd_ne y])
            rw [q]
            omega
      · obtain ⟨o, e, m⟩ := G'.fr b nb
        exact ⟨o, hH b o e, m⟩
    · exact h.elim
/-! ### error.value, isinstance -/
def rFld (K : PySem.W.Frag) (x : V) (H : Hp) (Q : VK) : Prop := ∃ a k dd v, x = .ref a ∧ H a = some (xO k dd a) ∧ XfC K k ∧ PySem.W.findIn K (.ref k) "value" = some none ∧ H dd = some (.xd [(fldV, v)]) ∧ Q v H
theorem ok_fld {P : Program} {mg : Str → Option Value} {pr : Nat → Option Nat} {D fI cc cda : Addr} (L : ∀ k, okc pr k = true → Lone P R.K mg D fI cc cda (R.cl k)) {ds : List Dt} {vs : List V} {d : Dt} (hS : ∀ a o, S a = some o → H a = some o) (hr : RepL R S H ds vs cr) (hp : prim pr .fld ds = some d)
    (k : ∀ v, Rep R S H d v z0 → Q v H) : ∃ x, vs = [x] ∧ rFld R.K x H Q := by
  change p_fld pr ds = some d at hp
  unfold p_fld at hp
  split at hp
  · split at hp
    · rename_i ho
      obtain ⟨x, rfl, h1⟩ := rl1 hr
      obtain rfl := Option.some.inj hp
      obtain ⟨a, dd, y, rfl, e1, e2, r, rfl⟩ := h1
      exact ⟨_, rfl, a, _, dd, y, rfl, hS _ _ e1, (L _ ho).xf, (L _ ho).noN, hS _ _ e2, k y r⟩
    · cases hp
  · cases hp
end
end PL
set_option Elab.async false
set_option linter.all false
set_option maxRecDepth 100000
set_option maxHeartbeats 2000000
/-! PL, part 30: errors, by form. -/
namespace PL
open PySem PySem.Spec L2
open PyProof.Rows hiding St

section
variable {X : Cx} {T : Tags} {C : Ctx} {W : WX} {σ0 : L2.St} {x y : Expr} {e a : E} {pos p pos2 : Pos} {par : Nat → Option Nat} {D fI cc cda : Addr} {nm : Str}
/-- a primitive that asks for the classes of this program -/
theorem tV_prW {R : Rc} {σ : L2.St} {H : Hp} {Q : VK} {es : List E} {pr : P} {r : List V → Hp → VK → Prop}
    (ok : ∀ (S H : Hp) (ds : List Dt) (vs : List V) (cr : Cn) (d : Dt) (Q : VK), (∀ a o, S a = some o → H a = some o) → RepL R S H ds vs cr → prim C.par pr ds = some d → (∀ v, Rep R S H d v z0 → Q v H) → r vs H Q)
    (h : tV R C W (.pr pr es) σ H Q) : tVs R C W es σ H fun vs H1 => r vs H1 Q := by
  obtain ⟨S, env, c, f, G, h⟩ := h
  simp only [ev] at h
  refine ⟨S, env, c, f, G, ?_⟩
  cases x : evs C es env with
  | st => rw [x] at h; exact h
  | exc k dv env' => rw [x] at h; exact h
  | ok ds env1 =>
    rw [x] at h
    intro S1 H1 c1 vs cr E1 G1 r1
    have h : AfterV R W Q S H σ f (O.lift (prim C.par pr ds) env1) := h
    cases y : prim C.par pr ds with
    | none => rw [y] at h; exact h.elim
    | some d =>
      rw [y] at h
      refine ok S1 H1 ds vs cr d Q G1.sub r1 y fun v hr => ?_
      exact h S1 H1 c1 v z0 E1 (by rw [z_pl]; exact G1.lessF fun a => by rw [pl_at]; omega) hr
/-- error.value -/
theorem pe_valO {te : TE} (he : PE X x te) (hb : attributeBase x "value" X.env (eval x X.env) = eval x X.env := by rfl) :
    PE X (.Attribute x "value" pos) (fun σ H Q => te σ H fun v H1 => rFld X.K v H1 Q) := by
  refine ⟨fun pins s σ H Q I h => attr_of hb (thn (he.run pins s σ H _ I h) fun u s1 hh => ?_)⟩
  obtain ⟨v, H1, I1, rx, a, k, dd, w, rfl, ha, xf, no, hd, q⟩ := hh
  cases (show u = Value.ref a from rx)
  obtain ⟨⟨oe, vs, e1, e2, e3, e4⟩, _, _⟩ := (show ObjOk X.prog X.w H1 s1.heap a (xO k dd a) from I1.hok a _ ha)
  have hx : ObjOk X.prog X.w H1 s1.heap dd (.xd [(fldV, w)]) := I1.hok dd _ hd
  obtain ⟨mA, hns, hr⟩ := hx
  obtain ⟨od, ho, hl⟩ := lookIn_ns hns
  have q0 := hr "value"
  have e0 : List.lookup ("value" : Str) [(fldV, w)] = some w := by
    show List.lookup fldV [(fldV, w)] = some w
    simp [List.lookup]
  rw [e0] at q0
  obtain ⟨u, hu, ru⟩ := RelO.some_of (v := w) (o := mA "value") q0
  have J : PySem.W.InstAt s1.heap a oe k (some od) := ⟨e1, e2, by unfold PySem.W.notCls; rw [e4] <;> rfl, by rw [e3]; exact ho⟩
  exact HandSPX.exc_get I1.kIn J xf.ga xf.gg xf.exC (PySem.W.findObj_own xf.hdC no rfl (by rw [hl, hu])) (handed_of ru) ⟨w, H1, I1.tok _, ru, q⟩
theorem pe_fldV (L : Errs X.prog X.K X.mg par T.cl D fI cc cda) (hp : C.par = par) (h : PE X x (tV (rc X T) C W a)) (hb : attributeBase x "value" X.env (eval x X.env) = eval x X.env := by rfl) :
    PE X (.Attribute x "value" pos) (tV (rc X T) C W (.pr .fld [a])) :=
  pe_imp (pe_valO h hb) fun σ H Q q => tV_mono (tVs1 (tV_prW (r := fun vs H Q => ∃ x, vs = [x] ∧ rFld X.K x H Q) (fun S H ds vs cr d Q hS hr hq k => ok_fld (R := rc X T) (pr := C.par) (fun j hj => L.lone j (by rw [← hp]; exact hj)) hS hr hq k) q)) fun v H1 ⟨u, e, q⟩ => by
    cases e
    exact q
/-! ### isinstance of an own class -/
def rIsO (K : PySem.W.Frag) : RC := fun xs H Q => ∃ (v c : V) (t u : Value) (b : Bool), xs = [v, c] ∧ ClsV c u ∧ PySem.W.kitOne K t u = some b ∧ Q (.bl b) H ∧
  ((v = .non ∧ t = .type "NoneType") ∨ ∃ a k dd fs, v = .ref a ∧ t = .ref k ∧ H a = some (xO k dd a) ∧ H dd = some (.xd fs) ∧ XfC K k ∧ (PySem.W.clsIn K k).isSome = true ∧ PySem.W.findIn K (.ref k) "__class__" = some (some (.builtin "object.__class__")) ∧
    PySem.W.specialIn K (.builtin "object.__class__") "__get__" = some (some (.builtin "getset_descriptor.__get__")) ∧ PySem.W.takesIn K (.builtin "object.__class__") = some true ∧ PySem.W.mroIn K k (.type "object") = some true)
theorem cr_isO : CallR X (.builtin "isinstance") (rIsO X.K) := by
  intro pins s σ H xs us Q I r h
  obtain ⟨v, c, t, u, b, rfl, k, e, q, h⟩ := h
  obtain ⟨u1, u2, rfl, r1, r2⟩ := vals2 r
  have e2 := k.eq r2
  subst e2
  rcases h with ⟨rfl, rfl⟩ | ⟨a, k, dd, fs, rfl, rfl, ha, hd, xf, hcl, hca, hn, ht, hm⟩
  · cases (show u1 = Value.none from r1)
    exact PySem.W.kia_one PySem.W.kitx_none I.kIn True.intro e (fun z => nomatch z) fun tk => ⟨.bl b, H, I.tok tk, rfl, q⟩
  · cases (show u1 = Value.ref a from r1)
    obtain ⟨⟨oe, vs, e1, e2, e3, e4⟩, _, _⟩ := (show ObjOk X.prog X.w H s.heap a (xO k dd a) from I.hok a _ ha)
    have hx : ObjOk X.prog X.w H s.heap dd (.xd fs) := I.hok dd _ hd
    obtain ⟨mA, hns, hr⟩ := hx
    obtain ⟨od, ho, hl⟩ := lookIn_ns hns
    have J : PySem.W.InstAt s.heap a oe k (some od) := ⟨e1, e2, by unfold PySem.W.notCls; rw [e4] <;> rfl, by rw [e3]; exact ho⟩
    exact PySem.W.kia_one (PySem.W.kitx_exc hcl xf.ga xf.gg xf.exC hca hn ht hm) I.kIn J e (fun z => nomatch z) fun tk => ⟨.bl b, H, I.tok tk, rfl, q⟩
theorem hasDict_cls {K : PySem.W.Frag} {D : Addr} (h : PySem.W.hasDictIn K D = true) : (PySem.W.clsIn K D).isSome = true := by
  obtain ⟨cd, hc, _⟩ := PySem.W.any_some h
  rw [hc]; rfl
theorem ok_instO {P : Program} {mg : Str → Option Value} {pr : Nat → Option Nat} {R : Rc} {D fI cc cda : Addr} {c : Nat} (L : Errs P R.K mg pr R.cl D fI cc cda) {S H : Hp} {cr : Cn} {Q : VK} {ds : List Dt} {vs : List V} {d : Dt} (hS : ∀ a o, S a = some o → H a = some o) (hr : RepL R S H ds vs cr) (hp : prim pr (.instO c) ds = some d)
    (k : ∀ v, Rep R S H d v z0 → Q v H) : ∃ x, vs = [x] ∧ rIsO R.K [x, .ref (R.cl c)] H Q := by
  change p_instO pr c ds = some d at hp
  unfold p_instO at hp
  split at hp
  · split at hp
    · rename_i k' _ ho
      rw [Bool.and_eq_true] at ho
      obtain ⟨x, rfl, h1⟩ := rl1 hr
      obtain rfl := Option.some.inj hp
      obtain ⟨a, dd, y, rfl, e1, e2, r, rfl⟩ := h1
      have l := L.lone k' ho.1
      exact ⟨_, rfl, _, _, .ref (R.cl k'), _, _, rfl, .own _, L.kit k' c ho.1 ho.2, k _ ⟨rfl, rfl⟩, .inr ⟨a, _, dd, _, rfl, rfl, hS _ _ e1, hS _ _ e2, l.xf, hasDict_cls l.hdC, L.ha k' ho.1, L.hn, L.ht, L.hm k' ho.1⟩⟩
    · cases hp
  · split at hp
    · rename_i ho
      obtain ⟨x, rfl, h1⟩ := rl1 hr
      obtain rfl := Option.some.inj hp
      obtain ⟨rfl, _⟩ := h1
      exact ⟨_, rfl, _, _, .type "NoneType", _, _, rfl, .own _, L.kitN c ho, k _ ⟨rfl, rfl⟩, .inl ⟨rfl, rfl⟩⟩
    · cases hp
  · cases hp
theorem pe_instOV {c : Nat} {cn : Str} (L : Errs X.prog X.K X.mg par T.cl D fI cc cda) (hp : C.par = par) (hg : Gl X nm) (hm : X.mg nm = none) (hv : bootBuiltins nm = some (.builtin "isinstance")) (ha : PE X x (tV (rc X T) C W a)) (hgc : Gl X cn) (hmc : X.mg cn = some (.ref (T.cl c))) (hn : nm ≠ "__name__" := by decide) (hdb : (nm == ("__debug__" : Str)) = false := by decide) (hdc : (cn == ("__debug__" : Str)) = false := by decide)
    (hs : starEach [x, .Name cn pos2] X.env = (false, eval x X.env) :: starEach [.Name cn pos2] X.env := by rfl) (hs2 : starEach [.Name cn pos2] X.env = (false, eval (.Name cn pos2) X.env) :: starEach [] X.env := by rfl) (hpl : (backTo pos (starEach [.Name cn pos2] X.env)).any (·.1) = false := by rfl) :
    PE X (.Call (.Name nm p) [x, .Name cn pos2] [] pos) (tV (rc X T) C W (.pr (.instO c) [a])) :=
  pe_imp (pe_callB cr_isO hg hm hv (pa_cons ha (pa_cons (pe_glob (v := .ref (T.cl c)) hgc hmc rfl hdc) pa_nil hs2) hs) hn hdb hs hpl) fun σ H Q q => tV_mono (tVs1 (tV_prW (r := fun vs H Q => ∃ x, vs = [x] ∧ rIsO X.K [x, .ref (T.cl c)] H Q) (fun S H ds vs cr d Q hS hr hq k => by
    rw [hp] at hq
    exact ok_instO (R := rc X T) L hS hr hq k) q)) fun u H1 ⟨w, e, q⟩ => by
    cases e
    exact q
/-! ### raise, try -/
theorem ps_raiseV {k c : Nat} (hc : X.calm = true) (L : Errs X.prog X.K X.mg par T.cl D fI cc cda) (ho : okc par c = true) (gC : X.mg nm = some (.ref (T.cl c))) (hr : Room k X.A) (tk : Takes X W) (hg : Gl X nm) (ha : PE X x (tV (rc X T) C W e))
    (hdb : (nm == ("__debug__" : Str)) = false := by decide) (he : starEach [x] X.env = (false, eval x X.env) :: starEach [] X.env := by rfl) (hpl : (backTo pos (starEach [] X.env)).any (·.1) = false := by rfl) :
    PS X (.Raise (some (.Call (.Name nm p) [x] [] pos)) none pos2) (tS (rc X T) C W σ0 (.raise c e)) :=
  ps_imp (ps_raise hc tk (pmk_lone (L.lone c ho) gC hr (pa_consV ha pa_nilV he) hg hdb he hpl)) fun _ _ _ q => tS_raise q
theorem ps_tryV {k n dst : Nat} {nn nd : Str} {body : List Stmt} {bs : List Stm} {p1 p2 p3 p4 : Pos} (hs : X.stack = X.env :: X.outer) (hf : X.env.frame = some X.env.locals) (hex : X.ex = []) (hN : X.N.Nodup) (hi : X.N[n]? = some nn) (hln : X.env.kindOf nn = some .local) (hj : X.N[dst]? = some nd)
    (hld : Loc X.env.scope nd) (hfd : X.fn nd = true ∨ X.env.scope.names.lookup nd = some .local) (L : Errs X.prog X.K X.mg par T.cl D fI cc cda) (hp : C.par = par) (ho : okc par k = true) (hg : Gl X nm) (gC : X.mg nm = some (.ref (T.cl k)))
    (hb : ∀ (W : WX) (pn : List (Addr × Obj)) (xe : Value → Shared → Prop), Takes (X.tr pn xe) W → PassesOwn (model X.prog X.w) X.A X.env xe → PSs (X.tr pn xe) body (tSs (rc X T) C W σ0 bs)) (hdb : (nm == ("__debug__" : Str)) = false := by decide) (hd1 : (nn == ("__debug__" : Str)) = false := by decide) (hd2 : (nn == ("__classdict__" : Str)) = false := by decide) :
    PS X (.Try body [.ExceptHandler (some (.Name nm p)) (some nn) [.Assign [.Name nd p1] (.Name nn p2) p3] p4] [] [] pos) (tS (rc X T) C W σ0 (.try_ bs k n dst)) :=
  ps_imp (ps_try_kp hs hf hex hN hi hln ⟨hg, hdb, .inl gC⟩ hb fun a oe pn hv => pss_cons (ps_asg (pe_var (X := X.suite a ((a, oe) :: pn)) hi (.inl hln) hd1 hd2) (pg_name (X := X.suite a ((a, oe) :: pn)) hN hj hld hfd)) pss_nil) fun _ _ _ q =>
    tS_try (fun j hj hk => by rw [hp] at hj hk; exact L.exm j k hj ho hk) q
end
end PL
set_option Elab.async false
set_option linter.all false
set_option maxRecDepth 100000
set_option maxHeartbeats 2000000
/-! PL, part 31: repr. -/
namespace PL
open PySem PySem.Spec L2
open PyProof.Rows hiding St

theorem plain_repr : ∀ c, c < 127 → plainSign c = true → Builtin.Str.reprChar 39 c = [c] := by decide +kernel
theorem plainSign_lt {c : Nat} (h : plainSign c = true) : c < 127 ∧ c ≠ 39 := by
  unfold plainSign at h
  simp only [Bool.and_eq_true, decide_eq_true_eq, bne_iff_ne] at h
  exact ⟨h.1.1.2, h.1.2⟩
theorem fold_plain : ∀ (s : List Nat) (acc : Array Nat), s.all plainSign = true → (s.foldl (fun out c => out ++ (Builtin.Str.reprChar 39 c).toArray) acc).toList = acc.toList ++ s
  | [], acc, _ => by simp
  | c :: s, acc, h => by
    rw [List.all_cons, Bool.and_eq_true] at h
    rw [List.foldl_cons, fold_plain s _ h.2, plain_repr c (plainSign_lt h.1).1 h.1]
    simp
theorem quote_plain {s : List Nat} (h : s.all plainSign = true) : reprQuote (mkS s) = 39 := by
  have e : (mkS s).cps.contains 39 = false := by
    rw [← Array.contains_toList, ofS]
    refine Bool.eq_false_iff.mpr fun z => ?_
    have m : 39 ∈ s := by simpa using z
    exact (plainSign_lt (List.all_eq_true.mp h _ m)).2 rfl
  unfold reprQuote
  rw [e]
  rfl
theorem text_plain {s : List Nat} (h : s.all plainSign = true) : reprText (mkS s) = mkS (39 :: s ++ [39]) := by
  refine TL.ext_tl ?_
  unfold reprText
  rw [quote_plain h]
  show ((Array.foldl _ #[39] (mkS s).cps).push 39).toList = _
  rw [Array.toList_push, ← Array.foldl_toList, ofS, fold_plain s _ h]
  exact (ofS _).symm
/-- texts glued by ", " -/
def glue : List (List Nat) → List Nat
  | [] => []
  | [a] => a
  | a :: b :: r => a ++ [44, 32] ++ glue (b :: r)
theorem glue_comma (a : List Nat) (r : List (List Nat)) : glue (a :: r) = comma a r.isEmpty ++ glue r := by
  cases r with
  | nil => simp [glue, comma]
  | cons b r => simp [glue, comma]
theorem tl_from : ∀ (ts : List Str) (k : Nat) (acc : Str), TL.tl (textFrom (k + 1) acc ts) = TL.tl acc ++ (ts.map fun t => [44, 32] ++ TL.tl t).flatten
  | [], k, acc => by simp [textFrom]
  | t :: ts, k, acc => by
    show TL.tl (textFrom (k + 1 + 1) (acc ++ (if k + 1 > 0 then ", " else "" : String) ++ t) ts) = _
    rw [tl_from ts (k + 1), if_pos (Nat.succ_pos k), TL.tl_append, TL.tl_append]
    have e : TL.tl (", " : Str) = [44, 32] := rfl
    rw [e]
    simp
theorem glue_flat : ∀ (a : List Nat) (r : List (List Nat)), glue (a :: r) = a ++ (r.map fun t => [44, 32] ++ t).flatten
  | a, [] => by simp [glue]
  | a, b :: r => by
    show a ++ [44, 32] ++ glue (b :: r) = _
    rw [glue_flat b r]
    simp
theorem tl_listText (ts : List Str) : TL.tl (listText ts) = 91 :: glue (ts.map TL.tl) ++ [93] := by
  unfold listText
  rw [TL.tl_append]
  have e : TL.tl ("]" : Str) = [93] := rfl
  rw [e]
  congr 1
  cases ts with
  | nil => rfl
  | cons t ts =>
    show TL.tl (textFrom 1 ("[" ++ (if 0 > 0 then ", " else "" : String) ++ t) ts) = _
    rw [tl_from ts 0, TL.tl_append, TL.tl_append, List.map_cons, glue_flat, List.map_map]
    rfl
theorem joinL_glue : ∀ ts : List (List Nat), TL.joinL [44, 32] ts = glue ts
  | [] => rfl
  | [a] => rfl
  | a :: b :: r => by
    show a ++ ([44, 32] ++ TL.joinL [44, 32] (b :: r)) = a ++ [44, 32] ++ glue (b :: r)
    rw [joinL_glue (b :: r)]
    simp
theorem tl_tupleText (ts : List Str) : TL.tl (tupleText ts) = 40 :: glue (ts.map TL.tl) ++ (if ts.length = 1 then [44, 41] else [41]) := by
  unfold tupleText
  rw [TL.tl_append, TL.tl_append, TL.tl_join]
  have e1 : TL.tl ("(" : Str) = [40] := rfl
  have e2 : TL.tl (", " : Str) = [44, 32] := rfl
  rw [e1, e2, joinL_glue]
  by_cases h : ts.length = 1
  · rw [if_pos h, if_pos (by simpa using h)]; rfl
  · rw [if_neg h, if_neg (by simpa using h)]; rfl
mutual
theorem shown_rep : ∀ (d : D) (n : Nat) (t : List Nat), nd n d = true → rep d = some t → TL.tl (toP d).shown = t
  | .non, _, t, _, h => by cases h; rfl
  | .bl b, _, t, _, h => by cases h; cases b <;> rfl
  | .int i, _, t, _, h => by
    cases h
    show TL.tl (Str.ofString (toString i)) = strInt i
    rw [str_of_int]; exact ofS _
  | .str s, _, t, _, h => by
    unfold rep at h
    split at h
    · rename_i hp
      cases h
      show TL.tl (reprText (mkS s)) = _
      rw [text_plain hp]; exact ofS _
    · cases h
  | .lst o xs, n, t, q, h => by
    have q : (n != 0 && nds (n - 1) xs) = true := q
    rw [Bool.and_eq_true] at q
    obtain ⟨r, e, rfl⟩ := Option.map_eq_some_iff.mp (show (reps xs).map (fun r => 91 :: r ++ [93]) = some t from h)
    show TL.tl (listText (PyData.shownAll (toPs xs))) = _
    rw [tl_listText, (shown_reps xs (n - 1) r q.2 e).1]
  | .tup xs, n, t, q, h => by
    have q : (n != 0 && nds (n - 1) xs) = true := q
    rw [Bool.and_eq_true] at q
    obtain ⟨r, e, rfl⟩ := Option.map_eq_some_iff.mp (show (reps xs).map (fun r => 40 :: r ++ (if xs.length = 1 then [44, 41] else [41])) = some t from h)
    show TL.tl (tupleText (PyData.shownAll (toPs xs))) = _
    rw [tl_tupleText, (shown_reps xs (n - 1) r q.2 e).1, (shown_reps xs (n - 1) r q.2 e).2]
  | .dct _ _, _, _, q, _ => by cases q
  | .fn _, _, _, q, _ => by cases q
  | .exn _ _, _, _, q, _ => by cases q
termination_by structural x => x
theorem shown_reps : ∀ (ds : List D) (n : Nat) (r : List Nat), nds n ds = true → reps ds = some r → glue ((PyData.shownAll (toPs ds)).map TL.tl) = r ∧ (PyData.shownAll (toPs ds)).length = ds.length
  | [], _, r, _, h => by cases h; exact ⟨rfl, rfl⟩
  | d :: ds, n, r, q, h => by
    have q : (nd n d && nds n ds) = true := q
    rw [Bool.and_eq_true] at q
    obtain ⟨a, ea, h⟩ := Option.bind_eq_some_iff.mp (show (rep d).bind (fun a => (reps ds).map fun b => comma a ds.isEmpty ++ b) = some r from h)
    obtain ⟨b, eb, rfl⟩ := Option.map_eq_some_iff.mp h
    obtain ⟨h1, h2⟩ := shown_reps ds n b q.2 eb
    refine ⟨?_, by show (PyData.shownAll (toPs ds)).length + 1 = ds.length + 1; rw [h2]⟩
    show glue (TL.tl (toP d).shown :: (PyData.shownAll (toPs ds)).map TL.tl) = _
    rw [glue_comma, h1, shown_rep d n a q.1 ea]
    congr 2
    cases ds <;> rfl
termination_by structural x => x
end
mutual
theorem show_ok : ∀ (d : D) (n : Nat), nd n d = true → ntx d = true → (toP d).showable = true ∧ (toP d).hasDict = false
  | .non, _, _, _ => ⟨rfl, rfl⟩
  | .bl _, _, _, _ => ⟨rfl, rfl⟩
  | .str _, _, _, _ => ⟨rfl, rfl⟩
  | .int i, _, _, h => ⟨by show decide (i.natAbs.log2 < 1920) = true; exact decide_eq_true (Nat.lt_of_lt_of_le (Nat.lt_succ_self _) (Nat.le_of_ble_eq_true h)), rfl⟩
  | .lst _ xs, n, q, h => by
    have q : (n != 0 && nds (n - 1) xs) = true := q
    rw [Bool.and_eq_true] at q
    exact shows_ok xs (n - 1) q.2 h
  | .tup xs, n, q, h => by
    have q : (n != 0 && nds (n - 1) xs) = true := q
    rw [Bool.and_eq_true] at q
    exact shows_ok xs (n - 1) q.2 h
  | .dct _ _, _, q, _ => by cases q
  | .fn _, _, q, _ => by cases q
  | .exn _ _, _, q, _ => by cases q
termination_by structural x => x
theorem shows_ok : ∀ (ds : List D) (n : Nat), nds n ds = true → ntxs ds = true → PyData.showableAll (toPs ds) = true ∧ PyData.hasDictAll (toPs ds) = false
  | [], _, _, _ => ⟨rfl, rfl⟩
  | d :: ds, n, q, h => by
    have q : (nd n d && nds n ds) = true := q
    have h : (ntx d && ntxs ds) = true := h
    rw [Bool.and_eq_true] at q h
    obtain ⟨a1, a2⟩ := show_ok d n q.1 h.1
    obtain ⟨b1, b2⟩ := shows_ok ds n q.2 h.2
    exact ⟨by show ((toP d).showable && PyData.showableAll (toPs ds)) = true; rw [a1, b1]; rfl, by show ((toP d).hasDict || PyData.hasDictAll (toPs ds)) = false; rw [a2, b2]; rfl⟩
termination_by structural x => x
end
def rRepr (R : Rc) : RC := fun xs H Q => (∃ a, xs = [.ref a] ∧ H a = some (dO R a []) ∧ Q (.str (mkS [123, 125])) H) ∨ ∃ x d, xs = [x] ∧ Dp R.K H x d ∧ d.showable = true ∧ d.hasDict = false ∧ d.depth ≤ 60 ∧ d.shown.length ≤ sizeLine ∧ Q (.str d.shown) H
section
variable {X : Cx} {R : Rc} {T : Tags} {C : Ctx} {W : WX} {x : Expr} {a : E} {p pos : Pos} {nm : Str} {k : Nat}
theorem cr_repr (hK : R.K = X.K) (hr : RoomG k X.A) : CallR X (.builtin "repr") (rRepr R) := by
  intro pins s σ H xs us Q I r h
  rcases h with ⟨a, rfl, ha, q⟩ | ⟨v, d, rfl, hd, h1, h2, h3, h4, q⟩
  · obtain ⟨u, rfl, ru⟩ := vals1 r
    cases (show u = Value.ref a from ru)
    obtain ⟨⟨hm, _, o, ents, ep, e1, e2, e3, e4⟩, _, _⟩ := (show ObjOk X.prog X.w H s.heap a (dO R a []) from I.hok a _ ha)
    have en : ents.toList = [] := by cases e : ents.toList with
      | nil => rfl
      | cons _ _ => rw [e] at e4; cases e4
    have rd : Reads s.heap (.ref a) (.dict []) (a :: [] ++ []) := .dict e1 e2.1 e3 (by rw [en]; exact .nil) (by rw [en]; exact .nil)
    have es : (PyData.dict []).shown = mkS [123, 125] := TL.ext_tl rfl
    refine repr_of_reads' rd rfl (fun _ m => ?_) hr.gd (by have := hr.un; show X.A.units + (0 + 1 + 1) < cLine; omega) (fun _ _ e => e) (fun h' u' tk hk => ⟨.str (mkS [123, 125]), H, I.kept (t' := tk) hk, ⟨u', by rw [es]⟩, q⟩) (by rw [es, sizeLine_eq]; decide)
    obtain rfl := List.mem_singleton.mp (show sysModules ∈ [a] from m)
    simp at hm
  rw [hK] at hd
  obtain ⟨u, rfl, ru⟩ := vals1 r
  obtain ⟨as, rd⟩ := Dp.reads I d v u hd ru
  have hu : X.A.units + (d.depth + 1) < cLine := by have := hr.un; omega
  have ref : ∀ {a : Addr}, Reads s.heap (.ref a) d as → wpAny (model X.prog X.w) X.A (call (.builtin "repr") [.ref a]) (EP X pins σ Q) X.xe s := fun {a} rd =>
    repr_of_reads' rd h1 (fun z => by rw [h2] at z; cases z) hr.gd hu (fun _ _ e => e) (fun h' u' tk hk => ⟨.str d.shown, H, I.kept (t' := tk) hk, ⟨u', rfl⟩, q⟩) h4
  cases rd with
  | none => exact P.repr_of_none ⟨.str _, H, I.tok _, ⟨_, rfl⟩, q⟩
  | bool b => exact P.repr_of_bool ⟨.str (if b then "True" else "False" : Str), H, I.tok _, ⟨_, by cases b <;> rfl⟩, q⟩
  | int i t => exact P.repr_of_int (of_decide_eq_true h1) ⟨.str (Str.ofString (toString i)), H, I.tok _, ⟨_, rfl⟩, q⟩
  | str y t => exact P.repr_of_str ⟨.str _, H, I.tok _, ⟨_, rfl⟩, q⟩ h4
  | list e1 e2 e3 e4 => exact ref (.list e1 e2 e3 e4)
  | tuple e1 e2 e3 e4 => exact ref (.tuple e1 e2 e3 e4)
  | dict => cases h2
theorem ok_repr : POk R .repr (rRepr R) := by
  intro par S H ds vs cr d Q hS hr hp k
  change p_repr ds = some d at hp
  unfold p_repr at hp
  split at hp
  · rename_i o
    obtain ⟨x, rfl, h1⟩ := rl1 hr
    obtain rfl := Option.some.inj hp
    cases o with
    | own =>
      obtain ⟨a, vs, c', rfl, e, _⟩ := h1
      exact .inl ⟨a, rfl, e, scal k ⟨rfl, rfl⟩⟩
    | sh t =>
      obtain ⟨a, vs, rfl, e, _⟩ := h1
      exact .inl ⟨a, rfl, hS _ _ e, scal k ⟨rfl, rfl⟩⟩
  · rename_i d0 _
    split at hp
    · rename_i hc
      simp only [Bool.and_eq_true] at hc
      obtain ⟨x, rfl, h1⟩ := rl1 hr
      obtain ⟨t, et, e⟩ := Option.bind_eq_some_iff.mp hp
      split at e
      · rename_i hf
        obtain rfl := Option.some.inj e
        have sh := shown_rep d0 40 t hc.1 et
        have es : (toP d0).shown = mkS t := TL.ext_tl (by rw [sh]; exact (ofS t).symm)
        obtain ⟨s1, s2⟩ := show_ok d0 40 hc.1 hc.2
        refine .inr ⟨x, toP d0, rfl, h1.dp hS d0 40 hc.1, s1, s2, ?_, ?_, scal k ⟨by rw [es], rfl⟩⟩
        · have := (toP_plain d0 40 hc.1).2; omega
        · rw [es, lenS]; exact fits_le hf
      · cases e
    · cases hp
  · cases hp
theorem pe_reprV (hr : RoomG k X.A) (hg : Gl X nm) (hm : X.mg nm = none) (hv : bootBuiltins nm = some (.builtin "repr")) (ha : PE X x (tV (rc X T) C W a)) (hn : nm ≠ "__name__" := by decide) (hdb : (nm == ("__debug__" : Str)) = false := by decide)
    (hs : starEach [x] X.env = (false, eval x X.env) :: starEach [] X.env := by rfl) (hpl : (backTo pos (starEach [] X.env)).any (·.1) = false := by rfl) :
    PE X (.Call (.Name nm p) [x] [] pos) (tV (rc X T) C W (.pr .repr [a])) :=
  pe_imp (pe_callB (cr_repr (R := rc X T) rfl hr) hg hm hv (pa_consV ha pa_nilV hs) hn hdb hs hpl) fun σ H Q q => tV_pr ok_repr q
end
end PL
set_option Elab.async false
set_option linter.all false
set_option maxRecDepth 100000
set_option maxHeartbeats 2000000
/-! PL, part 32: sorted. -/
namespace PL
open PySem PySem.Spec L2
open PyProof.Rows hiding St

/-! ### the order -/
mutual
theorem tk_toP : ∀ (d : D) (n : Nat), nd n d = true → PySem.W.keyToks (toP d) = tk d
  | .non, _, _ => rfl
  | .bl b, _, _ => by cases b <;> rfl
  | .int _, _, _ => rfl
  | .str s, _, _ => by show [Sum.inr (mkS s).cps.toList] = _; rw [ofS]; rfl
  | .lst _ xs, n, q => by
    have q : (n != 0 && nds (n - 1) xs) = true := q
    rw [Bool.and_eq_true] at q
    exact tks_toP xs _ q.2
  | .tup xs, n, q => by
    have q : (n != 0 && nds (n - 1) xs) = true := q
    rw [Bool.and_eq_true] at q
    exact tks_toP xs _ q.2
  | .dct _ _, _, q => by cases q
  | .fn _, _, q => by cases q
  | .exn _ _, _, q => by cases q
termination_by structural x => x
theorem tks_toP : ∀ (ds : List D) (n : Nat), nds n ds = true → PySem.W.keyToksAll (toPs ds) = tks ds
  | [], _, _ => rfl
  | d :: r, n, q => by
    have q : (nd n d && nds n r) = true := q
    rw [Bool.and_eq_true] at q
    show Sum.inl 1 :: (PySem.W.keyToks (toP d) ++ PySem.W.keyToksAll (toPs r)) = _
    rw [tk_toP d n q.1, tks_toP r n q.2]
    rfl
termination_by structural x => x
end
mutual
theorem alk_toP : ∀ (a b : D) (n m : Nat), nd n a = true → nd m b = true → PySem.W.alike (toP a) (toP b) = alk a b
  | .non, b, _, _, _, q => by cases b <;> first | rfl | cases q
  | .bl x, b, _, _, _, q => by cases b <;> first | rfl | cases q
  | .int x, b, _, _, _, q => by cases b <;> first | rfl | cases q
  | .str x, b, _, _, _, q => by cases b <;> first | rfl | cases q
  | .lst _ xs, b, n, m, p, q => by
    cases b <;> first | (cases q; done) | skip
    case lst o ys =>
      have p : (n != 0 && nds (n - 1) xs) = true := p
      have q : (m != 0 && nds (m - 1) ys) = true := q
      rw [Bool.and_eq_true] at p q
      exact alks_toP xs ys _ _ p.2 q.2
    all_goals first | rfl | skip
  | .tup xs, b, n, m, p, q => by
    cases b <;> first | (cases q; done) | skip
    case tup ys =>
      have p : (n != 0 && nds (n - 1) xs) = true := p
      have q : (m != 0 && nds (m - 1) ys) = true := q
      rw [Bool.and_eq_true] at p q
      exact alks_toP xs ys _ _ p.2 q.2
    all_goals first | rfl | skip
  | .dct _ _, _, _, _, q, _ => by cases q
  | .fn _, _, _, _, q, _ => by cases q
  | .exn _ _, _, _, _, q, _ => by cases q
termination_by structural x => x
theorem alks_toP : ∀ (a b : List D) (n m : Nat), nds n a = true → nds m b = true → PySem.W.alikeAll (toPs a) (toPs b) = alks a b
  | [], [], _, _, _, _ => rfl
  | [], _ :: _, _, _, _, _ => rfl
  | _ :: _, [], _, _, _, _ => rfl
  | x :: xs, y :: ys, n, m, p, q => by
    have p : (nd n x && nds n xs) = true := p
    have q : (nd m y && nds m ys) = true := q
    rw [Bool.and_eq_true] at p q
    show (PySem.W.alike (toP x) (toP y) && PySem.W.alikeAll (toPs xs) (toPs ys)) = (alk x y && alks xs ys)
    rw [alk_toP x y n m p.1 q.1, alks_toP xs ys n m p.2 q.2]
termination_by structural x => x
end
theorem tLt_item (a b : Int ⊕ List Nat) : PyProof.Rows.itemLt a b = tLt a b := by
  cases a with
  | inl a => cases b <;> rfl
  | inr a =>
    cases b with
    | inl b => rfl
    | inr b => exact ltS_dec a b
theorem tsLt_lex : ∀ a b : List (Int ⊕ List Nat), PyProof.Rows.lexLt PyProof.Rows.itemOrd a b = tsLt a b
  | [], [] => rfl
  | [], _ :: _ => rfl
  | _ :: _, [] => rfl
  | a :: r, b :: s => by
    rw [PyProof.Rows.lex_cons]
    show (PyProof.Rows.itemLt a b || (!PyProof.Rows.itemLt b a && PyProof.Rows.lexLt PyProof.Rows.itemOrd r s)) = if a = b then tsLt r s else tLt a b
    rw [tsLt_lex r s]
    by_cases h : a = b
    · subst h
      have e : PyProof.Rows.itemLt a a = false := PyProof.Rows.itemOrd.irrefl a
      rw [if_pos rfl, e]; rfl
    · rw [if_neg h, ← tLt_item]
      cases h1 : PyProof.Rows.itemLt a b with
      | true => rfl
      | false =>
        cases h2 : PyProof.Rows.itemLt b a with
        | true => rfl
        | false => exact absurd (PyProof.Rows.itemOrd.total a b h1 h2) h
theorem leT_data {a b : D} {n m : Nat} (p : nd n a = true) (q : nd m b = true) : PySem.W.dataLe false toP a b = leT a b := by
  show (!PyProof.Rows.lexLt PyProof.Rows.itemOrd (PySem.W.keyToks (toP b)) (PySem.W.keyToks (toP a))) = !tsLt (tk b) (tk a)
  rw [tk_toP a n p, tk_toP b m q, tsLt_lex]
theorem leT_sort : leT = PySem.W.sortLe (PyProof.Rows.listOrd PyProof.Rows.itemOrd) false tk := by
  funext a b
  show (!tsLt (tk b) (tk a)) = !PyProof.Rows.lexLt PyProof.Rows.itemOrd (tk b) (tk a)
  rw [tsLt_lex]
theorem leT_trans (a b c : D) (h : leT a b = true) (h' : leT b c = true) : leT a c = true := by
  rw [leT_sort] at *
  exact (PySem.W.sortLe_total (PyProof.Rows.listOrd PyProof.Rows.itemOrd) false tk).trans a b c h h'
theorem leT_total (a b : D) : (leT a b || leT b a) = true := by
  rw [leT_sort]
  exact Bool.or_eq_true_iff.mpr ((PySem.W.sortLe_total (PyProof.Rows.listOrd PyProof.Rows.itemOrd) false tk).total a b)
theorem insT_at (x : D) : ∀ (l1 l2 : List D), (∀ b ∈ l1, leT x b = false) → (∀ b r, l2 = b :: r → leT x b = true) → insT x (l1 ++ l2) = l1 ++ x :: l2
  | [], [], _, _ => rfl
  | [], b :: r, _, h => by
    show (if leT x b = true then x :: b :: r else b :: insT x r) = _
    rw [if_pos (h b r rfl)]; rfl
  | b :: l1, l2, h1, h2 => by
    show (if leT x b = true then _ else b :: insT x (l1 ++ l2)) = _
    rw [if_neg (by rw [h1 b List.mem_cons_self]; exact Bool.false_ne_true), insT_at x l1 l2 (fun c hc => h1 c (List.mem_cons_of_mem _ hc)) h2]
    rfl
theorem sortT_merge : ∀ xs : List D, sortT xs = xs.mergeSort leT
  | [] => by simp [sortT]
  | x :: r => by
    show insT x (sortT r) = _
    rw [sortT_merge r]
    obtain ⟨l1, l2, e1, e2, h⟩ := List.mergeSort_cons leT_trans leT_total x r
    rw [e1, e2]
    refine insT_at x l1 l2 (fun b hb => by have := h b hb; simpa using this) fun b t e => ?_
    have p := List.pairwise_mergeSort leT_trans leT_total (x :: r)
    rw [e1, e, List.pairwise_append] at p
    exact (List.pairwise_cons.mp p.2.1).1 b List.mem_cons_self

/-! ### sorted -/
def leP (p q : Dt × V) : Bool := leT p.1 q.1
theorem leP_map (its : List (Dt × V)) : (its.mergeSort leP).map (·.1) = sortT (its.map (·.1)) := by
  rw [sortT_merge]
  exact List.map_mergeSort fun _ _ _ _ => rfl
/-- what is sorted: the items, as data and as values -/
def ItemsAt (K : PySem.W.Frag) (H : Hp) (x : V) (vs : List V) : Prop := (∃ a, x = .ref a ∧ (SqL K H a vs ∨ SqT K H a vs)) ∨ ∃ z : List Nat, x = .str (mkS z) ∧ vs = z.map fun c => .str ⟨#[c]⟩
def rSort (K : PySem.W.Frag) : RC := fun xs H Q => ∃ (x : V) (its : List (Dt × V)), xs = [x] ∧ ItemsAt K H x (its.map (·.2)) ∧ (∀ p ∈ its, nd 40 p.1 = true ∧ Dp K H p.2 (toP p.1)) ∧ srtOk (its.map (·.1)) = true ∧
  ∀ l, H l = none → Q (.ref l) (upd H l (.lst ((its.mergeSort leP).map (·.2))))
theorem mergeSort_congr {α : Type} {r s : α → α → Bool} {l : List α} (h : ∀ a ∈ l, ∀ b ∈ l, r a b = s a b) : l.mergeSort r = l.mergeSort s := by
  have q := List.map_mergeSort (r := r) (s := s) (f := fun x => x) (l := l) h
  simpa using q
theorem each_of_vals {R : Value → Dt × V → Prop} : ∀ {its : List (Dt × V)} {us : List Value}, Vals (its.map (·.2)) us → (∀ p ∈ its, ∀ u, RelV p.2 u → R u p) → PySem.W.EachIs R us its
  | [], _, .nil, _ => .nil
  | p :: its, _, .cons r t, h => .cons (h p List.mem_cons_self _ r) (each_of_vals t fun q hq => h q (List.mem_cons_of_mem _ hq))
theorem vals_of_each : ∀ {its : List (Dt × V)} {us : List Value}, PySem.W.EachIs (fun u p => RelV p.2 u) us its → Vals (its.map (·.2)) us
  | _, _, .nil => .nil
  | _, _, .cons r t => .cons r (vals_of_each t)
section
variable {X : Cx} {R : Rc} {T : Tags} {C : Ctx} {W : WX} {x : Expr} {a : E} {p pos : Pos} {nm : Str} {k : Nat}
theorem cr_sorted2 (hr : RoomG k X.A) : CallR X (.builtin "sorted") (rSort X.K) := by
  intro pins s σ H xs us Q I r h
  obtain ⟨v, its, rfl, hit, hd, hok, q⟩ := h
  obtain ⟨u, rfl, ru⟩ := vals1 r
  have hh : X.A.in1.handled = none := hr.hd
  simp only [srtOk, Bool.and_eq_true] at hok
  obtain ⟨⟨⟨_, hal⟩, hsrt⟩, hfit⟩ := hok
  have hfit : its.length ≤ sizeLine := by have := fits_le hfit; rwa [List.length_map] at this
  have alike : PySem.W.AllAlike (its.map fun p => toP p.1) := by
    intro d hd1 d' hd2
    obtain ⟨p1, m1, rfl⟩ := List.mem_map.mp hd1
    obtain ⟨p2, m2, rfl⟩ := List.mem_map.mp hd2
    rw [alk_toP _ _ 40 40 (hd p1 m1).1 (hd p2 m2).1]
    exact List.all_eq_true.mp (List.all_eq_true.mp hal _ (List.mem_map_of_mem m1)) _ (List.mem_map_of_mem m2)
  have sortable : PySem.W.Sortable (its.map fun p => toP p.1) := by
    rcases Bool.or_eq_true_iff.mp hsrt with z | z
    · refine .inl fun d hd1 => ?_
      obtain ⟨p1, m1, rfl⟩ := List.mem_map.mp hd1
      have t := List.all_eq_true.mp z _ (List.mem_map_of_mem (f := (·.1)) m1)
      revert t
      cases p1.1 with
      | tup xs => cases xs with
        | nil => intro t; cases t
        | cons y ys => exact fun _ => ⟨toP y, toPs ys, rfl⟩
      | _ => intro t; cases t
    · refine .inr fun d hd1 => ?_
      obtain ⟨p1, m1, rfl⟩ := List.mem_map.mp hd1
      have t := List.all_eq_true.mp z _ (List.mem_map_of_mem (f := (·.1)) m1)
      have n1 := (hd p1 m1).1
      revert t n1
      cases p1.1 with
      | tup xs => intro t; cases t
      | non => intro t; cases t
      | dct _ _ => intro _ t; cases t
      | fn _ => intro _ t; cases t
      | exn _ _ => intro _ t; cases t
      | _ => exact fun _ _ => ⟨fun z => (nomatch z), fun _ z => (nomatch z)⟩
  -- behind collect
  have after : ∀ (us : List Value) (s1 : Shared), (∀ b o, s.heap.get? b = some o → s1.heap.get? b = some o) → s1.gens = s.gens → s1.drawn = s.drawn → s1.os = s.os → Vals (its.map (·.2)) us →
      wpAny (model X.prog X.w) X.A.in1 (newList us >>= fun l => holding [l] (call (.builtin "list.sort") [l]) >>= fun _ => ret l) (fun fin s' => ∃ r, fin = .done (.ret r) ∧ EP X pins σ Q r s') X.xe s1 := by
    intro us s1 hk e1 e2 e3 rv
    have hlen : us.length = its.length := by rw [← rv.length, List.length_map]
    refine wpAny_bind (wpAny_newList ?_ (by rw [hlen]; exact hfit))
    obtain ⟨hp, g, dr, tk', os⟩ := s1
    have ho : (hp.push (PyProof.Rows.seqObj "list" us.toArray 0)).get? hp.objs.size = some (PyProof.Rows.seqObj "list" us.toArray 0) := Heap.get?_push_at rfl rfl
    have kp : ∀ b o, s.heap.get? b = some o → (PySem.W.sortingHeap (hp.push (PyProof.Rows.seqObj "list" us.toArray 0)) hp.objs.size us).get? b = some o := fun b o e =>
      PySem.W.sortingHeap_old (Nat.ne_of_lt (Heap.lt_size (hk b o e))) (Heap.get?_push_of_some _ (hk b o e))
    have each : PySem.W.EachIs (fun u p => RelV p.2 u) us its := each_of_vals rv fun p _ u r => r
    have reads : PySem.W.EachIs (fun u (p : Dt × V) => ∃ as, Reads (PySem.W.sortingHeap (hp.push (PyProof.Rows.seqObj "list" us.toArray 0)) hp.objs.size us) u (toP p.1) as) us its := each_of_vals rv fun p hp u r => by
      obtain ⟨as, rd⟩ := Dp.reads I _ _ u (hd p hp).2 r
      exact ⟨as, PyProof.Rows.Reads.keeps kp rd⟩
    show wpAny _ _ (holding [.ref hp.objs.size] (call (.builtin "list.sort") [.ref hp.objs.size]) >>= _) _ _ _
    refine wpAny_bind (wpAny_holding (wpAny_call_entry PyProof.Rows.slot_list_sort ⟨_, ho, rfl⟩ PyProof.Rows.entry_list_sort ?_ (PyProof.Rows.args_list_sort _)))
    refine PySem.W.list_sort_vals (s := ⟨hp.push (PyProof.Rows.seqObj "list" us.toArray 0), g, dr, tk', os⟩) (κ := PySem.W.dataKind (PySem.W.sortingHeap (hp.push (PyProof.Rows.seqObj "list" us.toArray 0)) hp.objs.size us) (its.map fun p => toP p.1)) ho
      (PySem.W.SortsAt.data (s := ⟨PySem.W.sortingHeap (hp.push (PyProof.Rows.seqObj "list" us.toArray 0)) hp.objs.size us, g, dr, tk', os⟩) (PySem.W.each_map (fun p : Dt × V => toP p.1) (R := fun v d => ∃ as, Reads (PySem.W.sortingHeap (hp.push (PyProof.Rows.seqObj "list" us.toArray 0)) hp.objs.size us) v d as) reads) alike sortable fun d hd1 => ?_) (by rw [hlen]; exact hfit) ⟨.none, rfl, ?_⟩
    · obtain ⟨p1, m1, rfl⟩ := List.mem_map.mp hd1
      have := (toP_plain p1.1 40 (hd p1 m1).1).2
      have := hr.un
      show X.A.units + 1 + 1 + (toP p1.1).depth < cLine
      omega
    · generalize hout : PySem.W.sortVals (PySem.W.dataKind (PySem.W.sortingHeap (hp.push (PyProof.Rows.seqObj "list" us.toArray 0)) hp.objs.size us) (its.map fun p => toP p.1)) false us us = out
      have eo : PySem.W.EachIs (fun u p => RelV p.2 u) out (its.mergeSort (PySem.W.dataLe false fun p : Dt × V => toP p.1)) := by
        rw [← hout]
        exact PySem.W.sortVals_data (enc := fun p : Dt × V => toP p.1) false each reads alike
      have em : its.mergeSort (PySem.W.dataLe false fun p : Dt × V => toP p.1) = its.mergeSort leP := mergeSort_congr fun a ha b hb => leT_data (hd a ha).1 (hd b hb).1
      rw [em] at eo
      obtain ⟨ce, ho2⟩ := PyProof.Rows.sortedHeap_at (vs := us) (out := out.toArray) ho
      refine wpAny_pure ⟨_, rfl, ?_⟩
      have none0 : s.heap.get? hp.objs.size = none := by
        cases z : s.heap.get? hp.objs.size with
        | none => rfl
        | some o => exact absurd (Heap.lt_size (hk _ o z)) (Nat.lt_irrefl _)
      have hn : H hp.objs.size = none := I.hok.gone none0
      have lo : ((its.mergeSort leP).map (·.2)).length ≤ sizeLine := by rw [List.length_map, List.length_mergeSort]; exact hfit
      have J := I.laidN (a := hp.objs.size) (o := .lst ((its.mergeSort leP).map (·.2))) (h' := PyProof.Rows.sortedHeap (hp.push (PyProof.Rows.seqObj "list" us.toArray 0)) hp.objs.size us out.toArray) (t' := tk') (fun b o e => by
          have lt := Heap.lt_size (hk b o e)
          rw [PyProof.Rows.sortedHeap_old (Nat.ne_of_lt lt) (by rw [size_push']; exact Nat.lt_succ_of_lt lt)]
          exact Heap.get?_push_of_some _ (hk b o e)) none0 hn
        (show ObjOk X.prog X.w _ _ _ (.lst _) from ⟨lo, out, ce, vals_of_each eo, by rw [ho2]⟩)
      obtain ⟨sh, sg, sd, st, so⟩ := s
      cases e1; cases e2; cases e3
      exact ⟨.ref hp.objs.size, _, J, rfl, q _ hn⟩
  refine PySem.Calls.call_function_entry PyProof.Rows.kind_sorted PyProof.Rows.plain_sorted PyProof.Rows.entry_sorted (PyProof.Rows.args_sorted1 _) ?_
  unfold Builtin.«sorted»
  refine wpAny_bind (m := checkCount "sorted" 1 1 _) (wpAny_pure ?_)
  rcases hit with ⟨a, rfl, sq | sq⟩ | ⟨z, rfl, ez⟩
  · cases (show u = Value.ref a from ru)
    obtain ⟨us, rv, ⟨⟨oc, od, dt, sl⟩, n, ho, hc, hn, hdt⟩, hz⟩ := I.list sq
    simp only at hc hdt
    subst hc hdt
    refine wpAny_bind (wpAny_collect_seq a (.inl rfl) ho rfl rfl (fun h' hk => ?_) (by rw [List.size_toArray, ← rv.length]; exact hz))
    exact after _ { s with heap := h' } hk rfl rfl rfl (by simpa using rv)
  · cases (show u = Value.ref a from ru)
    obtain ⟨us, rv, ⟨o, ho, hc, n, hd2⟩, hz⟩ := I.tuple sq
    refine wpAny_bind (wpAny_collect_seq a (.inr rfl) ho hc hd2 (fun h' hk => ?_) (by rw [List.size_toArray, ← rv.length]; exact hz))
    exact after _ { s with heap := h' } hk rfl rfl rfl (by simpa using rv)
  · obtain ⟨t, rfl⟩ := (show ∃ t, u = Value.str (mkS z) t from ru)
    have hz : (mkS z).cps.size ≤ sizeLine := by
      have e := congrArg List.length ez
      rw [List.length_map, List.length_map] at e
      show z.toArray.size ≤ _
      rw [List.size_toArray, ← e]; exact hfit
    refine wpAny_bind (wpAny_collect_str hh (mkS z) t (fun s' acc hk e1 e2 e3 hi => ?_) hz)
    refine after _ s' hk e1 e2 e3 ?_
    rw [ez]
    have q := vals_signs hi
    rwa [ofS] at q
theorem rep_items : ∀ {ds : List Dt} {vs : List V} {S H : Hp} {c : Cn}, RepL R S H ds vs c → ∃ its : List (Dt × V), its.map (·.1) = ds ∧ its.map (·.2) = vs
  | [], [], _, _, _, _ => ⟨[], rfl, rfl⟩
  | d :: ds, v :: vs, _, _, _, h => by
    obtain ⟨_, _, _, h2, _⟩ := h
    obtain ⟨its, e1, e2⟩ := rep_items h2
    exact ⟨(d, v) :: its, by rw [List.map_cons, e1], by rw [List.map_cons, e2]⟩
  | [], _ :: _, _, _, _, h => h.elim
  | _ :: _, [], _, _, _, h => h.elim
/-- what is counted does not depend on the order -/
theorem RepL.permP {S H : Hp} {l m : List (Dt × V)} (hp : l.Perm m) : ∀ {c : Cn}, RepL R S H (l.map (·.1)) (l.map (·.2)) c → RepL R S H (m.map (·.1)) (m.map (·.2)) c := by
  induction hp with
  | nil => exact fun h => h
  | cons x _ ih =>
    intro c h
    obtain ⟨c1, c2, h1, h2, e⟩ := h
    exact ⟨c1, c2, h1, ih h2, e⟩
  | swap x y l =>
    intro c h
    obtain ⟨c1, c2, h1, ⟨c3, c4, h3, h4, rfl⟩, rfl⟩ := h
    exact ⟨c3, pl c1 c4, h3, ⟨c1, c4, h1, h4, rfl⟩, pl_left _ _ _⟩
  | trans _ _ ih1 ih2 => exact fun h => ih2 (ih1 h)
theorem dp_items {S H : Hp} (hS : ∀ a o, S a = some o → H a = some o) : ∀ {its : List (Dt × V)} {c : Cn}, RepL R S H (its.map (·.1)) (its.map (·.2)) c → nds 40 (its.map (·.1)) = true → ∀ p ∈ its, nd 40 p.1 = true ∧ Dp R.K H p.2 (toP p.1)
  | [], _, _, _, p, hp => nomatch hp
  | q :: its, c, h, n, p, hp => by
    obtain ⟨c1, c2, h1, h2, _⟩ := h
    have n : (nd 40 q.1 && nds 40 (its.map (·.1))) = true := n
    rw [Bool.and_eq_true] at n
    rcases List.mem_cons.mp hp with rfl | hp
    · exact ⟨n.1, h1.dp hS _ 40 n.1⟩
    · exact dp_items hS h2 n.2 p hp
theorem ok_sorted : POk R .sorted (rSort R.K) := by
  intro par S H ds vs cr d Q hS hr hp k
  change p_sorted ds = some d at hp
  unfold p_sorted at hp
  split at hp
  · rename_i d0
    obtain ⟨xs, ei, hp⟩ := Option.bind_eq_some_iff.mp hp
    split at hp
    · rename_i hok
      obtain rfl := Option.some.inj hp
      obtain ⟨x, rfl, h1⟩ := rl1 hr
      have hn : nds 40 xs = true := by
        simp only [srtOk, Bool.and_eq_true] at hok
        exact hok.1.1.1
      -- the items
      have key : ∃ (ws : List V) (c' : Cn), ItemsAt R.K H x ws ∧ RepL R S H xs ws c' ∧ (∀ a, c' a ≤ cr a) ∧ ∀ a, H a = none → cr a = 0 := by
        have nc := h1.noC
        cases d0 with
        | lst o ys =>
          obtain rfl := Option.some.inj (show some ys = some xs from ei)
          obtain ⟨a, ws, c', rfl, sq, _, l, le, nn⟩ := h1.lst hS
          exact ⟨ws, c', .inl ⟨a, rfl, .inl sq⟩, l, le, nn⟩
        | tup ys =>
          obtain rfl := Option.some.inj (show some ys = some xs from ei)
          obtain ⟨a, ws, rfl, sq, l⟩ := h1
          exact ⟨ws, cr, .inl ⟨a, rfl, .inr sq⟩, l, fun _ => Nat.le_refl _, nc⟩
        | str z =>
          obtain rfl := Option.some.inj (show some (signs z) = some xs from ei)
          obtain ⟨rfl, rfl⟩ := h1
          exact ⟨_, z0, .inr ⟨z, rfl, rfl⟩, rep_signs z, fun _ => Nat.le_refl _, fun _ _ => rfl⟩
        | _ => cases ei
      obtain ⟨ws, c', hit, l, le, nc⟩ := key
      obtain ⟨its, rfl, rfl⟩ := rep_items l
      refine ⟨x, its, rfl, hit, dp_items hS l hn, hok, fun p hp => ?_⟩
      have lm := l.permP (List.mergeSort_perm its leP).symm
      rw [leP_map] at lm
      exact k _ _ (pl (one p) c') (.upd hp) (mk_lst lm hp) (.new hp le nc)
    · cases hp
  · cases hp
theorem pe_sortedV (hr : RoomG k X.A) (hg : Gl X nm) (hm : X.mg nm = none) (hv : bootBuiltins nm = some (.builtin "sorted")) (ha : PE X x (tV (rc X T) C W a)) (hn : nm ≠ "__name__" := by decide) (hdb : (nm == ("__debug__" : Str)) = false := by decide)
    (hs : starEach [x] X.env = (false, eval x X.env) :: starEach [] X.env := by rfl) (hpl : (backTo pos (starEach [] X.env)).any (·.1) = false := by rfl) :
    PE X (.Call (.Name nm p) [x] [] pos) (tV (rc X T) C W (.pr .sorted [a])) :=
  pe_imp (pe_callB (cr_sorted2 hr) hg hm hv (pa_consV ha pa_nilV hs) hn hdb hs hpl) fun σ H Q q => tV_pr ok_sorted q
end
end PL
set_option Elab.async false
set_option linter.all false
set_option maxRecDepth 100000
set_option maxHeartbeats 2000000
/-! PL, part 33: len of a dict comprehension. -/
namespace PL
open PySem PySem.Spec L2
open PyProof.Rows hiding St

def toKey : Int ⊕ List Nat → Key
  | .inl i => .inl i
  | .inr s => .inr (mkS s)
theorem toKey_inj {a b : Int ⊕ List Nat} (h : toKey a = toKey b) : a = b := by
  cases a with
  | inl i => cases b with
    | inl j => injection h with h; rw [h]
    | inr t => cases h
  | inr s => cases b with
    | inl j => cases h
    | inr t =>
      injection h with h
      have e := congrArg (fun x : Str => x.cps.toList) h
      simp only [ofS] at e
      rw [e]
theorem keysF_app : ∀ {xs ys : List Dt} {ks : List (Int ⊕ List Nat)}, keysF (xs ++ ys) = some ks → ∃ k1 k2, keysF xs = some k1 ∧ keysF ys = some k2 ∧ ks = k1 ++ k2
  | [], ys, ks, h => ⟨[], ks, rfl, h, rfl⟩
  | .int i :: xs, ys, ks, h => by
    obtain ⟨k, e, rfl⟩ := Option.map_eq_some_iff.mp (show (keysF (xs ++ ys)).map (Sum.inl i :: ·) = some ks from h)
    obtain ⟨k1, k2, e1, e2, rfl⟩ := keysF_app e
    exact ⟨.inl i :: k1, k2, by show (keysF xs).map _ = _; rw [e1]; rfl, e2, rfl⟩
  | .str s :: xs, ys, ks, h => by
    obtain ⟨k, e, rfl⟩ := Option.map_eq_some_iff.mp (show (keysF (xs ++ ys)).map (Sum.inr s :: ·) = some ks from h)
    obtain ⟨k1, k2, e1, e2, rfl⟩ := keysF_app e
    exact ⟨.inr s :: k1, k2, by show (keysF xs).map _ = _; rw [e1]; rfl, e2, rfl⟩
  | .non :: _, _, _, h => by cases h
  | .bl _ :: _, _, _, h => by cases h
  | .lst _ _ :: _, _, _, h => by cases h
  | .tup _ :: _, _, _, h => by cases h
  | .dct _ _ :: _, _, _, h => by cases h
  | .fn _ :: _, _, _, h => by cases h
  | .exn _ _ :: _, _, _, h => by cases h
theorem keysF_one {R : Rc} {S H : Hp} {d : Dt} {ys : List Dt} {ks : List (Int ⊕ List Nat)} (h : keysF (d :: ys) = some ks) {v : V} {c : Cn} (r : Rep R S H d v c) : ∃ k r', ks = k :: r' ∧ keysF [d] = some [k] ∧ v = kV (toKey k) := by
  cases d with
  | int i =>
    obtain ⟨k, e, rfl⟩ := Option.map_eq_some_iff.mp (show (keysF ys).map (Sum.inl i :: ·) = some ks from h)
    exact ⟨.inl i, k, rfl, rfl, r.1⟩
  | str s =>
    obtain ⟨k, e, rfl⟩ := Option.map_eq_some_iff.mp (show (keysF ys).map (Sum.inr s :: ·) = some ks from h)
    exact ⟨.inr s, k, rfl, rfl, r.1⟩
  | _ => cases h
theorem putK_keys (kvs : List (Key × V)) (ks : List (Int ⊕ List Nat)) (k : Int ⊕ List Nat) (v : V) (h : kvs.map (·.1) = ks.map toKey) : (putK kvs (toKey k) v).map (·.1) = (kput k ks).map toKey := by
  have e : (kvs.any fun kv => decide (kv.1 = toKey k)) = ks.any fun x => decide (x = k) := by
    have e1 : (kvs.any fun kv => decide (kv.1 = toKey k)) = (kvs.map (·.1)).any fun x => decide (x = toKey k) := by rw [List.any_map]; rfl
    rw [e1, h, List.any_map]
    congr 1
    funext x
    show decide (toKey x = toKey k) = decide (x = k)
    by_cases z : x = k
    · rw [z, decide_eq_true rfl, decide_eq_true rfl]
    · rw [decide_eq_false z, decide_eq_false fun q => z (toKey_inj q)]
  unfold putK kput
  rw [e]
  split
  · rw [← h, List.map_map]
    refine List.map_congr_left fun kv _ => ?_
    show (if kv.1 = toKey k then (kv.1, v) else kv).1 = kv.1
    split <;> rfl
  · rw [List.map_append, List.map_append, h]
    rfl
section
variable {R : Rc} {C : Ctx} {W : WX} {σ σ' : L2.St} {S S1 S' H H1 H' : Hp} {env : Env} {c f g : Cn} {Q : VK} {es : List E}
theorem Good.updD {D : Addr} {o o' : HO} (G : Good R S H σ env c (pl (one D) g)) (hD : H D = some o) (m : Mu o) (m' : Mu o') : Good R S (upd H D o') σ env c (pl (one D) g) := by
  have at_D := G.dis D
  rw [pl_at, one_at, if_pos rfl] at at_D
  have mono : ∀ x u, H x = some u → x ≠ D → upd H D o' x = some u := fun x u ex n => by rw [upd_ne n]; exact ex
  refine ⟨G.env.mono (fun _ _ h => h) (fun x u ex nm => mono x u ex fun z => by subst z; rw [hD] at ex; cases ex; exact nm m) fun x u ex n => mono x u ex fun z => by subst z; omega, fun x u ex => mono x u (G.sub x u ex) fun z => by subst z; rw [occ_some ex] at at_D; omega, G.dis, fun x n => ?_⟩
  by_cases z : x = D
  · subst z; exact ⟨_, upd_same, m'⟩
  · obtain ⟨u, ex, mu⟩ := G.fr x n
    exact ⟨u, mono x u ex z, mu⟩
theorem Ext.updD {D : Addr} {o : HO} (E : Ext S H f S' H') (hD : H D = none) : Ext S H f S' (upd H' D o) :=
  ⟨E.sub, fun a u e n => by rw [upd_ne (ne_of_none e hD)]; exact E.keep a u e n, fun a u e n => by rw [upd_ne (ne_of_none e hD)]; exact E.imm a u e n⟩
theorem tV_lenD {elt cond : E} {tg : Tg} {kd : Kd} {own : List Nat} {Q' : VK} (hsub : ∀ j ∈ tgSlots tg, j ∈ own) (hq : ∀ D kvs H', H' D = some (.dK kvs) → Q (.int kvs.length) H' → Q' (.ref D) H') (h : tV R C W (.pr .lenD [.lc elt tg kd es cond own]) σ H Q) :
    tDc (tI R C W kd es) (tB R tg) (tT R C WF cond) (tV R C WF elt) (tC (.bl true)) own σ H Q' := by
  obtain ⟨S, env, c, f, G, h⟩ := h
  simp only [ev, evs] at h
  refine ⟨S, env, c, f, G, ?_⟩
  cases x : evs C es env with
  | st => rw [x] at h; exact h.elim
  | exc k dv env' => rw [x] at h; exact h
  | ok ds e1 =>
    rw [x] at h
    have h : AfterV R W Q S H σ f ((((match items kd (fzs ds) with
      | none => .st
      | some xs => (match lcLoop own tg (ev C cond) (fun e => (ev C elt e).bind fun d e => .ok [d] e) xs e1 with
        | .ok ys e2 => if fits ys.length then .ok (.lst .own ys) (back own e1 e2) else .st
        | _ => .st) : O Dt)).bind fun d env => (O.ok [] env).bind fun ds env => .ok (d :: ds) env).bind fun ds env => O.lift (prim C.par .lenD ds) env) := h
    cases ei : items kd (fzs ds) with
    | none => rw [ei] at h; exact h.elim
    | some xs =>
      rw [ei] at h
      refine ⟨xs, ei, fun S1 H1 c1 J E1 G1 w D hD => ?_⟩
      have h := AfterV.on E1 h fun _ _ (q : Q _ _) => q
      simp only at h
      cases el : lcLoop own tg (ev C cond) (fun e => (ev C elt e).bind fun d e => .ok [d] e) xs e1 with
      | st => rw [el] at h; exact h.elim
      | exc k dv env' => rw [el] at h; exact h.elim
      | ok ys0 ez =>
        rw [el] at h
        simp only at h
        by_cases hfit : fits ys0.length = true
        · rw [if_pos hfit] at h
          have h : AfterV R W Q S1 H1 σ f (O.lift ((keysF ys0).map fun ks => .int (ks.foldl (fun acc k => kput k acc) []).length) (back own e1 ez)) := h
          cases hk : keysF ys0 with
          | none =>
            rw [hk] at h
            exact h.elim
          | some ks =>
            rw [hk] at h
            have hfin : AfterV R W Q S1 H1 σ f (.ok (.int (ks.foldl (fun acc k => kput k acc) []).length) (back own e1 ez)) := h
            clear h
            have hfit := fits_of hfit
            obtain ⟨ck, cw, hck, hsum, _, hback⟩ := RepE.split (own := own) G1.env
            have hn : New H1 (upd H1 D (.dK [])) := .upd hD
            have Ga : Good R S1 H1 (L2.wipe σ own) (PL.wipe own e1) ck (pl z0 (pl cw f)) := by
              rw [z_pl]
              refine ⟨hck, G1.sub, fun a => ?_, fun a n => ?_⟩
              · have := G1.dis a
                have := hsum a
                simp only [pl_at] at *
                omega
              · by_cases z : f a = 0
                · simp only [pl_at] at n
                  exact G1.env.mu a (by have := hsum a; omega)
                · exact G1.fr a z
            have Gb : Good R S1 (upd H1 D (.dK [])) (L2.wipe σ own) (PL.wipe own e1) ck (pl (one D) (pl cw f)) := by
              refine Good.after Ga hn (cr' := one D) ?_ fun a n => ?_
              · refine ⟨fun a o e => ?_, fun a e => ?_⟩
                · rw [one_at, if_neg (ne_of_none e hD)]; exact Nat.zero_le _
                · rw [one_at]; split <;> omega
              · by_cases z : a = D
                · subst z; exact ⟨_, upd_same, trivial⟩
                · rw [one_at, if_neg z] at n
                  exact absurd rfl n
            let N : Nat → Hp → Prop := fun i H' => ∃ S' ei c' done kvs kd', Ext S1 H1 (pl cw f) S' H' ∧ Good R S' H' (L2.wipe σ own) (PL.wipe own ei) c' (pl (one D) (pl cw f)) ∧ H' D = some (.dK kvs) ∧ ei.length = e1.length ∧ keysF done = some kd' ∧ kvs.length ≤ done.length ∧
              kvs.map (·.1) = (kd'.foldl (fun acc k => kput k acc) []).map toKey ∧ ∃ ys, lcLoop own tg (ev C cond) (fun e => (ev C elt e).bind fun d e => .ok [d] e) (xs.drop i) ei = .ok ys ez ∧ done ++ ys = ys0
            refine ⟨fun i m H' => m = xs.length - i ∧ i ≤ xs.length ∧ N i H', ⟨_, rfl, Nat.zero_le _, S1, e1, ck, [], [], [], .more hn fun _ _ h => h, Gb, upd_same, rfl, rfl, Nat.le_refl _, rfl, ys0, el, rfl⟩, ?_⟩
            rintro i m H' ⟨rfl, hi, S', en, c', done, kvs, kd', E0, G', hD', hlen, hkd, hkl, hkk, ys, hloop, rfl⟩
            obtain ⟨stop, go⟩ := w S' H' (E0.lessF fun a n => absurd rfl n) G'.sub
            by_cases hlt : i < xs.length
            · obtain ⟨g1, g2⟩ := go i hlt
              refine .inr ⟨g1, N (i + 1), fun H2 n => ⟨xs.length - (i + 1), by omega, rfl, hlt, n⟩, fun v H'' y => ?_⟩
              obtain ⟨d, ed, nn, r⟩ := g2 v H'' y
              have e2 : ∀ g, Ext S' H' g S' H'' := fun g => .more nn fun _ _ h => h
              have G2 : Good R S' H'' (L2.wipe σ own) (PL.wipe own en) c' (pl (one D) (pl cw f)) := by
                have := Good.after (cr := z0) (cr' := z0) (by rw [z_pl]; exact G') nn .z fun a n => absurd rfl n
                rw [z_pl] at this; exact this
              have edr : xs.drop i = d :: xs.drop (i + 1) := by
                rw [List.drop_eq_getElem_cons hlt]
                congr 1
                rw [List.getElem?_eq_getElem hlt] at ed
                exact Option.some.inj ed
              rw [edr] at hloop
              unfold lcLoop at hloop
              cases eb : bind tg d (PL.wipe own en) with
              | none => rw [eb] at hloop; cases hloop
              | some env2 =>
                rw [eb] at hloop
                simp only at hloop
                refine ⟨S', PL.wipe own en, c', _, d, env2, G2, r, eb, fun σ2 c2 G3 off => ⟨(swipe_off off hsub).trans swipe_idem, ?_⟩⟩
                have hw2 : L2.wipe σ2 own = L2.wipe σ own := (swipe_off off hsub).trans swipe_idem
                have l2 : env2.length = e1.length := by rw [G3.env.length, off.1, wipe_length, ← hlen, ← wipe_len own en, ← wipe_length σ own]; exact G2.env.length.symm ▸ rfl
                refine ⟨S', env2, c2, _, G3, ?_⟩
                cases xc : ev C cond env2 with
                | st => rw [xc] at hloop; cases hloop
                | exc k dv env' => rw [xc] at hloop; cases hloop
                | ok dc e3 =>
                  rw [xc] at hloop
                  intro S3 H3 c3 vb crb E3 G4 rb
                  cases dc with
                  | bl k =>
                    obtain ⟨rfl, rfl⟩ := rb
                    rw [z_pl] at G4
                    refine ⟨k, rfl, ?_⟩
                    have E03 : Ext S1 H1 (pl cw f) S3 H3 := (E0.trans0 (e2 _)).trans E3
                    have hD3 : H3 D = some (.dK kvs) := E3.keep D _ (nn D _ hD') (by simp only [pl_at, one_at, if_pos]; omega)
                    cases k with
                    | false =>
                      simp only at hloop
                      obtain ⟨c4, G5⟩ := Good.wiped (own := own) G4 hw2
                      show N (i + 1) H3
                      exact ⟨S3, e3, c4, done, kvs, kd', E03, G5, hD3, by rw [G4.env.length, ← G3.env.length, l2], hkd, hkl, hkk, ys, hloop, rfl⟩
                    | true =>
                      simp only at hloop
                      show tV R C WF elt σ2 H3 _
                      refine ⟨S3, e3, c3, _, G4, ?_⟩
                      cases xe : ev C elt e3 with
                      | st => rw [xe] at hloop; cases hloop
                      | exc k dv env' => rw [xe] at hloop; cases hloop
                      | ok dy e4 =>
                        rw [xe] at hloop
                        intro S4 H4 c4 y cy E4 G5 ry
                        have hloop : (match lcLoop own tg (ev C cond) (fun e => (ev C elt e).bind fun d e => .ok [d] e) (xs.drop (i + 1)) e4 with
                          | .ok ys e4 => O.ok ([dy] ++ ys) e4
                          | _ => .st) = .ok ys ez := hloop
                        cases xl : lcLoop own tg (ev C cond) (fun e => (ev C elt e).bind fun d e => .ok [d] e) (xs.drop (i + 1)) e4 with
                        | st => rw [xl] at hloop; cases hloop
                        | exc k dv env' => rw [xl] at hloop; cases hloop
                        | ok ys' ez' =>
                          rw [xl] at hloop
                          cases hloop
                          have hD4 : H4 D = some (.dK kvs) := E4.keep D _ hD3 (by simp only [pl_at, one_at, if_pos]; omega)
                          obtain ⟨k1, k2, ek1, ek2, ek⟩ := keysF_app hk
                          rw [hkd] at ek1
                          cases ek1
                          obtain ⟨kk, kr, e5, e6, e7⟩ := keysF_one ek2 ry
                          have hl4 : kvs.length < sizeLine := by
                            simp only [List.length_append, List.length_cons] at hfit
                            omega
                          have pz : Rep R S4 H4 dy y z0 := by
                            cases dy with
                            | int i => exact ⟨ry.1, rfl⟩
                            | str s => exact ⟨ry.1, rfl⟩
                            | _ => cases e6
                          refine ⟨kvs, toKey kk, e7, hD4, hl4, ?_⟩
                          have G5' : Good R S4 H4 σ2 e4 c4 (pl (one D) (pl cw f)) := G5.lessF fun a => by simp only [pl_at]; omega
                          obtain ⟨c5, G6⟩ := Good.wiped (own := own) G5' hw2
                          have E04 : Ext S1 H1 (pl cw f) S4 H4 := E03.trans E4
                          refine ⟨S4, e4, c5, done ++ [dy], putK kvs (toKey kk) (.bl true), kd' ++ [kk], E04.updD hD, G6.updD hD4 trivial trivial, upd_same, by rw [G5.env.length, ← G3.env.length, l2], ?_, ?_, ?_, ys', xl, by simp⟩
                          · have gen : ∀ (a b : List Dt) (ka kb : List (Int ⊕ List Nat)), keysF a = some ka → keysF b = some kb → keysF (a ++ b) = some (ka ++ kb) := by
                              intro a
                              induction a with
                              | nil => intro b ka kb h1 h2; cases h1; exact h2
                              | cons z a ih =>
                                intro b ka kb h1 h2
                                cases z with
                                | int i =>
                                  obtain ⟨k, e, rfl⟩ := Option.map_eq_some_iff.mp (show (keysF a).map (Sum.inl i :: ·) = some ka from h1)
                                  show (keysF (a ++ b)).map (Sum.inl i :: ·) = _
                                  rw [ih b k kb e h2]; rfl
                                | str s =>
                                  obtain ⟨k, e, rfl⟩ := Option.map_eq_some_iff.mp (show (keysF a).map (Sum.inr s :: ·) = some ka from h1)
                                  show (keysF (a ++ b)).map (Sum.inr s :: ·) = _
                                  rw [ih b k kb e h2]; rfl
                                | _ => cases h1
                            exact gen _ _ _ _ hkd e6
                          · have := length_putK kvs (toKey kk) (.bl true)
                            rw [List.length_append, List.length_singleton]; omega
                          · rw [List.foldl_append]
                            exact putK_keys kvs _ kk _ hkk
                  | _ => cases hloop
            · have e : i = xs.length := by omega
              subst e
              rw [List.drop_length] at hloop
              have hloop : O.ok [] en = O.ok ys ez := hloop
              cases hloop
              refine .inl ⟨stop, hq D kvs H' hD' ?_⟩
              obtain ⟨c3, h3, le3⟩ := hback S' H' _ c' E0.sub E0.imm (fun a o ea n => E0.keep a o ea (by simp only [pl_at]; omega)) hlen G'.env
              rw [List.append_nil] at hk
              rw [hkd] at hk
              cases hk
              refine hfin S' H' c3 _ z0 (E0.lessF fun a n => by simp only [pl_at]; omega) ⟨h3, G'.sub, fun a => ?_, fun a n => ?_⟩ ⟨?_, rfl⟩
              · have d1 := G'.dis a
                have d2 := le3 a
                simp only [pl_at] at d1 ⊢
                show _ + _ + (0 + _) ≤ 1
                omega
              · refine G'.fr a ?_
                simp only [pl_at] at n ⊢
                have n : 0 + f a ≠ 0 := n
                omega
              · have hl : kvs.length = (ks.foldl (fun acc k => kput k acc) []).length := by
                  have := congrArg List.length hkk
                  rwa [List.length_map, List.length_map] at this
                rw [hl]
        · rw [if_neg hfit] at h
          exact h.elim
end
section
variable {X : Cx} {T : Tags} {C : Ctx} {W : WX} {kx tg iter : Expr} {ifs : List Expr} {scope : Scope} {pos pos2 pb p : Pos} {tt : Tg} {kd : Kd} {es : List E} {cond e : E} {is : List Nat} {nm : Str} {j : Nat}
theorem pe_lenDV (ow : List (Str × Nat)) (hg0 : Gl X nm) (hm : X.mg nm = none) (hv : bootBuiltins nm = some (.builtin "len")) (hc : X.calm = true) (hN : X.N.Nodup) (hi : PI X tg iter (tI (rc X T) C W kd es)) (ok : BlkOk X.N X.env.scope scope ow) (hsub : ∀ j ∈ tgSlots tt, j ∈ is) (ho : ow.map (·.2) = is)
    (hg : ∀ (s : Shared) (H : Hp) (c : Addr) (cl : List (Str × Addr)) (fp : List Addr), PG (X.blk s H scope (compEnvC scope cl c X.env) fp) tg (tB (rc X T) tt))
    (ht : ∀ (s : Shared) (H : Hp) (c : Addr) (cl : List (Str × Addr)) (fp : List Addr), PTs (X.blk s H scope (compEnvC scope cl c X.env) fp) ifs (tT (rc X T) C WF cond))
    (he : ∀ (s : Shared) (H : Hp) (c : Addr) (cl : List (Str × Addr)) (fp : List Addr), PE (X.blk s H scope (compEnvC scope cl c X.env) fp) kx (tV (rc X T) C WF e)) (hs : ∀ x, foldedSetIterable iter X.env x = pure x := by intro _; rfl)
    (hn : nm ≠ "__name__" := by decide) (hdb : (nm == ("__debug__" : Str)) = false := by decide)
    (hse : starEach [.DictComp kx (.Constant (.bool true) j pb) [⟨tg, iter, ifs, 0⟩] scope pos] X.env = (false, eval (.DictComp kx (.Constant (.bool true) j pb) [⟨tg, iter, ifs, 0⟩] scope pos) X.env) :: starEach [] X.env := by rfl) (hpl : (backTo pos2 (starEach [] X.env)).any (·.1) = false := by rfl) :
    PE X (.Call (.Name nm p) [.DictComp kx (.Constant (.bool true) j pb) [⟨tg, iter, ifs, 0⟩] scope pos] [] pos2) (tV (rc X T) C W (.pr .lenD [.lc e tt kd es cond is])) := by
  subst ho
  refine pe_imp (pe_callB call_lenD hg0 hm hv (pa_cons (pe_dc hc hN hi ok hg ht he (fun _ _ _ _ _ => pe_bl) hs) pa_nil hse) hn hdb hse hpl) fun σ H Q q => ?_
  exact tV_lenD (Q' := fun v H1 => tNil σ H1 fun vs H2 => ∃ a kvs, v :: vs = [V.ref a] ∧ H2 a = some (HO.dK kvs) ∧ Q (V.int kvs.length) H2) hsub (fun D kvs H' hD q => ⟨D, kvs, rfl, hD, q⟩) q
end
end PL
set_option Elab.async false
set_option linter.all false
set_option maxRecDepth 100000
set_option maxHeartbeats 2000000
/-! PL, part 34: from a law's top to the facts; the end. -/
namespace PL
open PySem PySem.Spec L2
open PyProof.Rows hiding St

/-! ### the call of the law, no repr under way -/
section
variable {P : Program} {w : World} {K : PySem.W.Frag} {mg mb : Str → Option Value} {k : Nat} {fa a : Addr} {fd : FuncData} {x : Str} {sp : Sp} {s1 : Shared} {vs : List Value} {ns : List Int}
theorem room_caller (hr : Room k callerA) : RoomG k callerA := ⟨hr, rfl⟩
/-- the law's run from a heap H in which the script alone may be told -/
theorem law_core {H : Hp} (KX : K.In s1.heap) (Mg : s1.heap.Ns mainGlobals mg) (Mb : s1.heap.Ns builtinsNs mb) (hbb : ∀ x : Str, x ≠ "__name__" → mb x = bootBuiltins x) (noL : s1.heap.NoLimit) (ng : s1.gens = #[])
    (obj : s1.heap.get? a = some { cls := .type "list", data := .seq vs.toArray }) (hr : Room k callerA) (F : ∀ base : Heap, K.In base → base.Ns mainGlobals mg → FnG P w K mg base k fa fd [x] sp)
    (bnd : ∀ (s : Shared) (u : Value), BindsTo s fd ⟨[u], []⟩ [(x, u)]) (prom : sp [.ref a] H (fun v _ => v = .bl true) fun _ _ _ => False) (only : Only H) (hok : HOk P w H s1.heap) (here : ∀ b, H b ≠ none → b = a) (notK : H a ≠ none → K.lookup a = none) :
    codeAny (model P w) callerA (.call (.ref fa) ⟨[.ref a], []⟩) (fun r s' => r = .ok (.ret (.bool true)) ∧ OldK s1.heap s'.heap ∧ s'.os = s1.os ∧ AllBare s'.gens) s1 := by
  have free : ∀ {b : Addr}, b ≠ a → H b = none := fun {b} n => by
    cases q : H b with
    | none => rfl
    | some u => exact absurd (here b (by rw [q]; exact fun z => nomatch z)) n
  have nsB : ∀ {b : Addr} {m : Str → Option Value}, s1.heap.Ns b m → (hidT s1.heap H).Ns b m := fun {b m} z => by
    obtain ⟨o, es, ep, e, d, r⟩ := z
    refine ⟨o, es, ep, hidT_get e (free fun y => ?_), d, r⟩
    rw [y, obj] at e
    cases e
    cases d
  have inB : K.In (hidT s1.heap H) := fun b o e => hidT_get (KX b o e) (by
    by_cases y : b = a
    · cases q : H b with
      | none => rfl
      | some u =>
        subst y
        rw [notK (by rw [q]; exact fun z => nomatch z)] at e
        cases e
    · exact free y)
  have md : Mod K mg (hidT s1.heap H) := by
    refine ⟨inB, nsB Mg, ⟨mb, nsB Mb, hbb⟩, ?_⟩
    obtain ⟨mc, h1, h2⟩ := noL
    exact ⟨mc, nsB h1, h2⟩
  have env0 : Env0 P w K mg (hidT s1.heap H) callerA [] s1 H := by
    refine ⟨rfl, md, fun b o e => of_hidT e, Nat.le_of_eq (hidT_size _ _), trivial, fun b hb => ?_, hok, .of_eq ng⟩
    exact nomatch (show b ∈ ([] : List Addr) from hb)
  have run := (F _ inB (nsB Mg)).run callerA [] s1 H ⟨[.ref a], []⟩ [.ref a] [.ref a] _ _ (room_caller hr) env0 (bnd s1 (.ref a)) (.cons rfl .nil) prom
  refine codeAny_mono run fun r s' h => ?_
  cases r with
  | error e =>
    obtain ⟨_, _, _, _, _, _, _, _, _, _, _, _, z⟩ := h
    exact z.elim
  | ok fl =>
    cases fl with
    | next => exact h.elim
    | brk => exact h.elim
    | cont => exact h.elim
    | ret u =>
      obtain ⟨v, H', os, bare, un, hok', rv, q⟩ := h
      obtain rfl : v = .bl true := q
      cases (show u = Value.bool true from rv)
      refine ⟨rfl, OldK.of_keep fun b o e => ?_, os, bare⟩
      rcases only b with n | ⟨ob, xs, y⟩
      · exact un.keep b o e n (fun z => nomatch (show b ∈ ([] : List Addr) from z)) fun z => nomatch z
      · obtain ⟨e1, _⟩ := hok b _ y
        obtain ⟨e2, _⟩ := hok' b _ (un.frzs b ob _ y)
        rw [e] at e1
        cases e1
        exact e2
theorem law_callG (KX : K.In s1.heap) (Mg : s1.heap.Ns mainGlobals mg) (Mb : s1.heap.Ns builtinsNs mb) (hbb : ∀ x : Str, x ≠ "__name__" → mb x = bootBuiltins x) (noL : s1.heap.NoLimit) (ng : s1.gens = #[])
    (obj : s1.heap.get? a = some { cls := .type "list", data := .seq vs.toArray }) (hi : IntsAre vs ns) (hl : ns.length ≤ sizeLine) (hr : Room k callerA) (F : ∀ base : Heap, K.In base → base.Ns mainGlobals mg → FnG P w K mg base k fa fd [x] sp)
    (bnd : ∀ (s : Shared) (u : Value), BindsTo s fd ⟨[u], []⟩ [(x, u)]) (prom : ∀ H : Hp, SqL K H a (ns.map V.int) → sp [.ref a] H (fun v _ => v = .bl true) fun _ _ _ => False) :
    codeAny (model P w) callerA (.call (.ref fa) ⟨[.ref a], []⟩) (fun r s' => r = .ok (.ret (.bool true)) ∧ OldK s1.heap s'.heap ∧ s'.os = s1.os ∧ AllBare s'.gens) s1 := by
  have rv := vals_ints hi
  have len := hi.length
  cases hk : K.lookup a with
  | some o =>
    have e := KX a o hk
    rw [obj] at e
    cases e
    have sq : SqL K (fun _ => none) a (ns.map V.int) := .inr ⟨_, vs.toArray, _, hk, rfl, rfl, rfl, by rw [List.size_toArray, len]; exact hl, by simpa using rv⟩
    exact law_core KX Mg Mb hbb noL ng obj hr F bnd (prom _ sq) (fun _ => .inl rfl) (fun b u z => nomatch (show (none : Option HO) = some u from z)) (fun b z => absurd rfl z) fun z => absurd rfl z
  | none =>
    have at_a : (fun b => if b = a then some (HO.frz { cls := .type "list", data := .seq vs.toArray } (.lst (ns.map V.int))) else none) a = some (HO.frz { cls := .type "list", data := .seq vs.toArray } (.lst (ns.map V.int))) := if_pos rfl
    refine law_core (H := fun b => if b = a then some (HO.frz { cls := .type "list", data := .seq vs.toArray } (.lst (ns.map V.int))) else none) KX Mg Mb hbb noL ng obj hr F bnd (prom _ (.inl (.inr ⟨_, at_a⟩))) (fun b => ?_) (fun b u z => ?_) (fun b z => ?_) fun _ => hk
    · by_cases y : b = a
      · exact .inr ⟨_, _, if_pos y⟩
      · exact .inl (if_neg y)
    · by_cases y : b = a
      · have z := (if_pos y).symm.trans z
        cases z
        subst y
        exact ⟨obj, by rw [List.length_map]; exact hl, vs, _, rv, obj⟩
      · exact nomatch (if_neg y).symm.trans z
    · by_cases y : b = a
      · exact y
      · exact absurd (if_neg y) z
end
theorem walk_ofG {l : PySem.W.OpenLaw} {n k : Nat} {q : Program} {loose : List Str} {XP : (Str → Option Value) → Heap → Prop} {YP : World → Heap → Prop} {d : DefRec} {x : Str} (hn : l.most = some n) (hn2 : n ≤ sizeLine) (hdf : d.params.defaults = []) (hr : Room k callerA)
    (F : ∀ (w : World) (mg : Str → Option Value) (fa a : Addr) (h : Heap), YP w h → h.Ns mainGlobals mg → mg d.name = some (.ref fa) →
      ∃ (K : PySem.W.Frag) (fd : FuncData) (sp : Sp), K.In h ∧ (∀ (s : Shared) (u : Value), BindsTo s fd ⟨[u], []⟩ [(x, u)]) ∧
        (∀ (H : Hp) (ns : List Int), ns.length ≤ n → SqL K H a (ns.map V.int) → sp [.ref a] H (fun v _ => v = .bl true) fun _ _ _ => False) ∧ ∀ base : Heap, K.In base → base.Ns mainGlobals mg → FnG l.prog w K mg base k fa fd [x] sp) :
    PySem.W.WalkO q loose XP YP l.row.toRowW d [] (fun f vs => PySem.call f vs) := by
  refine Att.attach_call hn hdf fun w s0 s1 mg mb fa o pm cd doc a vs ns G Y ho hd hcd hmg obj hi hlen hg => ?_
  obtain ⟨K, fd, sp, KX, hb, prom, hF⟩ := F w mg fa a _ Y G.T.g hmg
  exact law_callG KX G.T.g G.T.b G.T.builtins G.T.nolimit hg obj hi (Nat.le_trans hlen hn2) hr hF hb fun H sq => prom H ns hlen sq

/-! ### constants of the top -/
mutual
def repB (K : PySem.W.Frag) : D → Value → Bool
  | .non, .none => true
  | .bl b, .bool c => b == c
  | .int i, .int j _ => decide (i = j)
  | .str s, .str y _ => decide (mkS s = y)
  | .tup ds, .ref a => (match K.lookup a with
    | some ⟨.type c, none, .seq its _, _⟩ => decide (c = "tuple") && (decide (its.size ≤ sizeLine) && repBs K ds its.toList)
    | _ => false)
  | _, _ => false
termination_by structural x => x
def repBs (K : PySem.W.Frag) : List D → List Value → Bool
  | [], [] => true
  | d :: ds, v :: vs => repB K d v && repBs K ds vs
  | _, _ => false
termination_by structural x => x
end
section
variable {K : PySem.W.Frag}
mutual
theorem repB_ok : ∀ (d : D) (u : Value), repB K d u = true → ∃ v, RelV v u ∧ (∀ (P : Program) (w : World) (τ fa cl : Nat → Addr) (S H : Hp), Rep ⟨K, P, w, τ, fa, cl⟩ S H d v z0) ∧ ∀ a, v = .ref a → ∃ o, K.lookup a = some o ∧ o.cls = .type "tuple" ∧ o.dict = none
  | .non, u, h => by
    cases u with
    | none => exact ⟨.non, rfl, fun _ _ _ _ _ _ _ => ⟨rfl, rfl⟩, fun a z => nomatch z⟩
    | _ => cases h
  | .bl b, u, h => by
    cases u with
    | bool c =>
      obtain rfl : b = c := eq_of_beq h
      exact ⟨.bl b, rfl, fun _ _ _ _ _ _ _ => ⟨rfl, rfl⟩, fun a z => nomatch z⟩
    | _ => cases h
  | .int i, u, h => by
    cases u with
    | int j t =>
      obtain rfl : i = j := of_decide_eq_true h
      exact ⟨.int i, ⟨t, rfl⟩, fun _ _ _ _ _ _ _ => ⟨rfl, rfl⟩, fun a z => nomatch z⟩
    | _ => cases h
  | .str s, u, h => by
    cases u with
    | str y t =>
      obtain rfl : mkS s = y := of_decide_eq_true h
      exact ⟨.str (mkS s), ⟨t, rfl⟩, fun _ _ _ _ _ _ _ => ⟨rfl, rfl⟩, fun a z => nomatch z⟩
    | _ => cases h
  | .tup ds, u, h => by
    cases u with
    | ref a =>
      have h : (match K.lookup a with
        | some ⟨.type c, none, .seq its _, _⟩ => decide (c = "tuple") && (decide (its.size ≤ sizeLine) && repBs K ds its.toList)
        | _ => false) = true := h
      cases q : K.lookup a with
      | none => rw [q] at h; cases h
      | some o =>
        rw [q] at h
        obtain ⟨oc, od, dt, osl⟩ := o
        cases oc with
        | type c =>
          cases od with
          | none =>
            cases dt with
            | seq its n =>
              simp only [Bool.and_eq_true, decide_eq_true_eq] at h
              obtain ⟨rfl, hz, hs⟩ := h
              obtain ⟨vs, rv, rp⟩ := repBs_ok ds its.toList hs
              exact ⟨.ref a, rfl, fun P w τ fa cl S H => ⟨a, vs, rfl, .inr ⟨_, its, n, q, rfl, rfl, hz, rv⟩, rp P w τ fa cl S H⟩, fun b z => by cases z; exact ⟨_, q, rfl, rfl⟩⟩
            | _ => cases h
          | some d => cases dt <;> cases h
        | _ => cases od <;> cases dt <;> cases h
    | _ => cases h
  | .lst _ _, u, h => by cases u <;> cases h
  | .dct _ _, u, h => by cases u <;> cases h
  | .fn _, u, h => by cases u <;> cases h
  | .exn _ _, u, h => by cases u <;> cases h
termination_by structural x => x
theorem repBs_ok : ∀ (ds : List D) (us : List Value), repBs K ds us = true → ∃ vs, Vals vs us ∧ ∀ (P : Program) (w : World) (τ fa cl : Nat → Addr) (S H : Hp), RepL ⟨K, P, w, τ, fa, cl⟩ S H ds vs z0
  | [], [], _ => ⟨[], .nil, fun _ _ _ _ _ _ _ => rfl⟩
  | [], _ :: _, h => by cases h
  | _ :: _, [], h => by cases h
  | d :: ds, u :: us, h => by
    have h : (repB K d u && repBs K ds us) = true := h
    rw [Bool.and_eq_true] at h
    obtain ⟨v, r1, p1, _⟩ := repB_ok d u h.1
    obtain ⟨vs, r2, p2⟩ := repBs_ok ds us h.2
    exact ⟨v :: vs, .cons r1 r2, fun P w τ fa cl S H => ⟨z0, z0, p1 P w τ fa cl S H, p2 P w τ fa cl S H, rfl⟩⟩
termination_by structural x => x
end
/-- the module's name x is the datum d -/
def conB (K : PySem.W.Frag) (q : Str × D) : Bool := match PySem.W.nsIn K mainGlobals q.1 with
  | some (some u) => repB K q.2 u
  | _ => false
theorem conB_ok {h : Heap} {mg : Str → Option Value} (X : K.In h) (G : h.Ns mainGlobals mg) {q : Str × D} (c : conB K q = true) : ∃ v u, mg q.1 = some u ∧ RelV v u ∧ (∀ (P : Program) (w : World) (τ fa cl : Nat → Addr) (S H : Hp), Rep ⟨K, P, w, τ, fa, cl⟩ S H q.2 v z0) ∧ ∀ a, v = .ref a → ∃ o, K.lookup a = some o ∧ o.cls = .type "tuple" ∧ o.dict = none := by
  unfold conB at c
  split at c
  · rename_i u e
    obtain ⟨v, r, p, t⟩ := repB_ok q.2 u c
    exact ⟨v, u, PySem.W.mg_of X G e, r, p, t⟩
  · cases c
/-! ### the error classes of the top -/
def okAll : Nat → (Nat → Bool) → Bool
  | 0, _ => true
  | n + 1, p => p n && okAll n p
theorem okAll_ok {p : Nat → Bool} : ∀ {n : Nat}, okAll n p = true → ∀ i, i < n → p i = true
  | n + 1, h, i, hi => by
    have h : (p n && okAll n p) = true := h
    rw [Bool.and_eq_true] at h
    by_cases e : i = n
    · rw [e]; exact h.1
    · exact okAll_ok h.2 i (by omega)
def clsB (K : PySem.W.Frag) (C : Addr) : Bool := match K.lookup C with
  | some ⟨.type "type", _, .cls cd, sl⟩ => (match cd.mro, sl.toList with
    | .ref C' :: bm, [_, _, _, _, some (.builtin n), _] => C' == C && (n == "ValueError.__new__" && (!cd.hasDel && (cd.hasDict && PySem.HandSPX.refsVE bm)))
    | _, _ => false)
  | _ => false
theorem clsB_ok {C : Addr} (h : clsB K C = true) : ∃ nm q N bs bm sn sub ab col dd k0 k1 k2 k3 k5, K.lookup C = some (excClassObj nm q C N bs bm true sn sub ab col dd k0 k1 k2 k3 k5 "ValueError.__new__") ∧ PySem.HandSPX.refsVE bm = true := by
  unfold clsB at h
  split at h
  · rename_i dd cd sl ho
    split at h
    · rename_i C' bm k0 k1 k2 k3 n k5 hm hs
      simp only [Bool.and_eq_true, beq_iff_eq, Bool.not_eq_true'] at h
      obtain ⟨rfl, rfl, hd, hh, hb⟩ := h
      obtain ⟨nm, bs, mro, N, q, hd', sn, sub, ab, col, del⟩ := cd
      simp only at hm hd hh
      subst hm hd hh
      obtain ⟨l⟩ := sl
      simp only at hs
      subst hs
      exact ⟨_, _, _, _, _, _, _, _, _, _, _, _, _, _, _, ho, hb⟩
    · cases h
  · cases h
abbrev eqO (a b : Option (Option Value)) : Bool := decide (a = b)
/-- where LoneError's __init__ has its code, its cell -/
def codeAt (K : PySem.W.Frag) (f : Addr) : Addr := match K.lookup f with
  | some ⟨_, _, .func fd, _⟩ => (match fd.code with
    | .ref a => a
    | _ => 0)
  | _ => 0
def cellAt (K : PySem.W.Frag) (f : Addr) : Addr := match K.lookup f with
  | some ⟨_, _, .func fd, _⟩ => (match fd.closure with
    | [(_, a)] => a
    | _ => 0)
  | _ => 0
/-- what is looked at of it, in one datum -/
abbrev FnC : Type := Option (Str × Str × Arguments × FuncBody × Scope × Addr × List Str × Addr)
def fnC (K : PySem.W.Frag) (f : Addr) : FnC := match K.lookup f with
  | some ⟨_, _, .func fd, _⟩ => some (fd.name, fd.qualname, fd.params, fd.body, fd.scope, fd.globals, fd.closure.map (·.1), fd.builtins)
  | _ => none
def valC : FnC := some ("__init__", "LoneError.__init__", inA, .stmts inB, inS, mainGlobals, ["__class__"], builtinsNs)
def isN : Value → Bool
  | .none => true
  | _ => false
def fnB (K : PySem.W.Frag) (f : Addr) : Bool := match K.lookup f with
  | some ⟨_, _, .func fd, _⟩ => (match fd.closure, fd.code with
    | [(_, _)], .ref c => isN fd.defaults && (isN fd.kwdefaults && PySem.W.codeIn K (.ref c) "LoneError.__init__")
    | _, _ => false)
  | _ => false
theorem isN_eq {v : Value} (h : isN v = true) : v = .none := by
  cases v <;> first | rfl | cases h
theorem fnC_ok {f : Addr} (e : fnC K f = valC) (h : fnB K f = true) : ∃ (oc : Value) (od : Option Addr) (doc pm : Value) (an : Option Addr) (ct : Value) (osl : Array (Option Value)),
    K.lookup f = some ⟨oc, od, .func (PySem.W.ksFn "__init__" "LoneError.__init__" inA inB inS .none .none doc pm an (.ref (codeAt K f)) ct (cellAt K f)), osl⟩ ∧ PySem.W.codeIn K (.ref (codeAt K f)) "LoneError.__init__" = true := by
  unfold fnC valC at e
  unfold fnB at h
  unfold codeAt cellAt
  cases q : K.lookup f with
  | none => rw [q] at h; cases h
  | some o =>
    obtain ⟨oc, od, dt, osl⟩ := o
    rw [q] at h e
    cases dt with
    | func fd =>
      obtain ⟨n1, n2, n3, n4, n5, n6, n7, n8, n9, n10, n11, n12, n13, n14, n15⟩ := fd
      simp only [Option.some.injEq, Prod.mk.injEq] at e
      obtain ⟨h1, h2, h3, h4, h5, h6, h7, h8⟩ := e
      subst h1 h2 h3 h4 h5 h6 h8
      match n7, h7 with
      | [(y, c)], h7 =>
        have hy : y = "__class__" := by simpa using h7
        cases n13 with
        | ref cd =>
          simp only [Bool.and_eq_true] at h
          obtain ⟨d1, d2, d3⟩ := h
          have d1 := isN_eq d1
          have d2 := isN_eq d2
          subst d1 d2
          refine ⟨oc, od, n10, n11, n12, n14, osl, ?_, d3⟩
          rw [hy]
        | _ => cases h
      | [], h7 => exact absurd (congrArg List.length h7) (fun z => nomatch (show 0 = 1 from z))
      | x1 :: x2 :: xs, h7 => exact absurd (congrArg List.length h7) (fun z => by simp only [List.map_cons, List.length_cons, List.length_nil] at z; omega)
    | _ => cases h
def codeB (P : Program) (K : PySem.W.Frag) (c : Addr) : Bool := match K.lookup c with
  | some ⟨_, _, .fields vs, _⟩ => (match vs[2]? with
    | some (Value.str file _) => (P.main.file : Str) == file
    | _ => false)
  | _ => false
theorem codeB_ok {P : Program} {c : Addr} (h : codeB P K c = true) : ∃ ccl cdd vs ccs file tf, K.lookup c = some ⟨ccl, cdd, .fields vs, ccs⟩ ∧ vs[2]? = some (.str file tf) ∧ ((P.main.file : Str) == file) = true := by
  unfold codeB at h
  split at h
  · rename_i a b vs d e
    split at h
    · rename_i file tf e2
      exact ⟨_, _, _, _, _, _, e, e2, h⟩
    · cases h
  · cases h
def cellB (K : PySem.W.Frag) (c D : Addr) : Bool := match K.lookup c with
  | some ⟨_, _, .cell (some (.ref D')), _⟩ => D' == D
  | _ => false
theorem cellB_ok {c D : Addr} (h : cellB K c D = true) : ∃ cl cld csl, K.lookup c = some ⟨cl, cld, .cell (some (.ref D)), csl⟩ := by
  unfold cellB at h
  split at h
  · rename_i e
    obtain rfl := eq_of_beq h
    exact ⟨_, _, _, e⟩
  · cases h
def loneB (K : PySem.W.Frag) (D fI C : Addr) : Bool :=
  clsB K C && (eqO (PySem.W.findIn K (.ref C) "__setattr__") (some (some (.builtin "object.__setattr__"))) && (eqO (PySem.W.findIn K (.ref C) "__getattribute__") (some (some (.builtin "BaseException.__getattribute__"))) && (eqO (PySem.W.findIn K (.ref C) "__getattr__") (some none) &&
  (eqO (PySem.W.findIn K (.ref C) "value") (some none) && (eqO (PySem.W.findIn K (.ref C) "__init__") (some (some (.ref fI))) && (decide (PySem.W.typeIn K (.ref fI) = some (.type "function")) && (PySem.W.keepIn K (.ref C) && (decide (PySem.W.subIn K (.ref C) (.type "BaseException") = some true) &&
  (decide (PySem.W.subIn K (.ref C) (.type "ValueError") = some true) && (decide (PySem.W.typeIn K (.ref C) = some (.type "type")) && (PySem.W.hasDictIn K C && (decide (PySem.W.mroIn K C (.ref D) = some true) && (eqO (PySem.W.ks_superIn K C D "__init__") (some (some (.builtin "ValueError.__init__"))) &&
  (eqO (PySem.W.findIn K (.ref C) "__class__") (some (some (.builtin "object.__class__"))) && decide (PySem.W.mroIn K C (.type "object") = some true)))))))))))))))
def errB (P : Program) (K : PySem.W.Frag) (par : Nat → Option Nat) (nms : List Str) : Bool :=
  let cl := fun k => He.ga K (nms.getD k "")
  let D := cl 0
  let fI := He.ma K D "__init__"
  okAll nms.length (fun k => loneB K D fI (cl k)) && (okAll nms.length (fun k => okAll nms.length fun c => decide (PySem.W.kitOne K (.ref (cl k)) (.ref (cl c)) = some (isTy.anc par 8 k c)) && (!isTy.anc par 8 k c || decide (PySem.W.exmOne K (.ref (cl k)) (.ref (cl c)) = some true))) &&
  (okAll nms.length (fun c => decide (PySem.W.kitOne K (.type "NoneType") (.ref (cl c)) = some false)) && (eqO (PySem.W.specialIn K (.builtin "object.__class__") "__get__") (some (some (.builtin "getset_descriptor.__get__"))) && (decide (PySem.W.takesIn K (.builtin "object.__class__") = some true) &&
  (eqO (PySem.W.nsIn K cStatics "thirdparty.any") (some none) && ((PySem.W.clsIn K D).isSome && (fnB K fI && (codeB P K (codeAt K fI) && (cellB K (cellAt K fI) D && (eqO (PySem.W.nsIn K mainGlobals "super") (some none) && !(P.main.scope.names.lookup ("super" : Str)).isSome))))))))))
theorem errB_ok {P : Program} {par : Nat → Option Nat} {nms : List Str} {h : Heap} {mg : Str → Option Value} (X : K.In h) (G : h.Ns mainGlobals mg) (hn : ∀ k, okc par k = true → k < nms.length) (c : errB P K par nms = true)
    (e : fnC K (He.ma K (He.ga K (nms.getD 0 "")) "__init__") = valC) :
    Errs P K mg par (fun k => He.ga K (nms.getD k "")) (He.ga K (nms.getD 0 "")) (He.ma K (He.ga K (nms.getD 0 "")) "__init__") (cellAt K (He.ma K (He.ga K (nms.getD 0 "")) "__init__")) (codeAt K (He.ma K (He.ga K (nms.getD 0 "")) "__init__")) := by
  simp only [errB, Bool.and_eq_true] at c
  obtain ⟨c1, c2, c3, c4, c5, c6, c7, c8, c9, c10, c11, c12⟩ := c
  have one := fun k hk => okAll_ok c1 k (hn k hk)
  have two := fun k c hk hc => okAll_ok (okAll_ok c2 k (hn k hk)) c (hn c hc)
  refine ⟨fun k hk => ?_, fun k c hk hc ha => ?_, fun k c hk hc => ?_, fun c hc => of_decide_eq_true (okAll_ok c3 c (hn c hc)), fun k hk => ?_, of_decide_eq_true c4, of_decide_eq_true c5, fun k hk => ?_⟩
  · have l := one k hk
    simp only [loneB, Bool.and_eq_true, decide_eq_true_eq] at l
    obtain ⟨l1, l2, l3, l4, l5, l6, l7, l8, l9, l10, l11, l12, l13, l14, l15, l16⟩ := l
    exact ⟨clsB_ok l1, l2, l3, l4, l5, l6, l7, l8, l9, l10, l11, l12, l13, l14, of_decide_eq_true c6, c7, fnC_ok e c8, codeB_ok c9, cellB_ok c10, PySem.W.mg_none_of X G (of_decide_eq_true c11), by simpa using c12⟩
  · have q := two k c hk hc
    simp only [Bool.and_eq_true, decide_eq_true_eq, ha, Bool.not_true, Bool.false_or] at q
    exact q.2
  · have q := two k c hk hc
    simp only [Bool.and_eq_true, decide_eq_true_eq] at q
    exact q.1
  · have l := one k hk
    simp only [loneB, Bool.and_eq_true, decide_eq_true_eq] at l
    exact l.2.2.2.2.2.2.2.2.2.2.2.2.2.2.1
  · have l := one k hk
    simp only [loneB, Bool.and_eq_true, decide_eq_true_eq] at l
    exact l.2.2.2.2.2.2.2.2.2.2.2.2.2.2.2
end
/-! ### what is looked at behind the top -/
def defD (d : DefI) : He.DefD := ⟨(d.name, none), d.name, d.name, defArgs d.st, defBody d.st, defScope d.st, [], []⟩
structure TopI where
  P : Program
  ds : List DefI
  free : List Str
  cns : List (Str × Dt)
  clss : List Str
  par : Nat → Option Nat
def TopI.fa (t : TopI) : List He.Fa := t.ds.map (fun d => .glo d.name) ++ (t.free.map .free ++ t.clss.map .glo)
def TopI.fn (t : TopI) : List He.DefD := t.ds.map defD
abbrev AlP : Type := He.AlD × Bool × FnC
def partP (g : Addr → Option Obj) (n : Nat) : PySem.W.Frag := He.frG g (He.asD g n ++ [cStatics])
def TopI.look (t : TopI) (K : PySem.W.Frag) : AlP := (He.obsD t.fa t.fn K, (errB t.P K t.par t.clss && t.cns.all (conB K)), fnC K (He.ma K (He.ga K (t.clss.getD 0 "")) "__init__"))
def TopI.val (t : TopI) : AlP := (He.valD t.fn, true, valC)
def TopI.ob (t : TopI) (n : Nat) (g : Addr → Option Obj) : AlP := t.look (partP g n)
def TopI.hook (t : TopI) (n : Nat) : PySem.W.Hook where
  α := AlP
  obs := fun s => t.ob n s.heap.get?
  val := fun _ => t.val
  says := fun _ h => ∃ K : PySem.W.Frag, K.In h ∧ t.look K = t.val
  of := fun _ _ e => ⟨_, He.frG_in, e⟩
  keeps := fun _ _ _ ⟨K, hK, c⟩ k => ⟨K, PySem.W.Frag.In.keeps hK k, c⟩
theorem TopI.ob_eq (t : TopI) {n : Nat} {s : PySem.W.SharedT} : t.ob n (HandSHeadRun.getT s) = (t.hook n).obs s.abs := by
  have e : HandSHeadRun.getT s = s.abs.heap.get? := funext (HandSHeadRun.getT_eq s)
  rw [e] <;> rfl
def TopI.T (t : TopI) (K : PySem.W.Frag) (τ : Nat → Addr) : Tags := ⟨τ, fun i => He.ga K ((t.ds[i]?.map (·.name)).getD ""), fun k => He.ga K (t.clss.getD k "")⟩
/-- how a def's values bind -/
def BindOk (d : DefI) : Prop := ∀ (kV doc pm : Value) (an : Option Addr) (cdv ct : Value) (us : List Value), us.length = d.ps.length → bindArgs (PySem.W.fnOf d.name d.name (defArgs d.st) (defBody d.st) (defScope d.st) .none kV doc pm an cdv ct) ⟨us, []⟩ = pure (d.ps.zip us)
theorem TopI.facts (t : TopI) {K : PySem.W.Frag} {h : Heap} {mg : Str → Option Value} (X : K.In h) (G : h.Ns mainGlobals mg) (c : t.look K = t.val) (hne : ∃ d, t.ds[0]? = some d) (hb : ∀ d ∈ t.ds, BindOk d) :
    ∃ fd : Nat → FuncData, ∀ τ : Nat → Addr, Facts K mg t.ds t.free t.cns (t.T K τ) fd := by
  have cD : He.SaysD t.fa t.fn K := congrArg (fun z : AlP => z.1) c
  have cB : (errB t.P K t.par t.clss && t.cns.all (conB K)) = true := congrArg (fun z : AlP => z.2.1) c
  rw [Bool.and_eq_true] at cB
  have key : ∀ (i : Nat) (d : DefI), t.ds[i]? = some d → ∃ fd, FunD K d.name d.name (defArgs d.st) (defBody d.st) (defScope d.st) [] [] (He.ga K d.name) fd := fun i d e => cD.def_ i (d := defD d) (by show (t.ds.map defD)[i]? = _; rw [List.getElem?_map, e]; rfl)
  obtain ⟨d0, e0⟩ := hne
  obtain ⟨f0, _⟩ := key 0 d0 e0
  have fds : ∀ i : Nat, ∃ fd, ∀ d, t.ds[i]? = some d → FunD K d.name d.name (defArgs d.st) (defBody d.st) (defScope d.st) [] [] (He.ga K d.name) fd := fun i => by
    cases e : t.ds[i]? with
    | none => exact ⟨f0, fun d z => nomatch z⟩
    | some d =>
      obtain ⟨fd, F⟩ := key i d e
      exact ⟨fd, fun d' z => by cases z; exact F⟩
  obtain ⟨fd, hfd⟩ := Classical.axiomOfChoice fds
  have nm : ∀ (τ : Nat → Addr) (i : Nat) (d : DefI), t.ds[i]? = some d → (t.T K τ).fa i = He.ga K d.name := fun τ i d e => by
    show He.ga K ((t.ds[i]?.map (·.name)).getD "") = _
    rw [e]; rfl
  have fac : ∀ (j : Nat) (f : He.Fa), t.fa[j]? = some f → f.ok K = true := fun j f e => cD.fact j e
  have lt : ∀ {α : Type} {l : List α} {i : Nat} {x : α}, l[i]? = some x → i < l.length := fun {α l i x} e => (List.getElem?_eq_some_iff.mp e).1
  refine ⟨fd, fun τ => ⟨fun i d e => ?_, fun i d e => ?_, fun i x e => ?_, fun i d e => ?_, fun i n d e => ?_⟩⟩
  · rw [nm τ i d e]; exact hfd i d e
  · rw [nm τ i d e]
    refine He.glo_ok X G (fac i (.glo d.name) ?_)
    show (t.ds.map (fun d => He.Fa.glo d.name) ++ _)[i]? = _
    rw [List.getElem?_append_left (by rw [List.length_map]; exact lt e), List.getElem?_map, e]; rfl
  · refine He.free_ok X G (fac (t.ds.length + i) (.free x) ?_)
    show (t.ds.map (fun d => He.Fa.glo d.name) ++ (t.free.map He.Fa.free ++ _))[t.ds.length + i]? = _
    rw [List.getElem?_append_right (by rw [List.length_map]; omega), List.length_map, Nat.add_sub_cancel_left, List.getElem?_append_left (by rw [List.length_map]; exact lt e), List.getElem?_map, e]; rfl
  · exact FunD.bindsN (hfd i d e) (hb d (List.mem_of_getElem? e))
  · obtain ⟨v, u, h1, h2, h3, h4⟩ := conB_ok X G (List.all_eq_true.mp cB.2 (n, d) (List.mem_of_getElem? e))
    exact ⟨v, u, h1, h2, fun P w S H => h3 P w _ _ _ S H, h4⟩
theorem TopI.errs (t : TopI) {K : PySem.W.Frag} {h : Heap} {mg : Str → Option Value} (X : K.In h) (G : h.Ns mainGlobals mg) (c : t.look K = t.val) (hn : ∀ k, okc t.par k = true → k < t.clss.length) :
    (∃ D0 fI cc cda, ∀ τ : Nat → Addr, Errs t.P K mg t.par (t.T K τ).cl D0 fI cc cda) ∧ ∀ (τ : Nat → Addr) (i : Nat) (n : Str), t.clss[i]? = some n → mg n = some (.ref ((t.T K τ).cl i)) := by
  have cD : He.SaysD t.fa t.fn K := congrArg (fun z : AlP => z.1) c
  have cB : (errB t.P K t.par t.clss && t.cns.all (conB K)) = true := congrArg (fun z : AlP => z.2.1) c
  have cC : fnC K (He.ma K (He.ga K (t.clss.getD 0 "")) "__init__") = valC := congrArg (fun z : AlP => z.2.2) c
  rw [Bool.and_eq_true] at cB
  refine ⟨⟨_, _, _, _, fun _ => errB_ok X G hn cB.1 cC⟩, fun τ i n e => ?_⟩
  have q : t.fa[t.ds.length + (t.free.length + i)]? = some (.glo n) := by
    show (t.ds.map (fun d => He.Fa.glo d.name) ++ (t.free.map He.Fa.free ++ t.clss.map He.Fa.glo))[_]? = _
    rw [List.getElem?_append_right (by rw [List.length_map]; omega), List.length_map, Nat.add_sub_cancel_left, List.getElem?_append_right (by rw [List.length_map]; omega), List.length_map, Nat.add_sub_cancel_left, List.getElem?_map, e]; rfl
  have g := He.glo_ok X G (cD.fact _ q)
  rw [g]
  show some (Value.ref (He.ga K n)) = some (Value.ref (He.ga K (t.clss.getD i "")))
  rw [List.getD_eq_getElem?_getD, e]; rfl
theorem repL_ints {R : Rc} {S H : Hp} : ∀ ns : List Int, RepL R S H (ns.map PL.D.int) (ns.map V.int) z0
  | [] => rfl
  | _ :: ns => ⟨z0, z0, ⟨rfl, rfl⟩, repL_ints ns, rfl⟩
/-- the law's promise -/
theorem prom_of {K : PySem.W.Frag} {P : Program} {w : World} {τ fa cl : Nat → Addr} {G : Prog} {L k g : Nat} {a : Addr} {H : Hp} {ns : List Int} (hτ : τ 9 = a) (hS : SqL K H a (ns.map V.int)) (h : callF G L k g [.lst (.sh 9) (ns.map .int)] = .ok (.bl true) [none]) :
    spF ⟨K, P, w, τ, fa, cl⟩ G L k g [.ref a] H (fun v _ => v = .bl true) fun _ _ _ => False := by
  refine ⟨H, [.lst (.sh 9) (ns.map .int)], z0, z0, ⟨z0, z0, ⟨a, _, rfl, .inr ⟨rfl, hS⟩, fun _ => hτ.symm, repL_ints ns, rfl⟩, rfl, rfl⟩, fun _ _ h => h, fun b => ?_, fun b n => absurd rfl n, ?_⟩
  · show occ H b + 0 + 0 ≤ 1
    have := occ_le H b
    omega
  · rw [h]
    intro S' H' v cr co _ _ _ r _
    exact r.1
end PL
set_option Elab.async false
set_option linter.all false
set_option maxRecDepth 100000
set_option maxHeartbeats 2000000
/-! PL, part 35: a list that a thrown error holds and a slot too, lengthened behind. -/
namespace PL
open PySem PySem.Spec L2
open PyProof.Rows hiding St

section
variable {R R1 : Rc} {C : Ctx} {W : WX} {σ0 σ σ' : L2.St} {D : Ends} {S S1 H H1 : Hp} {env env1 : Env} {c c1 f cr q : Cn}
theorem RepL.strs : ∀ {ds : List Dt} {vs : List V} {c : Cn}, allStr ds = true → RepL R S H ds vs c → c = z0 ∧ ∀ (R' : Rc) (S' H' : Hp), RepL R' S' H' ds vs z0
  | [], [], _, _, h => ⟨h, fun _ _ _ => rfl⟩
  | .str s :: ds, v :: vs, _, a, h => by
    obtain ⟨c1, c2, h1, h2, rfl⟩ := h
    obtain ⟨rfl, k⟩ := RepL.strs (show allStr ds = true from a) h2
    obtain ⟨e1, rfl⟩ := h1
    exact ⟨rfl, fun R' S' H' => ⟨z0, z0, ⟨e1, rfl⟩, k R' S' H', rfl⟩⟩
  | [], _ :: _, _, _, h => h.elim
  | _ :: _, [], _, _, h => by cases h
theorem rep_kp {d : Dt} {v : V} {c : Cn} (k : kp d = true) (h : Rep R S H d v c) : c = z0 ∧ ∀ (R' : Rc) (S' H' : Hp), Rep R' S' H' d v z0 := by
  cases d with
  | non => exact ⟨h.2, fun _ _ _ => ⟨h.1, rfl⟩⟩
  | bl b => exact ⟨h.2, fun _ _ _ => ⟨h.1, rfl⟩⟩
  | int b => exact ⟨h.2, fun _ _ _ => ⟨h.1, rfl⟩⟩
  | str b => exact ⟨h.2, fun _ _ _ => ⟨h.1, rfl⟩⟩
  | _ => cases k
theorem RepE.keepS : ∀ {env : Env} {σ : L2.St} {c : Cn}, RepE R S H env σ c → ∀ (R' : Rc) (S' H' : Hp), RepE R' S' H' (keepS env) σ z0
  | [], [], _, _, _, _, _ => rfl
  | none :: e, _ :: σ, _, h, R', S', H' => RepE.keepS (env := e) (σ := σ) h R' S' H'
  | some d :: e, some v :: σ, _, h, R', S', H' => by
    obtain ⟨c1, c2, h1, h2, rfl⟩ := h
    have ih := RepE.keepS h2 R' S' H'
    show RepE R' S' H' (kpO (some d) :: PL.keepS e) (some v :: σ) z0
    by_cases k : kp d = true
    · rw [show kpO (some d) = some d from if_pos k]
      exact ⟨z0, z0, (rep_kp k h1).2 R' S' H', ih, rfl⟩
    · rw [show kpO (some d) = none from if_neg k]
      exact ih
  | [], _ :: _, _, h, _, _, _ => h.elim
  | some _ :: _, [], _, h, _, _, _ => h.elim
  | none :: _, [], _, h, _, _, _ => h.elim
  | some _ :: _, none :: _, _, h, _, _, _ => h.elim
theorem RepE.nones : ∀ {env : Env} {σ : L2.St}, env.length = σ.length → RepE R S H (nones env) σ z0
  | [], [], _ => rfl
  | x :: e, y :: σ, h => by
    show RepE R S H (none :: PL.nones e) (y :: σ) z0
    exact RepE.nones (env := e) (σ := σ) (by simpa using h)
  | [], _ :: _, h => by simp at h
  | _ :: _, [], h => by simp at h
/-- a state that agrees where a slot is told -/
theorem RepE.agree (h : RepE R S H env σ c) (hl : σ'.length = σ.length) (e : ∀ j, get env j ≠ none → σ'[j]? = σ[j]?) : RepE R S H env σ' c := by
  obtain ⟨l, cs, hs, ec⟩ := RepE.iff.mp h
  refine RepE.iff.mpr ⟨by rw [hl]; exact l, cs, fun j hj => ?_, ec⟩
  by_cases z : get env j = none
  · have q := hs j hj
    rw [z] at q ⊢
    exact q
  · rw [e j z]
    exact hs j hj
/-- one slot more, of nobody's own -/
theorem RepE.slot {i : Nat} {d : Dt} {v : V} (h : RepE R S H env σ z0) (r : Rep R S H d v q) (hi : i < env.length) (e : σ[i]? = some (some v)) : RepE R S H (env.set i (some d)) σ q := by
  obtain ⟨c2, h2, le⟩ := h.put r hi
  have z : c2 = z0 := by
    funext a
    have : c2 a ≤ 0 := le a
    show c2 a = 0
    omega
  subst z
  rw [set_at e] at h2
  exact h2
theorem get_nones {j : Nat} : get (nones env) j = none := by
  unfold get nones
  rw [List.getElem?_map]
  cases env[j]? <;> rfl

theorem tSs_als {i n dst : Nat} {b m w : Stm} {r : List Stm} (h : tSs R C W σ0 (.als i n dst b m w :: r) D σ H) : ∃ τ : Nat → Addr,
    tS ⟨R.K, R.P, R.w, τ, R.fa, R.cl⟩ (pinN C n dst) W σ b { D with nx := fun σ1 H1 => tS R (pinA C) W σ1 m { D with nx := fun σ2 H2 => tS ⟨R.K, R.P, R.w, τ, R.fa, R.cl⟩ (pinA C) W σ2 w { D with nx := fun σ3 H3 => tSs R C W σ0 r D σ3 H3 } σ2 H2 } σ1 H1 } σ H := by
  obtain ⟨S, env, c, f, G, p, h⟩ := h
  simp only [exs, ex] at h
  cases eA : alsA C i n dst env with
  | none => rw [eA] at h; exact h.elim
  | some xs =>
  rw [eA] at h
  simp only at h
  unfold alsA at eA
  split at eA
  case h_2 => cases eA
  rename_i xs' ei
  split at eA
  case isFalse => cases eA
  rename_i hc
  obtain rfl := Option.some.inj eA
  simp only [Bool.and_eq_true, decide_eq_true_eq, Bool.not_eq_true'] at hc
  obtain ⟨sA, pn, pd, nin, nid⟩ := hc
  obtain ⟨v, k1, k2, sv, rv, rfl, _, rest⟩ := G.env.at_ ei
  obtain ⟨a0, vs, c', rfl, hH0, rl, rfl⟩ := rv
  obtain ⟨rfl, rls⟩ := rl.strs sA
  have hi : i < env.length := get_len ei
  have one0 : one a0 a0 = 1 := if_pos rfl
  have d0 := G.dis a0
  have d0' : occ S a0 + (one a0 a0 + 0 + k2 a0) + f a0 ≤ 1 := d0
  rw [one0] at d0'
  have oS : occ S a0 = 0 := by omega
  have oK : k2 a0 = 0 := by omega
  have oF : f a0 = 0 := by omega
  refine ⟨fun t => if t = 1 then a0 else R.τ t, ?_⟩
  generalize hR1 : (⟨R.K, R.P, R.w, fun t => if t = 1 then a0 else R.τ t, R.fa, R.cl⟩ : Rc) = R1
  have τ1 : R1.τ 1 = a0 := by rw [← hR1]; exact (if_pos rfl : (if (1 : Nat) = 1 then a0 else R.τ 1) = a0)
  have k2f : ∀ a, pl k2 f a ≠ 0 → ∃ o, H a = some o ∧ Mu o := fun a z => by
    by_cases y : f a = 0
    · refine G.env.mu a ?_
      rw [pl_at] at z ⊢
      omega
    · exact G.fr a y
  -- the first
  have S1sub : ∀ a o, upd S a0 (.lst vs) a = some o → H a = some o := fun a o e => by
    by_cases z : a = a0
    · subst z
      rw [upd_same] at e
      rw [← e]; exact hH0
    · rw [upd_ne z] at e
      exact G.sub a o e
  have r1 : Rep R1 (upd S a0 (.lst vs)) H (.lst (.sh 1) xs') (.ref a0) z0 := ⟨a0, vs, rfl, .inl upd_same, fun _ => τ1.symm, rls _ _ _, rfl⟩
  have E1 : RepE R1 (upd S a0 (.lst vs)) H ((keepS env).set i (some (.lst (.sh 1) xs'))) σ z0 := (G.env.keepS R1 _ H).slot r1 (by unfold keepS; rw [List.length_map]; exact hi) sv
  have G1 : Good R1 (upd S a0 (.lst vs)) H σ ((keepS env).set i (some (.lst (.sh 1) xs'))) z0 (pl k2 f) := by
    refine ⟨E1, S1sub, fun a => ?_, k2f⟩
    show occ _ a + 0 + (k2 a + f a) ≤ 1
    by_cases z : a = a0
    · subst z
      have := occ_le (upd S a (.lst vs)) a
      omega
    · have e : occ (upd S a0 (.lst vs)) a = occ S a := occ_congr (upd_ne z)
      have := G.dis a
      rw [pl_at, pl_at] at this
      rw [e]; omega
  refine ⟨_, _, _, _, G1, fun j hj => rfl, ?_⟩
  cases x1 : ex (pinN C n dst) b ((keepS env).set i (some (.lst (.sh 1) xs'))) with
  | st => rw [x1] at h; exact h.elim
  | exc kk dv e1 => rw [x1] at h; exact h.elim
  | ok fl e1 =>
  rw [x1] at h
  cases fl with
  | brk => exact h.elim
  | cont => exact h.elim
  | ret _ => exact h.elim
  | next =>
  simp only at h
  cases eB : alsB i dst env e1 with
  | none => rw [eB] at h; exact h.elim
  | some ky =>
  obtain ⟨kk, ys⟩ := ky
  rw [eB] at h
  simp only at h
  unfold alsB at eB
  split at eB
  case h_2 => cases eB
  rename_i t1 ys1 kk1 t2 yy gi gd
  split at eB
  case isFalse => cases eB
  rename_i hc
  cases eB
  simp only [Bool.and_eq_true, decide_eq_true_eq, beq_iff_eq] at hc
  obtain ⟨rfl, rfl, sB, lB⟩ := hc
  intro S1 H1 σ1 c1 X1 P1 G1'
  have ha1 : pl k2 f a0 = 0 := by rw [pl_at]; omega
  have len1 : σ1.length = env.length := by rw [← G1'.env.length]; exact lB
  -- what stands in the two slots
  obtain ⟨u1, _, _, su1, ru1, _⟩ := G1'.env.at_ gi
  obtain ⟨a', vs1, rfl, hS1, ta, rl1, _⟩ := ru1
  obtain rfl : a' = a0 := by rw [ta (by decide)]; exact τ1
  have hH1 : H1 a' = some (.lst vs1) := by
    rcases hS1 with e | ⟨e, _⟩
    · exact G1'.sub _ _ e
    · exact absurd e (by decide)
  obtain ⟨_, rls1⟩ := rl1.strs sB
  obtain ⟨u2, _, _, su2, ru2, _⟩ := G1'.env.at_ gd
  obtain ⟨ax, dd, x, rfl, hSx, hSd, rx, _⟩ := ru2
  obtain ⟨a3, _, rfl, _, ta3, _, _⟩ := rx
  obtain rfl : a3 = a' := by rw [ta3 (by decide)]; exact τ1
  have hHx := G1'.sub _ _ hSx
  have hHd := G1'.sub _ _ hSd
  have clR : R1.cl = R.cl := by rw [← hR1]
  -- the second
  have hi1 : i < (nones env).length := by unfold nones; rw [List.length_map]; exact hi
  have hd1 : dst < (nones env).length := by unfold nones; rw [List.length_map, ← lB]; exact get_len gd
  have ln1 : (nones env).length = σ1.length := by unfold nones; rw [List.length_map]; exact len1.symm
  have Sub1 : ∀ a o, S a = some o → H1 a = some o := fun a o e => by
    refine G1'.sub a o (X1.sub a o ?_)
    by_cases z : a = a3
    · subst z
      rw [of_occ oS] at e; cases e
    · rw [upd_ne z]; exact e
  have ox : pl k2 f ax = 0 := by
    have d := G1'.dis ax
    rw [occ_some hSx] at d
    omega
  have od : pl k2 f dd = 0 := by
    have d := G1'.dis dd
    rw [occ_some hSd] at d
    omega
  have nx : ax ≠ a3 := fun z => by
    rw [z, hH1] at hHx
    cases hHx
  have ny : dd ≠ a3 := fun z => by
    rw [z, hH1] at hHd
    cases hHd
  have V3 : ∀ a o, (fun b => if b = ax ∨ b = dd then H1 b else S b) a = some o → H1 a = some o := fun a o e => by
    by_cases z : a = ax ∨ a = dd
    · exact (if_pos z).symm.trans e
    · exact Sub1 a o ((if_neg z).symm.trans e)
  have V4 : ∀ a o, S a = some o → (fun b => if b = ax ∨ b = dd then H1 b else S b) a = some o := fun a o e => by
    by_cases z : a = ax ∨ a = dd
    · exact (if_pos z).trans (Sub1 a o e)
    · exact (if_neg z).trans e
  have E2 : RepE R (fun b => if b = ax ∨ b = dd then H1 b else S b) H1 ((nones env).set i (some (.lst .own ys))) σ1 (pl (one a3) z0) := by
    refine RepE.slot (RepE.nones (by rw [len1])) ⟨a3, vs1, z0, rfl, hH1, rls1 _ _ _, rfl⟩ hi1 su1
  have G2 : Good R (fun b => if b = ax ∨ b = dd then H1 b else S b) H1 σ1 ((nones env).set i (some (.lst .own ys))) (pl (one a3) z0) (pl k2 f) := by
    refine ⟨E2, V3, fun a => ?_, fun a z => ?_⟩
    · by_cases z : a = ax ∨ a = dd
      · have o1 := occ_le (fun b => if b = ax ∨ b = dd then H1 b else S b) a
        have o2 : pl k2 f a = 0 := by
          rcases z with rfl | rfl
          · exact ox
          · exact od
        have o3 : one a3 a = 0 := by
          rcases z with rfl | rfl
          · exact if_neg nx
          · exact if_neg ny
        show occ _ a + (one a3 a + 0) + pl k2 f a ≤ 1
        omega
      · have e : occ (fun b => if b = ax ∨ b = dd then H1 b else S b) a = occ S a := occ_congr (if_neg z)
        have d : occ S a + (one a3 a + 0 + k2 a) + f a ≤ 1 := G.dis a
        show occ _ a + (one a3 a + 0) + (k2 a + f a) ≤ 1
        rw [e]; omega
    · exact G1'.fr a z
  refine ⟨_, _, _, _, G2, fun j hj => rfl, ?_⟩
  cases x2 : ex (pinA C) m ((nones env).set i (some (.lst .own ys))) with
  | st => rw [x2] at h; exact h.elim
  | exc kk dv e1 => rw [x2] at h; exact h.elim
  | ok fl e2 =>
  rw [x2] at h
  cases fl with
  | brk => exact h.elim
  | cont => exact h.elim
  | ret _ => exact h.elim
  | next =>
  simp only at h
  cases eM : alsM i env e2 with
  | none => rw [eM] at h; exact h.elim
  | some zs =>
  rw [eM] at h
  simp only at h
  unfold alsM at eM
  split at eM
  case h_2 => cases eM
  rename_i zs' gi2
  split at eM
  case isFalse => cases eM
  rename_i hc
  obtain rfl := Option.some.inj eM
  simp only [Bool.and_eq_true, decide_eq_true_eq] at hc
  obtain ⟨sM, lM⟩ := hc
  intro S2 H2 σ2 c2 X2 P2 G2'
  have P2 : ∀ j, σ2[j]? = σ1[j]? := fun j => P2 j rfl
  have len2 : σ2.length = env.length := by rw [← G2'.env.length]; exact lM
  obtain ⟨u3, k3, k4, su3, ru3, _⟩ := G2'.env.at_ gi2
  have su3' : u3 = .ref a3 := by
    rw [P2, su1] at su3
    cases su3; rfl
  subst su3'
  obtain ⟨a4, vs2, c4, e4, hH2, rl2, _⟩ := ru3
  cases e4
  obtain ⟨_, rls2⟩ := rl2.strs sM
  have hHx2 := G2'.sub _ _ (X2.sub _ _ ((if_pos (.inl rfl)).trans hHx))
  have hHd2 := G2'.sub _ _ (X2.sub _ _ ((if_pos (.inr rfl)).trans hHd))
  -- the third
  have S3a : (fun b => if b = a3 ∨ b = ax ∨ b = dd then H2 b else S b) a3 = some (.lst vs2) := (if_pos (.inl rfl)).trans hH2
  have S3x : (fun b => if b = a3 ∨ b = ax ∨ b = dd then H2 b else S b) ax = some (xO (R1.cl kk) dd ax) := (if_pos (.inr (.inl rfl))).trans hHx2
  have S3d : (fun b => if b = a3 ∨ b = ax ∨ b = dd then H2 b else S b) dd = some (.xd [(fldV, .ref a3)]) := (if_pos (.inr (.inr rfl))).trans hHd2
  have r3 : Rep R1 (fun b => if b = a3 ∨ b = ax ∨ b = dd then H2 b else S b) H2 (.lst (.sh 1) zs') (.ref a3) z0 := ⟨a3, vs2, rfl, .inl S3a, fun _ => τ1.symm, rls2 _ _ _, rfl⟩
  have r4 : Rep R1 (fun b => if b = a3 ∨ b = ax ∨ b = dd then H2 b else S b) H2 (.exn kk (.lst (.sh 1) zs')) (.ref ax) z0 := ⟨ax, dd, .ref a3, rfl, S3x, S3d, r3, rfl⟩
  have E3 : RepE R1 (fun b => if b = a3 ∨ b = ax ∨ b = dd then H2 b else S b) H2 (((nones env).set i (some (.lst (.sh 1) zs'))).set dst (some (.exn kk (.lst (.sh 1) zs')))) σ2 z0 := by
    refine RepE.slot (RepE.slot (RepE.nones (by rw [len2])) r3 hi1 su3) r4 (by rw [List.length_set]; exact hd1) ?_
    rw [P2]; exact su2
  have G3 : Good R1 (fun b => if b = a3 ∨ b = ax ∨ b = dd then H2 b else S b) H2 σ2 (((nones env).set i (some (.lst (.sh 1) zs'))).set dst (some (.exn kk (.lst (.sh 1) zs')))) z0 (pl k2 f) := by
    refine ⟨E3, fun a o e => ?_, fun a => ?_, fun a z => ?_⟩
    · by_cases z : a = a3 ∨ a = ax ∨ a = dd
      · exact (if_pos z).symm.trans e
      · exact G2'.sub a o (X2.sub a o (V4 a o ((if_neg z).symm.trans e)))
    · show occ _ a + 0 + (pl k2 f) a ≤ 1
      by_cases z : a = a3 ∨ a = ax ∨ a = dd
      · have o1 := occ_le (fun b => if b = a3 ∨ b = ax ∨ b = dd then H2 b else S b) a
        have o2 : pl k2 f a = 0 := by
          rcases z with rfl | rfl | rfl
          · exact ha1
          · exact ox
          · exact od
        omega
      · have e : occ (fun b => if b = a3 ∨ b = ax ∨ b = dd then H2 b else S b) a = occ S a := occ_congr (if_neg z)
        have d : occ S a + (one a3 a + 0 + k2 a) + f a ≤ 1 := G.dis a
        show occ _ a + 0 + (k2 a + f a) ≤ 1
        rw [e]; omega
    · exact G2'.fr a z
  refine ⟨_, _, _, _, G3, fun j hj => rfl, ?_⟩
  cases x3 : ex (pinA C) w (((nones env).set i (some (.lst (.sh 1) zs'))).set dst (some (.exn kk (.lst (.sh 1) zs')))) with
  | st => rw [x3] at h; exact h.elim
  | exc kk dv e1 => rw [x3] at h; exact h.elim
  | ok fl e3 =>
  rw [x3] at h
  cases fl with
  | brk => exact h.elim
  | cont => exact h.elim
  | ret _ => exact h.elim
  | next =>
  simp only at h
  split at h
  case isFalse => exact h.elim
  rename_i l3
  have l3 := of_decide_eq_true l3
  intro S3 H3 σ3 c3 X3 P3 G3'
  have P3 : ∀ j, σ3[j]? = σ2[j]? := fun j => P3 j rfl
  have len3 : σ3.length = σ.length := by rw [← G3'.env.length, l3, G.env.length]
  have keep : ∀ a o, H a = some o → pl k2 f a ≠ 0 → H3 a = some o := fun a o e z => X3.keep a o (X2.keep a o (X1.keep a o e z) z) z
  have imm : ∀ a o, H a = some o → ¬ Mu o → H3 a = some o := fun a o e z => X3.imm a o (X2.imm a o (X1.imm a o e z) z) z
  have r5 : RepE R S H3 (env.set i none) σ k2 := rest.mono (fun _ _ h => h) (fun a o e z => imm a o e z) fun a o e z => keep a o e (left_ne z)
  obtain ⟨c6, r6, le6⟩ := r5.drop n
  obtain ⟨c7, r7, le7⟩ := r6.drop dst
  have same : ∀ j, j ≠ n → j ≠ dst → σ3[j]? = σ[j]? := fun j z y => by
    rw [P3, P2]
    refine P1 j ?_
    show (decide (j ≠ n) && decide (j ≠ dst)) = true
    rw [decide_eq_true z, decide_eq_true y]; rfl
  have none7 : ∀ j, j = n ∨ j = dst → get (((env.set i none).set n none).set dst none) j = none := fun j z => by
    unfold get
    by_cases y : j = dst
    · subst y
      rw [List.getElem?_set]
      rw [if_pos rfl]
      split <;> rfl
    · rw [List.getElem?_set_ne (Ne.symm y)]
      rcases z with rfl | z
      · rw [List.getElem?_set, if_pos rfl]
        split <;> rfl
      · exact absurd z y
  have r8 : RepE R S H3 (((env.set i none).set n none).set dst none) σ3 c7 := r7.agree len3 fun j z => same j (fun y => z (none7 j (.inl y))) fun y => z (none7 j (.inr y))
  have G4 : Good R S H3 σ3 (((env.set i none).set n none).set dst none) c7 f := by
    refine ⟨r8, fun a o e => ?_, fun a => ?_, fun a z => ?_⟩
    · have y : a ≠ a3 := fun y => by
        subst y
        rw [of_occ oS] at e; cases e
      by_cases q : a = ax ∨ a = dd
      · rcases q with rfl | rfl
        · exact G3'.sub _ _ (X3.sub _ _ (S3x.trans (hHx2.symm.trans (G2'.sub _ o (X2.sub _ o (V4 _ o e))))))
        · exact G3'.sub _ _ (X3.sub _ _ (S3d.trans (hHd2.symm.trans (G2'.sub _ o (X2.sub _ o (V4 _ o e))))))
      · exact G3'.sub _ _ (X3.sub _ _ ((if_neg (fun z => by rcases z with z | z; exact y z; exact q z)).trans e))
    · have := G.dis a
      have := le6 a
      have := le7 a
      rw [pl_at, pl_at] at *
      omega
    · obtain ⟨o, e, mo⟩ := G.fr a z
      exact ⟨o, keep a o e (right_ne z), mo⟩
  refine ⟨S, _, c7, f, G4, fun j hj => ?_, AfterS.on (S := S) (H := H) ⟨fun _ _ h => h, fun a o e z => keep a o e (right_ne z), imm⟩ (show AfterS R C W σ0 D S H f (exs C r (((env.set i none).set n none).set dst none)) from h)⟩
  rw [same j (fun y => by rw [y, pn] at hj; cases hj) fun y => by rw [y, pd] at hj; cases hj]
  exact p j hj
end
theorem pss_alsV {X : Cx} {T : Tags} {C : Ctx} {W : WX} {σ0 : L2.St} {s1 s2 s3 : Stmt} {sts : List Stmt} {ss : List Stm} {i n dst : Nat} {b m w : Stm}
    (h1 : ∀ (τ : Nat → Addr) (σ0 : L2.St), PS X s1 (tS (rc X ⟨τ, T.fa, T.cl⟩) (pinN C n dst) W σ0 b)) (h2 : ∀ σ0 : L2.St, PS X s2 (tS (rc X T) (pinA C) W σ0 m)) (h3 : ∀ (τ : Nat → Addr) (σ0 : L2.St), PS X s3 (tS (rc X ⟨τ, T.fa, T.cl⟩) (pinA C) W σ0 w))
    (h : PSs X sts (tSs (rc X T) C W σ0 ss)) : PSs X (s1 :: s2 :: s3 :: sts) (tSs (rc X T) C W σ0 (.als i n dst b m w :: ss)) := by
  refine ⟨fun pins s σ H D I q => ?_⟩
  obtain ⟨τ, q⟩ := tSs_als q
  have c3 : PSs X (s3 :: sts) (fun D σ H => tS (rc X ⟨τ, T.fa, T.cl⟩) (pinA C) W σ w { D with nx := fun σ3 H3 => tSs (rc X T) C W σ0 ss D σ3 H3 } σ H) := ⟨fun pins s σ H D I q => (pss_cons (h3 τ σ) h).run pins s σ H D I q⟩
  have c2 : PSs X (s2 :: s3 :: sts) (fun D σ H => tS (rc X T) (pinA C) W σ m { D with nx := fun σ2 H2 => tS (rc X ⟨τ, T.fa, T.cl⟩) (pinA C) W σ2 w { D with nx := fun σ3 H3 => tSs (rc X T) C W σ0 ss D σ3 H3 } σ2 H2 } σ H) := ⟨fun pins s σ H D I q => (pss_cons (h2 σ) c3).run pins s σ H D I q⟩
  exact (pss_cons (h1 τ σ) c2).run pins s σ H D I q
end PL
set_option Elab.async false
set_option linter.all false
set_option maxRecDepth 100000
set_option maxHeartbeats 4000000
/-! PLg: what the drawing defs compute, in plain Lean. -/
namespace PL
/-! ### the five defs -/
abbrev ki (i : Int) : E := .k (.int i)
def fHash : Fn := ⟨2, 3, [false, false], [
    .asg (.v 2) (.fz (.pr .mod [(.pr .int [(.pr .add [(.pr .add [(.pr .add [(.pr .mul [(.v 0), ki 1140671]), (.pr .mul [(.pr .mul [ki 27644437, (.v 1)]), (.v 1)])]), (.pr .mul [ki 131, (.v 1)])]), ki 19])]), ki 2147483629])),
    .asg (.v 2) (.fz (.pr .mod [(.pr .int [(.pr .add [(.pr .add [(.pr .mul [(.v 2), (.v 2)]), (.pr .mul [ki 62089, (.v 1)])]), ki 32416187])]), ki 2147483587])),
    .ret (.pr .mod [(.pr .int [(.pr .mul [(.v 2), ki 48271])]), ki 2147483647])]⟩
def fCell : Fn := ⟨2, 2, [false, false], [
    .ite (.pr .lt [(.v 1), (.pr .len [(.v 0)])]) [.ret (.pr .ix [(.v 0), (.v 1)])] [],
    .ret (.pr .mod [(.pr .sum [(.pr (.sl false true) [(.v 0), (.k .non), ki 1])]), ki 1000003])]⟩
def fGen (c : Nat) : Fn := ⟨2, 3, [false, false], [
    .asg (.v 2) (.fz (.call c [(.v 0), (.v 1)] [] [])),
    .ret (.pr .mkLst [(.pr .mod [(.pr .int [(.pr .max [(.pr .sub [(.v 2), (.pr .pow [ki 10, ki 18])]), ki 0])]), (.pr .pow [(.pr .pow [ki 10, ki 60]), ki 10])]), (.pr .mod [(.pr .int [(.v 2)]), ki 2147483647]), (.pr .mul [ki 1000, (.v 1)])])]⟩
def fRandBody (h : Nat) : List S := [.asg (.sub 0 [] (ki 2)) (.pr .add [(.pk 0 [ki 2]), ki 1]), .asg (.v 2) (.fz (.pr .add [(.pr .mul [(.v 2), ki 2147483587]), (.call h [(.pk 0 [ki 1]), (.pk 0 [ki 2])] [] [])]))]
def fRand (h : Nat) : Fn := ⟨2, 4, [true, false], [
    .ite (.pr .gt [(.pk 0 [ki 0]), ki 0]) [.asg (.v 2) (.fz (.pr .mod [(.pr .int [(.pk 0 [ki 0])]), (.v 1)])), .asg (.sub 0 [] (ki 0)) (.pr .fdiv [(.pk 0 [ki 0]), (.v 1)]), .ret (.v 2)] [],
    .asg (.v 2) (.fz (ki 0)),
    .for_ (.v 3) .range [(.pr .add [ki 1, (.pr .fdiv [(.pr .bitlen [(.v 1)]), ki 30])])] (fRandBody h),
    .ret (.pr .mod [(.pr .int [(.v 2)]), (.v 1)])]⟩
def fOrder (r : Nat) : Fn := ⟨2, 4, [true, false], [
    .par [2, 3] [(.pr .list [(.v 1)]), (.pr .mkLst [])],
    .wh (.bor [2] (.pr .ne [(.v 2), (.pr .mkLst [])])) [.ex (.mth .append 3 [] [(.mth .popAt 2 [] [(.bor [2] (.call r [(.mov 0), (.pr .len [(.v 2)])] [.sl 0, .fz] []))])])],
    .ret (.mov 3)]⟩
section
variable {G : Prog} {L k h c g r o : Nat} {a b c' n v : Int}
theorem callF_of {f : Nat} {F : Fn} {ds : List D} {d : D} {env : Env} {outs : List (Option D)} (e : G.fns f = some F) (hc : (decide (F.io.length = F.np) && argsOk F.io ds) = true)
    (hr : exs ⟨G.par, G.const, callF G L k, L, fun i => F.io.getD i false⟩ F.body (start F.ns ds) = .ok (.ret d) env) (ho : outsOf F.io env = some outs) : callF G L (k + 1) f ds = .ok d outs := by
  rw [callF]
  simp only [e]
  rw [if_pos hc, hr]
  simp only [ho]
theorem hash_ok (e : G.fns h = some fHash) (b c : Int) (hc : c.natAbs < 2 ^ 64) : ∃ v : Int, callF G L (k + 1) h [.int b, .int c] = .ok (.int v) [none, none] := by
  have m1 : mulOk b 1140671 = true := by unfold mulOk; rw [Bool.or_eq_true]; exact .inr (by decide)
  have m2 : mulOk 27644437 c = true := by unfold mulOk; rw [Bool.or_eq_true]; exact .inl (by decide)
  have m3 : mulOk (27644437 * c) c = true := by unfold mulOk; rw [Bool.or_eq_true]; exact .inr (decide_eq_true hc)
  have m4 : mulOk 131 c = true := by unfold mulOk; rw [Bool.or_eq_true]; exact .inl (by decide)
  have m6 : mulOk 62089 c = true := by unfold mulOk; rw [Bool.or_eq_true]; exact .inl (by decide)
  have m5 : ∀ x : Int, mulOk (x % 2147483629) (x % 2147483629) = true := fun x => by
    unfold mulOk
    rw [Bool.or_eq_true]
    refine .inl (decide_eq_true ?_)
    have h1 := Int.emod_nonneg x (show (2147483629 : Int) ≠ 0 by decide)
    have h2 := Int.emod_lt_of_pos x (show (0 : Int) < 2147483629 by decide)
    omega
  have m7 : ∀ x : Int, mulOk x 48271 = true := fun x => by unfold mulOk; rw [Bool.or_eq_true]; exact .inr (by decide)
  refine ⟨(((b * 1140671 + 27644437 * c * c + 131 * c + 19) % 2147483629 * ((b * 1140671 + 27644437 * c * c + 131 * c + 19) % 2147483629) + 62089 * c + 32416187) % 2147483587 * 48271) % 2147483647, ?_⟩
  simp [callF, e, fHash, argsOk, pu, start, exs, ex, ev, evs, O.bind, O.lift, prim, p_mul, p_add, p_mod, p_int, get, store, fz, outsOf, m1, m2, m3, m4, m5, m6, m7, Ctx.pin]
theorem pus_ints : ∀ ns : List Int, pus (ns.map D.int) = true
  | [] => rfl
  | _ :: ns => pus_ints ns
theorem fzs_ints : ∀ ns : List Int, fzs (ns.map D.int) = ns.map D.int
  | [] => rfl
  | _ :: ns => congrArg (D.int _ :: ·) (fzs_ints ns)
theorem cell_ok (e : G.fns c = some fCell) (ns : List Int) (j : Nat) : ∃ v : Int, callF G L (k + 1) c [.lst (.sh 9) (ns.map .int), .int j] = .ok (.int v) [none, none] := by
  by_cases q : j < ns.length
  · refine ⟨ns[j], ?_⟩
    have q1 : (j : Int) < (ns.length : Int) := by omega
    simp [callF, e, fCell, argsOk, pu, pus_ints, Fg.isOwn, start, exs, ex, ev, evs, O.bind, O.lift, prim, p_lt, p_len, p_ix, ixN, get, outsOf, q1, q]
  · have q1 : ¬ (j : Int) < (ns.length : Int) := by omega
    cases ns with
    | nil =>
      refine ⟨0, ?_⟩
      have e1 : cut ([] : List D) none (some 1) = [] := rfl
      have qd : decide ((j : Int) < 0) = false := decide_eq_false (by omega)
      simp [callF, e, fCell, argsOk, pu, pus, Fg.isOwn, start, exs, ex, ev, evs, O.bind, O.lift, prim, p_lt, p_len, p_sl, bound?, e1, qd, p_sum, sumI, p_mod, get, outsOf]
    | cons n ns =>
      refine ⟨n % 1000003, ?_⟩
      have e1 : cut (D.int n :: ns.map D.int) none (some 1) = [D.int n] := by
        simp [cut, clip]
      have pu1 : pus (D.int n :: ns.map D.int) = true := pus_ints (n :: ns)
      have qd : decide ((j : Int) < (ns.length : Int) + 1) = false := decide_eq_false (by rw [List.length_cons] at q; omega)
      simp [callF, e, fCell, argsOk, pu, pu1, Fg.isOwn, start, exs, ex, ev, evs, O.bind, O.lift, prim, p_lt, p_len, p_sl, bound?, e1, qd, p_sum, sumI, p_mod, get, outsOf]
theorem gen_ok (e : G.fns c = some fCell) (eg : G.fns g = some (fGen c)) (ns : List Int) (j : Nat) : ∃ a b : Int, 0 ≤ a ∧ callF G L (k + 2) g [.lst (.sh 9) (ns.map .int), .int j] = .ok (.lst .own [.int a, .int b, .int (1000 * j)]) [none, none] := by
  obtain ⟨v, hv⟩ := cell_ok (L := L) (k := k) e ns j
  have m1 : mulOk 1000 (j : Int) = true := by unfold mulOk; rw [Bool.or_eq_true]; exact .inl (by decide)
  refine ⟨(if v - 10 ^ 18 < 0 then 0 else v - 10 ^ 18) % (10 ^ 60) ^ 10, v % 2147483647, Int.emod_nonneg _ (by decide), ?_⟩
  rw [callF, eg]
  have f9 : fzs (ns.map D.int) = ns.map D.int := fzs_ints ns
  have b1 : bits 10 = 4 := by decide
  have b2 : Nat.ble (bits (10 ^ 60) * 10) 134217728 = true := by decide +kernel
  simp [fGen, argsOk, pu, pus_ints, Fg.isOwn, Fg.fz, start, exs, ex, ev, evs, fzArgs, permute, O.bind, O.lift, prim, p_sub, p_pow, p_max, p_mod, p_int, p_mul, p_mkLst, get, store, fz, fzs, f9, hv, m1, outsOf, b1, b2, fits]
abbrev gD (a b c : Int) : D := .lst .own [.int a, .int b, .int c]
theorem rand_body (eh : callF G L (k + 1) h [.int b, .int (c' + 1)] = .ok (.int v) [none, none]) (C : Ctx) (hC : C.call = callF G L (k + 1)) (p2 : C.pin 2 = false) :
    exs C (fRandBody h) [some (gD a b c'), some (.int n), some (.int 0), some (.int 0)] = .ok .next [some (gD a b (c' + 1)), some (.int n), some (.int (0 * 2147483587 + v)), some (.int 0)] := by
  have m1 : mulOk 0 2147483587 = true := rfl
  simp [fRandBody, gD, exs, ex, ev, evs, O.bind, O.lift, prim, p_add, p_mul, peek, p_ix, ixN, get, store, setAt, fz, fzs, pu, permute, fzArgs, hC, eh, m1, p2]
theorem rand_a (er : G.fns r = some (fRand h)) (q : 0 < a) (hn : 0 < n) (n1 : n < 1073741824) : callF G L (k + 1) r [gD a b c', .int n] = .ok (.int (a % n)) [some (gD (a / n) b c'), none] := by
  rw [callF, er]
  simp [fRand, gD, argsOk, pu, start, exs, ex, ev, evs, O.bind, O.lift, prim, p_gt, p_mod, p_int, p_fdiv, peek, p_ix, ixN, get, store, setAt, fz, outsOf, q, hn, n1]
theorem fdiv30 (z : Int) : p_fdiv [.int z, .int 30] = some (.int (z / 30)) := rfl
theorem rand_pk (C : Ctx) (x3 x4 : Option D) : ev C (.pr .gt [(.pk 0 [ki 0]), ki 0]) [some (gD 0 b c'), some (.int n), x3, x4] = .ok (.bl false) [some (gD 0 b c'), some (.int n), x3, x4] := rfl
theorem rand_rg (C : Ctx) (x4 : Option D) {z : Int} (bl : p_bitlen [.int n] = some (.int z)) : evs C [(.pr .add [ki 1, (.pr .fdiv [(.pr .bitlen [(.v 1)]), ki 30])])] [some (gD 0 b c'), some (.int n), some (.int 0), x4] = .ok [.int (1 + z / 30)] [some (gD 0 b c'), some (.int n), some (.int 0), x4] := by
  simp only [ev, evs, O.bind, prim]
  simp [get, pu, O.lift, bl, fdiv30, p_add]
theorem rand_b {z : Int} (er : G.fns r = some (fRand h)) (hn : 0 < n) (s1 : i_range [.int (1 + z / 30)] = some [.int 0]) (bl : p_bitlen [.int n] = some (.int z)) (eh : callF G L (k + 1) h [.int b, .int (c' + 1)] = .ok (.int v) [none, none]) :
    callF G L (k + 2) r [gD 0 b c', .int n] = .ok (.int ((0 * 2147483587 + v) % n)) [some (gD 0 b (c' + 1)), none] := by
  have run : ∀ C : Ctx, C.call = callF G L (k + 1) → C.pin 2 = false → C.pin 3 = false → exs C (fRand h).body [some (gD 0 b c'), some (.int n), none, none] = .ok (.ret (.int ((0 * 2147483587 + v) % n))) [some (gD 0 b (c' + 1)), some (.int n), some (.int (0 * 2147483587 + v)), some (.int 0)] := fun C hC p2 p3 => by
    show ((ev C (.pr .gt [(.pk 0 [ki 0]), ki 0]) _).bind _).bind _ = _
    rw [rand_pk]
    show (ex C (.asg (.v 2) (.fz (ki 0))) [some (gD 0 b c'), some (.int n), none, none]).bind _ = _
    have e2 : ex C (.asg (.v 2) (.fz (ki 0))) [some (gD 0 b c'), some (.int n), none, none] = .ok .next [some (gD 0 b c'), some (.int n), some (.int 0), none] := by
      simp [ex, ev, O.bind, store, p2, fz]
    rw [e2]
    show (ex C (.for_ (.v 3) .range [(.pr .add [ki 1, (.pr .fdiv [(.pr .bitlen [(.v 1)]), ki 30])])] (fRandBody h)) [some (gD 0 b c'), some (.int n), some (.int 0), none]).bind _ = _
    have e3 : ex C (.for_ (.v 3) .range [(.pr .add [ki 1, (.pr .fdiv [(.pr .bitlen [(.v 1)]), ki 30])])] (fRandBody h)) [some (gD 0 b c'), some (.int n), some (.int 0), none] = .ok .next [some (gD 0 b (c' + 1)), some (.int n), some (.int (0 * 2147483587 + v)), some (.int 0)] := by
      have t3 : tgFree C.pin (.v 3) = true := by show (!C.pin 3) = true; rw [p3]; rfl
      unfold ex
      rw [if_pos t3, rand_rg C none bl]
      show (match i_range [.int (1 + z / 30)] with | none => O.st | some xs => forLoop (.v 3) (exs C (fRandBody h)) xs [some (gD 0 b c'), some (.int n), some (.int 0), none]) = _
      rw [s1]
      show (exs C (fRandBody h) [some (gD 0 b c'), some (.int n), some (.int 0), some (.int 0)]).bind _ = _
      rw [rand_body eh C hC p2]
      rfl
    rw [e3]
    have e4 : ex C (.ret (.pr .mod [(.pr .int [(.v 2)]), (.v 1)])) [some (gD 0 b (c' + 1)), some (.int n), some (.int (0 * 2147483587 + v)), some (.int 0)] = .ok (.ret (.int ((0 * 2147483587 + v) % n))) [some (gD 0 b (c' + 1)), some (.int n), some (.int (0 * 2147483587 + v)), some (.int 0)] := by
      generalize (0 * 2147483587 + v) = y
      simp [ex, ev, evs, get, pu, O.bind, O.lift, prim, p_int, p_mod, hn]
    show (ex C (.ret (.pr .mod [(.pr .int [(.v 2)]), (.v 1)])) _).bind _ = _
    rw [e4]
    rfl
  exact callF_of er rfl (run _ rfl rfl rfl) rfl
theorem bits_one (hn : 0 < n) (hn2 : n < 2 ^ 29) : 1 + (((if n.natAbs = 0 then 0 else n.natAbs.log2 + 1 : Nat) : Int)) / 30 = 1 := by
  have l : n.natAbs.log2 < 29 := (Nat.log2_lt (by omega)).mpr (by omega)
  rw [if_neg (by omega)]
  omega
theorem range_one {x : Int} (e : x = 1) : i_range [.int x] = some [.int 0] := by subst e; rfl
theorem rand_ok (eh : G.fns h = some fHash) (er : G.fns r = some (fRand h)) (ha : 0 ≤ a) (hc : 0 ≤ c') (hc2 : c' < 2 ^ 63) (hn : 0 < n) (hn2 : n < 2 ^ 29) :
    ∃ (v a' d : Int), 0 ≤ v ∧ v < n ∧ 0 ≤ a' ∧ c' ≤ d ∧ d ≤ c' + 1 ∧ callF G L (k + 2) r [gD a b c', .int n] = .ok (.int v) [some (gD a' b d), none] := by
  by_cases q : 0 < a
  · exact ⟨a % n, a / n, c', Int.emod_nonneg _ (by omega), Int.emod_lt_of_pos _ hn, Int.ediv_nonneg ha (by omega), by omega, by omega, rand_a er q hn (by omega)⟩
  · obtain rfl : a = 0 := by omega
    obtain ⟨v, hv⟩ := hash_ok (L := L) (k := k) eh b (c' + 1) (by omega)
    exact ⟨(0 * 2147483587 + v) % n, 0, c' + 1, Int.emod_nonneg _ (by omega), Int.emod_lt_of_pos _ hn, by omega, by omega, by omega, rand_b er hn (range_one (bits_one hn hn2)) rfl hv⟩
mutual
theorem pu_fz : ∀ d : D, pu (fz d) = true
  | .lst .own xs => pus_fzs xs
  | .lst (.sh _) xs => pus_fzs xs
  | .tup xs => pus_fzs xs
  | .dct .own es => pup_fzp es
  | .dct (.sh _) es => pup_fzp es
  | .non => rfl | .bl _ => rfl | .int _ => rfl | .str _ => rfl | .fn _ => rfl | .exn _ v => pu_fz v
termination_by structural x => x
theorem pus_fzs : ∀ ds : List D, pus (fzs ds) = true
  | [] => rfl
  | d :: r => by show (pu (fz d) && pus (fzs r)) = true; rw [pu_fz d, pus_fzs r]; rfl
termination_by structural x => x
theorem pup_fzp : ∀ es : List (D × D), pup (fzp es) = true
  | [] => rfl
  | (k, v) :: r => by show ((pu (fz k) && pu (fz v)) && pup (fzp r)) = true; rw [pu_fz k, pu_fz v, pup_fzp r]; rfl
termination_by structural x => x
end
theorem fzs_length : ∀ ds : List D, (fzs ds).length = ds.length
  | [] => rfl
  | _ :: r => congrArg (· + 1) (fzs_length r)
/-- what may lie in the list that is drawn from -/
def okQ (d : D) : Bool := nf d && nd 39 (fz d)
theorem okQ_nfs : ∀ {ds : List D}, ds.all okQ = true → nfs ds = true
  | [], _ => rfl
  | d :: r, h => by
    rw [List.all_cons, Bool.and_eq_true] at h
    have h1 : (nf d && nd 39 (fz d)) = true := h.1
    rw [Bool.and_eq_true] at h1
    show (nf d && nfs r) = true
    rw [h1.1, okQ_nfs h.2]; rfl
theorem okQ_nds : ∀ {ds : List D}, ds.all okQ = true → nds 39 (fzs ds) = true
  | [], _ => rfl
  | d :: r, h => by
    rw [List.all_cons, Bool.and_eq_true] at h
    have h1 : (nf d && nd 39 (fz d)) = true := h.1
    rw [Bool.and_eq_true] at h1
    show (nd 39 (fz d) && nds 39 (fzs r)) = true
    rw [h1.2, okQ_nds h.2]; rfl
section
variable {C : Ctx} {x x' t y : D} {left found : List D}
theorem ord_merge (hx : pu x = false) (hx' : nf x' = true) (ht : pu t = true) (hf : nfs found = true) :
    merge [2] 0 [some x, some t, some (.lst .own left), some (.lst .own found)] [some x', some t, some (.lst (.sh 0) (fzs left)), some (.lst .own found)] = some [some x', some t, some (.lst .own left), some (.lst .own found)] := by
  have p : pu (.lst .own found) = false := rfl
  have n : nf (.lst .own found) = true := hf
  simp [merge, hx, hx', ht, p, n]
theorem ord_cond (hx : pu x = false) (hx' : nf x = true) (ht : pu t = true) (hf : nfs found = true) (hl : nds 39 (fzs left) = true) :
    ev C (.bor [2] (.pr .ne [(.v 2), (.pr .mkLst [])])) [some x, some t, some (.lst .own left), some (.lst .own found)] = .ok (.bl (!left.isEmpty)) [some x, some t, some (.lst .own left), some (.lst .own found)] := by
  have e : ev C (.pr .ne [(.v 2), (.pr .mkLst [])]) (fzAt [2] [some x, some t, some (.lst .own left), some (.lst .own found)]) = .ok (.bl (!left.isEmpty)) [some x, some t, some (.lst (.sh 0) (fzs left)), some (.lst .own found)] := by
    have ef : fzAt [2] [some x, some t, some (.lst .own left), some (.lst .own found)] = [some x, some t, some (.lst (.sh 0) (fzs left)), some (.lst .own found)] := rfl
    have p : pu (.lst (.sh 0) (fzs left)) = true := pus_fzs left
    have n1 : nd 40 (.lst (.sh 0) (fzs left)) = true := hl
    have n2 : nd 40 (.lst .own []) = true := rfl
    have eq : eqD (.lst (.sh 0) (fzs left)) (.lst .own []) = left.isEmpty := by cases left <;> rfl
    rw [ef]
    simp [ev, evs, O.bind, O.lift, get, p, prim, p_ne, p_mkLst, fits, n1, n2, eq]
  show (match ev C (.pr .ne [(.v 2), (.pr .mkLst [])]) (fzAt [2] [some x, some t, some (.lst .own left), some (.lst .own found)]) with
    | .ok d env' => if nf d then O.bind (O.lift (merge [2] 0 [some x, some t, some (.lst .own left), some (.lst .own found)] env') [some x, some t, some (.lst .own left), some (.lst .own found)]) fun e' _ => .ok d e' else .st
    | _ => .st) = _
  rw [e]
  show (if nf (.bl (!left.isEmpty)) then O.bind (O.lift (merge [2] 0 _ _) _) fun e' _ => .ok _ e' else O.st) = _
  rw [if_pos (show nf (.bl (!left.isEmpty)) = true from rfl), ord_merge hx hx' ht hf]
  rfl
theorem ord_draw {m : Nat} {v : Int} (hm : left.length = m) (hx : pu x = false) (hx' : nf x' = true) (ht : pu t = true) (hf : nfs found = true) (hC : C.call r [x, .int m] = .ok (.int v) [some x', none]) :
    ev C (.bor [2] (.call r [(.mov 0), (.pr .len [(.v 2)])] [.sl 0, .fz] [])) [some x, some t, some (.lst .own left), some (.lst .own found)] = .ok (.int v) [some x', some t, some (.lst .own left), some (.lst .own found)] := by
  have e : ev C (.call r [(.mov 0), (.pr .len [(.v 2)])] [.sl 0, .fz] []) (fzAt [2] [some x, some t, some (.lst .own left), some (.lst .own found)]) = .ok (.int v) [some x', some t, some (.lst (.sh 0) (fzs left)), some (.lst .own found)] := by
    have ef : fzAt [2] [some x, some t, some (.lst .own left), some (.lst .own found)] = [some x, some t, some (.lst (.sh 0) (fzs left)), some (.lst .own found)] := rfl
    have p : pu (.lst (.sh 0) (fzs left)) = true := pus_fzs left
    rw [ef]
    simp [ev, evs, O.bind, O.lift, get, p, prim, p_len, fzs_length, hm, fzArgs, fz, fzs, permute, hC, putOuts]
  show (match ev C (.call r [(.mov 0), (.pr .len [(.v 2)])] [.sl 0, .fz] []) (fzAt [2] [some x, some t, some (.lst .own left), some (.lst .own found)]) with
    | .ok d env' => if nf d then O.bind (O.lift (merge [2] 0 [some x, some t, some (.lst .own left), some (.lst .own found)] env') [some x, some t, some (.lst .own left), some (.lst .own found)]) fun e' _ => .ok d e' else .st
    | _ => .st) = _
  rw [e]
  show (if nf (.int v) then O.bind (O.lift (merge [2] 0 _ _) _) fun e' _ => .ok _ e' else O.st) = _
  rw [if_pos (show nf (.int v) = true from rfl), ord_merge hx hx' ht hf]
  rfl
theorem ev_mth {m : Mt} {i : Nat} {as : List E} {env env2 : Env} {ds : List D} {z z' y : D} (h : ownL (get env i) = true) (he : evs C as env = .ok ds env2) (hg : get env2 i = some z) (hm : mtd m z ds = some (z', y)) : ev C (.mth m i [] as) env = .ok y (env2.set i (some z')) := by
  simp only [ev, h, List.isEmpty_nil, if_true, Bool.not_true, Bool.false_eq_true, if_false]
  rw [he]
  simp only [O.bind, hg, hm]
theorem evs_one {e : E} {env env2 : Env} {z : D} (h : ev C e env = .ok z env2) : evs C [e] env = .ok [z] env2 := by
  simp only [evs, h, O.bind]
theorem ord_turn {v : Nat} (hm : left.length < 2 ^ 20) (hfl : found.length < 2 ^ 20) (hv : left[v]? = some y) (hx : pu x = false) (hx' : nf x' = true) (ht : pu t = true) (hf : nfs found = true) (hC : C.call r [x, .int left.length] = .ok (.int v) [some x', none]) :
    exs C [.ex (.mth .append 3 [] [(.mth .popAt 2 [] [(.bor [2] (.call r [(.mov 0), (.pr .len [(.v 2)])] [.sl 0, .fz] []))])])] [some x, some t, some (.lst .own left), some (.lst .own found)] = .ok .next [some x', some t, some (.lst .own (left.eraseIdx v)), some (.lst .own (found ++ [y]))] := by
  have d := ord_draw (C := C) (r := r) rfl hx hx' ht hf hC
  have lt : v < left.length := (List.getElem?_eq_some_iff.mp hv).1
  have s62 : small62 (v : Int) = true := by
    unfold small62
    rw [Bool.and_eq_true]
    exact ⟨decide_eq_true (by omega), decide_eq_true (by omega)⟩
  have ix : ixN left.length (v : Int) = some v := by
    unfold ixN
    rw [if_pos (by omega), if_pos (by omega)]
    rfl
  have pop : m_popAt (.lst .own left) [.int v] = some (.lst .own (left.eraseIdx v), y) := by
    show (if small62 (v : Int) then (ixN left.length v).bind fun j => left[j]?.map fun x => (D.lst .own (left.eraseIdx j), x) else none) = _
    rw [if_pos s62, ix]
    show (left[v]?.map fun x => (D.lst .own (left.eraseIdx v), x)) = _
    rw [hv]; rfl
  have ft : fits (found.length + 1) = true := by
    unfold fits
    exact Nat.ble_eq_true_of_le (by omega)
  have app : m_append (.lst .own found) [y] = some (.lst .own (found ++ [y]), .non) := by
    show (if fits (found.length + 1) then some (D.lst .own (found ++ [y]), D.non) else none) = _
    rw [if_pos ft]
  have e1 : ev C (.mth .popAt 2 [] [(.bor [2] (.call r [(.mov 0), (.pr .len [(.v 2)])] [.sl 0, .fz] []))]) [some x, some t, some (.lst .own left), some (.lst .own found)] = .ok y [some x', some t, some (.lst .own (left.eraseIdx v)), some (.lst .own found)] := by
    exact ev_mth rfl (evs_one d) rfl pop
  show ((ev C (.mth .append 3 [] _) _).bind _).bind _ = _
  have e2 : ev C (.mth .append 3 [] [(.mth .popAt 2 [] [(.bor [2] (.call r [(.mov 0), (.pr .len [(.v 2)])] [.sl 0, .fz] []))])]) [some x, some t, some (.lst .own left), some (.lst .own found)] = .ok .non [some x', some t, some (.lst .own (left.eraseIdx v)), some (.lst .own (found ++ [y]))] := by
    exact ev_mth rfl (evs_one e1) rfl app
  rw [e2]
  rfl
theorem gD_pu (a b c : Int) : pu (gD a b c) = false := rfl
theorem gD_nf (a b c : Int) : nf (gD a b c) = true := rfl
theorem perm_pick : ∀ {l : List D} {i : Nat} {y : D}, l[i]? = some y → (y :: l.eraseIdx i).Perm l
  | z :: l, 0, y, h => by
    obtain rfl : z = y := Option.some.inj (by simpa using h)
    exact .refl _
  | z :: l, i + 1, y, h => by
    have q := perm_pick (l := l) (i := i) (y := y) (by simpa using h)
    show (y :: z :: l.eraseIdx i).Perm (z :: l)
    exact (List.Perm.swap z y _).trans (q.cons z)
  | [], _, _, h => by simp at h
variable {T : Nat} {b : Int}
abbrev ordC : E := .bor [2] (.pr .ne [(.v 2), (.pr .mkLst [])])
abbrev ordB (r : Nat) : List S := [.ex (.mth .append 3 [] [(.mth .popAt 2 [] [(.bor [2] (.call r [(.mov 0), (.pr .len [(.v 2)])] [.sl 0, .fz] []))])])]
theorem ord_loop (eh : G.fns h = some fHash) (er : G.fns r = some (fRand h)) (hC : C.call = callF G L (k + 2)) (ht : pu t = true) : ∀ (m : Nat) (left found : List D) (a c' : Int), left.length = m → m < T → found.length + m < 2 ^ 20 → 0 ≤ a → 0 ≤ c' → c' + m < 2 ^ 63 → left.all okQ = true → found.all okQ = true →
    ∃ (ys : List D) (a' d : Int), whLoop (ev C ordC) (exs C (ordB r)) T [some (gD a b c'), some t, some (.lst .own left), some (.lst .own found)] = .ok .next [some (gD a' b d), some t, some (.lst .own []), some (.lst .own (found ++ ys))] ∧ ys.Perm left ∧ 0 ≤ a' ∧ c' ≤ d ∧ d ≤ c' + m := by
  intro m
  induction m generalizing T with
  | zero =>
    intro left found a c' hl hT hlim ha hc hc2 ql qf
    cases left with
    | cons x xs => cases hl
    | nil =>
    cases T with
    | zero => omega
    | succ T =>
      refine ⟨[], a, c', ?_, .refl _, ha, by omega, by omega⟩
      show (ev C ordC _).bind _ = _
      rw [ord_cond (gD_pu _ _ _) (gD_nf _ _ _) ht (okQ_nfs qf) rfl, List.append_nil]
      rfl
  | succ m ih =>
    intro left found a c' hl hT hlim ha hc hc2 ql qf
    cases T with
    | zero => omega
    | succ T =>
      obtain ⟨v, a', d, h1, h2, h3, h4, h5, h6⟩ := rand_ok (L := L) (k := k) (n := (left.length : Int)) (b := b) eh er ha hc (by omega) (by omega) (by omega)
      obtain ⟨u, rfl⟩ : ∃ u : Nat, v = (u : Int) := ⟨v.toNat, by omega⟩
      have hu : u < left.length := by omega
      have hy : left[u]? = some left[u] := List.getElem?_eq_getElem hu
      have turn := ord_turn (C := C) (r := r) (y := left[u]) (x := gD a b c') (x' := gD a' b d) (t := t) (left := left) (found := found) (v := u) (by omega) (by omega) hy (gD_pu _ _ _) (gD_nf _ _ _) ht (okQ_nfs qf) (by rw [hC]; exact h6)
      have pp := perm_pick hy
      have qa : ((left[u] :: left.eraseIdx u)).all okQ = true := by
        rw [List.all_eq_true] at ql ⊢
        exact fun z hz => ql z (pp.mem_iff.mp hz)
      rw [List.all_cons, Bool.and_eq_true] at qa
      have le : (left.eraseIdx u).length = m := by rw [List.length_eraseIdx, if_pos hu]; omega
      obtain ⟨ys, a2, d2, g1, g2, g3, g4, g5⟩ := ih (T := T) (left.eraseIdx u) (found ++ [left[u]]) a' d le (by omega) (by rw [List.length_append, List.length_singleton]; omega) h3 (by omega) (by omega) qa.2 (by rw [List.all_append, qf, List.all_cons, qa.1]; rfl)
      refine ⟨left[u] :: ys, a2, d2, ?_, (g2.cons _).trans pp, g3, by omega, by omega⟩
      show (ev C ordC _).bind _ = _
      rw [ord_cond (gD_pu _ _ _) (gD_nf _ _ _) ht (okQ_nfs qf) (okQ_nds ql)]
      have ne : (!left.isEmpty) = true := by
        cases left with
        | nil => cases hl
        | cons _ _ => rfl
      rw [ne]
      show (exs C (ordB r) _).bind _ = _
      rw [turn]
      show whLoop (ev C ordC) (exs C (ordB r)) T _ = _
      rw [g1, List.append_assoc]
      rfl
/-- a drawn order: what it was given, in some order -/
theorem order_ok {xs : List D} {a c' : Int} (eh : G.fns h = some fHash) (er : G.fns r = some (fRand h)) (eo : G.fns o = some (fOrder r)) (hp : pus xs = true) (hq : xs.all okQ = true) (hL : xs.length < L) (hl : xs.length < 2 ^ 20) (ha : 0 ≤ a) (hc : 0 ≤ c') (hc2 : c' + xs.length < 2 ^ 63) :
    ∃ (ys : List D) (a' d : Int), callF G L (k + 3) o [gD a b c', .lst (.sh 0) xs] = .ok (.lst .own ys) [some (gD a' b d), none] ∧ ys.Perm xs ∧ 0 ≤ a' ∧ c' ≤ d ∧ d ≤ c' + xs.length := by
  have p : pu (.lst (.sh 0) xs) = true := hp
  obtain ⟨ys, a', d, e, q1, q2, q3, q4⟩ := ord_loop (b := b) (C := ⟨G.par, G.const, callF G L (k + 2), L, fun i => (fOrder r).io.getD i false⟩) (t := .lst (.sh 0) xs) eh er rfl p xs.length xs [] a c' rfl hL (by simpa using hl) ha hc hc2 hq rfl
  refine ⟨ys, a', d, callF_of (env := [some (gD a' b d), some (.lst (.sh 0) xs), some (.lst .own []), none]) eo ?_ ?_ rfl, q1, q2, q3, q4⟩
  · show (true && (true && ((false || pu (.lst (.sh 0) xs)) && true))) = true
    rw [p]; rfl
  · show (ex _ (.par [2, 3] [(.pr .list [(.v 1)]), (.pr .mkLst [])]) _).bind _ = _
    have e1 : ex ⟨G.par, G.const, callF G L (k + 2), L, fun i => (fOrder r).io.getD i false⟩ (.par [2, 3] [(.pr .list [(.v 1)]), (.pr .mkLst [])]) [some (gD a b c'), some (.lst (.sh 0) xs), none, none] = .ok .next [some (gD a b c'), some (.lst (.sh 0) xs), some (.lst .own xs), some (.lst .own [])] := by
      simp [ex, ev, evs, get, p, O.bind, O.lift, prim, p_list, p_mkLst, fits, fOrder, setMany]
    have es : PL.start (fOrder r).ns [gD a b c', .lst (.sh 0) xs] = [some (gD a b c'), some (.lst (.sh 0) xs), none, none] := rfl
    rw [es, e1]
    show (ex _ (.wh ordC (ordB r)) _).bind _ = _
    show (whLoop (ev _ ordC) (exs _ (ordB r)) L _).bind _ = _
    rw [e]
    rfl
end
end
end PL
set_option Elab.async false
set_option linter.all false
set_option maxRecDepth 100000
set_option maxHeartbeats 4000000
/-! classes LoneError InvalidNumber InvalidLot InvalidRow; constants FIGURES PLACES MOST_FIGURES SIGNS -/
namespace K90
open PL
/-- is_whole(value) |  -/
def F0 : Fn := ⟨1, 1, [false], [
    .ret (.and (.pr (.inst .int) [(.v 0)]) (.not (.pr (.inst .bool) [(.v 0)])))]⟩
/-- is_count(value) |  -/
def F1 : Fn := ⟨1, 1, [false], [
    .ret (.and (.call 0 [(.v 0)] [] []) (.pr .ge [(.v 0), (.k (.int 0))]))]⟩
/-- is_number_told(value) | figure -/
def F2 : Fn := ⟨1, 2, [false], [
    .ite (.or (.not (.pr (.inst .str) [(.v 0)])) (.not (.cmp2 .le .le (.k (.int 1)) (.pr .len [(.v 0)]) (.g 2)))) [.ret (.k (.bl false))] [],
    .ret (.pr .all [(.lc (.pr .isIn [(.v 1), (.g 0)]) (.v 1) .seq [(.v 0)] (.k (.bl true)) [1])])]⟩
/-- check_told(number) |  -/
def F3 : Fn := ⟨1, 1, [false], [
    .ite (.not (.call 2 [(.v 0)] [] [])) [.raise 1 (.v 0)] []]⟩
/-- check_many(many) |  -/
def F4 : Fn := ⟨1, 1, [false], [
    .ite (.not (.call 1 [(.v 0)] [] [])) [.raise 1 (.v 0)] []]⟩
/-- places_of(figure) |  -/
def F5 : Fn := ⟨1, 1, [false], [
    .ite (.or (.not (.call 2 [(.v 0)] [] [])) (.pr .gt [(.pr .len [(.v 0)]), (.k (.int 1))])) [.raise 1 (.v 0)] [],
    .ret (.pr .ix [(.g 1), (.pr .int [(.v 0)])])]⟩
/-- figure_with(places) | own place -/
def F6 : Fn := ⟨1, 3, [false], [
    .ite (.or (.not (.pr (.inst .str) [(.v 0)])) (.not (.pr .all [(.lc (.pr .isIn [(.v 2), (.k (.str [97, 98, 99, 100, 101, 102, 103]))]) (.v 2) .seq [(.v 0)] (.k (.bl true)) [2])]))) [.raise 2 (.v 0)] [],
    .ite (.pr .lt [(.pr .lenD [(.lc (.v 2) (.v 2) .seq [(.v 0)] (.k (.bl true)) [2])]), (.pr .len [(.v 0)])]) [.raise 2 (.v 0)] [],
    .asg (.v 1) (.fz (.pr .join [(.k (.str [])), (.pr .sorted [(.v 0)])])),
    .ret (.ite (.pr .isIn [(.v 1), (.g 1)]) (.pr .str [(.pr .index [(.g 1), (.v 1)])]) (.k .non))]⟩
/-- laid_of(number) | figure -/
def F7 : Fn := ⟨1, 2, [false], [
    .ret (.pr .sum [(.lc (.pr .len [(.pr .ix [(.g 1), (.pr .int [(.v 1)])])]) (.v 1) .seq [(.v 0)] (.k (.bl true)) [1])])]⟩
/-- matches_in(number) |  -/
def F8 : Fn := ⟨1, 1, [false], [
    .ex (.call 3 [(.v 0)] [] []),
    .ret (.call 7 [(.v 0)] [] [])]⟩
/-- rows_by_size(many) | found size row left places -/
def F9 : Fn := ⟨1, 6, [false], [
    .asg (.v 1) (.pr .mkLst [(.pr .add [(.pr .mkLst [(.k (.int 1))]), (.pr .mul [(.pr .mkLst [(.k (.int 0))]), (.v 0)])])]),
    .for_ (.v 2) .range [(.k (.int 1)), (.pr .add [(.pr .fdiv [(.v 0), (.k (.int 2))]), (.k (.int 1))])] [.asg (.v 3) (.pr .mkLst []), .for_ (.v 4) .range [(.pr .add [(.v 0), (.k (.int 1))])] [.ex (.mth .append 3 [] [(.pr .sum [(.lc (.bor [1] (.pr .ix [(.pr .ix [(.v 1), (.pr .neg [(.k (.int 1))])]), (.pr .sub [(.v 4), (.pr .len [(.v 5)])])])) (.v 5) .seq [(.g 1)] (.pr .le [(.pr .len [(.v 5)]), (.v 4)]) [5])])])], .ex (.mth .append 1 [] [(.mov 3)])],
    .ret (.mov 1)]⟩
/-- first_figures(size) |  -/
def F10 : Fn := ⟨1, 1, [false], [
    .ret (.ite (.pr .eq [(.v 0), (.k (.int 1))]) (.g 0) (.pr (.sl true false) [(.g 0), (.k (.int 1)), (.k .non)]))]⟩
/-- behind_figure(rows, size, left, figure) | rest -/
def F11 : Fn := ⟨4, 5, [false, false, false, false], [
    .asg (.v 4) (.fz (.pr .sub [(.v 2), (.pr .len [(.pr .ix [(.g 1), (.pr .int [(.v 3)])])])])),
    .ret (.ite (.pr .ge [(.v 4), (.k (.int 0))]) (.pr .ix [(.pr .ix [(.v 0), (.pr .sub [(.v 1), (.k (.int 1))])]), (.v 4)]) (.k (.int 0)))]⟩
/-- plain_sizes(many) | rows found size figure -/
def F12 : Fn := ⟨1, 5, [false], [
    .asg (.tup [(.v 1), (.v 2)]) (.pr .mkTup [(.fz (.call 9 [(.v 0)] [] [])), (.pr .mkLst [])]),
    .for_ (.v 3) .range [(.k (.int 1)), (.pr .add [(.pr .fdiv [(.v 0), (.k (.int 2))]), (.k (.int 1))])] [.ex (.mth .append 2 [] [(.pr .sum [(.lc (.call 11 [(.v 1), (.v 3), (.v 0), (.v 4)] [] []) (.v 4) .seq [(.call 10 [(.v 3)] [] [])] (.k (.bl true)) [4])])])],
    .ret (.pr .mkTup [(.mov 2), (.v 1)])]⟩
/-- how_many_plain(many) |  -/
def F13 : Fn := ⟨1, 1, [false], [
    .ex (.call 4 [(.v 0)] [] []),
    .ret (.pr .sum [(.pr .ix [(.call 12 [(.v 0)] [] []), (.k (.int 0))])])]⟩
/-- plain_with(many, number) | sizes rows size left rest found figure here -/
def F14 : Fn := ⟨2, 10, [false, false], [
    .asg (.tup [(.v 2), (.v 3)]) (.fz (.call 12 [(.v 0)] [] [])),
    .asg (.tup [(.v 4), (.v 5), (.v 6), (.v 7)]) (.pr .mkTup [(.fz (.k (.int 1))), (.fz (.v 0)), (.fz (.v 1)), (.fz (.k (.str [])))]),
    .wh (.pr .ge [(.v 6), (.pr .ix [(.v 2), (.pr .sub [(.v 4), (.k (.int 1))])])]) [.aug .sub 6 (.pr .ix [(.v 2), (.pr .sub [(.v 4), (.k (.int 1))])]), .aug .add 4 (.k (.int 1))],
    .wh (.pr .lt [(.pr .len [(.v 7)]), (.v 4)]) [.for_ (.v 8) .seq [(.ite (.pr .eq [(.v 7), (.k (.str []))]) (.call 10 [(.v 4)] [] []) (.g 0))] [.asg (.v 9) (.fz (.call 11 [(.v 3), (.pr .sub [(.v 4), (.pr .len [(.v 7)])]), (.v 5), (.v 8)] [] [])), .ite (.pr .lt [(.v 6), (.v 9)]) [.brk] [], .aug .sub 6 (.v 9)], .aug .add 7 (.v 8), .aug .sub 5 (.pr .len [(.pr .ix [(.g 1), (.pr .int [(.v 8)])])])],
    .ret (.v 7)]⟩
/-- least_plain(many) |  -/
def F15 : Fn := ⟨1, 1, [false], [
    .ex (.call 4 [(.v 0)] [] []),
    .ret (.ite (.pr .gt [(.pr .sum [(.pr .ix [(.call 12 [(.v 0)] [] []), (.k (.int 0))])]), (.k (.int 0))]) (.call 14 [(.v 0), (.k (.int 0))] [] []) (.k .non))]⟩
/-- greatest_plain(many) | whole -/
def F16 : Fn := ⟨1, 2, [false], [
    .ex (.call 4 [(.v 0)] [] []),
    .asg (.v 1) (.fz (.pr .sum [(.pr .ix [(.call 12 [(.v 0)] [] []), (.k (.int 0))])])),
    .ret (.ite (.pr .gt [(.v 1), (.k (.int 0))]) (.call 14 [(.v 0), (.pr .sub [(.v 1), (.k (.int 1))])] [] []) (.k .non))]⟩
/-- plain_at(many, number) |  -/
def F17 : Fn := ⟨2, 2, [false, false], [
    .ex (.call 4 [(.v 0)] [] []),
    .ite (.or (.not (.call 1 [(.v 1)] [] [])) (.pr .ge [(.v 1), (.pr .sum [(.pr .ix [(.call 12 [(.v 0)] [] []), (.k (.int 0))])])])) [.raise 1 (.v 1)] [],
    .ret (.call 14 [(.v 0), (.v 1)] [] [])]⟩
/-- moved_figures(figure, other) | here there place -/
def F18 : Fn := ⟨2, 5, [false, false], [
    .asg (.tup [(.v 2), (.v 3)]) (.pr .mkTup [(.fz (.pr .ix [(.g 1), (.pr .int [(.v 0)])])), (.fz (.pr .ix [(.g 1), (.pr .int [(.v 1)])]))]),
    .ret (.pr .mkTup [(.pr .len [(.lc (.v 4) (.v 4) .seq [(.v 2)] (.pr .notIn [(.v 4), (.v 3)]) [4])]), (.pr .len [(.lc (.v 4) (.v 4) .seq [(.v 3)] (.pr .notIn [(.v 4), (.v 2)]) [4])])])]⟩
/-- moved_numbers(number, other) | taken put one late less more -/
def F19 : Fn := ⟨2, 8, [false, false], [
    .asg (.tup [(.v 2), (.v 3)]) (.pr .mkTup [(.fz (.k (.int 0))), (.fz (.k (.int 0)))]),
    .for_ (.tup [(.v 4), (.v 5)]) .zip [(.v 0), (.v 1)] [.asg (.tup [(.v 6), (.v 7)]) (.fz (.call 18 [(.v 4), (.v 5)] [] [])), .par [2, 3] [(.fz (.pr .add [(.v 2), (.v 6)])), (.fz (.pr .add [(.v 3), (.v 7)]))]],
    .ret (.pr .mkTup [(.v 2), (.v 3)])]⟩
/-- moved_between(number, other) |  -/
def F20 : Fn := ⟨2, 2, [false, false], [
    .ex (.call 3 [(.v 0)] [] []),
    .ex (.call 3 [(.v 1)] [] []),
    .ite (.pr .ne [(.pr .len [(.v 1)]), (.pr .len [(.v 0)])]) [.raise 1 (.v 1)] [],
    .ret (.call 19 [(.v 0), (.v 1)] [] [])]⟩
/-- comes_by(number, taken, put) | rows figure later begun less more other out into told -/
def F21 : Fn := ⟨3, 13, [false, false, false], [
    .ex (.call 3 [(.v 0)] [] []),
    .ex (.call 4 [(.v 1)] [] []),
    .ex (.call 4 [(.v 2)] [] []),
    .asg (.v 3) (.fz (.pr .mkLst [(.pr .mkTup [(.k (.str [])), (.k (.int 0)), (.k (.int 0))])])),
    .for_ (.v 4) .seq [(.v 0)] [.asg (.v 5) (.pr .mkLst []), .for_ (.tup [(.v 6), (.v 7), (.v 8)]) .seq [(.v 3)] [.for_ (.v 9) .seq [(.g 0)] [.asg (.tup [(.v 10), (.v 11)]) (.fz (.call 18 [(.v 4), (.v 9)] [] [])), .ite (.and (.pr .le [(.pr .add [(.v 7), (.v 10)]), (.v 1)]) (.pr .le [(.pr .add [(.v 8), (.v 11)]), (.v 2)])) [.ex (.mth .append 5 [] [(.pr .mkTup [(.pr .add [(.v 6), (.v 9)]), (.pr .add [(.v 7), (.v 10)]), (.pr .add [(.v 8), (.v 11)])])])] []]], .asg (.v 3) (.fz (.mov 5))],
    .ret (.lc (.v 12) (.tup [(.v 12), (.v 7), (.v 8)]) .seq [(.v 3)] (.and (.pr .eq [(.v 7), (.v 1)]) (.pr .eq [(.v 8), (.v 2)])) [12, 7, 8])]⟩
/-- is_sum(value) | at -/
def F22 : Fn := ⟨1, 2, [false], [
    .ite (.or (.not (.pr (.inst .tuple) [(.v 0)])) (.or (.pr .ne [(.pr .len [(.v 0)]), (.k (.int 4))]) (.or (.not (.pr (.inst .str) [(.pr .ix [(.v 0), (.k (.int 1))])])) (.pr .notIn [(.pr .ix [(.v 0), (.k (.int 1))]), (.g 3)])))) [.ret (.k (.bl false))] [],
    .ret (.pr .all [(.lc (.call 2 [(.pr .ix [(.v 0), (.v 1)])] [] []) (.v 1) .seq [(.pr .mkTup [(.k (.int 0)), (.k (.int 2)), (.k (.int 3))])] (.k (.bl true)) [1])])]⟩
/-- check_sum(told) |  -/
def F23 : Fn := ⟨1, 1, [false], [
    .ite (.not (.call 22 [(.v 0)] [] [])) [.raise 3 (.v 0)] []]⟩
/-- worth_of(first, sign, second) |  -/
def F24 : Fn := ⟨3, 3, [false, false, false], [
    .ret (.ite (.pr .eq [(.v 1), (.k (.str [43]))]) (.pr .add [(.pr .int [(.v 0)]), (.pr .int [(.v 2)])]) (.pr .sub [(.pr .int [(.v 0)]), (.pr .int [(.v 2)])]))]⟩
/-- is_right_sum(told) |  -/
def F25 : Fn := ⟨1, 1, [false], [
    .ex (.call 23 [(.v 0)] [] []),
    .ret (.pr .eq [(.call 24 [(.pr .ix [(.v 0), (.k (.int 0))]), (.pr .ix [(.v 0), (.k (.int 1))]), (.pr .ix [(.v 0), (.k (.int 2))])] [] []), (.pr .int [(.pr .ix [(.v 0), (.k (.int 3))])])])]⟩
/-- rows_of_figures(size) | found turn row figure -/
def F26 : Fn := ⟨1, 5, [false], [
    .asg (.v 1) (.fz (.pr .mkLst [(.k (.str []))])),
    .for_ (.v 2) .range [(.v 0)] [.asg (.v 1) (.fz (.lc2 (.pr .add [(.v 3), (.v 4)]) (.v 3) .seq [(.v 1)] (.k (.bl true)) (.v 4) .seq [(.g 0)] (.k (.bl true)) [3, 4] [4]))],
    .ret (.v 1)]⟩
/-- moved_sums(told, other) | taken put at less more -/
def F27 : Fn := ⟨2, 7, [false, false], [
    .asg (.v 2) (.fz (.ite (.and (.pr .eq [(.pr .ix [(.v 0), (.k (.int 1))]), (.k (.str [43]))]) (.pr .eq [(.pr .ix [(.v 1), (.k (.int 1))]), (.k (.str [45]))])) (.k (.int 1)) (.k (.int 0)))),
    .asg (.v 3) (.fz (.ite (.and (.pr .eq [(.pr .ix [(.v 0), (.k (.int 1))]), (.k (.str [45]))]) (.pr .eq [(.pr .ix [(.v 1), (.k (.int 1))]), (.k (.str [43]))])) (.k (.int 1)) (.k (.int 0)))),
    .for_ (.v 4) .seq [(.pr .mkTup [(.k (.int 0)), (.k (.int 2)), (.k (.int 3))])] [.asg (.tup [(.v 5), (.v 6)]) (.fz (.call 19 [(.pr .ix [(.v 0), (.v 4)]), (.pr .ix [(.v 1), (.v 4)])] [] [])), .par [2, 3] [(.fz (.pr .add [(.v 2), (.v 5)])), (.fz (.pr .add [(.v 3), (.v 6)]))]],
    .ret (.pr .mkTup [(.v 2), (.v 3)])]⟩
/-- right_sums(told) | found size first sign second worth result other taken put -/
def F28 : Fn := ⟨1, 11, [false], [
    .par [1, 2] [(.pr .mkLst []), (.fz (.pr .len [(.pr .ix [(.v 0), (.k (.int 3))])]))],
    .for_ (.v 3) .seq [(.call 26 [(.pr .len [(.pr .ix [(.v 0), (.k (.int 0))])])] [] [])] [.for_ (.v 4) .seq [(.g 3)] [.for_ (.v 5) .seq [(.call 26 [(.pr .len [(.pr .ix [(.v 0), (.k (.int 2))])])] [] [])] [.asg (.v 6) (.fz (.call 24 [(.v 3), (.v 4), (.v 5)] [] [])), .asg (.v 7) (.fz (.pr .add [(.pr .mul [(.k (.str [48])), (.pr .sub [(.v 2), (.pr .len [(.pr .str [(.v 6)])])])]), (.pr .str [(.v 6)])])), .ite (.and (.pr .ge [(.v 6), (.k (.int 0))]) (.pr .eq [(.pr .len [(.v 7)]), (.v 2)])) [.asg (.v 8) (.fz (.pr .mkTup [(.v 3), (.v 4), (.v 5), (.v 7)])), .asg (.tup [(.v 9), (.v 10)]) (.fz (.call 27 [(.v 0), (.v 8)] [] [])), .ite (.pr .eq [(.v 9), (.v 10)]) [.ex (.mth .append 1 [] [(.pr .mkTup [(.v 8), (.v 9)])])] []] []]]],
    .ret (.mov 1)]⟩
/-- mended_sums(told, many) | other moved -/
def F29 : Fn := ⟨2, 4, [false, false], [
    .ex (.call 23 [(.v 0)] [] []),
    .ite (.not (.call 1 [(.v 1)] [] [])) [.raise 1 (.v 1)] [],
    .ret (.lc (.v 2) (.tup [(.v 2), (.v 3)]) .seq [(.call 28 [(.v 0)] [] [])] (.pr .eq [(.v 3), (.v 1)]) [2, 3])]⟩
/-- fewest_mended(told) | found other moved -/
def F30 : Fn := ⟨1, 4, [false], [
    .ex (.call 23 [(.v 0)] [] []),
    .asg (.v 1) (.fz (.lc (.v 3) (.tup [(.v 2), (.v 3)]) .seq [(.call 28 [(.v 0)] [] [])] (.k (.bl true)) [2, 3])),
    .ret (.ite (.pr .ne [(.v 1), (.pr .mkLst [])]) (.pr .minL [(.v 1)]) (.k .non))]⟩
/-- _law_hash(seed, index) | mixed -/
def F31 : Fn := ⟨2, 3, [false, false], [
    .asg (.v 2) (.fz (.pr .mod [(.pr .int [(.pr .add [(.pr .add [(.pr .add [(.pr .mul [(.v 0), (.k (.int 1140671))]), (.pr .mul [(.pr .mul [(.k (.int 27644437)), (.v 1)]), (.v 1)])]), (.pr .mul [(.k (.int 131)), (.v 1)])]), (.k (.int 19))])]), (.k (.int 2147483629))])),
    .asg (.v 2) (.fz (.pr .mod [(.pr .int [(.pr .add [(.pr .add [(.pr .mul [(.v 2), (.v 2)]), (.pr .mul [(.k (.int 62089)), (.v 1)])]), (.k (.int 32416187))])]), (.k (.int 2147483587))])),
    .ret (.pr .mod [(.pr .int [(.pr .mul [(.v 2), (.k (.int 48271))])]), (.k (.int 2147483647))])]⟩
/-- _law_cell(script, index) |  -/
def F32 : Fn := ⟨2, 2, [false, false], [
    .ite (.pr .lt [(.v 1), (.pr .len [(.v 0)])]) [.ret (.pr .ix [(.v 0), (.v 1)])] [],
    .ret (.pr .mod [(.pr .sum [(.pr (.sl false true) [(.v 0), (.k .non), (.k (.int 1))])]), (.k (.int 1000003))])]⟩
/-- _law_generator(script, index) | seed -/
def F33 : Fn := ⟨2, 3, [false, false], [
    .asg (.v 2) (.fz (.call 32 [(.v 0), (.v 1)] [] [])),
    .ret (.pr .mkLst [(.pr .mod [(.pr .int [(.pr .max [(.pr .sub [(.v 2), (.pr .pow [(.k (.int 10)), (.k (.int 18))])]), (.k (.int 0))])]), (.pr .pow [(.pr .pow [(.k (.int 10)), (.k (.int 60))]), (.k (.int 10))])]), (.pr .mod [(.pr .int [(.v 2)]), (.k (.int 2147483647))]), (.pr .mul [(.k (.int 1000)), (.v 1)])])]⟩
/-- _law_random(generator, bound) | drawn turn -/
def F34 : Fn := ⟨2, 4, [true, false], [
    .ite (.pr .gt [(.pk 0 [(.k (.int 0))]), (.k (.int 0))]) [.asg (.v 2) (.fz (.pr .mod [(.pr .int [(.pk 0 [(.k (.int 0))])]), (.v 1)])), .asg (.sub 0 [] (.k (.int 0))) (.pr .fdiv [(.pk 0 [(.k (.int 0))]), (.v 1)]), .ret (.v 2)] [],
    .asg (.v 2) (.fz (.k (.int 0))),
    .for_ (.v 3) .range [(.pr .add [(.k (.int 1)), (.pr .fdiv [(.pr .bitlen [(.v 1)]), (.k (.int 30))])])] [.asg (.sub 0 [] (.k (.int 2))) (.pr .add [(.pk 0 [(.k (.int 2))]), (.k (.int 1))]), .asg (.v 2) (.fz (.pr .add [(.pr .mul [(.v 2), (.k (.int 2147483587))]), (.call 31 [(.pk 0 [(.k (.int 1))]), (.pk 0 [(.k (.int 2))])] [] [])]))],
    .ret (.pr .mod [(.pr .int [(.v 2)]), (.v 1)])]⟩
/-- _law_drawn_order(generator, things) | left found -/
def F35 : Fn := ⟨2, 4, [true, false], [
    .par [2, 3] [(.pr .list [(.v 1)]), (.pr .mkLst [])],
    .wh (.bor [2] (.pr .ne [(.v 2), (.pr .mkLst [])])) [.ex (.mth .append 3 [] [(.mth .popAt 2 [] [(.bor [2] (.call 34 [(.mov 0), (.pr .len [(.v 2)])] [.sl 0, .fz] []))])])],
    .ret (.mov 3)]⟩
/-- _law_exact(told, due) | one other -/
def F36 : Fn := ⟨2, 4, [false, false], [
    .ite (.pr (.inst .list) [(.v 1)]) [.ret (.and (.pr (.inst .list) [(.v 0)]) (.and (.pr .eq [(.pr .len [(.v 0)]), (.pr .len [(.v 1)])]) (.pr .notIn [(.k (.bl false)), (.lc (.call 36 [(.v 2), (.v 3)] [] []) (.tup [(.v 2), (.v 3)]) .zip [(.v 0), (.v 1)] (.k (.bl true)) [2, 3])])))] [],
    .ite (.pr (.inst .tuple) [(.v 1)]) [.ret (.and (.pr (.inst .tuple) [(.v 0)]) (.and (.pr .eq [(.pr .len [(.v 0)]), (.pr .len [(.v 1)])]) (.pr .notIn [(.k (.bl false)), (.lc (.call 36 [(.v 2), (.v 3)] [] []) (.tup [(.v 2), (.v 3)]) .zip [(.v 0), (.v 1)] (.k (.bl true)) [2, 3])])))] [],
    .ite (.pr .isNone [(.v 1)]) [.ret (.pr .isNone [(.v 0)])] [],
    .ite (.pr (.isB true) [(.v 1)]) [.ret (.pr (.isB true) [(.v 0)])] [],
    .ite (.pr (.isB false) [(.v 1)]) [.ret (.pr (.isB false) [(.v 0)])] [],
    .ite (.pr (.inst .int) [(.v 1)]) [.ret (.and (.pr (.inst .int) [(.v 0)]) (.and (.not (.pr (.inst .bool) [(.v 0)])) (.pr .eq [(.v 0), (.v 1)])))] [],
    .ret (.and (.pr (.inst .str) [(.v 0)]) (.pr .eq [(.v 0), (.v 1)]))]⟩
/-- _law_call(door, other) |  -/
def F37 : Fn := ⟨2, 2, [false, false], [
    .ite (.pr .eq [(.v 0), (.k (.int 0))]) [.ret (.call 5 [(.v 1)] [] [])] [],
    .ite (.pr .eq [(.v 0), (.k (.int 1))]) [.ret (.call 6 [(.v 1)] [] [])] [],
    .ite (.pr .eq [(.v 0), (.k (.int 2))]) [.ret (.call 8 [(.v 1)] [] [])] [],
    .ite (.pr .eq [(.v 0), (.k (.int 3))]) [.ret (.call 20 [(.v 1), (.k .non)] [] [])] [],
    .ite (.pr .eq [(.v 0), (.k (.int 4))]) [.ret (.call 21 [(.v 1), (.k .non), (.k .non)] [] [])] [],
    .ite (.pr .eq [(.v 0), (.k (.int 5))]) [.ret (.call 20 [(.k (.str [49, 55])), (.v 1)] [] [])] [],
    .ite (.pr .eq [(.v 0), (.k (.int 6))]) [.ret (.call 13 [(.v 1)] [] [])] [],
    .ite (.pr .eq [(.v 0), (.k (.int 7))]) [.ret (.call 15 [(.v 1)] [] [])] [],
    .ite (.pr .eq [(.v 0), (.k (.int 8))]) [.ret (.call 16 [(.v 1)] [] [])] [],
    .ite (.pr .eq [(.v 0), (.k (.int 9))]) [.ret (.call 17 [(.v 1), (.k .non)] [] [])] [],
    .ite (.pr .eq [(.v 0), (.k (.int 10))]) [.ret (.call 17 [(.k (.int 5)), (.v 1)] [] [])] [],
    .ite (.pr .eq [(.v 0), (.k (.int 11))]) [.ret (.call 21 [(.k (.str [49, 55])), (.v 1), (.k .non)] [] [])] [],
    .ret (.call 38 [(.v 0), (.v 1)] [] [])]⟩
/-- _law_sum_call(door, other) |  -/
def F38 : Fn := ⟨2, 2, [false, false], [
    .ite (.pr .eq [(.v 0), (.k (.int 12))]) [.ret (.call 21 [(.k (.str [49, 55])), (.k (.int 1)), (.v 1)] [] [])] [],
    .ite (.pr .eq [(.v 0), (.k (.int 13))]) [.ret (.call 25 [(.v 1)] [] [])] [],
    .ite (.pr .eq [(.v 0), (.k (.int 14))]) [.ret (.call 29 [(.v 1), (.k .non)] [] [])] [],
    .ite (.pr .eq [(.v 0), (.k (.int 15))]) [.ret (.call 30 [(.v 1)] [] [])] [],
    .ret (.call 29 [(.pr .mkTup [(.k (.str [49])), (.k (.str [43])), (.k (.str [49])), (.k (.str [50]))]), (.v 1)] [] [])]⟩
/-- _law_right_call(door, other) |  -/
def F39 : Fn := ⟨2, 2, [false, false], [
    .ite (.pr .eq [(.v 0), (.k (.int 3))]) [.ret (.call 20 [(.v 1), (.k (.str [49, 55]))] [] [])] [],
    .ite (.pr .eq [(.v 0), (.k (.int 4))]) [.ret (.call 21 [(.v 1), (.k (.int 1)), (.k (.int 1))] [] [])] [],
    .ite (.pr .eq [(.v 0), (.k (.int 9))]) [.ret (.call 17 [(.v 1), (.k (.int 0))] [] [])] [],
    .ite (.pr .eq [(.v 0), (.k (.int 11))]) [.ret (.call 21 [(.k (.str [49, 55])), (.v 1), (.k (.int 1))] [] [])] [],
    .ite (.pr .eq [(.v 0), (.k (.int 14))]) [.ret (.call 29 [(.v 1), (.k (.int 1))] [] [])] [],
    .ret (.call 37 [(.v 0), (.v 1)] [] [])]⟩
/-- _law_caught(door, other) | found way caught shown error -/
def F40 : Fn := ⟨2, 7, [false, false], [
    .asg (.v 2) (.pr .mkLst []),
    .for_ (.v 3) .seq [(.pr .mkLst [(.k (.int 0)), (.k (.int 1))])] [.par [4, 5] [(.fz (.k .non)), (.fz (.pr .repr [(.v 1)]))], .try_ [.ite (.pr .eq [(.v 3), (.k (.int 0))]) [.ex (.call 37 [(.v 0), (.v 1)] [] [])] [.ex (.call 39 [(.v 0), (.v 1)] [] [])]] 0 6 4, .ite (.or (.pr .ne [(.pr .repr [(.v 1)]), (.v 5)]) (.pr .isNone [(.v 4)])) [.ex (.mth .append 2 [] [(.k .non)])] [.ex (.mth .append 2 [] [(.pr .mkLst [(.pr (.instO 1) [(.v 4)]), (.pr (.instO 2) [(.v 4)]), (.pr (.instO 3) [(.v 4)]), (.pr .repr [(.pr .fld [(.v 4)])])])])]],
    .frz 2,
    .ret (.bor [2] (.ite (.pr .eq [(.pk 2 [(.k (.int 0))]), (.pk 2 [(.k (.int 1))])]) (.pk 2 [(.k (.int 0))]) (.pr .mkLst [(.v 2)])))]⟩
/-- _law_odds(door) | told sums -/
def F41 : Fn := ⟨1, 3, [false], [
    .asg (.v 1) (.fz (.pr .mkLst [(.k .non), (.k (.bl true)), (.k (.int 7)), (.k (.str [])), (.k (.str [97])), (.k (.str [49, 97])), (.k (.str [97, 49])), (.k (.str [49, 32, 50])), (.k (.str [45, 49])), (.k (.str [43, 49])), (.k (.str [49, 95, 48])), (.pr .mkLst [(.k (.str [49]))]), (.pr .mkTup [(.k (.str [49]))]), (.pr .mkDct []), (.pr .mul [(.k (.str [49])), (.k (.int 13))])])),
    .ite (.pr .eq [(.v 0), (.k (.int 0))]) [.ret (.pr .add [(.v 1), (.pr .mkLst [(.k (.str [49, 50])), (.k (.str [48, 48]))])])] [],
    .ite (.pr .eq [(.v 0), (.k (.int 1))]) [.ret (.pr .mkLst [(.k .non), (.k (.bl true)), (.k (.int 7)), (.pr .mkLst [(.k (.str [97]))]), (.pr .mkTup [(.k (.str [97]))]), (.pr .mkDct []), (.k (.str [104])), (.k (.str [65])), (.k (.str [97, 97])), (.k (.str [97, 98, 97])), (.k (.str [97, 98, 104])), (.k (.str [97, 32, 98])), (.k (.str [97, 98, 99, 100, 101, 102, 103, 97])), (.k (.str [49]))])] [],
    .ite (.pr .isIn [(.v 0), (.pr .mkLst [(.k (.int 2)), (.k (.int 3)), (.k (.int 4))])]) [.ret (.v 1)] [],
    .ite (.pr .eq [(.v 0), (.k (.int 5))]) [.ret (.pr .add [(.v 1), (.pr .mkLst [(.k (.str [49])), (.k (.str [49, 50, 51]))])])] [],
    .ite (.or (.pr .lt [(.v 0), (.k (.int 13))]) (.pr .eq [(.v 0), (.k (.int 16))])) [.ret (.pr .add [(.pr .mkLst [(.k .non), (.k (.bl true)), (.pr .sub [(.k (.int 0)), (.k (.int 1))]), (.k (.str [49])), (.pr .mkLst [(.k (.int 1))]), (.pr .mkTup [(.k (.int 1))]), (.pr .mkDct [])]), (.ite (.pr .eq [(.v 0), (.k (.int 10))]) (.pr .mkLst [(.k (.int 5)), (.pr .pow [(.k (.int 10)), (.k (.int 11))])]) (.pr .mkLst []))])] [],
    .asg (.v 2) (.fz (.pr .mkLst [(.k .non), (.k (.int 7)), (.k (.str [49, 43, 49, 61, 50])), (.pr .mkLst []), (.pr .mkTup []), (.pr .mkDct []), (.pr .mkLst [(.k (.str [49])), (.k (.str [43])), (.k (.str [49])), (.k (.str [50]))]), (.pr .mkTup [(.k (.str [49])), (.k (.str [43])), (.k (.str [49]))]), (.pr .mkTup [(.k (.str [49])), (.k (.str [43])), (.k (.str [49])), (.k (.str [50])), (.k (.str [51]))])])),
    .asg (.v 2) (.fz (.pr .add [(.v 2), (.pr .mkLst [(.pr .mkTup [(.k (.int 1)), (.k (.str [43])), (.k (.str [49])), (.k (.str [50]))]), (.pr .mkTup [(.k (.str [49])), (.k (.str [120])), (.k (.str [49])), (.k (.str [50]))]), (.pr .mkTup [(.k (.str [49])), (.k (.str [])), (.k (.str [49])), (.k (.str [50]))]), (.pr .mkTup [(.k (.str [49])), (.k (.str [43])), (.k (.str [])), (.k (.str [50]))]), (.pr .mkTup [(.k (.str [49])), (.k (.str [43])), (.k (.str [49])), (.k .non)])])])),
    .ret (.pr .add [(.v 2), (.pr .mkLst [(.pr .mkTup [(.k (.str [49])), (.pr .mkLst [(.k (.str [43]))]), (.k (.str [49])), (.k (.str [50]))]), (.pr .mkTup [(.k (.str [97])), (.k (.str [43])), (.k (.str [49])), (.k (.str [50]))]), (.pr .mkTup [(.k (.str [49])), (.k (.str [43])), (.k (.str [98])), (.k (.str [50]))]), (.pr .mkTup [(.k (.str [49])), (.k (.str [43])), (.k (.str [49])), (.k (.str [45, 50]))]), (.pr .mkTup [(.k (.str [49])), (.k (.str [43, 45])), (.k (.str [49])), (.k (.str [50]))]), (.pr .mkTup [(.k (.str [49])), (.k (.int 7)), (.k (.str [49])), (.k (.str [50]))]), (.pr .mkTup [(.pr .mul [(.k (.str [49])), (.k (.int 13))]), (.k (.str [43])), (.k (.str [49])), (.k (.str [50]))])])])]⟩
/-- law(script) | generator door odd caught error good -/
def F42 : Fn := ⟨1, 7, [false], [
    .asg (.v 1) (.call 33 [(.v 0), (.k (.int 0))] [] []),
    .for_ (.v 2) .seq [(.call 35 [(.mov 1), (.pr .listR [(.k (.int 17))])] [.sl 1, .fz] [])] [.for_ (.v 3) .seq [(.call 41 [(.v 2)] [] [])] [.ite (.bor [3] (.pr .ne [(.call 40 [(.v 2), (.v 3)] [] []), (.pr .mkLst [(.and (.pr .ne [(.v 2), (.k (.int 1))]) (.pr .notIn [(.v 2), (.pr .mkLst [(.k (.int 13)), (.k (.int 14)), (.k (.int 15))])])), (.pr .eq [(.v 2), (.k (.int 1))]), (.pr .isIn [(.v 2), (.pr .mkLst [(.k (.int 13)), (.k (.int 14)), (.k (.int 15))])]), (.pr .repr [(.v 3)])])])) [.ret (.k (.bl false))] []]],
    .for_ (.v 3) .seq [(.call 41 [(.k (.int 13))] [] [])] [.ite (.bor [3] (.pr (.notB false) [(.call 22 [(.v 3)] [] [])])) [.ret (.k (.bl false))] []],
    .for_ (.v 2) .range [(.k (.int 17))] [.par [3, 4] [(.pr .mkLst [(.k (.str [111, 100, 100]))]), (.fz (.k .non))], .als 3 5 4 (.try_ [.ex (.bor [3] (.call 37 [(.v 2), (.v 3)] [] []))] 0 5 4) (.ex (.mth .append 3 [] [(.k (.str [109, 111, 114, 101]))])) (.ite (.bor [3] (.or (.pr .isNone [(.v 4)]) (.pr .ne [(.pr .repr [(.pr .fld [(.v 4)])]), (.pr .repr [(.v 3)])]))) [.ret (.k (.bl false))] [])],
    .for_ (.tup [(.v 2), (.v 6)]) .seq [(.pr .mkLst [(.pr .mkTup [(.k (.int 0)), (.k (.str [57]))]), (.pr .mkTup [(.k (.int 1)), (.k (.str []))]), (.pr .mkTup [(.k (.int 1)), (.k (.str [103, 102, 101, 100, 99, 98, 97]))]), (.pr .mkTup [(.k (.int 2)), (.pr .mul [(.k (.str [48])), (.k (.int 12))])]), (.pr .mkTup [(.k (.int 5)), (.k (.str [48, 48]))]), (.pr .mkTup [(.k (.int 6)), (.k (.int 0))]), (.pr .mkTup [(.k (.int 10)), (.k (.int 4))]), (.pr .mkTup [(.k (.int 16)), (.k (.int 0))])])] [.ite (.pr .notNone [(.call 40 [(.v 2), (.v 6)] [] [])]) [.ret (.k (.bl false))] []],
    .ret (.call 36 [(.pr .mkLst [(.call 6 [(.k (.str []))] [] []), (.call 15 [(.k (.int 1))] [] []), (.call 13 [(.k (.int 0))] [] [])]), (.pr .mkLst [(.k .non), (.k .non), (.k (.int 0))])] [] [])]⟩
def par : Nat → Option Nat
  | 1 => some 0
  | 2 => some 0
  | 3 => some 0
  | _ => none
def consts : List D := [(.str [48, 49, 50, 51, 52, 53, 54, 55, 56, 57]), (.tup [(.str [97, 98, 99, 100, 101, 102]), (.str [98, 99]), (.str [97, 98, 100, 101, 103]), (.str [97, 98, 99, 100, 103]), (.str [98, 99, 102, 103]), (.str [97, 99, 100, 102, 103]), (.str [97, 99, 100, 101, 102, 103]), (.str [97, 98, 99]), (.str [97, 98, 99, 100, 101, 102, 103]), (.str [97, 98, 99, 100, 102, 103])]), (.int 12), (.tup [(.str [43]), (.str [45])])]
def const (n : Nat) : Option D := consts[n]?
def fnl : List Fn := [F0, F1, F2, F3, F4, F5, F6, F7, F8, F9, F10, F11, F12, F13, F14, F15, F16, F17, F18, F19, F20, F21, F22, F23, F24, F25, F26, F27, F28, F29, F30, F31, F32, F33, F34, F35, F36, F37, F38, F39, F40, F41, F42]
def G : Prog := ⟨par, const, fun n => fnl[n]?⟩
end K90
set_option Elab.async false
set_option linter.all false
set_option maxRecDepth 100000
set_option maxHeartbeats 4000000
/-! the bodies of k90_matches_and_sums_refused -/
namespace K90
open PL PySem PySem.Spec L2
open PyProof.Rows hiding St
def top (i : Nat) : Stmt := PySem.Challenge.pw_lonehall_k90_matches_and_sums_refused.main.body.getD i (.Pass ⟨0, 0, 0, 0⟩)
def d0 : DefI := ⟨"is_whole", top 7, ["value"], ["value"]⟩
theorem sc0 : FnScope d0.N d0.ps (defScope d0.st) := ⟨rfl, rfl, rfl, by decide +kernel, rfl, by decide +kernel, by decide +kernel⟩
def d1 : DefI := ⟨"is_count", top 8, ["value"], ["value"]⟩
theorem sc1 : FnScope d1.N d1.ps (defScope d1.st) := ⟨rfl, rfl, rfl, by decide +kernel, rfl, by decide +kernel, by decide +kernel⟩
def d2 : DefI := ⟨"is_number_told", top 12, ["value", "figure"], ["value"]⟩
theorem sc2 : FnScope d2.N d2.ps (defScope d2.st) := ⟨rfl, rfl, rfl, by decide +kernel, rfl, by decide +kernel, by decide +kernel⟩
def d3 : DefI := ⟨"check_told", top 13, ["number"], ["number"]⟩
theorem sc3 : FnScope d3.N d3.ps (defScope d3.st) := ⟨rfl, rfl, rfl, by decide +kernel, rfl, by decide +kernel, by decide +kernel⟩
def d4 : DefI := ⟨"check_many", top 14, ["many"], ["many"]⟩
theorem sc4 : FnScope d4.N d4.ps (defScope d4.st) := ⟨rfl, rfl, rfl, by decide +kernel, rfl, by decide +kernel, by decide +kernel⟩
def d5 : DefI := ⟨"places_of", top 15, ["figure"], ["figure"]⟩
theorem sc5 : FnScope d5.N d5.ps (defScope d5.st) := ⟨rfl, rfl, rfl, by decide +kernel, rfl, by decide +kernel, by decide +kernel⟩
def d6 : DefI := ⟨"figure_with", top 16, ["places", "own", "place"], ["places"]⟩
theorem sc6 : FnScope d6.N d6.ps (defScope d6.st) := ⟨rfl, rfl, rfl, by decide +kernel, rfl, by decide +kernel, by decide +kernel⟩
def d7 : DefI := ⟨"laid_of", top 17, ["number", "figure"], ["number"]⟩
theorem sc7 : FnScope d7.N d7.ps (defScope d7.st) := ⟨rfl, rfl, rfl, by decide +kernel, rfl, by decide +kernel, by decide +kernel⟩
def d8 : DefI := ⟨"matches_in", top 18, ["number"], ["number"]⟩
theorem sc8 : FnScope d8.N d8.ps (defScope d8.st) := ⟨rfl, rfl, rfl, by decide +kernel, rfl, by decide +kernel, by decide +kernel⟩
def d9 : DefI := ⟨"rows_by_size", top 19, ["many", "found", "size", "row", "left", "places"], ["many"]⟩
theorem sc9 : FnScope d9.N d9.ps (defScope d9.st) := ⟨rfl, rfl, rfl, by decide +kernel, rfl, by decide +kernel, by decide +kernel⟩
def d10 : DefI := ⟨"first_figures", top 20, ["size"], ["size"]⟩
theorem sc10 : FnScope d10.N d10.ps (defScope d10.st) := ⟨rfl, rfl, rfl, by decide +kernel, rfl, by decide +kernel, by decide +kernel⟩
def d11 : DefI := ⟨"behind_figure", top 21, ["rows", "size", "left", "figure", "rest"], ["rows", "size", "left", "figure"]⟩
theorem sc11 : FnScope d11.N d11.ps (defScope d11.st) := ⟨rfl, rfl, rfl, by decide +kernel, rfl, by decide +kernel, by decide +kernel⟩
def d12 : DefI := ⟨"plain_sizes", top 22, ["many", "rows", "found", "size", "figure"], ["many"]⟩
theorem sc12 : FnScope d12.N d12.ps (defScope d12.st) := ⟨rfl, rfl, rfl, by decide +kernel, rfl, by decide +kernel, by decide +kernel⟩
def d13 : DefI := ⟨"how_many_plain", top 23, ["many"], ["many"]⟩
theorem sc13 : FnScope d13.N d13.ps (defScope d13.st) := ⟨rfl, rfl, rfl, by decide +kernel, rfl, by decide +kernel, by decide +kernel⟩
def d14 : DefI := ⟨"plain_with", top 24, ["many", "number", "sizes", "rows", "size", "left", "rest", "found", "figure", "here"], ["many", "number"]⟩
theorem sc14 : FnScope d14.N d14.ps (defScope d14.st) := ⟨rfl, rfl, rfl, by decide +kernel, rfl, by decide +kernel, by decide +kernel⟩
def d15 : DefI := ⟨"least_plain", top 25, ["many"], ["many"]⟩
theorem sc15 : FnScope d15.N d15.ps (defScope d15.st) := ⟨rfl, rfl, rfl, by decide +kernel, rfl, by decide +kernel, by decide +kernel⟩
def d16 : DefI := ⟨"greatest_plain", top 26, ["many", "whole"], ["many"]⟩
theorem sc16 : FnScope d16.N d16.ps (defScope d16.st) := ⟨rfl, rfl, rfl, by decide +kernel, rfl, by decide +kernel, by decide +kernel⟩
def d17 : DefI := ⟨"plain_at", top 27, ["many", "number"], ["many", "number"]⟩
theorem sc17 : FnScope d17.N d17.ps (defScope d17.st) := ⟨rfl, rfl, rfl, by decide +kernel, rfl, by decide +kernel, by decide +kernel⟩
def d18 : DefI := ⟨"moved_figures", top 28, ["figure", "other", "here", "there", "place"], ["figure", "other"]⟩
theorem sc18 : FnScope d18.N d18.ps (defScope d18.st) := ⟨rfl, rfl, rfl, by decide +kernel, rfl, by decide +kernel, by decide +kernel⟩
def d19 : DefI := ⟨"moved_numbers", top 29, ["number", "other", "taken", "put", "one", "late", "less", "more"], ["number", "other"]⟩
theorem sc19 : FnScope d19.N d19.ps (defScope d19.st) := ⟨rfl, rfl, rfl, by decide +kernel, rfl, by decide +kernel, by decide +kernel⟩
def d20 : DefI := ⟨"moved_between", top 30, ["number", "other"], ["number", "other"]⟩
theorem sc20 : FnScope d20.N d20.ps (defScope d20.st) := ⟨rfl, rfl, rfl, by decide +kernel, rfl, by decide +kernel, by decide +kernel⟩
def d21 : DefI := ⟨"comes_by", top 31, ["number", "taken", "put", "rows", "figure", "later", "begun", "less", "more", "other", "out", "into", "told"], ["number", "taken", "put"]⟩
theorem sc21 : FnScope d21.N d21.ps (defScope d21.st) := ⟨rfl, rfl, rfl, by decide +kernel, rfl, by decide +kernel, by decide +kernel⟩
def d22 : DefI := ⟨"is_sum", top 34, ["value", "at"], ["value"]⟩
theorem sc22 : FnScope d22.N d22.ps (defScope d22.st) := ⟨rfl, rfl, rfl, by decide +kernel, rfl, by decide +kernel, by decide +kernel⟩
def d23 : DefI := ⟨"check_sum", top 35, ["told"], ["told"]⟩
theorem sc23 : FnScope d23.N d23.ps (defScope d23.st) := ⟨rfl, rfl, rfl, by decide +kernel, rfl, by decide +kernel, by decide +kernel⟩
def d24 : DefI := ⟨"worth_of", top 36, ["first", "sign", "second"], ["first", "sign", "second"]⟩
theorem sc24 : FnScope d24.N d24.ps (defScope d24.st) := ⟨rfl, rfl, rfl, by decide +kernel, rfl, by decide +kernel, by decide +kernel⟩
def d25 : DefI := ⟨"is_right_sum", top 37, ["told"], ["told"]⟩
theorem sc25 : FnScope d25.N d25.ps (defScope d25.st) := ⟨rfl, rfl, rfl, by decide +kernel, rfl, by decide +kernel, by decide +kernel⟩
def d26 : DefI := ⟨"rows_of_figures", top 38, ["size", "found", "turn", "row", "figure"], ["size"]⟩
theorem sc26 : FnScope d26.N d26.ps (defScope d26.st) := ⟨rfl, rfl, rfl, by decide +kernel, rfl, by decide +kernel, by decide +kernel⟩
def d27 : DefI := ⟨"moved_sums", top 39, ["told", "other", "taken", "put", "at", "less", "more"], ["told", "other"]⟩
theorem sc27 : FnScope d27.N d27.ps (defScope d27.st) := ⟨rfl, rfl, rfl, by decide +kernel, rfl, by decide +kernel, by decide +kernel⟩
def d28 : DefI := ⟨"right_sums", top 40, ["told", "found", "size", "first", "sign", "second", "worth", "result", "other", "taken", "put"], ["told"]⟩
theorem sc28 : FnScope d28.N d28.ps (defScope d28.st) := ⟨rfl, rfl, rfl, by decide +kernel, rfl, by decide +kernel, by decide +kernel⟩
def d29 : DefI := ⟨"mended_sums", top 41, ["told", "many", "other", "moved"], ["told", "many"]⟩
theorem sc29 : FnScope d29.N d29.ps (defScope d29.st) := ⟨rfl, rfl, rfl, by decide +kernel, rfl, by decide +kernel, by decide +kernel⟩
def d30 : DefI := ⟨"fewest_mended", top 42, ["told", "found", "other", "moved"], ["told"]⟩
theorem sc30 : FnScope d30.N d30.ps (defScope d30.st) := ⟨rfl, rfl, rfl, by decide +kernel, rfl, by decide +kernel, by decide +kernel⟩
def d31 : DefI := ⟨"_law_hash", top 44, ["seed", "index", "mixed"], ["seed", "index"]⟩
theorem sc31 : FnScope d31.N d31.ps (defScope d31.st) := ⟨rfl, rfl, rfl, by decide +kernel, rfl, by decide +kernel, by decide +kernel⟩
def d32 : DefI := ⟨"_law_cell", top 45, ["script", "index"], ["script", "index"]⟩
theorem sc32 : FnScope d32.N d32.ps (defScope d32.st) := ⟨rfl, rfl, rfl, by decide +kernel, rfl, by decide +kernel, by decide +kernel⟩
def d33 : DefI := ⟨"_law_generator", top 46, ["script", "index", "seed"], ["script", "index"]⟩
theorem sc33 : FnScope d33.N d33.ps (defScope d33.st) := ⟨rfl, rfl, rfl, by decide +kernel, rfl, by decide +kernel, by decide +kernel⟩
def d34 : DefI := ⟨"_law_random", top 47, ["generator", "bound", "drawn", "turn"], ["generator", "bound"]⟩
theorem sc34 : FnScope d34.N d34.ps (defScope d34.st) := ⟨rfl, rfl, rfl, by decide +kernel, rfl, by decide +kernel, by decide +kernel⟩
def d35 : DefI := ⟨"_law_drawn_order", top 48, ["generator", "things", "left", "found"], ["generator", "things"]⟩
theorem sc35 : FnScope d35.N d35.ps (defScope d35.st) := ⟨rfl, rfl, rfl, by decide +kernel, rfl, by decide +kernel, by decide +kernel⟩
def d36 : DefI := ⟨"_law_exact", top 49, ["told", "due", "one", "other"], ["told", "due"]⟩
theorem sc36 : FnScope d36.N d36.ps (defScope d36.st) := ⟨rfl, rfl, rfl, by decide +kernel, rfl, by decide +kernel, by decide +kernel⟩
def d37 : DefI := ⟨"_law_call", top 50, ["door", "other"], ["door", "other"]⟩
theorem sc37 : FnScope d37.N d37.ps (defScope d37.st) := ⟨rfl, rfl, rfl, by decide +kernel, rfl, by decide +kernel, by decide +kernel⟩
def d38 : DefI := ⟨"_law_sum_call", top 51, ["door", "other"], ["door", "other"]⟩
theorem sc38 : FnScope d38.N d38.ps (defScope d38.st) := ⟨rfl, rfl, rfl, by decide +kernel, rfl, by decide +kernel, by decide +kernel⟩
def d39 : DefI := ⟨"_law_right_call", top 52, ["door", "other"], ["door", "other"]⟩
theorem sc39 : FnScope d39.N d39.ps (defScope d39.st) := ⟨rfl, rfl, rfl, by decide +kernel, rfl, by decide +kernel, by decide +kernel⟩
def d40 : DefI := ⟨"_law_caught", top 53, ["door", "other", "found", "way", "caught", "shown", "error"], ["door", "other"]⟩
theorem sc40 : FnScope d40.N d40.ps (defScope d40.st) := ⟨rfl, rfl, rfl, by decide +kernel, rfl, by decide +kernel, by decide +kernel⟩
def d41 : DefI := ⟨"_law_odds", top 54, ["door", "told", "sums"], ["door"]⟩
theorem sc41 : FnScope d41.N d41.ps (defScope d41.st) := ⟨rfl, rfl, rfl, by decide +kernel, rfl, by decide +kernel, by decide +kernel⟩
def d42 : DefI := ⟨"law", top 55, ["script", "generator", "door", "odd", "caught", "error", "good"], ["script"]⟩
theorem sc42 : FnScope d42.N d42.ps (defScope d42.st) := ⟨rfl, rfl, rfl, by decide +kernel, rfl, by decide +kernel, by decide +kernel⟩
def ds : List DefI := [d0, d1, d2, d3, d4, d5, d6, d7, d8, d9, d10, d11, d12, d13, d14, d15, d16, d17, d18, d19, d20, d21, d22, d23, d24, d25, d26, d27, d28, d29, d30, d31, d32, d33, d34, d35, d36, d37, d38, d39, d40, d41, d42]
def clss : List Str := ["LoneError", "InvalidNumber", "InvalidLot", "InvalidRow"]
def free : List Str := ["isinstance", "int", "bool", "all", "str", "len", "sorted", "sum", "range", "zip", "tuple", "min", "max", "list", "repr"]
def cns : List (Str × D) := [("FIGURES", (.str [48, 49, 50, 51, 52, 53, 54, 55, 56, 57])), ("PLACES", (.tup [(.str [97, 98, 99, 100, 101, 102]), (.str [98, 99]), (.str [97, 98, 100, 101, 103]), (.str [97, 98, 99, 100, 103]), (.str [98, 99, 102, 103]), (.str [97, 99, 100, 102, 103]), (.str [97, 99, 100, 101, 102, 103]), (.str [97, 98, 99]), (.str [97, 98, 99, 100, 101, 102, 103]), (.str [97, 98, 99, 100, 102, 103])])), ("MOST_FIGURES", (.int 12)), ("SIGNS", (.tup [(.str [43]), (.str [45])]))]
section
variable {P : Program} {w : World} {K : PySem.W.Frag} {mg : Str → Option Value} {base : Heap} {T : Tags} {fd : Nat → FuncData} {L k : Nat} {D0 fI cc cda : Addr}
/-- is_whole -/
theorem b0 (Fx : Facts K mg ds free cns T fd) (Er : Errs P K mg par T.cl D0 fI cc cda) (En : ∀ (i : Nat) (n : Str), clss[i]? = some n → mg n = some (.ref (T.cl i))) (IH : AllOk P w K mg base ds T fd G L k) : BodyOk P w K mg base d0 T G L k 0 F0 := by
  intro cdv A outer s H E σ0 hr
  have sc := sc0
  have tk : Takes (cxOf (L2.CX P w) P w K mg base d0.N d0.name (defScope d0.st) (T.fa 0) cdv A outer s H E) (fun cls d _ H => E cls d H) := takes_of rfl rfl rfl rfl
  exact (pss_consV (ps_retV (pe_andV (pe_instV rfl rfl (Fx.fre 0 _ rfl) boot_isinstance (pe_vV (pv 0)) (pe_bltn rfl (Fx.fre 1 _ rfl) boot_int rfl)) (pe_one (pe_notV (pe_instV rfl rfl (Fx.fre 0 _ rfl) boot_isinstance (pe_vV (pv 0)) (pe_bltn rfl (Fx.fre 2 _ rfl) boot_bool rfl))))))
    pss_nilV)
/-- is_count -/
theorem b1 (Fx : Facts K mg ds free cns T fd) (Er : Errs P K mg par T.cl D0 fI cc cda) (En : ∀ (i : Nat) (n : Str), clss[i]? = some n → mg n = some (.ref (T.cl i))) (IH : AllOk P w K mg base ds T fd G L k) : BodyOk P w K mg base d1 T G L k 1 F1 := by
  intro cdv A outer s H E σ0 hr
  have sc := sc1
  have tk : Takes (cxOf (L2.CX P w) P w K mg base d1.N d1.name (defScope d1.st) (T.fa 1) cdv A outer s H E) (fun cls d _ H => E cls d H) := takes_of rfl rfl rfl rfl
  exact (pss_consV (ps_retV (pe_andV (pe_fn (IH 0 _ rfl) hr rfl rfl (Fx.glo 0 _ rfl) (Fx.fn 0 _ rfl).kp (Fx.bnd 0 _ rfl) tk (pa_any (pe_vV (pv 0)) pa_nilA)) (pe_one (pe_cmpV or_ge ok_ge (pe_vV (pv 0)) (pe_k pe_int fun _ _ => ⟨rfl, rfl⟩) (nomark _)))))
    pss_nilV)
/-- is_number_told -/
theorem b2 (Fx : Facts K mg ds free cns T fd) (Er : Errs P K mg par T.cl D0 fI cc cda) (En : ∀ (i : Nat) (n : Str), clss[i]? = some n → mg n = some (.ref (T.cl i))) (IH : AllOk P w K mg base ds T fd G L k) : BodyOk P w K mg base d2 T G L k 2 F2 := by
  intro cdv A outer s H E σ0 hr
  have sc := sc2
  have tk : Takes (cxOf (L2.CX P w) P w K mg base d2.N d2.name (defScope d2.st) (T.fa 2) cdv A outer s H E) (fun cls d _ H => E cls d H) := takes_of rfl rfl rfl rfl
  exact (pss_consV (ps_iteV (pt_of (pw_orV (pt_notV (pt_v (pe_instV rfl rfl (Fx.fre 0 _ rfl) boot_isinstance (pe_vV (pv 0)) (pe_bltn rfl (Fx.fre 4 _ rfl) boot_str rfl)))) (pw_or1V (pt_notV (pt_chn or_le ok_le or_le ok_le (pe_k pe_int fun _ _ => ⟨rfl, rfl⟩) (pe_cb cr_len ok_len rfl (Fx.fre 5 _ rfl) boot_len (pa_v (pe_vV (pv 0)) pa_nilV) (by decide) (by decide) rfl rfl) (pe_gF (Fx.con 2 _ _ rfl) rfl rfl)))))) (pss_consV (ps_retV (pe_k pe_bl fun _ _ => ⟨rfl, rfl⟩))
    pss_nilV) pss_nilV)
    (pss_consV (ps_retV (pe_cb (cr_all rfl) ok_all rfl (Fx.fre 3 _ rfl) boot_all (pa_v (pe_lcV [("figure", 1)] rfl sc.nd (pi_seqV (pe_vV (pv 0))) (blkOk_by (by rfl)) (by decide) rfl (fun _ _ _ _ _ => (pb_v (pg_name (i := 1) sc.nd rfl (by first | exact Or.inl rfl | exact Or.inr rfl)))) (fun _ _ _ _ _ => pts_0) (fun _ _ _ _ _ => (pe_cmpV (or_in hr.units) ok_isIn (pe_vV (pv 1)) (pe_gF (Fx.con 0 _ _ rfl) rfl rfl) (by with_unfolding_all rfl)))) pa_nilV) (by decide) (by decide) rfl rfl))
    pss_nilV))
/-- check_told -/
theorem b3 (Fx : Facts K mg ds free cns T fd) (Er : Errs P K mg par T.cl D0 fI cc cda) (En : ∀ (i : Nat) (n : Str), clss[i]? = some n → mg n = some (.ref (T.cl i))) (IH : AllOk P w K mg base ds T fd G L k) : BodyOk P w K mg base d3 T G L k 3 F3 := by
  intro cdv A outer s H E σ0 hr
  have sc := sc3
  have tk : Takes (cxOf (L2.CX P w) P w K mg base d3.N d3.name (defScope d3.st) (T.fa 3) cdv A outer s H E) (fun cls d _ H => E cls d H) := takes_of rfl rfl rfl rfl
  exact (pss_consV (ps_iteV (pt_notV (pt_v (pe_fn (IH 2 _ rfl) hr rfl rfl (Fx.glo 2 _ rfl) (Fx.fn 2 _ rfl).kp (Fx.bnd 2 _ rfl) tk (pa_any (pe_vV (pv 0)) pa_nilA)))) (pss_consV (ps_raiseV rfl Er (by decide) (En 1 _ rfl) hr.toRoom tk rfl (pe_vV (pv 0)))
    pss_nilV) pss_nilV)
    pss_nilV)
/-- check_many -/
theorem b4 (Fx : Facts K mg ds free cns T fd) (Er : Errs P K mg par T.cl D0 fI cc cda) (En : ∀ (i : Nat) (n : Str), clss[i]? = some n → mg n = some (.ref (T.cl i))) (IH : AllOk P w K mg base ds T fd G L k) : BodyOk P w K mg base d4 T G L k 4 F4 := by
  intro cdv A outer s H E σ0 hr
  have sc := sc4
  have tk : Takes (cxOf (L2.CX P w) P w K mg base d4.N d4.name (defScope d4.st) (T.fa 4) cdv A outer s H E) (fun cls d _ H => E cls d H) := takes_of rfl rfl rfl rfl
  exact (pss_consV (ps_iteV (pt_notV (pt_v (pe_fn (IH 1 _ rfl) hr rfl rfl (Fx.glo 1 _ rfl) (Fx.fn 1 _ rfl).kp (Fx.bnd 1 _ rfl) tk (pa_any (pe_vV (pv 0)) pa_nilA)))) (pss_consV (ps_raiseV rfl Er (by decide) (En 1 _ rfl) hr.toRoom tk rfl (pe_vV (pv 0)))
    pss_nilV) pss_nilV)
    pss_nilV)
/-- places_of -/
theorem b5 (Fx : Facts K mg ds free cns T fd) (Er : Errs P K mg par T.cl D0 fI cc cda) (En : ∀ (i : Nat) (n : Str), clss[i]? = some n → mg n = some (.ref (T.cl i))) (IH : AllOk P w K mg base ds T fd G L k) : BodyOk P w K mg base d5 T G L k 5 F5 := by
  intro cdv A outer s H E σ0 hr
  have sc := sc5
  have tk : Takes (cxOf (L2.CX P w) P w K mg base d5.N d5.name (defScope d5.st) (T.fa 5) cdv A outer s H E) (fun cls d _ H => E cls d H) := takes_of rfl rfl rfl rfl
  exact (pss_consV (ps_iteV (pt_of (pw_orV (pt_notV (pt_v (pe_fn (IH 2 _ rfl) hr rfl rfl (Fx.glo 2 _ rfl) (Fx.fn 2 _ rfl).kp (Fx.bnd 2 _ rfl) tk (pa_any (pe_vV (pv 0)) pa_nilA)))) (pw_or1V (pt_cmpV or_gt ok_gt (pe_cb cr_len ok_len rfl (Fx.fre 5 _ rfl) boot_len (pa_v (pe_vV (pv 0)) pa_nilV) (by decide) (by decide) rfl rfl) (pe_k pe_int fun _ _ => ⟨rfl, rfl⟩) (nomark _))))) (pss_consV (ps_raiseV rfl Er (by decide) (En 1 _ rfl) hr.toRoom tk rfl (pe_vV (pv 0)))
    pss_nilV) pss_nilV)
    (pss_consV (ps_retV (pe_ixV (pe_gF (Fx.con 1 _ _ rfl) rfl rfl) (pe_ct cr_int ok_int rfl (Fx.fre 1 _ rfl) boot_int (pa_v (pe_vV (pv 0)) pa_nilV) (by decide) (by decide) rfl rfl)))
    pss_nilV))
/-- figure_with -/
theorem b6 (Fx : Facts K mg ds free cns T fd) (Er : Errs P K mg par T.cl D0 fI cc cda) (En : ∀ (i : Nat) (n : Str), clss[i]? = some n → mg n = some (.ref (T.cl i))) (IH : AllOk P w K mg base ds T fd G L k) : BodyOk P w K mg base d6 T G L k 6 F6 := by
  intro cdv A outer s H E σ0 hr
  have sc := sc6
  have tk : Takes (cxOf (L2.CX P w) P w K mg base d6.N d6.name (defScope d6.st) (T.fa 6) cdv A outer s H E) (fun cls d _ H => E cls d H) := takes_of rfl rfl rfl rfl
  exact (pss_consV (ps_iteV (pt_of (pw_orV (pt_notV (pt_v (pe_instV rfl rfl (Fx.fre 0 _ rfl) boot_isinstance (pe_vV (pv 0)) (pe_bltn rfl (Fx.fre 4 _ rfl) boot_str rfl)))) (pw_or1V (pt_notV (pt_v (pe_cb (cr_all rfl) ok_all rfl (Fx.fre 3 _ rfl) boot_all (pa_v (pe_lcV [("place", 2)] rfl sc.nd (pi_seqV (pe_vV (pv 0))) (blkOk_by (by rfl)) (by decide) rfl (fun _ _ _ _ _ => (pb_v (pg_name (i := 2) sc.nd rfl (by first | exact Or.inl rfl | exact Or.inr rfl)))) (fun _ _ _ _ _ => pts_0) (fun _ _ _ _ _ => (pe_cmpV (or_in hr.units) ok_isIn (pe_vV (pv 2)) (pe_k pe_str fun _ _ => ⟨rfl, rfl⟩) (by with_unfolding_all rfl)))) pa_nilV) (by decide) (by decide) rfl rfl)))))) (pss_consV (ps_raiseV rfl Er (by decide) (En 2 _ rfl) hr.toRoom tk rfl (pe_vV (pv 0)))
    pss_nilV) pss_nilV)
    (pss_consV (ps_iteV (pt_cmpV or_lt ok_lt (pe_lenDV [("place", 2)] rfl (Fx.fre 5 _ rfl) boot_len rfl sc.nd (pi_seqV (pe_vV (pv 0))) (blkOk_by (by rfl)) (by decide) rfl (fun _ _ _ _ _ => (pb_v (pg_name (i := 2) sc.nd rfl (by first | exact Or.inl rfl | exact Or.inr rfl)))) (fun _ _ _ _ _ => pts_0) (fun _ _ _ _ _ => (pe_vV (pv 2)))) (pe_cb cr_len ok_len rfl (Fx.fre 5 _ rfl) boot_len (pa_v (pe_vV (pv 0)) pa_nilV) (by decide) (by decide) rfl rfl) (nomark _)) (pss_consV (ps_raiseV rfl Er (by decide) (En 2 _ rfl) hr.toRoom tk rfl (pe_vV (pv 0)))
    pss_nilV) pss_nilV)
    (pss_consV (ps_asgV (pe_fz (pe_joinV (s := []) PySem.F.slot_str_join PySem.F.type_str_join pe_str (pe_sortedV hr rfl (Fx.fre 6 _ rfl) boot_sorted (pe_vV (pv 0))))) (pg_vV (pg_name (i := 1) sc.nd rfl (by first | exact Or.inl rfl | exact Or.inr rfl))))
    (pss_consV (ps_retV (pe_iteV (pt_cmpV (or_in hr.units) ok_isIn (pe_vV (pv 1)) (pe_gF (Fx.con 1 _ _ rfl) rfl rfl) (by with_unfolding_all rfl)) (pe_ct call_str_int ok_str rfl (Fx.fre 4 _ rfl) boot_str (pa_v (pe_indexV PySem.F.plainAttrs_tuple PySem.F.slot_tuple_index PySem.F.type_tuple_index (Fx.con 1 _ _ rfl) rfl ⟨_, rfl⟩ rfl (pe_vV (pv 1))) pa_nilV) (by decide) (by decide) rfl rfl) (pe_k pe_non fun _ _ => ⟨rfl, rfl⟩)))
    pss_nilV))))
/-- laid_of -/
theorem b7 (Fx : Facts K mg ds free cns T fd) (Er : Errs P K mg par T.cl D0 fI cc cda) (En : ∀ (i : Nat) (n : Str), clss[i]? = some n → mg n = some (.ref (T.cl i))) (IH : AllOk P w K mg base ds T fd G L k) : BodyOk P w K mg base d7 T G L k 7 F7 := by
  intro cdv A outer s H E σ0 hr
  have sc := sc7
  have tk : Takes (cxOf (L2.CX P w) P w K mg base d7.N d7.name (defScope d7.st) (T.fa 7) cdv A outer s H E) (fun cls d _ H => E cls d H) := takes_of rfl rfl rfl rfl
  exact (pss_consV (ps_retV (pe_cb (cr_sum rfl) ok_sum rfl (Fx.fre 7 _ rfl) boot_sum (pa_v (pe_lcV [("figure", 1)] rfl sc.nd (pi_seqV (pe_vV (pv 0))) (blkOk_by (by rfl)) (by decide) rfl (fun _ _ _ _ _ => (pb_v (pg_name (i := 1) sc.nd rfl (by first | exact Or.inl rfl | exact Or.inr rfl)))) (fun _ _ _ _ _ => pts_0) (fun _ _ _ _ _ => (pe_cb cr_len ok_len rfl (Fx.fre 5 _ rfl) boot_len (pa_v (pe_ixV (pe_gF (Fx.con 1 _ _ rfl) rfl rfl) (pe_ct cr_int ok_int rfl (Fx.fre 1 _ rfl) boot_int (pa_v (pe_vV (pv 1)) pa_nilV) (by decide) (by decide) rfl rfl)) pa_nilV) (by decide) (by decide) rfl rfl))) pa_nilV) (by decide) (by decide) rfl rfl))
    pss_nilV)
/-- matches_in -/
theorem b8 (Fx : Facts K mg ds free cns T fd) (Er : Errs P K mg par T.cl D0 fI cc cda) (En : ∀ (i : Nat) (n : Str), clss[i]? = some n → mg n = some (.ref (T.cl i))) (IH : AllOk P w K mg base ds T fd G L k) : BodyOk P w K mg base d8 T G L k 8 F8 := by
  intro cdv A outer s H E σ0 hr
  have sc := sc8
  have tk : Takes (cxOf (L2.CX P w) P w K mg base d8.N d8.name (defScope d8.st) (T.fa 8) cdv A outer s H E) (fun cls d _ H => E cls d H) := takes_of rfl rfl rfl rfl
  exact (pss_consV (ps_exV (pe_fn (IH 3 _ rfl) hr rfl rfl (Fx.glo 3 _ rfl) (Fx.fn 3 _ rfl).kp (Fx.bnd 3 _ rfl) tk (pa_any (pe_vV (pv 0)) pa_nilA)))
    (pss_consV (ps_retV (pe_fn (IH 7 _ rfl) hr rfl rfl (Fx.glo 7 _ rfl) (Fx.fn 7 _ rfl).kp (Fx.bnd 7 _ rfl) tk (pa_any (pe_vV (pv 0)) pa_nilA)))
    pss_nilV))
/-- rows_by_size -/
theorem b9 (Fx : Facts K mg ds free cns T fd) (Er : Errs P K mg par T.cl D0 fI cc cda) (En : ∀ (i : Nat) (n : Str), clss[i]? = some n → mg n = some (.ref (T.cl i))) (IH : AllOk P w K mg base ds T fd G L k) : BodyOk P w K mg base d9 T G L k 9 F9 := by
  intro cdv A outer s H E σ0 hr
  have sc := sc9
  have tk : Takes (cxOf (L2.CX P w) P w K mg base d9.N d9.name (defScope d9.st) (T.fa 9) cdv A outer s H E) (fun cls d _ H => E cls d H) := takes_of rfl rfl rfl rfl
  exact (pss_consV (ps_asgV (pe_lstV (pa_v (pe_bin or_add ok_add (pe_lstV (pa_v (pe_k pe_int fun _ _ => ⟨rfl, rfl⟩) pa_nilV)) (pe_bin or_mul ok_mul (pe_lstV (pa_v (pe_k pe_int fun _ _ => ⟨rfl, rfl⟩) pa_nilV)) (pe_vV (pv 0)))) pa_nilV)) (pg_vV (pg_name (i := 1) sc.nd rfl (by first | exact Or.inl rfl | exact Or.inr rfl))))
    (pss_consV (ps_forV (passes_of rfl) rfl (pi_rng2V (pi_range2 rfl (Fx.fre 8 _ rfl) (pa_v (pe_k pe_int fun _ _ => ⟨rfl, rfl⟩) (pa_v (pe_bin or_add ok_add (pe_bin op_fdiv ok_fdiv (pe_vV (pv 0)) (pe_k pe_int fun _ _ => ⟨rfl, rfl⟩)) (pe_k pe_int fun _ _ => ⟨rfl, rfl⟩)) pa_nilV)))) (pb_v (pg_name (i := 2) sc.nd rfl (by first | exact Or.inl rfl | exact Or.inr rfl))) (pss_consV (ps_asgV (pe_lstV pa_nilV) (pg_vV (pg_name (i := 3) sc.nd rfl (by first | exact Or.inl rfl | exact Or.inr rfl))))
    (pss_consV (ps_forV (passes_of rfl) rfl (pi_rng1V (pi_range1 rfl (Fx.fre 8 _ rfl) (pa_v (pe_bin or_add ok_add (pe_vV (pv 0)) (pe_k pe_int fun _ _ => ⟨rfl, rfl⟩)) pa_nilV))) (pb_v (pg_name (i := 4) sc.nd rfl (by first | exact Or.inl rfl | exact Or.inr rfl))) (pss_consV (ps_exV (pe_appendV (pv 3) PySem.F.plainAttrs_list PySem.F.slot_list_append PySem.F.type_list_append (pa_v (pe_cb (cr_sum rfl) ok_sum rfl (Fx.fre 7 _ rfl) boot_sum (pa_v (pe_lcV [("places", 5)] rfl sc.nd (pi_seqV (pe_gF (Fx.con 1 _ _ rfl) rfl rfl)) (blkOk_by (by rfl)) (by decide) rfl (fun _ _ _ _ _ => (pb_v (pg_name (i := 5) sc.nd rfl (by first | exact Or.inl rfl | exact Or.inr rfl)))) (fun _ _ _ _ _ => pts_one (pt_cmpV or_le ok_le (pe_cb cr_len ok_len rfl (Fx.fre 5 _ rfl) boot_len (pa_v (pe_vV (pv 5)) pa_nilV) (by decide) (by decide) rfl rfl) (pe_vV (pv 4)) (nomark _))) (fun _ _ _ _ _ => (pe_borV (pe_ixV (pe_ixV (pe_vV (pv 1)) (pe_negV (pe_k pe_int fun _ _ => ⟨rfl, rfl⟩))) (pe_bin op_sub ok_sub (pe_vV (pv 4)) (pe_cb cr_len ok_len rfl (Fx.fre 5 _ rfl) boot_len (pa_v (pe_vV (pv 5)) pa_nilV) (by decide) (by decide) rfl rfl)))))) pa_nilV) (by decide) (by decide) rfl rfl) pa_nilV)))
    pss_nilV))
    (pss_consV (ps_exV (pe_appendV (pv 1) PySem.F.plainAttrs_list PySem.F.slot_list_append PySem.F.type_list_append (pa_v (pe_movV (pv 3)) pa_nilV)))
    pss_nilV))))
    (pss_consV (ps_retV (pe_movV (pv 1)))
    pss_nilV)))
/-- first_figures -/
theorem b10 (Fx : Facts K mg ds free cns T fd) (Er : Errs P K mg par T.cl D0 fI cc cda) (En : ∀ (i : Nat) (n : Str), clss[i]? = some n → mg n = some (.ref (T.cl i))) (IH : AllOk P w K mg base ds T fd G L k) : BodyOk P w K mg base d10 T G L k 10 F10 := by
  intro cdv A outer s H E σ0 hr
  have sc := sc10
  have tk : Takes (cxOf (L2.CX P w) P w K mg base d10.N d10.name (defScope d10.st) (T.fa 10) cdv A outer s H E) (fun cls d _ H => E cls d H) := takes_of rfl rfl rfl rfl
  exact (pss_consV (ps_retV (pe_iteV (pt_cmpV (op_eqP hr.units) ok_eq (pe_vV (pv 0)) (pe_k pe_int fun _ _ => ⟨rfl, rfl⟩) (nomark _)) (pe_gF (Fx.con 0 _ _ rfl) rfl rfl) (pe_sl10 (pe_gF (Fx.con 0 _ _ rfl) rfl rfl) (pe_k pe_int fun _ _ => ⟨rfl, rfl⟩))))
    pss_nilV)
/-- behind_figure -/
theorem b11 (Fx : Facts K mg ds free cns T fd) (Er : Errs P K mg par T.cl D0 fI cc cda) (En : ∀ (i : Nat) (n : Str), clss[i]? = some n → mg n = some (.ref (T.cl i))) (IH : AllOk P w K mg base ds T fd G L k) : BodyOk P w K mg base d11 T G L k 11 F11 := by
  intro cdv A outer s H E σ0 hr
  have sc := sc11
  have tk : Takes (cxOf (L2.CX P w) P w K mg base d11.N d11.name (defScope d11.st) (T.fa 11) cdv A outer s H E) (fun cls d _ H => E cls d H) := takes_of rfl rfl rfl rfl
  exact (pss_consV (ps_asgV (pe_fz (pe_bin op_sub ok_sub (pe_vV (pv 2)) (pe_cb cr_len ok_len rfl (Fx.fre 5 _ rfl) boot_len (pa_v (pe_ixV (pe_gF (Fx.con 1 _ _ rfl) rfl rfl) (pe_ct cr_int ok_int rfl (Fx.fre 1 _ rfl) boot_int (pa_v (pe_vV (pv 3)) pa_nilV) (by decide) (by decide) rfl rfl)) pa_nilV) (by decide) (by decide) rfl rfl))) (pg_vV (pg_name (i := 4) sc.nd rfl (by first | exact Or.inl rfl | exact Or.inr rfl))))
    (pss_consV (ps_retV (pe_iteV (pt_cmpV or_ge ok_ge (pe_vV (pv 4)) (pe_k pe_int fun _ _ => ⟨rfl, rfl⟩) (nomark _)) (pe_ixV (pe_ixV (pe_vV (pv 0)) (pe_bin op_sub ok_sub (pe_vV (pv 1)) (pe_k pe_int fun _ _ => ⟨rfl, rfl⟩))) (pe_vV (pv 4))) (pe_k pe_int fun _ _ => ⟨rfl, rfl⟩)))
    pss_nilV))
/-- plain_sizes -/
theorem b12 (Fx : Facts K mg ds free cns T fd) (Er : Errs P K mg par T.cl D0 fI cc cda) (En : ∀ (i : Nat) (n : Str), clss[i]? = some n → mg n = some (.ref (T.cl i))) (IH : AllOk P w K mg base ds T fd G L k) : BodyOk P w K mg base d12 T G L k 12 F12 := by
  intro cdv A outer s H E σ0 hr
  have sc := sc12
  have tk : Takes (cxOf (L2.CX P w) P w K mg base d12.N d12.name (defScope d12.st) (T.fa 12) cdv A outer s H E) (fun cls d _ H => E cls d H) := takes_of rfl rfl rfl rfl
  exact (pss_consV (ps_asgV (pe_tupV (pa_v (pe_fz (pe_fn (IH 9 _ rfl) hr rfl rfl (Fx.glo 9 _ rfl) (Fx.fn 9 _ rfl).kp (Fx.bnd 9 _ rfl) tk (pa_any (pe_vV (pv 0)) pa_nilA))) (pa_v (pe_lstV pa_nilV) pa_nilV))) (pg_tupV rfl (pgs_consV (pg_vV (pg_name (i := 1) sc.nd rfl (by first | exact Or.inl rfl | exact Or.inr rfl))) (pgs_consV (pg_vV (pg_name (i := 2) sc.nd rfl (by first | exact Or.inl rfl | exact Or.inr rfl))) pgs_nilV))))
    (pss_consV (ps_forV (passes_of rfl) rfl (pi_rng2V (pi_range2 rfl (Fx.fre 8 _ rfl) (pa_v (pe_k pe_int fun _ _ => ⟨rfl, rfl⟩) (pa_v (pe_bin or_add ok_add (pe_bin op_fdiv ok_fdiv (pe_vV (pv 0)) (pe_k pe_int fun _ _ => ⟨rfl, rfl⟩)) (pe_k pe_int fun _ _ => ⟨rfl, rfl⟩)) pa_nilV)))) (pb_v (pg_name (i := 3) sc.nd rfl (by first | exact Or.inl rfl | exact Or.inr rfl))) (pss_consV (ps_exV (pe_appendV (pv 2) PySem.F.plainAttrs_list PySem.F.slot_list_append PySem.F.type_list_append (pa_v (pe_cb (cr_sum rfl) ok_sum rfl (Fx.fre 7 _ rfl) boot_sum (pa_v (pe_lcV [("figure", 4)] rfl sc.nd (pi_seqV (pe_fn (IH 10 _ rfl) hr rfl rfl (Fx.glo 10 _ rfl) (Fx.fn 10 _ rfl).kp (Fx.bnd 10 _ rfl) tk (pa_any (pe_vV (pv 3)) pa_nilA))) (blkOk_by (by rfl)) (by decide) rfl (fun _ _ _ _ _ => (pb_v (pg_name (i := 4) sc.nd rfl (by first | exact Or.inl rfl | exact Or.inr rfl)))) (fun _ _ _ _ _ => pts_0) (fun _ _ _ _ _ => (pe_fn (IH 11 _ rfl) hr rfl rfl (Fx.glo 11 _ rfl) (Fx.fn 11 _ rfl).kp (Fx.bnd 11 _ rfl) takes0 (pa_any (pe_vV (pv 1)) (pa_any (pe_vV (pv 3)) (pa_any (pe_vV (pv 0)) (pa_any (pe_vV (pv 4)) pa_nilA))))))) pa_nilV) (by decide) (by decide) rfl rfl) pa_nilV)))
    pss_nilV))
    (pss_consV (ps_retV (pe_tupV (pa_v (pe_movV (pv 2)) (pa_v (pe_vV (pv 1)) pa_nilV))))
    pss_nilV)))
/-- how_many_plain -/
theorem b13 (Fx : Facts K mg ds free cns T fd) (Er : Errs P K mg par T.cl D0 fI cc cda) (En : ∀ (i : Nat) (n : Str), clss[i]? = some n → mg n = some (.ref (T.cl i))) (IH : AllOk P w K mg base ds T fd G L k) : BodyOk P w K mg base d13 T G L k 13 F13 := by
  intro cdv A outer s H E σ0 hr
  have sc := sc13
  have tk : Takes (cxOf (L2.CX P w) P w K mg base d13.N d13.name (defScope d13.st) (T.fa 13) cdv A outer s H E) (fun cls d _ H => E cls d H) := takes_of rfl rfl rfl rfl
  exact (pss_consV (ps_exV (pe_fn (IH 4 _ rfl) hr rfl rfl (Fx.glo 4 _ rfl) (Fx.fn 4 _ rfl).kp (Fx.bnd 4 _ rfl) tk (pa_any (pe_vV (pv 0)) pa_nilA)))
    (pss_consV (ps_retV (pe_cb (cr_sum rfl) ok_sum rfl (Fx.fre 7 _ rfl) boot_sum (pa_v (pe_ixV (pe_fn (IH 12 _ rfl) hr rfl rfl (Fx.glo 12 _ rfl) (Fx.fn 12 _ rfl).kp (Fx.bnd 12 _ rfl) tk (pa_any (pe_vV (pv 0)) pa_nilA)) (pe_k pe_int fun _ _ => ⟨rfl, rfl⟩)) pa_nilV) (by decide) (by decide) rfl rfl))
    pss_nilV))
/-- plain_with -/
theorem b14 (Fx : Facts K mg ds free cns T fd) (Er : Errs P K mg par T.cl D0 fI cc cda) (En : ∀ (i : Nat) (n : Str), clss[i]? = some n → mg n = some (.ref (T.cl i))) (IH : AllOk P w K mg base ds T fd G L k) : BodyOk P w K mg base d14 T G L k 14 F14 := by
  intro cdv A outer s H E σ0 hr
  have sc := sc14
  have tk : Takes (cxOf (L2.CX P w) P w K mg base d14.N d14.name (defScope d14.st) (T.fa 14) cdv A outer s H E) (fun cls d _ H => E cls d H) := takes_of rfl rfl rfl rfl
  exact (pss_consV (ps_asgV (pe_fz (pe_fn (IH 12 _ rfl) hr rfl rfl (Fx.glo 12 _ rfl) (Fx.fn 12 _ rfl).kp (Fx.bnd 12 _ rfl) tk (pa_any (pe_vV (pv 0)) pa_nilA))) (pg_tupV rfl (pgs_consV (pg_vV (pg_name (i := 2) sc.nd rfl (by first | exact Or.inl rfl | exact Or.inr rfl))) (pgs_consV (pg_vV (pg_name (i := 3) sc.nd rfl (by first | exact Or.inl rfl | exact Or.inr rfl))) pgs_nilV))))
    (pss_consV (ps_asgV (pe_tupV (pa_v (pe_fz (pe_k pe_int fun _ _ => ⟨rfl, rfl⟩)) (pa_v (pe_fz (pe_vV (pv 0))) (pa_v (pe_fz (pe_vV (pv 1))) (pa_v (pe_fz (pe_k pe_str fun _ _ => ⟨rfl, rfl⟩)) pa_nilV))))) (pg_tupV rfl (pgs_consV (pg_vV (pg_name (i := 4) sc.nd rfl (by first | exact Or.inl rfl | exact Or.inr rfl))) (pgs_consV (pg_vV (pg_name (i := 5) sc.nd rfl (by first | exact Or.inl rfl | exact Or.inr rfl))) (pgs_consV (pg_vV (pg_name (i := 6) sc.nd rfl (by first | exact Or.inl rfl | exact Or.inr rfl))) (pgs_consV (pg_vV (pg_name (i := 7) sc.nd rfl (by first | exact Or.inl rfl | exact Or.inr rfl))) pgs_nilV))))))
    (pss_consV (ps_whV (passes_of rfl) (pt_cmpV or_ge ok_ge (pe_vV (pv 6)) (pe_ixV (pe_vV (pv 2)) (pe_bin op_sub ok_sub (pe_vV (pv 4)) (pe_k pe_int fun _ _ => ⟨rfl, rfl⟩))) (nomark _)) (pss_consV (ps_augV (i := 6) iop_sub ok_sub.s sc.nd rfl (by first | exact Or.inl rfl | exact Or.inr rfl) (pe_ixV (pe_vV (pv 2)) (pe_bin op_sub ok_sub (pe_vV (pv 4)) (pe_k pe_int fun _ _ => ⟨rfl, rfl⟩))))
    (pss_consV (ps_augV (i := 4) oi_add os_add sc.nd rfl (by first | exact Or.inl rfl | exact Or.inr rfl) (pe_k pe_int fun _ _ => ⟨rfl, rfl⟩))
    pss_nilV)))
    (pss_consV (ps_whV (passes_of rfl) (pt_cmpV or_lt ok_lt (pe_cb cr_len ok_len rfl (Fx.fre 5 _ rfl) boot_len (pa_v (pe_vV (pv 7)) pa_nilV) (by decide) (by decide) rfl rfl) (pe_vV (pv 4)) (nomark _)) (pss_consV (ps_forV (passes_of rfl) rfl (pi_seqV (pe_iteV (pt_cmpV (op_eqP hr.units) ok_eq (pe_vV (pv 7)) (pe_k pe_str fun _ _ => ⟨rfl, rfl⟩) (nomark _)) (pe_fn (IH 10 _ rfl) hr rfl rfl (Fx.glo 10 _ rfl) (Fx.fn 10 _ rfl).kp (Fx.bnd 10 _ rfl) tk (pa_any (pe_vV (pv 4)) pa_nilA)) (pe_gF (Fx.con 0 _ _ rfl) rfl rfl))) (pb_v (pg_name (i := 8) sc.nd rfl (by first | exact Or.inl rfl | exact Or.inr rfl))) (pss_consV (ps_asgV (pe_fz (pe_fn (IH 11 _ rfl) hr rfl rfl (Fx.glo 11 _ rfl) (Fx.fn 11 _ rfl).kp (Fx.bnd 11 _ rfl) tk (pa_any (pe_vV (pv 3)) (pa_any (pe_bin op_sub ok_sub (pe_vV (pv 4)) (pe_cb cr_len ok_len rfl (Fx.fre 5 _ rfl) boot_len (pa_v (pe_vV (pv 7)) pa_nilV) (by decide) (by decide) rfl rfl)) (pa_any (pe_vV (pv 5)) (pa_any (pe_vV (pv 8)) pa_nilA)))))) (pg_vV (pg_name (i := 9) sc.nd rfl (by first | exact Or.inl rfl | exact Or.inr rfl))))
    (pss_consV (ps_iteV (pt_cmpV or_lt ok_lt (pe_vV (pv 6)) (pe_vV (pv 9)) (nomark _)) (pss_consV ps_brkV
    pss_nilV) pss_nilV)
    (pss_consV (ps_augV (i := 6) iop_sub ok_sub.s sc.nd rfl (by first | exact Or.inl rfl | exact Or.inr rfl) (pe_vV (pv 9)))
    pss_nilV))))
    (pss_consV (ps_augV (i := 7) oi_add os_add sc.nd rfl (by first | exact Or.inl rfl | exact Or.inr rfl) (pe_vV (pv 8)))
    (pss_consV (ps_augV (i := 5) iop_sub ok_sub.s sc.nd rfl (by first | exact Or.inl rfl | exact Or.inr rfl) (pe_cb cr_len ok_len rfl (Fx.fre 5 _ rfl) boot_len (pa_v (pe_ixV (pe_gF (Fx.con 1 _ _ rfl) rfl rfl) (pe_ct cr_int ok_int rfl (Fx.fre 1 _ rfl) boot_int (pa_v (pe_vV (pv 8)) pa_nilV) (by decide) (by decide) rfl rfl)) pa_nilV) (by decide) (by decide) rfl rfl))
    pss_nilV))))
    (pss_consV (ps_retV (pe_vV (pv 7)))
    pss_nilV)))))
/-- least_plain -/
theorem b15 (Fx : Facts K mg ds free cns T fd) (Er : Errs P K mg par T.cl D0 fI cc cda) (En : ∀ (i : Nat) (n : Str), clss[i]? = some n → mg n = some (.ref (T.cl i))) (IH : AllOk P w K mg base ds T fd G L k) : BodyOk P w K mg base d15 T G L k 15 F15 := by
  intro cdv A outer s H E σ0 hr
  have sc := sc15
  have tk : Takes (cxOf (L2.CX P w) P w K mg base d15.N d15.name (defScope d15.st) (T.fa 15) cdv A outer s H E) (fun cls d _ H => E cls d H) := takes_of rfl rfl rfl rfl
  exact (pss_consV (ps_exV (pe_fn (IH 4 _ rfl) hr rfl rfl (Fx.glo 4 _ rfl) (Fx.fn 4 _ rfl).kp (Fx.bnd 4 _ rfl) tk (pa_any (pe_vV (pv 0)) pa_nilA)))
    (pss_consV (ps_retV (pe_iteV (pt_cmpV or_gt ok_gt (pe_cb (cr_sum rfl) ok_sum rfl (Fx.fre 7 _ rfl) boot_sum (pa_v (pe_ixV (pe_fn (IH 12 _ rfl) hr rfl rfl (Fx.glo 12 _ rfl) (Fx.fn 12 _ rfl).kp (Fx.bnd 12 _ rfl) tk (pa_any (pe_vV (pv 0)) pa_nilA)) (pe_k pe_int fun _ _ => ⟨rfl, rfl⟩)) pa_nilV) (by decide) (by decide) rfl rfl) (pe_k pe_int fun _ _ => ⟨rfl, rfl⟩) (nomark _)) (pe_fn (IH 14 _ rfl) hr rfl rfl (Fx.glo 14 _ rfl) (Fx.fn 14 _ rfl).kp (Fx.bnd 14 _ rfl) tk (pa_any (pe_vV (pv 0)) (pa_any (pe_k pe_int fun _ _ => ⟨rfl, rfl⟩) pa_nilA))) (pe_k pe_non fun _ _ => ⟨rfl, rfl⟩)))
    pss_nilV))
/-- greatest_plain -/
theorem b16 (Fx : Facts K mg ds free cns T fd) (Er : Errs P K mg par T.cl D0 fI cc cda) (En : ∀ (i : Nat) (n : Str), clss[i]? = some n → mg n = some (.ref (T.cl i))) (IH : AllOk P w K mg base ds T fd G L k) : BodyOk P w K mg base d16 T G L k 16 F16 := by
  intro cdv A outer s H E σ0 hr
  have sc := sc16
  have tk : Takes (cxOf (L2.CX P w) P w K mg base d16.N d16.name (defScope d16.st) (T.fa 16) cdv A outer s H E) (fun cls d _ H => E cls d H) := takes_of rfl rfl rfl rfl
  exact (pss_consV (ps_exV (pe_fn (IH 4 _ rfl) hr rfl rfl (Fx.glo 4 _ rfl) (Fx.fn 4 _ rfl).kp (Fx.bnd 4 _ rfl) tk (pa_any (pe_vV (pv 0)) pa_nilA)))
    (pss_consV (ps_asgV (pe_fz (pe_cb (cr_sum rfl) ok_sum rfl (Fx.fre 7 _ rfl) boot_sum (pa_v (pe_ixV (pe_fn (IH 12 _ rfl) hr rfl rfl (Fx.glo 12 _ rfl) (Fx.fn 12 _ rfl).kp (Fx.bnd 12 _ rfl) tk (pa_any (pe_vV (pv 0)) pa_nilA)) (pe_k pe_int fun _ _ => ⟨rfl, rfl⟩)) pa_nilV) (by decide) (by decide) rfl rfl)) (pg_vV (pg_name (i := 1) sc.nd rfl (by first | exact Or.inl rfl | exact Or.inr rfl))))
    (pss_consV (ps_retV (pe_iteV (pt_cmpV or_gt ok_gt (pe_vV (pv 1)) (pe_k pe_int fun _ _ => ⟨rfl, rfl⟩) (nomark _)) (pe_fn (IH 14 _ rfl) hr rfl rfl (Fx.glo 14 _ rfl) (Fx.fn 14 _ rfl).kp (Fx.bnd 14 _ rfl) tk (pa_any (pe_vV (pv 0)) (pa_any (pe_bin op_sub ok_sub (pe_vV (pv 1)) (pe_k pe_int fun _ _ => ⟨rfl, rfl⟩)) pa_nilA))) (pe_k pe_non fun _ _ => ⟨rfl, rfl⟩)))
    pss_nilV)))
/-- plain_at -/
theorem b17 (Fx : Facts K mg ds free cns T fd) (Er : Errs P K mg par T.cl D0 fI cc cda) (En : ∀ (i : Nat) (n : Str), clss[i]? = some n → mg n = some (.ref (T.cl i))) (IH : AllOk P w K mg base ds T fd G L k) : BodyOk P w K mg base d17 T G L k 17 F17 := by
  intro cdv A outer s H E σ0 hr
  have sc := sc17
  have tk : Takes (cxOf (L2.CX P w) P w K mg base d17.N d17.name (defScope d17.st) (T.fa 17) cdv A outer s H E) (fun cls d _ H => E cls d H) := takes_of rfl rfl rfl rfl
  exact (pss_consV (ps_exV (pe_fn (IH 4 _ rfl) hr rfl rfl (Fx.glo 4 _ rfl) (Fx.fn 4 _ rfl).kp (Fx.bnd 4 _ rfl) tk (pa_any (pe_vV (pv 0)) pa_nilA)))
    (pss_consV (ps_iteV (pt_of (pw_orV (pt_notV (pt_v (pe_fn (IH 1 _ rfl) hr rfl rfl (Fx.glo 1 _ rfl) (Fx.fn 1 _ rfl).kp (Fx.bnd 1 _ rfl) tk (pa_any (pe_vV (pv 1)) pa_nilA)))) (pw_or1V (pt_cmpV or_ge ok_ge (pe_vV (pv 1)) (pe_cb (cr_sum rfl) ok_sum rfl (Fx.fre 7 _ rfl) boot_sum (pa_v (pe_ixV (pe_fn (IH 12 _ rfl) hr rfl rfl (Fx.glo 12 _ rfl) (Fx.fn 12 _ rfl).kp (Fx.bnd 12 _ rfl) tk (pa_any (pe_vV (pv 0)) pa_nilA)) (pe_k pe_int fun _ _ => ⟨rfl, rfl⟩)) pa_nilV) (by decide) (by decide) rfl rfl) (nomark _))))) (pss_consV (ps_raiseV rfl Er (by decide) (En 1 _ rfl) hr.toRoom tk rfl (pe_vV (pv 1)))
    pss_nilV) pss_nilV)
    (pss_consV (ps_retV (pe_fn (IH 14 _ rfl) hr rfl rfl (Fx.glo 14 _ rfl) (Fx.fn 14 _ rfl).kp (Fx.bnd 14 _ rfl) tk (pa_any (pe_vV (pv 0)) (pa_any (pe_vV (pv 1)) pa_nilA))))
    pss_nilV)))
/-- moved_figures -/
theorem b18 (Fx : Facts K mg ds free cns T fd) (Er : Errs P K mg par T.cl D0 fI cc cda) (En : ∀ (i : Nat) (n : Str), clss[i]? = some n → mg n = some (.ref (T.cl i))) (IH : AllOk P w K mg base ds T fd G L k) : BodyOk P w K mg base d18 T G L k 18 F18 := by
  intro cdv A outer s H E σ0 hr
  have sc := sc18
  have tk : Takes (cxOf (L2.CX P w) P w K mg base d18.N d18.name (defScope d18.st) (T.fa 18) cdv A outer s H E) (fun cls d _ H => E cls d H) := takes_of rfl rfl rfl rfl
  exact (pss_consV (ps_asgV (pe_tupV (pa_v (pe_fz (pe_ixV (pe_gF (Fx.con 1 _ _ rfl) rfl rfl) (pe_ct cr_int ok_int rfl (Fx.fre 1 _ rfl) boot_int (pa_v (pe_vV (pv 0)) pa_nilV) (by decide) (by decide) rfl rfl))) (pa_v (pe_fz (pe_ixV (pe_gF (Fx.con 1 _ _ rfl) rfl rfl) (pe_ct cr_int ok_int rfl (Fx.fre 1 _ rfl) boot_int (pa_v (pe_vV (pv 1)) pa_nilV) (by decide) (by decide) rfl rfl))) pa_nilV))) (pg_tupV rfl (pgs_consV (pg_vV (pg_name (i := 2) sc.nd rfl (by first | exact Or.inl rfl | exact Or.inr rfl))) (pgs_consV (pg_vV (pg_name (i := 3) sc.nd rfl (by first | exact Or.inl rfl | exact Or.inr rfl))) pgs_nilV))))
    (pss_consV (ps_retV (pe_tupV (pa_v (pe_cb cr_len ok_len rfl (Fx.fre 5 _ rfl) boot_len (pa_v (pe_lcV [("place", 4)] rfl sc.nd (pi_seqV (pe_vV (pv 2))) (blkOk_by (by rfl)) (by decide) rfl (fun _ _ _ _ _ => (pb_v (pg_name (i := 4) sc.nd rfl (by first | exact Or.inl rfl | exact Or.inr rfl)))) (fun _ _ _ _ _ => pts_one (pt_cmpV (or_notIn hr.units) ok_notIn (pe_vV (pv 4)) (pe_vV (pv 3)) (by with_unfolding_all rfl))) (fun _ _ _ _ _ => (pe_vV (pv 4)))) pa_nilV) (by decide) (by decide) rfl rfl) (pa_v (pe_cb cr_len ok_len rfl (Fx.fre 5 _ rfl) boot_len (pa_v (pe_lcV [("place", 4)] rfl sc.nd (pi_seqV (pe_vV (pv 3))) (blkOk_by (by rfl)) (by decide) rfl (fun _ _ _ _ _ => (pb_v (pg_name (i := 4) sc.nd rfl (by first | exact Or.inl rfl | exact Or.inr rfl)))) (fun _ _ _ _ _ => pts_one (pt_cmpV (or_notIn hr.units) ok_notIn (pe_vV (pv 4)) (pe_vV (pv 2)) (by with_unfolding_all rfl))) (fun _ _ _ _ _ => (pe_vV (pv 4)))) pa_nilV) (by decide) (by decide) rfl rfl) pa_nilV))))
    pss_nilV))
/-- moved_numbers -/
theorem b19 (Fx : Facts K mg ds free cns T fd) (Er : Errs P K mg par T.cl D0 fI cc cda) (En : ∀ (i : Nat) (n : Str), clss[i]? = some n → mg n = some (.ref (T.cl i))) (IH : AllOk P w K mg base ds T fd G L k) : BodyOk P w K mg base d19 T G L k 19 F19 := by
  intro cdv A outer s H E σ0 hr
  have sc := sc19
  have tk : Takes (cxOf (L2.CX P w) P w K mg base d19.N d19.name (defScope d19.st) (T.fa 19) cdv A outer s H E) (fun cls d _ H => E cls d H) := takes_of rfl rfl rfl rfl
  exact (pss_consV (ps_asgV (pe_tupV (pa_v (pe_fz (pe_k pe_int fun _ _ => ⟨rfl, rfl⟩)) (pa_v (pe_fz (pe_k pe_int fun _ _ => ⟨rfl, rfl⟩)) pa_nilV))) (pg_tupV rfl (pgs_consV (pg_vV (pg_name (i := 2) sc.nd rfl (by first | exact Or.inl rfl | exact Or.inr rfl))) (pgs_consV (pg_vV (pg_name (i := 3) sc.nd rfl (by first | exact Or.inl rfl | exact Or.inr rfl))) pgs_nilV))))
    (pss_consV (ps_forV (passes_of rfl) rfl (pi_zipV (RZ.pi_zipA rfl (Fx.fre 9 _ rfl) (pa_v (pe_vV (pv 0)) (pa_v (pe_vV (pv 1)) pa_nilV))) (pi_zipS rfl (Fx.fre 9 _ rfl) (pa_v (pe_vV (pv 0)) (pa_v (pe_vV (pv 1)) pa_nilV)))) (pb_tup rfl (pbs_cons (pb_v (pg_name (i := 4) sc.nd rfl (by first | exact Or.inl rfl | exact Or.inr rfl))) (pbs_cons (pb_v (pg_name (i := 5) sc.nd rfl (by first | exact Or.inl rfl | exact Or.inr rfl))) pbs_nil))) (pss_consV (ps_asgV (pe_fz (pe_fn (IH 18 _ rfl) hr rfl rfl (Fx.glo 18 _ rfl) (Fx.fn 18 _ rfl).kp (Fx.bnd 18 _ rfl) tk (pa_any (pe_vV (pv 4)) (pa_any (pe_vV (pv 5)) pa_nilA)))) (pg_tupV rfl (pgs_consV (pg_vV (pg_name (i := 6) sc.nd rfl (by first | exact Or.inl rfl | exact Or.inr rfl))) (pgs_consV (pg_vV (pg_name (i := 7) sc.nd rfl (by first | exact Or.inl rfl | exact Or.inr rfl))) pgs_nilV))))
    (pss_consV (ps_par2V (i := 2) (j := 3) rfl sc.nd rfl rfl (by decide) rfl rfl (pa_v (pe_fz (pe_bin or_add ok_add (pe_vV (pv 2)) (pe_vV (pv 6)))) (pa_v (pe_fz (pe_bin or_add ok_add (pe_vV (pv 3)) (pe_vV (pv 7)))) pa_nilV)) rfl)
    pss_nilV)))
    (pss_consV (ps_retV (pe_tupV (pa_v (pe_vV (pv 2)) (pa_v (pe_vV (pv 3)) pa_nilV))))
    pss_nilV)))
/-- moved_between -/
theorem b20 (Fx : Facts K mg ds free cns T fd) (Er : Errs P K mg par T.cl D0 fI cc cda) (En : ∀ (i : Nat) (n : Str), clss[i]? = some n → mg n = some (.ref (T.cl i))) (IH : AllOk P w K mg base ds T fd G L k) : BodyOk P w K mg base d20 T G L k 20 F20 := by
  intro cdv A outer s H E σ0 hr
  have sc := sc20
  have tk : Takes (cxOf (L2.CX P w) P w K mg base d20.N d20.name (defScope d20.st) (T.fa 20) cdv A outer s H E) (fun cls d _ H => E cls d H) := takes_of rfl rfl rfl rfl
  exact (pss_consV (ps_exV (pe_fn (IH 3 _ rfl) hr rfl rfl (Fx.glo 3 _ rfl) (Fx.fn 3 _ rfl).kp (Fx.bnd 3 _ rfl) tk (pa_any (pe_vV (pv 0)) pa_nilA)))
    (pss_consV (ps_exV (pe_fn (IH 3 _ rfl) hr rfl rfl (Fx.glo 3 _ rfl) (Fx.fn 3 _ rfl).kp (Fx.bnd 3 _ rfl) tk (pa_any (pe_vV (pv 1)) pa_nilA)))
    (pss_consV (ps_iteV (pt_cmpV (op_neP hr.units) ok_ne (pe_cb cr_len ok_len rfl (Fx.fre 5 _ rfl) boot_len (pa_v (pe_vV (pv 1)) pa_nilV) (by decide) (by decide) rfl rfl) (pe_cb cr_len ok_len rfl (Fx.fre 5 _ rfl) boot_len (pa_v (pe_vV (pv 0)) pa_nilV) (by decide) (by decide) rfl rfl) (nomark _)) (pss_consV (ps_raiseV rfl Er (by decide) (En 1 _ rfl) hr.toRoom tk rfl (pe_vV (pv 1)))
    pss_nilV) pss_nilV)
    (pss_consV (ps_retV (pe_fn (IH 19 _ rfl) hr rfl rfl (Fx.glo 19 _ rfl) (Fx.fn 19 _ rfl).kp (Fx.bnd 19 _ rfl) tk (pa_any (pe_vV (pv 0)) (pa_any (pe_vV (pv 1)) pa_nilA))))
    pss_nilV))))
/-- comes_by -/
theorem b21 (Fx : Facts K mg ds free cns T fd) (Er : Errs P K mg par T.cl D0 fI cc cda) (En : ∀ (i : Nat) (n : Str), clss[i]? = some n → mg n = some (.ref (T.cl i))) (IH : AllOk P w K mg base ds T fd G L k) : BodyOk P w K mg base d21 T G L k 21 F21 := by
  intro cdv A outer s H E σ0 hr
  have sc := sc21
  have tk : Takes (cxOf (L2.CX P w) P w K mg base d21.N d21.name (defScope d21.st) (T.fa 21) cdv A outer s H E) (fun cls d _ H => E cls d H) := takes_of rfl rfl rfl rfl
  exact (pss_consV (ps_exV (pe_fn (IH 3 _ rfl) hr rfl rfl (Fx.glo 3 _ rfl) (Fx.fn 3 _ rfl).kp (Fx.bnd 3 _ rfl) tk (pa_any (pe_vV (pv 0)) pa_nilA)))
    (pss_consV (ps_exV (pe_fn (IH 4 _ rfl) hr rfl rfl (Fx.glo 4 _ rfl) (Fx.fn 4 _ rfl).kp (Fx.bnd 4 _ rfl) tk (pa_any (pe_vV (pv 1)) pa_nilA)))
    (pss_consV (ps_exV (pe_fn (IH 4 _ rfl) hr rfl rfl (Fx.glo 4 _ rfl) (Fx.fn 4 _ rfl).kp (Fx.bnd 4 _ rfl) tk (pa_any (pe_vV (pv 2)) pa_nilA)))
    (pss_consV (ps_asgV (pe_fz (pe_lstV (pa_v (pe_tupV (pa_v (pe_k pe_str fun _ _ => ⟨rfl, rfl⟩) (pa_v (pe_k pe_int fun _ _ => ⟨rfl, rfl⟩) (pa_v (pe_k pe_int fun _ _ => ⟨rfl, rfl⟩) pa_nilV)))) pa_nilV))) (pg_vV (pg_name (i := 3) sc.nd rfl (by first | exact Or.inl rfl | exact Or.inr rfl))))
    (pss_consV (ps_forV (passes_of rfl) rfl (pi_seqV (pe_vV (pv 0))) (pb_v (pg_name (i := 4) sc.nd rfl (by first | exact Or.inl rfl | exact Or.inr rfl))) (pss_consV (ps_asgV (pe_lstV pa_nilV) (pg_vV (pg_name (i := 5) sc.nd rfl (by first | exact Or.inl rfl | exact Or.inr rfl))))
    (pss_consV (ps_forV (passes_of rfl) rfl (pi_seqV (pe_vV (pv 3))) (pb_tup rfl (pbs_cons (pb_v (pg_name (i := 6) sc.nd rfl (by first | exact Or.inl rfl | exact Or.inr rfl))) (pbs_cons (pb_v (pg_name (i := 7) sc.nd rfl (by first | exact Or.inl rfl | exact Or.inr rfl))) (pbs_cons (pb_v (pg_name (i := 8) sc.nd rfl (by first | exact Or.inl rfl | exact Or.inr rfl))) pbs_nil)))) (pss_consV (ps_forV (passes_of rfl) rfl (pi_seqV (pe_gF (Fx.con 0 _ _ rfl) rfl rfl)) (pb_v (pg_name (i := 9) sc.nd rfl (by first | exact Or.inl rfl | exact Or.inr rfl))) (pss_consV (ps_asgV (pe_fz (pe_fn (IH 18 _ rfl) hr rfl rfl (Fx.glo 18 _ rfl) (Fx.fn 18 _ rfl).kp (Fx.bnd 18 _ rfl) tk (pa_any (pe_vV (pv 4)) (pa_any (pe_vV (pv 9)) pa_nilA)))) (pg_tupV rfl (pgs_consV (pg_vV (pg_name (i := 10) sc.nd rfl (by first | exact Or.inl rfl | exact Or.inr rfl))) (pgs_consV (pg_vV (pg_name (i := 11) sc.nd rfl (by first | exact Or.inl rfl | exact Or.inr rfl))) pgs_nilV))))
    (pss_consV (ps_iteV (pt_of (pw_andV (pt_cmpV or_le ok_le (pe_bin or_add ok_add (pe_vV (pv 7)) (pe_vV (pv 10))) (pe_vV (pv 1)) (nomark _)) (pw_and1V (pt_cmpV or_le ok_le (pe_bin or_add ok_add (pe_vV (pv 8)) (pe_vV (pv 11))) (pe_vV (pv 2)) (nomark _))))) (pss_consV (ps_exV (pe_appendV (pv 5) PySem.F.plainAttrs_list PySem.F.slot_list_append PySem.F.type_list_append (pa_v (pe_tupV (pa_v (pe_bin or_add ok_add (pe_vV (pv 6)) (pe_vV (pv 9))) (pa_v (pe_bin or_add ok_add (pe_vV (pv 7)) (pe_vV (pv 10))) (pa_v (pe_bin or_add ok_add (pe_vV (pv 8)) (pe_vV (pv 11))) pa_nilV)))) pa_nilV)))
    pss_nilV) pss_nilV)
    pss_nilV)))
    pss_nilV))
    (pss_consV (ps_asgV (pe_fz (pe_movV (pv 5))) (pg_vV (pg_name (i := 3) sc.nd rfl (by first | exact Or.inl rfl | exact Or.inr rfl))))
    pss_nilV))))
    (pss_consV (ps_retV (pe_lcV [("told", 12), ("less", 7), ("more", 8)] rfl sc.nd (pi_seqV (pe_vV (pv 3))) (blkOk_by (by rfl)) (by decide) rfl (fun _ _ _ _ _ => (pb_tup rfl (pbs_cons (pb_v (pg_name (i := 12) sc.nd rfl (by first | exact Or.inl rfl | exact Or.inr rfl))) (pbs_cons (pb_v (pg_name (i := 7) sc.nd rfl (by first | exact Or.inl rfl | exact Or.inr rfl))) (pbs_cons (pb_v (pg_name (i := 8) sc.nd rfl (by first | exact Or.inl rfl | exact Or.inr rfl))) pbs_nil))))) (fun _ _ _ _ _ => pts_one (pt_of (pw_andV (pt_cmpV (op_eqP hr.units) ok_eq (pe_vV (pv 7)) (pe_vV (pv 1)) (nomark _)) (pw_and1V (pt_cmpV (op_eqP hr.units) ok_eq (pe_vV (pv 8)) (pe_vV (pv 2)) (nomark _)))))) (fun _ _ _ _ _ => (pe_vV (pv 12)))))
    pss_nilV))))))
/-- is_sum -/
theorem b22 (Fx : Facts K mg ds free cns T fd) (Er : Errs P K mg par T.cl D0 fI cc cda) (En : ∀ (i : Nat) (n : Str), clss[i]? = some n → mg n = some (.ref (T.cl i))) (IH : AllOk P w K mg base ds T fd G L k) : BodyOk P w K mg base d22 T G L k 22 F22 := by
  intro cdv A outer s H E σ0 hr
  have sc := sc22
  have tk : Takes (cxOf (L2.CX P w) P w K mg base d22.N d22.name (defScope d22.st) (T.fa 22) cdv A outer s H E) (fun cls d _ H => E cls d H) := takes_of rfl rfl rfl rfl
  exact (pss_consV (ps_iteV (pt_of (pw_orV (pt_notV (pt_v (pe_instV rfl rfl (Fx.fre 0 _ rfl) boot_isinstance (pe_vV (pv 0)) (pe_bltn rfl (Fx.fre 10 _ rfl) boot_tuple rfl)))) (pw_orV (pt_cmpV (op_neP hr.units) ok_ne (pe_cb cr_len ok_len rfl (Fx.fre 5 _ rfl) boot_len (pa_v (pe_vV (pv 0)) pa_nilV) (by decide) (by decide) rfl rfl) (pe_k pe_int fun _ _ => ⟨rfl, rfl⟩) (nomark _)) (pw_orV (pt_notV (pt_v (pe_instV rfl rfl (Fx.fre 0 _ rfl) boot_isinstance (pe_ixV (pe_vV (pv 0)) (pe_k pe_int fun _ _ => ⟨rfl, rfl⟩)) (pe_bltn rfl (Fx.fre 4 _ rfl) boot_str rfl)))) (pw_or1V (pt_cmpV (or_notIn hr.units) ok_notIn (pe_ixV (pe_vV (pv 0)) (pe_k pe_int fun _ _ => ⟨rfl, rfl⟩)) (pe_gF (Fx.con 3 _ _ rfl) rfl rfl) (by with_unfolding_all rfl))))))) (pss_consV (ps_retV (pe_k pe_bl fun _ _ => ⟨rfl, rfl⟩))
    pss_nilV) pss_nilV)
    (pss_consV (ps_retV (pe_cb (cr_all rfl) ok_all rfl (Fx.fre 3 _ rfl) boot_all (pa_v (pe_lcV [("at", 1)] rfl sc.nd (pi_seqV (pe_tupV (pa_v (pe_k pe_int fun _ _ => ⟨rfl, rfl⟩) (pa_v (pe_k pe_int fun _ _ => ⟨rfl, rfl⟩) (pa_v (pe_k pe_int fun _ _ => ⟨rfl, rfl⟩) pa_nilV))))) (blkOk_by (by rfl)) (by decide) rfl (fun _ _ _ _ _ => (pb_v (pg_name (i := 1) sc.nd rfl (by first | exact Or.inl rfl | exact Or.inr rfl)))) (fun _ _ _ _ _ => pts_0) (fun _ _ _ _ _ => (pe_fn (IH 2 _ rfl) hr rfl rfl (Fx.glo 2 _ rfl) (Fx.fn 2 _ rfl).kp (Fx.bnd 2 _ rfl) takes0 (pa_any (pe_ixV (pe_vV (pv 0)) (pe_vV (pv 1))) pa_nilA)))) pa_nilV) (by decide) (by decide) rfl rfl))
    pss_nilV))
/-- check_sum -/
theorem b23 (Fx : Facts K mg ds free cns T fd) (Er : Errs P K mg par T.cl D0 fI cc cda) (En : ∀ (i : Nat) (n : Str), clss[i]? = some n → mg n = some (.ref (T.cl i))) (IH : AllOk P w K mg base ds T fd G L k) : BodyOk P w K mg base d23 T G L k 23 F23 := by
  intro cdv A outer s H E σ0 hr
  have sc := sc23
  have tk : Takes (cxOf (L2.CX P w) P w K mg base d23.N d23.name (defScope d23.st) (T.fa 23) cdv A outer s H E) (fun cls d _ H => E cls d H) := takes_of rfl rfl rfl rfl
  exact (pss_consV (ps_iteV (pt_notV (pt_v (pe_fn (IH 22 _ rfl) hr rfl rfl (Fx.glo 22 _ rfl) (Fx.fn 22 _ rfl).kp (Fx.bnd 22 _ rfl) tk (pa_any (pe_vV (pv 0)) pa_nilA)))) (pss_consV (ps_raiseV rfl Er (by decide) (En 3 _ rfl) hr.toRoom tk rfl (pe_vV (pv 0)))
    pss_nilV) pss_nilV)
    pss_nilV)
/-- worth_of -/
theorem b24 (Fx : Facts K mg ds free cns T fd) (Er : Errs P K mg par T.cl D0 fI cc cda) (En : ∀ (i : Nat) (n : Str), clss[i]? = some n → mg n = some (.ref (T.cl i))) (IH : AllOk P w K mg base ds T fd G L k) : BodyOk P w K mg base d24 T G L k 24 F24 := by
  intro cdv A outer s H E σ0 hr
  have sc := sc24
  have tk : Takes (cxOf (L2.CX P w) P w K mg base d24.N d24.name (defScope d24.st) (T.fa 24) cdv A outer s H E) (fun cls d _ H => E cls d H) := takes_of rfl rfl rfl rfl
  exact (pss_consV (ps_retV (pe_iteV (pt_cmpV (op_eqP hr.units) ok_eq (pe_vV (pv 1)) (pe_k pe_str fun _ _ => ⟨rfl, rfl⟩) (nomark _)) (pe_bin or_add ok_add (pe_ct cr_int ok_int rfl (Fx.fre 1 _ rfl) boot_int (pa_v (pe_vV (pv 0)) pa_nilV) (by decide) (by decide) rfl rfl) (pe_ct cr_int ok_int rfl (Fx.fre 1 _ rfl) boot_int (pa_v (pe_vV (pv 2)) pa_nilV) (by decide) (by decide) rfl rfl)) (pe_bin op_sub ok_sub (pe_ct cr_int ok_int rfl (Fx.fre 1 _ rfl) boot_int (pa_v (pe_vV (pv 0)) pa_nilV) (by decide) (by decide) rfl rfl) (pe_ct cr_int ok_int rfl (Fx.fre 1 _ rfl) boot_int (pa_v (pe_vV (pv 2)) pa_nilV) (by decide) (by decide) rfl rfl))))
    pss_nilV)
/-- is_right_sum -/
theorem b25 (Fx : Facts K mg ds free cns T fd) (Er : Errs P K mg par T.cl D0 fI cc cda) (En : ∀ (i : Nat) (n : Str), clss[i]? = some n → mg n = some (.ref (T.cl i))) (IH : AllOk P w K mg base ds T fd G L k) : BodyOk P w K mg base d25 T G L k 25 F25 := by
  intro cdv A outer s H E σ0 hr
  have sc := sc25
  have tk : Takes (cxOf (L2.CX P w) P w K mg base d25.N d25.name (defScope d25.st) (T.fa 25) cdv A outer s H E) (fun cls d _ H => E cls d H) := takes_of rfl rfl rfl rfl
  exact (pss_consV (ps_exV (pe_fn (IH 23 _ rfl) hr rfl rfl (Fx.glo 23 _ rfl) (Fx.fn 23 _ rfl).kp (Fx.bnd 23 _ rfl) tk (pa_any (pe_vV (pv 0)) pa_nilA)))
    (pss_consV (ps_retV (pe_cmpV (op_eqP hr.units) ok_eq (pe_fn (IH 24 _ rfl) hr rfl rfl (Fx.glo 24 _ rfl) (Fx.fn 24 _ rfl).kp (Fx.bnd 24 _ rfl) tk (pa_any (pe_ixV (pe_vV (pv 0)) (pe_k pe_int fun _ _ => ⟨rfl, rfl⟩)) (pa_any (pe_ixV (pe_vV (pv 0)) (pe_k pe_int fun _ _ => ⟨rfl, rfl⟩)) (pa_any (pe_ixV (pe_vV (pv 0)) (pe_k pe_int fun _ _ => ⟨rfl, rfl⟩)) pa_nilA)))) (pe_ct cr_int ok_int rfl (Fx.fre 1 _ rfl) boot_int (pa_v (pe_ixV (pe_vV (pv 0)) (pe_k pe_int fun _ _ => ⟨rfl, rfl⟩)) pa_nilV) (by decide) (by decide) rfl rfl) (nomark _)))
    pss_nilV))
/-- rows_of_figures -/
theorem b26 (Fx : Facts K mg ds free cns T fd) (Er : Errs P K mg par T.cl D0 fI cc cda) (En : ∀ (i : Nat) (n : Str), clss[i]? = some n → mg n = some (.ref (T.cl i))) (IH : AllOk P w K mg base ds T fd G L k) : BodyOk P w K mg base d26 T G L k 26 F26 := by
  intro cdv A outer s H E σ0 hr
  have sc := sc26
  have tk : Takes (cxOf (L2.CX P w) P w K mg base d26.N d26.name (defScope d26.st) (T.fa 26) cdv A outer s H E) (fun cls d _ H => E cls d H) := takes_of rfl rfl rfl rfl
  exact (pss_consV (ps_asgV (pe_fz (pe_lstV (pa_v (pe_k pe_str fun _ _ => ⟨rfl, rfl⟩) pa_nilV))) (pg_vV (pg_name (i := 1) sc.nd rfl (by first | exact Or.inl rfl | exact Or.inr rfl))))
    (pss_consV (ps_forV (passes_of rfl) rfl (pi_rng1V (pi_range1 rfl (Fx.fre 8 _ rfl) (pa_v (pe_vV (pv 0)) pa_nilV))) (pb_v (pg_name (i := 2) sc.nd rfl (by first | exact Or.inl rfl | exact Or.inr rfl))) (pss_consV (ps_lc2V [("row", 3), ("figure", 4)] (fun _ _ _ q => (tV_fz q)) rfl sc.nd rfl rfl rfl (pi_seqV (pe_vV (pv 1))) (blkOk_by (by rfl)) (by decide) (by decide) (by decide) rfl (fun _ _ _ _ _ => (pb_v (pg_name (i := 3) sc.nd rfl (by first | exact Or.inl rfl | exact Or.inr rfl)))) (fun _ _ _ _ _ => pts_0) (fun _ _ _ _ _ => (pi_seqV (pe_gF (Fx.con 0 _ _ rfl) rfl rfl))) (fun _ _ _ _ _ => (pb_v (pg_name (i := 4) sc.nd rfl (by first | exact Or.inl rfl | exact Or.inr rfl)))) (fun _ _ _ _ _ => pts_0) (fun _ _ _ _ _ => (pe_bin or_add ok_add (pe_vV (pv 3)) (pe_vV (pv 4)))))
    pss_nilV))
    (pss_consV (ps_retV (pe_vV (pv 1)))
    pss_nilV)))
/-- moved_sums -/
theorem b27 (Fx : Facts K mg ds free cns T fd) (Er : Errs P K mg par T.cl D0 fI cc cda) (En : ∀ (i : Nat) (n : Str), clss[i]? = some n → mg n = some (.ref (T.cl i))) (IH : AllOk P w K mg base ds T fd G L k) : BodyOk P w K mg base d27 T G L k 27 F27 := by
  intro cdv A outer s H E σ0 hr
  have sc := sc27
  have tk : Takes (cxOf (L2.CX P w) P w K mg base d27.N d27.name (defScope d27.st) (T.fa 27) cdv A outer s H E) (fun cls d _ H => E cls d H) := takes_of rfl rfl rfl rfl
  exact (pss_consV (ps_asgV (pe_fz (pe_iteV (pt_of (pw_andV (pt_cmpV (op_eqP hr.units) ok_eq (pe_ixV (pe_vV (pv 0)) (pe_k pe_int fun _ _ => ⟨rfl, rfl⟩)) (pe_k pe_str fun _ _ => ⟨rfl, rfl⟩) (nomark _)) (pw_and1V (pt_cmpV (op_eqP hr.units) ok_eq (pe_ixV (pe_vV (pv 1)) (pe_k pe_int fun _ _ => ⟨rfl, rfl⟩)) (pe_k pe_str fun _ _ => ⟨rfl, rfl⟩) (nomark _))))) (pe_k pe_int fun _ _ => ⟨rfl, rfl⟩) (pe_k pe_int fun _ _ => ⟨rfl, rfl⟩))) (pg_vV (pg_name (i := 2) sc.nd rfl (by first | exact Or.inl rfl | exact Or.inr rfl))))
    (pss_consV (ps_asgV (pe_fz (pe_iteV (pt_of (pw_andV (pt_cmpV (op_eqP hr.units) ok_eq (pe_ixV (pe_vV (pv 0)) (pe_k pe_int fun _ _ => ⟨rfl, rfl⟩)) (pe_k pe_str fun _ _ => ⟨rfl, rfl⟩) (nomark _)) (pw_and1V (pt_cmpV (op_eqP hr.units) ok_eq (pe_ixV (pe_vV (pv 1)) (pe_k pe_int fun _ _ => ⟨rfl, rfl⟩)) (pe_k pe_str fun _ _ => ⟨rfl, rfl⟩) (nomark _))))) (pe_k pe_int fun _ _ => ⟨rfl, rfl⟩) (pe_k pe_int fun _ _ => ⟨rfl, rfl⟩))) (pg_vV (pg_name (i := 3) sc.nd rfl (by first | exact Or.inl rfl | exact Or.inr rfl))))
    (pss_consV (ps_forV (passes_of rfl) rfl (pi_seqV (pe_tupV (pa_v (pe_k pe_int fun _ _ => ⟨rfl, rfl⟩) (pa_v (pe_k pe_int fun _ _ => ⟨rfl, rfl⟩) (pa_v (pe_k pe_int fun _ _ => ⟨rfl, rfl⟩) pa_nilV))))) (pb_v (pg_name (i := 4) sc.nd rfl (by first | exact Or.inl rfl | exact Or.inr rfl))) (pss_consV (ps_asgV (pe_fz (pe_fn (IH 19 _ rfl) hr rfl rfl (Fx.glo 19 _ rfl) (Fx.fn 19 _ rfl).kp (Fx.bnd 19 _ rfl) tk (pa_any (pe_ixV (pe_vV (pv 0)) (pe_vV (pv 4))) (pa_any (pe_ixV (pe_vV (pv 1)) (pe_vV (pv 4))) pa_nilA)))) (pg_tupV rfl (pgs_consV (pg_vV (pg_name (i := 5) sc.nd rfl (by first | exact Or.inl rfl | exact Or.inr rfl))) (pgs_consV (pg_vV (pg_name (i := 6) sc.nd rfl (by first | exact Or.inl rfl | exact Or.inr rfl))) pgs_nilV))))
    (pss_consV (ps_par2V (i := 2) (j := 3) rfl sc.nd rfl rfl (by decide) rfl rfl (pa_v (pe_fz (pe_bin or_add ok_add (pe_vV (pv 2)) (pe_vV (pv 5)))) (pa_v (pe_fz (pe_bin or_add ok_add (pe_vV (pv 3)) (pe_vV (pv 6)))) pa_nilV)) rfl)
    pss_nilV)))
    (pss_consV (ps_retV (pe_tupV (pa_v (pe_vV (pv 2)) (pa_v (pe_vV (pv 3)) pa_nilV))))
    pss_nilV))))
/-- right_sums -/
theorem b28 (Fx : Facts K mg ds free cns T fd) (Er : Errs P K mg par T.cl D0 fI cc cda) (En : ∀ (i : Nat) (n : Str), clss[i]? = some n → mg n = some (.ref (T.cl i))) (IH : AllOk P w K mg base ds T fd G L k) : BodyOk P w K mg base d28 T G L k 28 F28 := by
  intro cdv A outer s H E σ0 hr
  have sc := sc28
  have tk : Takes (cxOf (L2.CX P w) P w K mg base d28.N d28.name (defScope d28.st) (T.fa 28) cdv A outer s H E) (fun cls d _ H => E cls d H) := takes_of rfl rfl rfl rfl
  exact (pss_consV (ps_par2V (i := 1) (j := 2) rfl sc.nd rfl rfl (by decide) rfl rfl (pa_v (pe_lstV pa_nilV) (pa_v (pe_fz (pe_cb cr_len ok_len rfl (Fx.fre 5 _ rfl) boot_len (pa_v (pe_ixV (pe_vV (pv 0)) (pe_k pe_int fun _ _ => ⟨rfl, rfl⟩)) pa_nilV) (by decide) (by decide) rfl rfl)) pa_nilV)) rfl)
    (pss_consV (ps_forV (passes_of rfl) rfl (pi_seqV (pe_fn (IH 26 _ rfl) hr rfl rfl (Fx.glo 26 _ rfl) (Fx.fn 26 _ rfl).kp (Fx.bnd 26 _ rfl) tk (pa_any (pe_cb cr_len ok_len rfl (Fx.fre 5 _ rfl) boot_len (pa_v (pe_ixV (pe_vV (pv 0)) (pe_k pe_int fun _ _ => ⟨rfl, rfl⟩)) pa_nilV) (by decide) (by decide) rfl rfl) pa_nilA))) (pb_v (pg_name (i := 3) sc.nd rfl (by first | exact Or.inl rfl | exact Or.inr rfl))) (pss_consV (ps_forV (passes_of rfl) rfl (pi_seqV (pe_gF (Fx.con 3 _ _ rfl) rfl rfl)) (pb_v (pg_name (i := 4) sc.nd rfl (by first | exact Or.inl rfl | exact Or.inr rfl))) (pss_consV (ps_forV (passes_of rfl) rfl (pi_seqV (pe_fn (IH 26 _ rfl) hr rfl rfl (Fx.glo 26 _ rfl) (Fx.fn 26 _ rfl).kp (Fx.bnd 26 _ rfl) tk (pa_any (pe_cb cr_len ok_len rfl (Fx.fre 5 _ rfl) boot_len (pa_v (pe_ixV (pe_vV (pv 0)) (pe_k pe_int fun _ _ => ⟨rfl, rfl⟩)) pa_nilV) (by decide) (by decide) rfl rfl) pa_nilA))) (pb_v (pg_name (i := 5) sc.nd rfl (by first | exact Or.inl rfl | exact Or.inr rfl))) (pss_consV (ps_asgV (pe_fz (pe_fn (IH 24 _ rfl) hr rfl rfl (Fx.glo 24 _ rfl) (Fx.fn 24 _ rfl).kp (Fx.bnd 24 _ rfl) tk (pa_any (pe_vV (pv 3)) (pa_any (pe_vV (pv 4)) (pa_any (pe_vV (pv 5)) pa_nilA))))) (pg_vV (pg_name (i := 6) sc.nd rfl (by first | exact Or.inl rfl | exact Or.inr rfl))))
    (pss_consV (ps_asgV (pe_fz (pe_bin or_add ok_add (pe_bin or_mul ok_mul (pe_k pe_str fun _ _ => ⟨rfl, rfl⟩) (pe_bin op_sub ok_sub (pe_vV (pv 2)) (pe_cb cr_len ok_len rfl (Fx.fre 5 _ rfl) boot_len (pa_v (pe_ct call_str_int ok_str rfl (Fx.fre 4 _ rfl) boot_str (pa_v (pe_vV (pv 6)) pa_nilV) (by decide) (by decide) rfl rfl) pa_nilV) (by decide) (by decide) rfl rfl))) (pe_ct call_str_int ok_str rfl (Fx.fre 4 _ rfl) boot_str (pa_v (pe_vV (pv 6)) pa_nilV) (by decide) (by decide) rfl rfl))) (pg_vV (pg_name (i := 7) sc.nd rfl (by first | exact Or.inl rfl | exact Or.inr rfl))))
    (pss_consV (ps_iteV (pt_of (pw_andV (pt_cmpV or_ge ok_ge (pe_vV (pv 6)) (pe_k pe_int fun _ _ => ⟨rfl, rfl⟩) (nomark _)) (pw_and1V (pt_cmpV (op_eqP hr.units) ok_eq (pe_cb cr_len ok_len rfl (Fx.fre 5 _ rfl) boot_len (pa_v (pe_vV (pv 7)) pa_nilV) (by decide) (by decide) rfl rfl) (pe_vV (pv 2)) (nomark _))))) (pss_consV (ps_asgV (pe_fz (pe_tupV (pa_v (pe_vV (pv 3)) (pa_v (pe_vV (pv 4)) (pa_v (pe_vV (pv 5)) (pa_v (pe_vV (pv 7)) pa_nilV)))))) (pg_vV (pg_name (i := 8) sc.nd rfl (by first | exact Or.inl rfl | exact Or.inr rfl))))
    (pss_consV (ps_asgV (pe_fz (pe_fn (IH 27 _ rfl) hr rfl rfl (Fx.glo 27 _ rfl) (Fx.fn 27 _ rfl).kp (Fx.bnd 27 _ rfl) tk (pa_any (pe_vV (pv 0)) (pa_any (pe_vV (pv 8)) pa_nilA)))) (pg_tupV rfl (pgs_consV (pg_vV (pg_name (i := 9) sc.nd rfl (by first | exact Or.inl rfl | exact Or.inr rfl))) (pgs_consV (pg_vV (pg_name (i := 10) sc.nd rfl (by first | exact Or.inl rfl | exact Or.inr rfl))) pgs_nilV))))
    (pss_consV (ps_iteV (pt_cmpV (op_eqP hr.units) ok_eq (pe_vV (pv 9)) (pe_vV (pv 10)) (nomark _)) (pss_consV (ps_exV (pe_appendV (pv 1) PySem.F.plainAttrs_list PySem.F.slot_list_append PySem.F.type_list_append (pa_v (pe_tupV (pa_v (pe_vV (pv 8)) (pa_v (pe_vV (pv 9)) pa_nilV))) pa_nilV)))
    pss_nilV) pss_nilV)
    pss_nilV))) pss_nilV)
    pss_nilV))))
    pss_nilV))
    pss_nilV))
    (pss_consV (ps_retV (pe_movV (pv 1)))
    pss_nilV)))
/-- mended_sums -/
theorem b29 (Fx : Facts K mg ds free cns T fd) (Er : Errs P K mg par T.cl D0 fI cc cda) (En : ∀ (i : Nat) (n : Str), clss[i]? = some n → mg n = some (.ref (T.cl i))) (IH : AllOk P w K mg base ds T fd G L k) : BodyOk P w K mg base d29 T G L k 29 F29 := by
  intro cdv A outer s H E σ0 hr
  have sc := sc29
  have tk : Takes (cxOf (L2.CX P w) P w K mg base d29.N d29.name (defScope d29.st) (T.fa 29) cdv A outer s H E) (fun cls d _ H => E cls d H) := takes_of rfl rfl rfl rfl
  exact (pss_consV (ps_exV (pe_fn (IH 23 _ rfl) hr rfl rfl (Fx.glo 23 _ rfl) (Fx.fn 23 _ rfl).kp (Fx.bnd 23 _ rfl) tk (pa_any (pe_vV (pv 0)) pa_nilA)))
    (pss_consV (ps_iteV (pt_notV (pt_v (pe_fn (IH 1 _ rfl) hr rfl rfl (Fx.glo 1 _ rfl) (Fx.fn 1 _ rfl).kp (Fx.bnd 1 _ rfl) tk (pa_any (pe_vV (pv 1)) pa_nilA)))) (pss_consV (ps_raiseV rfl Er (by decide) (En 1 _ rfl) hr.toRoom tk rfl (pe_vV (pv 1)))
    pss_nilV) pss_nilV)
    (pss_consV (ps_retV (pe_lcV [("other", 2), ("moved", 3)] rfl sc.nd (pi_seqV (pe_fn (IH 28 _ rfl) hr rfl rfl (Fx.glo 28 _ rfl) (Fx.fn 28 _ rfl).kp (Fx.bnd 28 _ rfl) tk (pa_any (pe_vV (pv 0)) pa_nilA))) (blkOk_by (by rfl)) (by decide) rfl (fun _ _ _ _ _ => (pb_tup rfl (pbs_cons (pb_v (pg_name (i := 2) sc.nd rfl (by first | exact Or.inl rfl | exact Or.inr rfl))) (pbs_cons (pb_v (pg_name (i := 3) sc.nd rfl (by first | exact Or.inl rfl | exact Or.inr rfl))) pbs_nil)))) (fun _ _ _ _ _ => pts_one (pt_cmpV (op_eqP hr.units) ok_eq (pe_vV (pv 3)) (pe_vV (pv 1)) (nomark _))) (fun _ _ _ _ _ => (pe_vV (pv 2)))))
    pss_nilV)))
/-- fewest_mended -/
theorem b30 (Fx : Facts K mg ds free cns T fd) (Er : Errs P K mg par T.cl D0 fI cc cda) (En : ∀ (i : Nat) (n : Str), clss[i]? = some n → mg n = some (.ref (T.cl i))) (IH : AllOk P w K mg base ds T fd G L k) : BodyOk P w K mg base d30 T G L k 30 F30 := by
  intro cdv A outer s H E σ0 hr
  have sc := sc30
  have tk : Takes (cxOf (L2.CX P w) P w K mg base d30.N d30.name (defScope d30.st) (T.fa 30) cdv A outer s H E) (fun cls d _ H => E cls d H) := takes_of rfl rfl rfl rfl
  exact (pss_consV (ps_exV (pe_fn (IH 23 _ rfl) hr rfl rfl (Fx.glo 23 _ rfl) (Fx.fn 23 _ rfl).kp (Fx.bnd 23 _ rfl) tk (pa_any (pe_vV (pv 0)) pa_nilA)))
    (pss_consV (ps_lcV [("other", 2), ("moved", 3)] (fun _ _ _ q => (tV_fz q)) rfl sc.nd rfl rfl rfl (pi_seqV (pe_fn (IH 28 _ rfl) hr rfl rfl (Fx.glo 28 _ rfl) (Fx.fn 28 _ rfl).kp (Fx.bnd 28 _ rfl) tk (pa_any (pe_vV (pv 0)) pa_nilA))) (blkOk_by (by rfl)) (by decide) rfl (fun _ _ _ _ _ => (pb_tup rfl (pbs_cons (pb_v (pg_name (i := 2) sc.nd rfl (by first | exact Or.inl rfl | exact Or.inr rfl))) (pbs_cons (pb_v (pg_name (i := 3) sc.nd rfl (by first | exact Or.inl rfl | exact Or.inr rfl))) pbs_nil)))) (fun _ _ _ _ _ => pts_0) (fun _ _ _ _ _ => (pe_vV (pv 3))))
    (pss_consV (ps_retV (pe_iteV (pt_cmpV (op_neP hr.units) ok_ne (pe_vV (pv 1)) (pe_lstV pa_nilV) (nomark _)) (pe_cb (cr_min rfl) ok_minL rfl (Fx.fre 11 _ rfl) boot_min (pa_v (pe_vV (pv 1)) pa_nilV) (by decide) (by decide) rfl rfl) (pe_k pe_non fun _ _ => ⟨rfl, rfl⟩)))
    pss_nilV)))
/-- _law_hash -/
theorem b31 (Fx : Facts K mg ds free cns T fd) (Er : Errs P K mg par T.cl D0 fI cc cda) (En : ∀ (i : Nat) (n : Str), clss[i]? = some n → mg n = some (.ref (T.cl i))) (IH : AllOk P w K mg base ds T fd G L k) : BodyOk P w K mg base d31 T G L k 31 F31 := by
  intro cdv A outer s H E σ0 hr
  have sc := sc31
  have tk : Takes (cxOf (L2.CX P w) P w K mg base d31.N d31.name (defScope d31.st) (T.fa 31) cdv A outer s H E) (fun cls d _ H => E cls d H) := takes_of rfl rfl rfl rfl
  exact (pss_consV (ps_asgV (pe_fz (pe_bin op_mod ok_mod (pe_ct cr_int ok_int rfl (Fx.fre 1 _ rfl) boot_int (pa_v (pe_bin or_add ok_add (pe_bin or_add ok_add (pe_bin or_add ok_add (pe_bin or_mul ok_mul (pe_vV (pv 0)) (pe_k pe_int fun _ _ => ⟨rfl, rfl⟩)) (pe_bin or_mul ok_mul (pe_bin or_mul ok_mul (pe_k pe_int fun _ _ => ⟨rfl, rfl⟩) (pe_vV (pv 1))) (pe_vV (pv 1)))) (pe_bin or_mul ok_mul (pe_k pe_int fun _ _ => ⟨rfl, rfl⟩) (pe_vV (pv 1)))) (pe_k pe_int fun _ _ => ⟨rfl, rfl⟩)) pa_nilV) (by decide) (by decide) rfl rfl) (pe_k pe_int fun _ _ => ⟨rfl, rfl⟩))) (pg_vV (pg_name (i := 2) sc.nd rfl (by first | exact Or.inl rfl | exact Or.inr rfl))))
    (pss_consV (ps_asgV (pe_fz (pe_bin op_mod ok_mod (pe_ct cr_int ok_int rfl (Fx.fre 1 _ rfl) boot_int (pa_v (pe_bin or_add ok_add (pe_bin or_add ok_add (pe_bin or_mul ok_mul (pe_vV (pv 2)) (pe_vV (pv 2))) (pe_bin or_mul ok_mul (pe_k pe_int fun _ _ => ⟨rfl, rfl⟩) (pe_vV (pv 1)))) (pe_k pe_int fun _ _ => ⟨rfl, rfl⟩)) pa_nilV) (by decide) (by decide) rfl rfl) (pe_k pe_int fun _ _ => ⟨rfl, rfl⟩))) (pg_vV (pg_name (i := 2) sc.nd rfl (by first | exact Or.inl rfl | exact Or.inr rfl))))
    (pss_consV (ps_retV (pe_bin op_mod ok_mod (pe_ct cr_int ok_int rfl (Fx.fre 1 _ rfl) boot_int (pa_v (pe_bin or_mul ok_mul (pe_vV (pv 2)) (pe_k pe_int fun _ _ => ⟨rfl, rfl⟩)) pa_nilV) (by decide) (by decide) rfl rfl) (pe_k pe_int fun _ _ => ⟨rfl, rfl⟩)))
    pss_nilV)))
/-- _law_cell -/
theorem b32 (Fx : Facts K mg ds free cns T fd) (Er : Errs P K mg par T.cl D0 fI cc cda) (En : ∀ (i : Nat) (n : Str), clss[i]? = some n → mg n = some (.ref (T.cl i))) (IH : AllOk P w K mg base ds T fd G L k) : BodyOk P w K mg base d32 T G L k 32 F32 := by
  intro cdv A outer s H E σ0 hr
  have sc := sc32
  have tk : Takes (cxOf (L2.CX P w) P w K mg base d32.N d32.name (defScope d32.st) (T.fa 32) cdv A outer s H E) (fun cls d _ H => E cls d H) := takes_of rfl rfl rfl rfl
  exact (pss_consV (ps_iteV (pt_cmpV or_lt ok_lt (pe_vV (pv 1)) (pe_cb cr_len ok_len rfl (Fx.fre 5 _ rfl) boot_len (pa_v (pe_vV (pv 0)) pa_nilV) (by decide) (by decide) rfl rfl) (nomark _)) (pss_consV (ps_retV (pe_ixV (pe_vV (pv 0)) (pe_vV (pv 1))))
    pss_nilV) pss_nilV)
    (pss_consV (ps_retV (pe_bin op_mod ok_mod (pe_cb (cr_sum rfl) ok_sum rfl (Fx.fre 7 _ rfl) boot_sum (pa_v (pe_sl01 (pe_vV (pv 0)) (pe_k pe_int fun _ _ => ⟨rfl, rfl⟩)) pa_nilV) (by decide) (by decide) rfl rfl) (pe_k pe_int fun _ _ => ⟨rfl, rfl⟩)))
    pss_nilV))
/-- _law_generator -/
theorem b33 (Fx : Facts K mg ds free cns T fd) (Er : Errs P K mg par T.cl D0 fI cc cda) (En : ∀ (i : Nat) (n : Str), clss[i]? = some n → mg n = some (.ref (T.cl i))) (IH : AllOk P w K mg base ds T fd G L k) : BodyOk P w K mg base d33 T G L k 33 F33 := by
  intro cdv A outer s H E σ0 hr
  have sc := sc33
  have tk : Takes (cxOf (L2.CX P w) P w K mg base d33.N d33.name (defScope d33.st) (T.fa 33) cdv A outer s H E) (fun cls d _ H => E cls d H) := takes_of rfl rfl rfl rfl
  exact (pss_consV (ps_asgV (pe_fz (pe_fn (IH 32 _ rfl) hr rfl rfl (Fx.glo 32 _ rfl) (Fx.fn 32 _ rfl).kp (Fx.bnd 32 _ rfl) tk (pa_any (pe_vV (pv 0)) (pa_any (pe_vV (pv 1)) pa_nilA)))) (pg_vV (pg_name (i := 2) sc.nd rfl (by first | exact Or.inl rfl | exact Or.inr rfl))))
    (pss_consV (ps_retV (pe_lstV (pa_v (pe_bin op_mod ok_mod (pe_ct cr_int ok_int rfl (Fx.fre 1 _ rfl) boot_int (pa_v (pe_cb (call_max2 rfl) ok_max rfl (Fx.fre 12 _ rfl) boot_max (pa_v (pe_bin op_sub ok_sub (pe_vV (pv 2)) (pe_bin op_powB ok_pow (pe_k pe_int fun _ _ => ⟨rfl, rfl⟩) (pe_k pe_int fun _ _ => ⟨rfl, rfl⟩))) (pa_v (pe_k pe_int fun _ _ => ⟨rfl, rfl⟩) pa_nilV)) (by decide) (by decide) rfl rfl) pa_nilV) (by decide) (by decide) rfl rfl) (pe_bin op_powB ok_pow (pe_bin op_powB ok_pow (pe_k pe_int fun _ _ => ⟨rfl, rfl⟩) (pe_k pe_int fun _ _ => ⟨rfl, rfl⟩)) (pe_k pe_int fun _ _ => ⟨rfl, rfl⟩))) (pa_v (pe_bin op_mod ok_mod (pe_ct cr_int ok_int rfl (Fx.fre 1 _ rfl) boot_int (pa_v (pe_vV (pv 2)) pa_nilV) (by decide) (by decide) rfl rfl) (pe_k pe_int fun _ _ => ⟨rfl, rfl⟩)) (pa_v (pe_bin or_mul ok_mul (pe_k pe_int fun _ _ => ⟨rfl, rfl⟩) (pe_vV (pv 1))) pa_nilV)))))
    pss_nilV))
/-- _law_random -/
theorem b34 (Fx : Facts K mg ds free cns T fd) (Er : Errs P K mg par T.cl D0 fI cc cda) (En : ∀ (i : Nat) (n : Str), clss[i]? = some n → mg n = some (.ref (T.cl i))) (IH : AllOk P w K mg base ds T fd G L k) : BodyOk P w K mg base d34 T G L k 34 F34 := by
  intro cdv A outer s H E σ0 hr
  have sc := sc34
  have tk : Takes (cxOf (L2.CX P w) P w K mg base d34.N d34.name (defScope d34.st) (T.fa 34) cdv A outer s H E) (fun cls d _ H => E cls d H) := takes_of rfl rfl rfl rfl
  exact (pss_consV (ps_iteV (pt_cmpV or_gt ok_gt (pe_pkV (pv 0) (pe_k pe_int fun _ _ => ⟨rfl, rfl⟩)) (pe_k pe_int fun _ _ => ⟨rfl, rfl⟩) (nomark _)) (pss_consV (ps_asgV (pe_fz (pe_bin op_mod ok_mod (pe_ct cr_int ok_int rfl (Fx.fre 1 _ rfl) boot_int (pa_v (pe_pkV (pv 0) (pe_k pe_int fun _ _ => ⟨rfl, rfl⟩)) pa_nilV) (by decide) (by decide) rfl rfl) (pe_vV (pv 1)))) (pg_vV (pg_name (i := 2) sc.nd rfl (by first | exact Or.inl rfl | exact Or.inr rfl))))
    (pss_consV (ps_asgV (pe_bin op_fdiv ok_fdiv (pe_pkV (pv 0) (pe_k pe_int fun _ _ => ⟨rfl, rfl⟩)) (pe_vV (pv 1))) (pg_subV (pv 0) (pe_k pe_int fun _ _ => ⟨rfl, rfl⟩)))
    (pss_consV (ps_retV (pe_vV (pv 2)))
    pss_nilV))) pss_nilV)
    (pss_consV (ps_asgV (pe_fz (pe_k pe_int fun _ _ => ⟨rfl, rfl⟩)) (pg_vV (pg_name (i := 2) sc.nd rfl (by first | exact Or.inl rfl | exact Or.inr rfl))))
    (pss_consV (ps_forV (passes_of rfl) rfl (pi_rng1V (pi_range1 rfl (Fx.fre 8 _ rfl) (pa_v (pe_bin or_add ok_add (pe_k pe_int fun _ _ => ⟨rfl, rfl⟩) (pe_bin op_fdiv ok_fdiv (pe_bitV (pe_vV (pv 1))) (pe_k pe_int fun _ _ => ⟨rfl, rfl⟩))) pa_nilV))) (pb_v (pg_name (i := 3) sc.nd rfl (by first | exact Or.inl rfl | exact Or.inr rfl))) (pss_consV (ps_asgV (pe_bin or_add ok_add (pe_pkV (pv 0) (pe_k pe_int fun _ _ => ⟨rfl, rfl⟩)) (pe_k pe_int fun _ _ => ⟨rfl, rfl⟩)) (pg_subV (pv 0) (pe_k pe_int fun _ _ => ⟨rfl, rfl⟩)))
    (pss_consV (ps_asgV (pe_fz (pe_bin or_add ok_add (pe_bin or_mul ok_mul (pe_vV (pv 2)) (pe_k pe_int fun _ _ => ⟨rfl, rfl⟩)) (pe_fn (IH 31 _ rfl) hr rfl rfl (Fx.glo 31 _ rfl) (Fx.fn 31 _ rfl).kp (Fx.bnd 31 _ rfl) tk (pa_any (pe_pkV (pv 0) (pe_k pe_int fun _ _ => ⟨rfl, rfl⟩)) (pa_any (pe_pkV (pv 0) (pe_k pe_int fun _ _ => ⟨rfl, rfl⟩)) pa_nilA))))) (pg_vV (pg_name (i := 2) sc.nd rfl (by first | exact Or.inl rfl | exact Or.inr rfl))))
    pss_nilV)))
    (pss_consV (ps_retV (pe_bin op_mod ok_mod (pe_ct cr_int ok_int rfl (Fx.fre 1 _ rfl) boot_int (pa_v (pe_vV (pv 2)) pa_nilV) (by decide) (by decide) rfl rfl) (pe_vV (pv 1))))
    pss_nilV))))
/-- _law_drawn_order -/
theorem b35 (Fx : Facts K mg ds free cns T fd) (Er : Errs P K mg par T.cl D0 fI cc cda) (En : ∀ (i : Nat) (n : Str), clss[i]? = some n → mg n = some (.ref (T.cl i))) (IH : AllOk P w K mg base ds T fd G L k) : BodyOk P w K mg base d35 T G L k 35 F35 := by
  intro cdv A outer s H E σ0 hr
  have sc := sc35
  have tk : Takes (cxOf (L2.CX P w) P w K mg base d35.N d35.name (defScope d35.st) (T.fa 35) cdv A outer s H E) (fun cls d _ H => E cls d H) := takes_of rfl rfl rfl rfl
  exact (pss_consV (ps_par2V (i := 2) (j := 3) rfl sc.nd rfl rfl (by decide) rfl rfl (pa_v (pe_ct (cr_list rfl) ok_list rfl (Fx.fre 13 _ rfl) boot_list (pa_v (pe_vV (pv 1)) pa_nilV) (by decide) (by decide) rfl rfl) (pa_v (pe_lstV pa_nilV) pa_nilV)) rfl)
    (pss_consV (ps_whV (passes_of rfl) (pt_borV (pt_cmpV (op_neP hr.units) ok_ne (pe_vV (pv 2)) (pe_lstV pa_nilV) (nomark _))) (pss_consV (ps_exV (pe_appendV (pv 3) PySem.F.plainAttrs_list PySem.F.slot_list_append PySem.F.type_list_append (pa_v (pe_popAtV (pv 2) PySem.F.plainAttrs_list PySem.F.slot_list_pop PySem.F.type_list_pop (pa_v (pe_borV (pe_fn (IH 34 _ rfl) hr rfl rfl (Fx.glo 34 _ rfl) (Fx.fn 34 _ rfl).kp (Fx.bnd 34 _ rfl) tk (pa_sl (pv 0) (pa_fz (pe_cb cr_len ok_len rfl (Fx.fre 5 _ rfl) boot_len (pa_v (pe_vV (pv 2)) pa_nilV) (by decide) (by decide) rfl rfl) pa_nilA)))) pa_nilV)) pa_nilV)))
    pss_nilV))
    (pss_consV (ps_retV (pe_movV (pv 3)))
    pss_nilV)))
/-- _law_exact -/
theorem b36 (Fx : Facts K mg ds free cns T fd) (Er : Errs P K mg par T.cl D0 fI cc cda) (En : ∀ (i : Nat) (n : Str), clss[i]? = some n → mg n = some (.ref (T.cl i))) (IH : AllOk P w K mg base ds T fd G L k) : BodyOk P w K mg base d36 T G L k 36 F36 := by
  intro cdv A outer s H E σ0 hr
  have sc := sc36
  have tk : Takes (cxOf (L2.CX P w) P w K mg base d36.N d36.name (defScope d36.st) (T.fa 36) cdv A outer s H E) (fun cls d _ H => E cls d H) := takes_of rfl rfl rfl rfl
  exact (pss_consV (ps_iteV (pt_v (pe_instV rfl rfl (Fx.fre 0 _ rfl) boot_isinstance (pe_vV (pv 1)) (pe_bltn rfl (Fx.fre 13 _ rfl) boot_list rfl))) (pss_consV (ps_retV (pe_andV (pe_instV rfl rfl (Fx.fre 0 _ rfl) boot_isinstance (pe_vV (pv 0)) (pe_bltn rfl (Fx.fre 13 _ rfl) boot_list rfl)) (pe_andV (pe_cmpV (op_eqP hr.units) ok_eq (pe_cb cr_len ok_len rfl (Fx.fre 5 _ rfl) boot_len (pa_v (pe_vV (pv 0)) pa_nilV) (by decide) (by decide) rfl rfl) (pe_cb cr_len ok_len rfl (Fx.fre 5 _ rfl) boot_len (pa_v (pe_vV (pv 1)) pa_nilV) (by decide) (by decide) rfl rfl) (nomark _)) (pe_one (pe_cmpV (or_notIn hr.units) ok_notIn (pe_k pe_bl fun _ _ => ⟨rfl, rfl⟩) (pe_lcV [("one", 2), ("other", 3)] rfl sc.nd (pi_zipV (RZ.pi_zipA rfl (Fx.fre 9 _ rfl) (pa_v (pe_vV (pv 0)) (pa_v (pe_vV (pv 1)) pa_nilV))) (pi_zipS rfl (Fx.fre 9 _ rfl) (pa_v (pe_vV (pv 0)) (pa_v (pe_vV (pv 1)) pa_nilV)))) (blkOk_by (by rfl)) (by decide) rfl (fun _ _ _ _ _ => (pb_tup rfl (pbs_cons (pb_v (pg_name (i := 2) sc.nd rfl (by first | exact Or.inl rfl | exact Or.inr rfl))) (pbs_cons (pb_v (pg_name (i := 3) sc.nd rfl (by first | exact Or.inl rfl | exact Or.inr rfl))) pbs_nil)))) (fun _ _ _ _ _ => pts_0) (fun _ _ _ _ _ => (pe_fn (IH 36 _ rfl) hr rfl rfl (Fx.glo 36 _ rfl) (Fx.fn 36 _ rfl).kp (Fx.bnd 36 _ rfl) takes0 (pa_any (pe_vV (pv 2)) (pa_any (pe_vV (pv 3)) pa_nilA))))) (by with_unfolding_all rfl))))))
    pss_nilV) pss_nilV)
    (pss_consV (ps_iteV (pt_v (pe_instV rfl rfl (Fx.fre 0 _ rfl) boot_isinstance (pe_vV (pv 1)) (pe_bltn rfl (Fx.fre 10 _ rfl) boot_tuple rfl))) (pss_consV (ps_retV (pe_andV (pe_instV rfl rfl (Fx.fre 0 _ rfl) boot_isinstance (pe_vV (pv 0)) (pe_bltn rfl (Fx.fre 10 _ rfl) boot_tuple rfl)) (pe_andV (pe_cmpV (op_eqP hr.units) ok_eq (pe_cb cr_len ok_len rfl (Fx.fre 5 _ rfl) boot_len (pa_v (pe_vV (pv 0)) pa_nilV) (by decide) (by decide) rfl rfl) (pe_cb cr_len ok_len rfl (Fx.fre 5 _ rfl) boot_len (pa_v (pe_vV (pv 1)) pa_nilV) (by decide) (by decide) rfl rfl) (nomark _)) (pe_one (pe_cmpV (or_notIn hr.units) ok_notIn (pe_k pe_bl fun _ _ => ⟨rfl, rfl⟩) (pe_lcV [("one", 2), ("other", 3)] rfl sc.nd (pi_zipV (RZ.pi_zipA rfl (Fx.fre 9 _ rfl) (pa_v (pe_vV (pv 0)) (pa_v (pe_vV (pv 1)) pa_nilV))) (pi_zipS rfl (Fx.fre 9 _ rfl) (pa_v (pe_vV (pv 0)) (pa_v (pe_vV (pv 1)) pa_nilV)))) (blkOk_by (by rfl)) (by decide) rfl (fun _ _ _ _ _ => (pb_tup rfl (pbs_cons (pb_v (pg_name (i := 2) sc.nd rfl (by first | exact Or.inl rfl | exact Or.inr rfl))) (pbs_cons (pb_v (pg_name (i := 3) sc.nd rfl (by first | exact Or.inl rfl | exact Or.inr rfl))) pbs_nil)))) (fun _ _ _ _ _ => pts_0) (fun _ _ _ _ _ => (pe_fn (IH 36 _ rfl) hr rfl rfl (Fx.glo 36 _ rfl) (Fx.fn 36 _ rfl).kp (Fx.bnd 36 _ rfl) takes0 (pa_any (pe_vV (pv 2)) (pa_any (pe_vV (pv 3)) pa_nilA))))) (by with_unfolding_all rfl))))))
    pss_nilV) pss_nilV)
    (pss_consV (ps_iteV (pt_isNone (pe_vV (pv 1))) (pss_consV (ps_retV (pe_isNone (pe_vV (pv 0))))
    pss_nilV) pss_nilV)
    (pss_consV (ps_iteV (pt_isBV (pe_vV (pv 1))) (pss_consV (ps_retV (pe_isBV (pe_vV (pv 0))))
    pss_nilV) pss_nilV)
    (pss_consV (ps_iteV (pt_isBV (pe_vV (pv 1))) (pss_consV (ps_retV (pe_isBV (pe_vV (pv 0))))
    pss_nilV) pss_nilV)
    (pss_consV (ps_iteV (pt_v (pe_instV rfl rfl (Fx.fre 0 _ rfl) boot_isinstance (pe_vV (pv 1)) (pe_bltn rfl (Fx.fre 1 _ rfl) boot_int rfl))) (pss_consV (ps_retV (pe_andV (pe_instV rfl rfl (Fx.fre 0 _ rfl) boot_isinstance (pe_vV (pv 0)) (pe_bltn rfl (Fx.fre 1 _ rfl) boot_int rfl)) (pe_andV (pe_notV (pe_instV rfl rfl (Fx.fre 0 _ rfl) boot_isinstance (pe_vV (pv 0)) (pe_bltn rfl (Fx.fre 2 _ rfl) boot_bool rfl))) (pe_one (pe_cmpV (op_eqP hr.units) ok_eq (pe_vV (pv 0)) (pe_vV (pv 1)) (nomark _))))))
    pss_nilV) pss_nilV)
    (pss_consV (ps_retV (pe_andV (pe_instV rfl rfl (Fx.fre 0 _ rfl) boot_isinstance (pe_vV (pv 0)) (pe_bltn rfl (Fx.fre 4 _ rfl) boot_str rfl)) (pe_one (pe_cmpV (op_eqP hr.units) ok_eq (pe_vV (pv 0)) (pe_vV (pv 1)) (nomark _)))))
    pss_nilV)))))))
/-- _law_call -/
theorem b37 (Fx : Facts K mg ds free cns T fd) (Er : Errs P K mg par T.cl D0 fI cc cda) (En : ∀ (i : Nat) (n : Str), clss[i]? = some n → mg n = some (.ref (T.cl i))) (IH : AllOk P w K mg base ds T fd G L k) : BodyOk P w K mg base d37 T G L k 37 F37 := by
  intro cdv A outer s H E σ0 hr
  have sc := sc37
  have tk : Takes (cxOf (L2.CX P w) P w K mg base d37.N d37.name (defScope d37.st) (T.fa 37) cdv A outer s H E) (fun cls d _ H => E cls d H) := takes_of rfl rfl rfl rfl
  exact (pss_consV (ps_iteV (pt_cmpV (op_eqP hr.units) ok_eq (pe_vV (pv 0)) (pe_k pe_int fun _ _ => ⟨rfl, rfl⟩) (nomark _)) (pss_consV (ps_retV (pe_fn (IH 5 _ rfl) hr rfl rfl (Fx.glo 5 _ rfl) (Fx.fn 5 _ rfl).kp (Fx.bnd 5 _ rfl) tk (pa_any (pe_vV (pv 1)) pa_nilA)))
    pss_nilV) pss_nilV)
    (pss_consV (ps_iteV (pt_cmpV (op_eqP hr.units) ok_eq (pe_vV (pv 0)) (pe_k pe_int fun _ _ => ⟨rfl, rfl⟩) (nomark _)) (pss_consV (ps_retV (pe_fn (IH 6 _ rfl) hr rfl rfl (Fx.glo 6 _ rfl) (Fx.fn 6 _ rfl).kp (Fx.bnd 6 _ rfl) tk (pa_any (pe_vV (pv 1)) pa_nilA)))
    pss_nilV) pss_nilV)
    (pss_consV (ps_iteV (pt_cmpV (op_eqP hr.units) ok_eq (pe_vV (pv 0)) (pe_k pe_int fun _ _ => ⟨rfl, rfl⟩) (nomark _)) (pss_consV (ps_retV (pe_fn (IH 8 _ rfl) hr rfl rfl (Fx.glo 8 _ rfl) (Fx.fn 8 _ rfl).kp (Fx.bnd 8 _ rfl) tk (pa_any (pe_vV (pv 1)) pa_nilA)))
    pss_nilV) pss_nilV)
    (pss_consV (ps_iteV (pt_cmpV (op_eqP hr.units) ok_eq (pe_vV (pv 0)) (pe_k pe_int fun _ _ => ⟨rfl, rfl⟩) (nomark _)) (pss_consV (ps_retV (pe_fn (IH 20 _ rfl) hr rfl rfl (Fx.glo 20 _ rfl) (Fx.fn 20 _ rfl).kp (Fx.bnd 20 _ rfl) tk (pa_any (pe_vV (pv 1)) (pa_any (pe_k pe_non fun _ _ => ⟨rfl, rfl⟩) pa_nilA))))
    pss_nilV) pss_nilV)
    (pss_consV (ps_iteV (pt_cmpV (op_eqP hr.units) ok_eq (pe_vV (pv 0)) (pe_k pe_int fun _ _ => ⟨rfl, rfl⟩) (nomark _)) (pss_consV (ps_retV (pe_fn (IH 21 _ rfl) hr rfl rfl (Fx.glo 21 _ rfl) (Fx.fn 21 _ rfl).kp (Fx.bnd 21 _ rfl) tk (pa_any (pe_vV (pv 1)) (pa_any (pe_k pe_non fun _ _ => ⟨rfl, rfl⟩) (pa_any (pe_k pe_non fun _ _ => ⟨rfl, rfl⟩) pa_nilA)))))
    pss_nilV) pss_nilV)
    (pss_consV (ps_iteV (pt_cmpV (op_eqP hr.units) ok_eq (pe_vV (pv 0)) (pe_k pe_int fun _ _ => ⟨rfl, rfl⟩) (nomark _)) (pss_consV (ps_retV (pe_fn (IH 20 _ rfl) hr rfl rfl (Fx.glo 20 _ rfl) (Fx.fn 20 _ rfl).kp (Fx.bnd 20 _ rfl) tk (pa_any (pe_k pe_str fun _ _ => ⟨rfl, rfl⟩) (pa_any (pe_vV (pv 1)) pa_nilA))))
    pss_nilV) pss_nilV)
    (pss_consV (ps_iteV (pt_cmpV (op_eqP hr.units) ok_eq (pe_vV (pv 0)) (pe_k pe_int fun _ _ => ⟨rfl, rfl⟩) (nomark _)) (pss_consV (ps_retV (pe_fn (IH 13 _ rfl) hr rfl rfl (Fx.glo 13 _ rfl) (Fx.fn 13 _ rfl).kp (Fx.bnd 13 _ rfl) tk (pa_any (pe_vV (pv 1)) pa_nilA)))
    pss_nilV) pss_nilV)
    (pss_consV (ps_iteV (pt_cmpV (op_eqP hr.units) ok_eq (pe_vV (pv 0)) (pe_k pe_int fun _ _ => ⟨rfl, rfl⟩) (nomark _)) (pss_consV (ps_retV (pe_fn (IH 15 _ rfl) hr rfl rfl (Fx.glo 15 _ rfl) (Fx.fn 15 _ rfl).kp (Fx.bnd 15 _ rfl) tk (pa_any (pe_vV (pv 1)) pa_nilA)))
    pss_nilV) pss_nilV)
    (pss_consV (ps_iteV (pt_cmpV (op_eqP hr.units) ok_eq (pe_vV (pv 0)) (pe_k pe_int fun _ _ => ⟨rfl, rfl⟩) (nomark _)) (pss_consV (ps_retV (pe_fn (IH 16 _ rfl) hr rfl rfl (Fx.glo 16 _ rfl) (Fx.fn 16 _ rfl).kp (Fx.bnd 16 _ rfl) tk (pa_any (pe_vV (pv 1)) pa_nilA)))
    pss_nilV) pss_nilV)
    (pss_consV (ps_iteV (pt_cmpV (op_eqP hr.units) ok_eq (pe_vV (pv 0)) (pe_k pe_int fun _ _ => ⟨rfl, rfl⟩) (nomark _)) (pss_consV (ps_retV (pe_fn (IH 17 _ rfl) hr rfl rfl (Fx.glo 17 _ rfl) (Fx.fn 17 _ rfl).kp (Fx.bnd 17 _ rfl) tk (pa_any (pe_vV (pv 1)) (pa_any (pe_k pe_non fun _ _ => ⟨rfl, rfl⟩) pa_nilA))))
    pss_nilV) pss_nilV)
    (pss_consV (ps_iteV (pt_cmpV (op_eqP hr.units) ok_eq (pe_vV (pv 0)) (pe_k pe_int fun _ _ => ⟨rfl, rfl⟩) (nomark _)) (pss_consV (ps_retV (pe_fn (IH 17 _ rfl) hr rfl rfl (Fx.glo 17 _ rfl) (Fx.fn 17 _ rfl).kp (Fx.bnd 17 _ rfl) tk (pa_any (pe_k pe_int fun _ _ => ⟨rfl, rfl⟩) (pa_any (pe_vV (pv 1)) pa_nilA))))
    pss_nilV) pss_nilV)
    (pss_consV (ps_iteV (pt_cmpV (op_eqP hr.units) ok_eq (pe_vV (pv 0)) (pe_k pe_int fun _ _ => ⟨rfl, rfl⟩) (nomark _)) (pss_consV (ps_retV (pe_fn (IH 21 _ rfl) hr rfl rfl (Fx.glo 21 _ rfl) (Fx.fn 21 _ rfl).kp (Fx.bnd 21 _ rfl) tk (pa_any (pe_k pe_str fun _ _ => ⟨rfl, rfl⟩) (pa_any (pe_vV (pv 1)) (pa_any (pe_k pe_non fun _ _ => ⟨rfl, rfl⟩) pa_nilA)))))
    pss_nilV) pss_nilV)
    (pss_consV (ps_retV (pe_fn (IH 38 _ rfl) hr rfl rfl (Fx.glo 38 _ rfl) (Fx.fn 38 _ rfl).kp (Fx.bnd 38 _ rfl) tk (pa_any (pe_vV (pv 0)) (pa_any (pe_vV (pv 1)) pa_nilA))))
    pss_nilV)))))))))))))
/-- _law_sum_call -/
theorem b38 (Fx : Facts K mg ds free cns T fd) (Er : Errs P K mg par T.cl D0 fI cc cda) (En : ∀ (i : Nat) (n : Str), clss[i]? = some n → mg n = some (.ref (T.cl i))) (IH : AllOk P w K mg base ds T fd G L k) : BodyOk P w K mg base d38 T G L k 38 F38 := by
  intro cdv A outer s H E σ0 hr
  have sc := sc38
  have tk : Takes (cxOf (L2.CX P w) P w K mg base d38.N d38.name (defScope d38.st) (T.fa 38) cdv A outer s H E) (fun cls d _ H => E cls d H) := takes_of rfl rfl rfl rfl
  exact (pss_consV (ps_iteV (pt_cmpV (op_eqP hr.units) ok_eq (pe_vV (pv 0)) (pe_k pe_int fun _ _ => ⟨rfl, rfl⟩) (nomark _)) (pss_consV (ps_retV (pe_fn (IH 21 _ rfl) hr rfl rfl (Fx.glo 21 _ rfl) (Fx.fn 21 _ rfl).kp (Fx.bnd 21 _ rfl) tk (pa_any (pe_k pe_str fun _ _ => ⟨rfl, rfl⟩) (pa_any (pe_k pe_int fun _ _ => ⟨rfl, rfl⟩) (pa_any (pe_vV (pv 1)) pa_nilA)))))
    pss_nilV) pss_nilV)
    (pss_consV (ps_iteV (pt_cmpV (op_eqP hr.units) ok_eq (pe_vV (pv 0)) (pe_k pe_int fun _ _ => ⟨rfl, rfl⟩) (nomark _)) (pss_consV (ps_retV (pe_fn (IH 25 _ rfl) hr rfl rfl (Fx.glo 25 _ rfl) (Fx.fn 25 _ rfl).kp (Fx.bnd 25 _ rfl) tk (pa_any (pe_vV (pv 1)) pa_nilA)))
    pss_nilV) pss_nilV)
    (pss_consV (ps_iteV (pt_cmpV (op_eqP hr.units) ok_eq (pe_vV (pv 0)) (pe_k pe_int fun _ _ => ⟨rfl, rfl⟩) (nomark _)) (pss_consV (ps_retV (pe_fn (IH 29 _ rfl) hr rfl rfl (Fx.glo 29 _ rfl) (Fx.fn 29 _ rfl).kp (Fx.bnd 29 _ rfl) tk (pa_any (pe_vV (pv 1)) (pa_any (pe_k pe_non fun _ _ => ⟨rfl, rfl⟩) pa_nilA))))
    pss_nilV) pss_nilV)
    (pss_consV (ps_iteV (pt_cmpV (op_eqP hr.units) ok_eq (pe_vV (pv 0)) (pe_k pe_int fun _ _ => ⟨rfl, rfl⟩) (nomark _)) (pss_consV (ps_retV (pe_fn (IH 30 _ rfl) hr rfl rfl (Fx.glo 30 _ rfl) (Fx.fn 30 _ rfl).kp (Fx.bnd 30 _ rfl) tk (pa_any (pe_vV (pv 1)) pa_nilA)))
    pss_nilV) pss_nilV)
    (pss_consV (ps_retV (pe_fn (IH 29 _ rfl) hr rfl rfl (Fx.glo 29 _ rfl) (Fx.fn 29 _ rfl).kp (Fx.bnd 29 _ rfl) tk (pa_any (pe_tupV (pa_v (pe_k pe_str fun _ _ => ⟨rfl, rfl⟩) (pa_v (pe_k pe_str fun _ _ => ⟨rfl, rfl⟩) (pa_v (pe_k pe_str fun _ _ => ⟨rfl, rfl⟩) (pa_v (pe_k pe_str fun _ _ => ⟨rfl, rfl⟩) pa_nilV))))) (pa_any (pe_vV (pv 1)) pa_nilA))))
    pss_nilV)))))
/-- _law_right_call -/
theorem b39 (Fx : Facts K mg ds free cns T fd) (Er : Errs P K mg par T.cl D0 fI cc cda) (En : ∀ (i : Nat) (n : Str), clss[i]? = some n → mg n = some (.ref (T.cl i))) (IH : AllOk P w K mg base ds T fd G L k) : BodyOk P w K mg base d39 T G L k 39 F39 := by
  intro cdv A outer s H E σ0 hr
  have sc := sc39
  have tk : Takes (cxOf (L2.CX P w) P w K mg base d39.N d39.name (defScope d39.st) (T.fa 39) cdv A outer s H E) (fun cls d _ H => E cls d H) := takes_of rfl rfl rfl rfl
  exact (pss_consV (ps_iteV (pt_cmpV (op_eqP hr.units) ok_eq (pe_vV (pv 0)) (pe_k pe_int fun _ _ => ⟨rfl, rfl⟩) (nomark _)) (pss_consV (ps_retV (pe_fn (IH 20 _ rfl) hr rfl rfl (Fx.glo 20 _ rfl) (Fx.fn 20 _ rfl).kp (Fx.bnd 20 _ rfl) tk (pa_any (pe_vV (pv 1)) (pa_any (pe_k pe_str fun _ _ => ⟨rfl, rfl⟩) pa_nilA))))
    pss_nilV) pss_nilV)
    (pss_consV (ps_iteV (pt_cmpV (op_eqP hr.units) ok_eq (pe_vV (pv 0)) (pe_k pe_int fun _ _ => ⟨rfl, rfl⟩) (nomark _)) (pss_consV (ps_retV (pe_fn (IH 21 _ rfl) hr rfl rfl (Fx.glo 21 _ rfl) (Fx.fn 21 _ rfl).kp (Fx.bnd 21 _ rfl) tk (pa_any (pe_vV (pv 1)) (pa_any (pe_k pe_int fun _ _ => ⟨rfl, rfl⟩) (pa_any (pe_k pe_int fun _ _ => ⟨rfl, rfl⟩) pa_nilA)))))
    pss_nilV) pss_nilV)
    (pss_consV (ps_iteV (pt_cmpV (op_eqP hr.units) ok_eq (pe_vV (pv 0)) (pe_k pe_int fun _ _ => ⟨rfl, rfl⟩) (nomark _)) (pss_consV (ps_retV (pe_fn (IH 17 _ rfl) hr rfl rfl (Fx.glo 17 _ rfl) (Fx.fn 17 _ rfl).kp (Fx.bnd 17 _ rfl) tk (pa_any (pe_vV (pv 1)) (pa_any (pe_k pe_int fun _ _ => ⟨rfl, rfl⟩) pa_nilA))))
    pss_nilV) pss_nilV)
    (pss_consV (ps_iteV (pt_cmpV (op_eqP hr.units) ok_eq (pe_vV (pv 0)) (pe_k pe_int fun _ _ => ⟨rfl, rfl⟩) (nomark _)) (pss_consV (ps_retV (pe_fn (IH 21 _ rfl) hr rfl rfl (Fx.glo 21 _ rfl) (Fx.fn 21 _ rfl).kp (Fx.bnd 21 _ rfl) tk (pa_any (pe_k pe_str fun _ _ => ⟨rfl, rfl⟩) (pa_any (pe_vV (pv 1)) (pa_any (pe_k pe_int fun _ _ => ⟨rfl, rfl⟩) pa_nilA)))))
    pss_nilV) pss_nilV)
    (pss_consV (ps_iteV (pt_cmpV (op_eqP hr.units) ok_eq (pe_vV (pv 0)) (pe_k pe_int fun _ _ => ⟨rfl, rfl⟩) (nomark _)) (pss_consV (ps_retV (pe_fn (IH 29 _ rfl) hr rfl rfl (Fx.glo 29 _ rfl) (Fx.fn 29 _ rfl).kp (Fx.bnd 29 _ rfl) tk (pa_any (pe_vV (pv 1)) (pa_any (pe_k pe_int fun _ _ => ⟨rfl, rfl⟩) pa_nilA))))
    pss_nilV) pss_nilV)
    (pss_consV (ps_retV (pe_fn (IH 37 _ rfl) hr rfl rfl (Fx.glo 37 _ rfl) (Fx.fn 37 _ rfl).kp (Fx.bnd 37 _ rfl) tk (pa_any (pe_vV (pv 0)) (pa_any (pe_vV (pv 1)) pa_nilA))))
    pss_nilV))))))
/-- _law_caught -/
theorem b40 (Fx : Facts K mg ds free cns T fd) (Er : Errs P K mg par T.cl D0 fI cc cda) (En : ∀ (i : Nat) (n : Str), clss[i]? = some n → mg n = some (.ref (T.cl i))) (IH : AllOk P w K mg base ds T fd G L k) : BodyOk P w K mg base d40 T G L k 40 F40 := by
  intro cdv A outer s H E σ0 hr
  have sc := sc40
  have tk : Takes (cxOf (L2.CX P w) P w K mg base d40.N d40.name (defScope d40.st) (T.fa 40) cdv A outer s H E) (fun cls d _ H => E cls d H) := takes_of rfl rfl rfl rfl
  exact (pss_consV (ps_asgV (pe_lstV pa_nilV) (pg_vV (pg_name (i := 2) sc.nd rfl (by first | exact Or.inl rfl | exact Or.inr rfl))))
    (pss_consV (ps_forV (passes_of rfl) rfl (pi_seqV (pe_lstV (pa_v (pe_k pe_int fun _ _ => ⟨rfl, rfl⟩) (pa_v (pe_k pe_int fun _ _ => ⟨rfl, rfl⟩) pa_nilV)))) (pb_v (pg_name (i := 3) sc.nd rfl (by first | exact Or.inl rfl | exact Or.inr rfl))) (pss_consV (ps_par2V (i := 4) (j := 5) rfl sc.nd rfl rfl (by decide) rfl rfl (pa_v (pe_fz (pe_k pe_non fun _ _ => ⟨rfl, rfl⟩)) (pa_v (pe_fz (pe_reprV hr rfl (Fx.fre 14 _ rfl) boot_repr (pe_vV (pv 1)))) pa_nilV)) rfl)
    (pss_consV (ps_tryV (k := 0) (n := 6) (dst := 4) rfl rfl rfl sc.nd rfl rfl rfl (by first | exact Or.inl rfl | exact Or.inr rfl) (by first | exact Or.inl rfl | exact Or.inr rfl) Er rfl (by decide) rfl (En 0 _ rfl) fun W pn xe tk pe => (pss_consV (ps_iteV (pt_cmpV (op_eqP hr.units) ok_eq (pe_vV (pv 3)) (pe_k pe_int fun _ _ => ⟨rfl, rfl⟩) (nomark _)) (pss_consV (ps_exV (pe_fn (IH 37 _ rfl) hr rfl rfl (Fx.glo 37 _ rfl) (Fx.fn 37 _ rfl).kp (Fx.bnd 37 _ rfl) tk (pa_any (pe_vV (pv 0)) (pa_any (pe_vV (pv 1)) pa_nilA))))
    pss_nilV) (pss_consV (ps_exV (pe_fn (IH 39 _ rfl) hr rfl rfl (Fx.glo 39 _ rfl) (Fx.fn 39 _ rfl).kp (Fx.bnd 39 _ rfl) tk (pa_any (pe_vV (pv 0)) (pa_any (pe_vV (pv 1)) pa_nilA))))
    pss_nilV))
    pss_nilV))
    (pss_consV (ps_iteV (pt_of (pw_orV (pt_cmpV (op_neP hr.units) ok_ne (pe_reprV hr rfl (Fx.fre 14 _ rfl) boot_repr (pe_vV (pv 1))) (pe_vV (pv 5)) (nomark _)) (pw_or1V (pt_isNone (pe_vV (pv 4)))))) (pss_consV (ps_exV (pe_appendV (pv 2) PySem.F.plainAttrs_list PySem.F.slot_list_append PySem.F.type_list_append (pa_v (pe_k pe_non fun _ _ => ⟨rfl, rfl⟩) pa_nilV)))
    pss_nilV) (pss_consV (ps_exV (pe_appendV (pv 2) PySem.F.plainAttrs_list PySem.F.slot_list_append PySem.F.type_list_append (pa_v (pe_lstV (pa_v (pe_instOV (c := 1) Er rfl rfl (Fx.fre 0 _ rfl) boot_isinstance (pe_vV (pv 4)) rfl (En 1 _ rfl)) (pa_v (pe_instOV (c := 2) Er rfl rfl (Fx.fre 0 _ rfl) boot_isinstance (pe_vV (pv 4)) rfl (En 2 _ rfl)) (pa_v (pe_instOV (c := 3) Er rfl rfl (Fx.fre 0 _ rfl) boot_isinstance (pe_vV (pv 4)) rfl (En 3 _ rfl)) (pa_v (pe_reprV hr rfl (Fx.fre 14 _ rfl) boot_repr (pe_fldV Er rfl (pe_vV (pv 4)))) pa_nilV))))) pa_nilV)))
    pss_nilV))
    pss_nilV))))
    (pss_frzV (pss_consV (ps_retV (pe_borV (pe_iteV (pt_cmpV (op_eqP hr.units) ok_eq (pe_pkV (pv 2) (pe_k pe_int fun _ _ => ⟨rfl, rfl⟩)) (pe_pkV (pv 2) (pe_k pe_int fun _ _ => ⟨rfl, rfl⟩)) (nomark _)) (pe_pkV (pv 2) (pe_k pe_int fun _ _ => ⟨rfl, rfl⟩)) (pe_lstV (pa_v (pe_vV (pv 2)) pa_nilV)))))
    pss_nilV))))
/-- _law_odds -/
theorem b41 (Fx : Facts K mg ds free cns T fd) (Er : Errs P K mg par T.cl D0 fI cc cda) (En : ∀ (i : Nat) (n : Str), clss[i]? = some n → mg n = some (.ref (T.cl i))) (IH : AllOk P w K mg base ds T fd G L k) : BodyOk P w K mg base d41 T G L k 41 F41 := by
  intro cdv A outer s H E σ0 hr
  have sc := sc41
  have tk : Takes (cxOf (L2.CX P w) P w K mg base d41.N d41.name (defScope d41.st) (T.fa 41) cdv A outer s H E) (fun cls d _ H => E cls d H) := takes_of rfl rfl rfl rfl
  exact (pss_consV (ps_asgV (pe_fz (pe_lstV (pa_v (pe_k pe_non fun _ _ => ⟨rfl, rfl⟩) (pa_v (pe_k pe_bl fun _ _ => ⟨rfl, rfl⟩) (pa_v (pe_k pe_int fun _ _ => ⟨rfl, rfl⟩) (pa_v (pe_k pe_str fun _ _ => ⟨rfl, rfl⟩) (pa_v (pe_k pe_str fun _ _ => ⟨rfl, rfl⟩) (pa_v (pe_k pe_str fun _ _ => ⟨rfl, rfl⟩) (pa_v (pe_k pe_str fun _ _ => ⟨rfl, rfl⟩) (pa_v (pe_k pe_str fun _ _ => ⟨rfl, rfl⟩) (pa_v (pe_k pe_str fun _ _ => ⟨rfl, rfl⟩) (pa_v (pe_k pe_str fun _ _ => ⟨rfl, rfl⟩) (pa_v (pe_k pe_str fun _ _ => ⟨rfl, rfl⟩) (pa_v (pe_lstV (pa_v (pe_k pe_str fun _ _ => ⟨rfl, rfl⟩) pa_nilV)) (pa_v (pe_tupV (pa_v (pe_k pe_str fun _ _ => ⟨rfl, rfl⟩) pa_nilV)) (pa_v pe_newDV (pa_v (pe_bin or_mul ok_mul (pe_k pe_str fun _ _ => ⟨rfl, rfl⟩) (pe_k pe_int fun _ _ => ⟨rfl, rfl⟩)) pa_nilV))))))))))))))))) (pg_vV (pg_name (i := 1) sc.nd rfl (by first | exact Or.inl rfl | exact Or.inr rfl))))
    (pss_consV (ps_iteV (pt_cmpV (op_eqP hr.units) ok_eq (pe_vV (pv 0)) (pe_k pe_int fun _ _ => ⟨rfl, rfl⟩) (nomark _)) (pss_consV (ps_retV (pe_bin or_add ok_add (pe_vV (pv 1)) (pe_lstV (pa_v (pe_k pe_str fun _ _ => ⟨rfl, rfl⟩) (pa_v (pe_k pe_str fun _ _ => ⟨rfl, rfl⟩) pa_nilV)))))
    pss_nilV) pss_nilV)
    (pss_consV (ps_iteV (pt_cmpV (op_eqP hr.units) ok_eq (pe_vV (pv 0)) (pe_k pe_int fun _ _ => ⟨rfl, rfl⟩) (nomark _)) (pss_consV (ps_retV (pe_lstV (pa_v (pe_k pe_non fun _ _ => ⟨rfl, rfl⟩) (pa_v (pe_k pe_bl fun _ _ => ⟨rfl, rfl⟩) (pa_v (pe_k pe_int fun _ _ => ⟨rfl, rfl⟩) (pa_v (pe_lstV (pa_v (pe_k pe_str fun _ _ => ⟨rfl, rfl⟩) pa_nilV)) (pa_v (pe_tupV (pa_v (pe_k pe_str fun _ _ => ⟨rfl, rfl⟩) pa_nilV)) (pa_v pe_newDV (pa_v (pe_k pe_str fun _ _ => ⟨rfl, rfl⟩) (pa_v (pe_k pe_str fun _ _ => ⟨rfl, rfl⟩) (pa_v (pe_k pe_str fun _ _ => ⟨rfl, rfl⟩) (pa_v (pe_k pe_str fun _ _ => ⟨rfl, rfl⟩) (pa_v (pe_k pe_str fun _ _ => ⟨rfl, rfl⟩) (pa_v (pe_k pe_str fun _ _ => ⟨rfl, rfl⟩) (pa_v (pe_k pe_str fun _ _ => ⟨rfl, rfl⟩) (pa_v (pe_k pe_str fun _ _ => ⟨rfl, rfl⟩) pa_nilV))))))))))))))))
    pss_nilV) pss_nilV)
    (pss_consV (ps_iteV (pt_cmpV (or_in hr.units) ok_isIn (pe_vV (pv 0)) (pe_lstV (pa_v (pe_k pe_int fun _ _ => ⟨rfl, rfl⟩) (pa_v (pe_k pe_int fun _ _ => ⟨rfl, rfl⟩) (pa_v (pe_k pe_int fun _ _ => ⟨rfl, rfl⟩) pa_nilV)))) (by with_unfolding_all rfl)) (pss_consV (ps_retV (pe_vV (pv 1)))
    pss_nilV) pss_nilV)
    (pss_consV (ps_iteV (pt_cmpV (op_eqP hr.units) ok_eq (pe_vV (pv 0)) (pe_k pe_int fun _ _ => ⟨rfl, rfl⟩) (nomark _)) (pss_consV (ps_retV (pe_bin or_add ok_add (pe_vV (pv 1)) (pe_lstV (pa_v (pe_k pe_str fun _ _ => ⟨rfl, rfl⟩) (pa_v (pe_k pe_str fun _ _ => ⟨rfl, rfl⟩) pa_nilV)))))
    pss_nilV) pss_nilV)
    (pss_consV (ps_iteV (pt_of (pw_orV (pt_cmpV or_lt ok_lt (pe_vV (pv 0)) (pe_k pe_int fun _ _ => ⟨rfl, rfl⟩) (nomark _)) (pw_or1V (pt_cmpV (op_eqP hr.units) ok_eq (pe_vV (pv 0)) (pe_k pe_int fun _ _ => ⟨rfl, rfl⟩) (nomark _))))) (pss_consV (ps_retV (pe_bin or_add ok_add (pe_lstV (pa_v (pe_k pe_non fun _ _ => ⟨rfl, rfl⟩) (pa_v (pe_k pe_bl fun _ _ => ⟨rfl, rfl⟩) (pa_v (pe_bin op_sub ok_sub (pe_k pe_int fun _ _ => ⟨rfl, rfl⟩) (pe_k pe_int fun _ _ => ⟨rfl, rfl⟩)) (pa_v (pe_k pe_str fun _ _ => ⟨rfl, rfl⟩) (pa_v (pe_lstV (pa_v (pe_k pe_int fun _ _ => ⟨rfl, rfl⟩) pa_nilV)) (pa_v (pe_tupV (pa_v (pe_k pe_int fun _ _ => ⟨rfl, rfl⟩) pa_nilV)) (pa_v pe_newDV pa_nilV)))))))) (pe_iteV (pt_cmpV (op_eqP hr.units) ok_eq (pe_vV (pv 0)) (pe_k pe_int fun _ _ => ⟨rfl, rfl⟩) (nomark _)) (pe_lstV (pa_v (pe_k pe_int fun _ _ => ⟨rfl, rfl⟩) (pa_v (pe_bin op_powB ok_pow (pe_k pe_int fun _ _ => ⟨rfl, rfl⟩) (pe_k pe_int fun _ _ => ⟨rfl, rfl⟩)) pa_nilV))) (pe_lstV pa_nilV))))
    pss_nilV) pss_nilV)
    (pss_consV (ps_asgV (pe_fz (pe_lstV (pa_v (pe_k pe_non fun _ _ => ⟨rfl, rfl⟩) (pa_v (pe_k pe_int fun _ _ => ⟨rfl, rfl⟩) (pa_v (pe_k pe_str fun _ _ => ⟨rfl, rfl⟩) (pa_v (pe_lstV pa_nilV) (pa_v (pe_tupV pa_nilV) (pa_v pe_newDV (pa_v (pe_lstV (pa_v (pe_k pe_str fun _ _ => ⟨rfl, rfl⟩) (pa_v (pe_k pe_str fun _ _ => ⟨rfl, rfl⟩) (pa_v (pe_k pe_str fun _ _ => ⟨rfl, rfl⟩) (pa_v (pe_k pe_str fun _ _ => ⟨rfl, rfl⟩) pa_nilV))))) (pa_v (pe_tupV (pa_v (pe_k pe_str fun _ _ => ⟨rfl, rfl⟩) (pa_v (pe_k pe_str fun _ _ => ⟨rfl, rfl⟩) (pa_v (pe_k pe_str fun _ _ => ⟨rfl, rfl⟩) pa_nilV)))) (pa_v (pe_tupV (pa_v (pe_k pe_str fun _ _ => ⟨rfl, rfl⟩) (pa_v (pe_k pe_str fun _ _ => ⟨rfl, rfl⟩) (pa_v (pe_k pe_str fun _ _ => ⟨rfl, rfl⟩) (pa_v (pe_k pe_str fun _ _ => ⟨rfl, rfl⟩) (pa_v (pe_k pe_str fun _ _ => ⟨rfl, rfl⟩) pa_nilV)))))) pa_nilV))))))))))) (pg_vV (pg_name (i := 2) sc.nd rfl (by first | exact Or.inl rfl | exact Or.inr rfl))))
    (pss_consV (ps_asgV (pe_fz (pe_bin or_add ok_add (pe_vV (pv 2)) (pe_lstV (pa_v (pe_tupV (pa_v (pe_k pe_int fun _ _ => ⟨rfl, rfl⟩) (pa_v (pe_k pe_str fun _ _ => ⟨rfl, rfl⟩) (pa_v (pe_k pe_str fun _ _ => ⟨rfl, rfl⟩) (pa_v (pe_k pe_str fun _ _ => ⟨rfl, rfl⟩) pa_nilV))))) (pa_v (pe_tupV (pa_v (pe_k pe_str fun _ _ => ⟨rfl, rfl⟩) (pa_v (pe_k pe_str fun _ _ => ⟨rfl, rfl⟩) (pa_v (pe_k pe_str fun _ _ => ⟨rfl, rfl⟩) (pa_v (pe_k pe_str fun _ _ => ⟨rfl, rfl⟩) pa_nilV))))) (pa_v (pe_tupV (pa_v (pe_k pe_str fun _ _ => ⟨rfl, rfl⟩) (pa_v (pe_k pe_str fun _ _ => ⟨rfl, rfl⟩) (pa_v (pe_k pe_str fun _ _ => ⟨rfl, rfl⟩) (pa_v (pe_k pe_str fun _ _ => ⟨rfl, rfl⟩) pa_nilV))))) (pa_v (pe_tupV (pa_v (pe_k pe_str fun _ _ => ⟨rfl, rfl⟩) (pa_v (pe_k pe_str fun _ _ => ⟨rfl, rfl⟩) (pa_v (pe_k pe_str fun _ _ => ⟨rfl, rfl⟩) (pa_v (pe_k pe_str fun _ _ => ⟨rfl, rfl⟩) pa_nilV))))) (pa_v (pe_tupV (pa_v (pe_k pe_str fun _ _ => ⟨rfl, rfl⟩) (pa_v (pe_k pe_str fun _ _ => ⟨rfl, rfl⟩) (pa_v (pe_k pe_str fun _ _ => ⟨rfl, rfl⟩) (pa_v (pe_k pe_non fun _ _ => ⟨rfl, rfl⟩) pa_nilV))))) pa_nilV)))))))) (pg_vV (pg_name (i := 2) sc.nd rfl (by first | exact Or.inl rfl | exact Or.inr rfl))))
    (pss_consV (ps_retV (pe_bin or_add ok_add (pe_vV (pv 2)) (pe_lstV (pa_v (pe_tupV (pa_v (pe_k pe_str fun _ _ => ⟨rfl, rfl⟩) (pa_v (pe_lstV (pa_v (pe_k pe_str fun _ _ => ⟨rfl, rfl⟩) pa_nilV)) (pa_v (pe_k pe_str fun _ _ => ⟨rfl, rfl⟩) (pa_v (pe_k pe_str fun _ _ => ⟨rfl, rfl⟩) pa_nilV))))) (pa_v (pe_tupV (pa_v (pe_k pe_str fun _ _ => ⟨rfl, rfl⟩) (pa_v (pe_k pe_str fun _ _ => ⟨rfl, rfl⟩) (pa_v (pe_k pe_str fun _ _ => ⟨rfl, rfl⟩) (pa_v (pe_k pe_str fun _ _ => ⟨rfl, rfl⟩) pa_nilV))))) (pa_v (pe_tupV (pa_v (pe_k pe_str fun _ _ => ⟨rfl, rfl⟩) (pa_v (pe_k pe_str fun _ _ => ⟨rfl, rfl⟩) (pa_v (pe_k pe_str fun _ _ => ⟨rfl, rfl⟩) (pa_v (pe_k pe_str fun _ _ => ⟨rfl, rfl⟩) pa_nilV))))) (pa_v (pe_tupV (pa_v (pe_k pe_str fun _ _ => ⟨rfl, rfl⟩) (pa_v (pe_k pe_str fun _ _ => ⟨rfl, rfl⟩) (pa_v (pe_k pe_str fun _ _ => ⟨rfl, rfl⟩) (pa_v (pe_k pe_str fun _ _ => ⟨rfl, rfl⟩) pa_nilV))))) (pa_v (pe_tupV (pa_v (pe_k pe_str fun _ _ => ⟨rfl, rfl⟩) (pa_v (pe_k pe_str fun _ _ => ⟨rfl, rfl⟩) (pa_v (pe_k pe_str fun _ _ => ⟨rfl, rfl⟩) (pa_v (pe_k pe_str fun _ _ => ⟨rfl, rfl⟩) pa_nilV))))) (pa_v (pe_tupV (pa_v (pe_k pe_str fun _ _ => ⟨rfl, rfl⟩) (pa_v (pe_k pe_int fun _ _ => ⟨rfl, rfl⟩) (pa_v (pe_k pe_str fun _ _ => ⟨rfl, rfl⟩) (pa_v (pe_k pe_str fun _ _ => ⟨rfl, rfl⟩) pa_nilV))))) (pa_v (pe_tupV (pa_v (pe_bin or_mul ok_mul (pe_k pe_str fun _ _ => ⟨rfl, rfl⟩) (pe_k pe_int fun _ _ => ⟨rfl, rfl⟩)) (pa_v (pe_k pe_str fun _ _ => ⟨rfl, rfl⟩) (pa_v (pe_k pe_str fun _ _ => ⟨rfl, rfl⟩) (pa_v (pe_k pe_str fun _ _ => ⟨rfl, rfl⟩) pa_nilV))))) pa_nilV))))))))))
    pss_nilV)))))))))
/-- law -/
theorem b42 (Fx : Facts K mg ds free cns T fd) (Er : Errs P K mg par T.cl D0 fI cc cda) (En : ∀ (i : Nat) (n : Str), clss[i]? = some n → mg n = some (.ref (T.cl i))) (IH : AllOk P w K mg base ds T fd G L k) (IHA : ∀ τ, AllOk P w K mg base ds ⟨τ, T.fa, T.cl⟩ fd G L k) : BodyOk P w K mg base d42 T G L k 42 F42 := by
  intro cdv A outer s H E σ0 hr
  have sc := sc42
  have tk : Takes (cxOf (L2.CX P w) P w K mg base d42.N d42.name (defScope d42.st) (T.fa 42) cdv A outer s H E) (fun cls d _ H => E cls d H) := takes_of rfl rfl rfl rfl
  exact (pss_consV (ps_asgV (pe_fn (IH 33 _ rfl) hr rfl rfl (Fx.glo 33 _ rfl) (Fx.fn 33 _ rfl).kp (Fx.bnd 33 _ rfl) tk (pa_any (pe_vV (pv 0)) (pa_any (pe_k pe_int fun _ _ => ⟨rfl, rfl⟩) pa_nilA))) (pg_vV (pg_name (i := 1) sc.nd rfl (by first | exact Or.inl rfl | exact Or.inr rfl))))
    (pss_consV (ps_forV (passes_of rfl) rfl (pi_seqV (pe_fn (IH 35 _ rfl) hr rfl rfl (Fx.glo 35 _ rfl) (Fx.fn 35 _ rfl).kp (Fx.bnd 35 _ rfl) tk (pa_sl (pv 1) (pa_fz (pe_listRV rfl rfl (Fx.fre 13 _ rfl) rfl (Fx.fre 8 _ rfl) (pe_k pe_int fun _ _ => ⟨rfl, rfl⟩)) pa_nilA)))) (pb_v (pg_name (i := 2) sc.nd rfl (by first | exact Or.inl rfl | exact Or.inr rfl))) (pss_consV (ps_forV (passes_of rfl) rfl (pi_seqV (pe_fn (IH 41 _ rfl) hr rfl rfl (Fx.glo 41 _ rfl) (Fx.fn 41 _ rfl).kp (Fx.bnd 41 _ rfl) tk (pa_any (pe_vV (pv 2)) pa_nilA))) (pb_v (pg_name (i := 3) sc.nd rfl (by first | exact Or.inl rfl | exact Or.inr rfl))) (pss_consV (ps_iteV (pt_borV (pt_cmpV (op_neP hr.units) ok_ne (pe_fn (IH 40 _ rfl) hr rfl rfl (Fx.glo 40 _ rfl) (Fx.fn 40 _ rfl).kp (Fx.bnd 40 _ rfl) tk (pa_any (pe_vV (pv 2)) (pa_any (pe_vV (pv 3)) pa_nilA))) (pe_lstV (pa_v (pe_andV (pe_cmpV (op_neP hr.units) ok_ne (pe_vV (pv 2)) (pe_k pe_int fun _ _ => ⟨rfl, rfl⟩) (nomark _)) (pe_one (pe_cmpV (or_notIn hr.units) ok_notIn (pe_vV (pv 2)) (pe_lstV (pa_v (pe_k pe_int fun _ _ => ⟨rfl, rfl⟩) (pa_v (pe_k pe_int fun _ _ => ⟨rfl, rfl⟩) (pa_v (pe_k pe_int fun _ _ => ⟨rfl, rfl⟩) pa_nilV)))) (by with_unfolding_all rfl)))) (pa_v (pe_cmpV (op_eqP hr.units) ok_eq (pe_vV (pv 2)) (pe_k pe_int fun _ _ => ⟨rfl, rfl⟩) (nomark _)) (pa_v (pe_cmpV (or_in hr.units) ok_isIn (pe_vV (pv 2)) (pe_lstV (pa_v (pe_k pe_int fun _ _ => ⟨rfl, rfl⟩) (pa_v (pe_k pe_int fun _ _ => ⟨rfl, rfl⟩) (pa_v (pe_k pe_int fun _ _ => ⟨rfl, rfl⟩) pa_nilV)))) (by with_unfolding_all rfl)) (pa_v (pe_reprV hr rfl (Fx.fre 14 _ rfl) boot_repr (pe_vV (pv 3))) pa_nilV))))) (nomark _))) (pss_consV (ps_retV (pe_k pe_bl fun _ _ => ⟨rfl, rfl⟩))
    pss_nilV) pss_nilV)
    pss_nilV))
    pss_nilV))
    (pss_consV (ps_forV (passes_of rfl) rfl (pi_seqV (pe_fn (IH 41 _ rfl) hr rfl rfl (Fx.glo 41 _ rfl) (Fx.fn 41 _ rfl).kp (Fx.bnd 41 _ rfl) tk (pa_any (pe_k pe_int fun _ _ => ⟨rfl, rfl⟩) pa_nilA))) (pb_v (pg_name (i := 3) sc.nd rfl (by first | exact Or.inl rfl | exact Or.inr rfl))) (pss_consV (ps_iteV (pt_borV (pt_notBV (pe_fn (IH 22 _ rfl) hr rfl rfl (Fx.glo 22 _ rfl) (Fx.fn 22 _ rfl).kp (Fx.bnd 22 _ rfl) tk (pa_any (pe_vV (pv 3)) pa_nilA)))) (pss_consV (ps_retV (pe_k pe_bl fun _ _ => ⟨rfl, rfl⟩))
    pss_nilV) pss_nilV)
    pss_nilV))
    (pss_consV (ps_forV (passes_of rfl) rfl (pi_rng1V (pi_range1 rfl (Fx.fre 8 _ rfl) (pa_v (pe_k pe_int fun _ _ => ⟨rfl, rfl⟩) pa_nilV))) (pb_v (pg_name (i := 2) sc.nd rfl (by first | exact Or.inl rfl | exact Or.inr rfl))) (pss_consV (ps_par2V (i := 3) (j := 4) rfl sc.nd rfl rfl (by decide) rfl rfl (pa_v (pe_lstV (pa_v (pe_k pe_str fun _ _ => ⟨rfl, rfl⟩) pa_nilV)) (pa_v (pe_fz (pe_k pe_non fun _ _ => ⟨rfl, rfl⟩)) pa_nilV)) rfl)
    (pss_alsV (fun τ σ0 => (ps_tryV (k := 0) (n := 5) (dst := 4) rfl rfl rfl sc.nd rfl rfl rfl (by first | exact Or.inl rfl | exact Or.inr rfl) (by first | exact Or.inl rfl | exact Or.inr rfl) Er rfl (by decide) rfl (En 0 _ rfl) fun W pn xe tk pe => (pss_consV (ps_exV (pe_borV (pe_fn (IHA τ 37 _ rfl) hr rfl rfl (Fx.glo 37 _ rfl) (Fx.fn 37 _ rfl).kp (Fx.bnd 37 _ rfl) tk (pa_any (pe_vV (pv 2)) (pa_any (pe_vV (pv 3)) pa_nilA)))))
    pss_nilV)))
    (fun σ0 => (ps_exV (pe_appendV (pv 3) PySem.F.plainAttrs_list PySem.F.slot_list_append PySem.F.type_list_append (pa_v (pe_k pe_str fun _ _ => ⟨rfl, rfl⟩) pa_nilV))))
    (fun τ σ0 => (ps_iteV (pt_borV (pt_of (pw_orV (pt_isNone (pe_vV (pv 4))) (pw_or1V (pt_cmpV (op_neP hr.units) ok_ne (pe_reprV hr rfl (Fx.fre 14 _ rfl) boot_repr (pe_fldV Er rfl (pe_vV (pv 4)))) (pe_reprV hr rfl (Fx.fre 14 _ rfl) boot_repr (pe_vV (pv 3))) (nomark _)))))) (pss_consV (ps_retV (pe_k pe_bl fun _ _ => ⟨rfl, rfl⟩))
    pss_nilV) pss_nilV))
    pss_nilV)))
    (pss_consV (ps_forV (passes_of rfl) rfl (pi_seqV (pe_lstV (pa_v (pe_tupV (pa_v (pe_k pe_int fun _ _ => ⟨rfl, rfl⟩) (pa_v (pe_k pe_str fun _ _ => ⟨rfl, rfl⟩) pa_nilV))) (pa_v (pe_tupV (pa_v (pe_k pe_int fun _ _ => ⟨rfl, rfl⟩) (pa_v (pe_k pe_str fun _ _ => ⟨rfl, rfl⟩) pa_nilV))) (pa_v (pe_tupV (pa_v (pe_k pe_int fun _ _ => ⟨rfl, rfl⟩) (pa_v (pe_k pe_str fun _ _ => ⟨rfl, rfl⟩) pa_nilV))) (pa_v (pe_tupV (pa_v (pe_k pe_int fun _ _ => ⟨rfl, rfl⟩) (pa_v (pe_bin or_mul ok_mul (pe_k pe_str fun _ _ => ⟨rfl, rfl⟩) (pe_k pe_int fun _ _ => ⟨rfl, rfl⟩)) pa_nilV))) (pa_v (pe_tupV (pa_v (pe_k pe_int fun _ _ => ⟨rfl, rfl⟩) (pa_v (pe_k pe_str fun _ _ => ⟨rfl, rfl⟩) pa_nilV))) (pa_v (pe_tupV (pa_v (pe_k pe_int fun _ _ => ⟨rfl, rfl⟩) (pa_v (pe_k pe_int fun _ _ => ⟨rfl, rfl⟩) pa_nilV))) (pa_v (pe_tupV (pa_v (pe_k pe_int fun _ _ => ⟨rfl, rfl⟩) (pa_v (pe_k pe_int fun _ _ => ⟨rfl, rfl⟩) pa_nilV))) (pa_v (pe_tupV (pa_v (pe_k pe_int fun _ _ => ⟨rfl, rfl⟩) (pa_v (pe_k pe_int fun _ _ => ⟨rfl, rfl⟩) pa_nilV))) pa_nilV)))))))))) (pb_tup rfl (pbs_cons (pb_v (pg_name (i := 2) sc.nd rfl (by first | exact Or.inl rfl | exact Or.inr rfl))) (pbs_cons (pb_v (pg_name (i := 6) sc.nd rfl (by first | exact Or.inl rfl | exact Or.inr rfl))) pbs_nil))) (pss_consV (ps_iteV (pt_notNone (pe_fn (IH 40 _ rfl) hr rfl rfl (Fx.glo 40 _ rfl) (Fx.fn 40 _ rfl).kp (Fx.bnd 40 _ rfl) tk (pa_any (pe_vV (pv 2)) (pa_any (pe_vV (pv 6)) pa_nilA)))) (pss_consV (ps_retV (pe_k pe_bl fun _ _ => ⟨rfl, rfl⟩))
    pss_nilV) pss_nilV)
    pss_nilV))
    (pss_consV (ps_retV (pe_fn (IH 36 _ rfl) hr rfl rfl (Fx.glo 36 _ rfl) (Fx.fn 36 _ rfl).kp (Fx.bnd 36 _ rfl) tk (pa_any (pe_lstV (pa_v (pe_fn (IH 6 _ rfl) hr rfl rfl (Fx.glo 6 _ rfl) (Fx.fn 6 _ rfl).kp (Fx.bnd 6 _ rfl) tk (pa_any (pe_k pe_str fun _ _ => ⟨rfl, rfl⟩) pa_nilA)) (pa_v (pe_fn (IH 15 _ rfl) hr rfl rfl (Fx.glo 15 _ rfl) (Fx.fn 15 _ rfl).kp (Fx.bnd 15 _ rfl) tk (pa_any (pe_k pe_int fun _ _ => ⟨rfl, rfl⟩) pa_nilA)) (pa_v (pe_fn (IH 13 _ rfl) hr rfl rfl (Fx.glo 13 _ rfl) (Fx.fn 13 _ rfl).kp (Fx.bnd 13 _ rfl) tk (pa_any (pe_k pe_int fun _ _ => ⟨rfl, rfl⟩) pa_nilA)) pa_nilV)))) (pa_any (pe_lstV (pa_v (pe_k pe_non fun _ _ => ⟨rfl, rfl⟩) (pa_v (pe_k pe_non fun _ _ => ⟨rfl, rfl⟩) (pa_v (pe_k pe_int fun _ _ => ⟨rfl, rfl⟩) pa_nilV)))) pa_nilA))))
    pss_nilV))))))
end
end K90
set_option Elab.async false
set_option linter.all false
set_option maxRecDepth 100000
set_option maxHeartbeats 0
namespace K90
open PL PySem PySem.Spec L2
open PyProof.Rows hiding St
abbrev Lw := PySem.Challenge.rw_lonehall_k90_matches_and_sums_refused
abbrev Rw : PySem.W.OpenRow := PySem.W.OpenLaw.row Lw
def tI : TopI := ⟨Lw.prog, ds, free, cns, clss, par⟩
abbrev hk : PySem.W.Hook := tI.hook 4
def ob (s : PySem.W.SharedT) : AlP := tI.ob 4 (HandSHeadRun.getT s)
theorem ob_eq (s : PySem.W.SharedT) : ob s = hk.obs s.abs := tI.ob_eq
def loose : List Str := (ds.take 42).map (·.name) ++ (cns.map (·.1) ++ clss)
theorem run (w : World) : HandSHeadRun.RunEq Rw (PySem.W.view Rw.prog [55]) hk ob 20000 loose w := by
  intro os
  kernel_rfl
end K90
set_option Elab.async false
set_option linter.all false
set_option maxRecDepth 100000
set_option maxHeartbeats 4000000
/-! what the law of k90 computes, in plain Lean -/
namespace K90
open PL
def LL : Nat := 64
def KK : Nat := 12
def finO : O Fl → Bool
  | .ok (.ret (.bl true)) (_ :: _) => true
  | _ => false
abbrev Cx : Ctx := ⟨G.par, G.const, callF G LL KK, LL, fun i => F42.io.getD i false⟩
/-- the body of the loop over doors -/
def bd : List PL.S := match (F42.body[1]? : Option PL.S) with
  | some (PL.S.for_ _ _ _ b) => b
  | _ => []
def lastOdd (door : Int) : Option D := match callF G LL KK 41 [.int door] with
  | .ok (.lst _ xs) _ => (fzs xs).getLast?
  | _ => none
section
variable (a b x2 x3 x4 x5 x6 : Option D)
theorem t0 : exs Cx bd [a, b, some (.int 0), x3, x4, x5, x6] = .ok .next [a, b, some (.int 0), lastOdd 0, x4, x5, x6] := by kernel_rfl
theorem t1 : exs Cx bd [a, b, some (.int 1), x3, x4, x5, x6] = .ok .next [a, b, some (.int 1), lastOdd 1, x4, x5, x6] := by kernel_rfl
theorem t2 : exs Cx bd [a, b, some (.int 2), x3, x4, x5, x6] = .ok .next [a, b, some (.int 2), lastOdd 2, x4, x5, x6] := by kernel_rfl
theorem t3 : exs Cx bd [a, b, some (.int 3), x3, x4, x5, x6] = .ok .next [a, b, some (.int 3), lastOdd 3, x4, x5, x6] := by kernel_rfl
theorem t4 : exs Cx bd [a, b, some (.int 4), x3, x4, x5, x6] = .ok .next [a, b, some (.int 4), lastOdd 4, x4, x5, x6] := by kernel_rfl
theorem t5 : exs Cx bd [a, b, some (.int 5), x3, x4, x5, x6] = .ok .next [a, b, some (.int 5), lastOdd 5, x4, x5, x6] := by kernel_rfl
theorem t6 : exs Cx bd [a, b, some (.int 6), x3, x4, x5, x6] = .ok .next [a, b, some (.int 6), lastOdd 6, x4, x5, x6] := by kernel_rfl
theorem t7 : exs Cx bd [a, b, some (.int 7), x3, x4, x5, x6] = .ok .next [a, b, some (.int 7), lastOdd 7, x4, x5, x6] := by kernel_rfl
theorem t8 : exs Cx bd [a, b, some (.int 8), x3, x4, x5, x6] = .ok .next [a, b, some (.int 8), lastOdd 8, x4, x5, x6] := by kernel_rfl
theorem t9 : exs Cx bd [a, b, some (.int 9), x3, x4, x5, x6] = .ok .next [a, b, some (.int 9), lastOdd 9, x4, x5, x6] := by kernel_rfl
theorem t10 : exs Cx bd [a, b, some (.int 10), x3, x4, x5, x6] = .ok .next [a, b, some (.int 10), lastOdd 10, x4, x5, x6] := by kernel_rfl
theorem t11 : exs Cx bd [a, b, some (.int 11), x3, x4, x5, x6] = .ok .next [a, b, some (.int 11), lastOdd 11, x4, x5, x6] := by kernel_rfl
theorem t12 : exs Cx bd [a, b, some (.int 12), x3, x4, x5, x6] = .ok .next [a, b, some (.int 12), lastOdd 12, x4, x5, x6] := by kernel_rfl
theorem t13 : exs Cx bd [a, b, some (.int 13), x3, x4, x5, x6] = .ok .next [a, b, some (.int 13), lastOdd 13, x4, x5, x6] := by kernel_rfl
theorem t14 : exs Cx bd [a, b, some (.int 14), x3, x4, x5, x6] = .ok .next [a, b, some (.int 14), lastOdd 14, x4, x5, x6] := by kernel_rfl
theorem t15 : exs Cx bd [a, b, some (.int 15), x3, x4, x5, x6] = .ok .next [a, b, some (.int 15), lastOdd 15, x4, x5, x6] := by kernel_rfl
theorem t16 : exs Cx bd [a, b, some (.int 16), x3, x4, x5, x6] = .ok .next [a, b, some (.int 16), lastOdd 16, x4, x5, x6] := by kernel_rfl
theorem tE : finO (exs Cx (F42.body.drop 2) [a, b, x2, x3, x4, x5, x6]) = true := by kernel_rfl
end
end K90
set_option Elab.async false
set_option linter.all false
set_option maxRecDepth 100000
set_option maxHeartbeats 4000000
namespace K90
open PL
section
variable {C : Ctx} {s g g' x ys : D} {L33 : Nat}
theorem ex_gen {f i : Nat} {rest : List (Option D)} (p : pu s = true) (fs : fz s = s) (ec : C.call f [s, .int 0] = .ok g [none, none]) (pi : C.pin 1 = false) :
    ex C (.asg (.v 1) (.call f [(.v 0), (.k (.int 0))] [] [])) (some s :: none :: rest) = .ok .next (some s :: some g :: rest) := by
  simp [ex, ev, evs, PL.get, O.bind, permute, fzArgs, fzs, fz, fs, p, ec, store, pi]
theorem evs_ord {f : Nat} {n : Int} {xs : List D} {rest : List (Option D)} (el : p_listR [.int n] = some (.lst .own xs)) (ec : C.call f [g, .lst (.sh 0) (fzs xs)] = .ok ys [some g', none]) :
    evs C [(.call f [(.mov 1), (.pr .listR [(.k (.int n))])] [.sl 1, .fz] [])] (some s :: some g :: rest) = .ok [ys] (some s :: some g' :: rest) := by
  refine evs_one ?_
  simp [ev, evs, PL.get, O.bind, permute, fzArgs, O.lift, prim, el, fz, fzs, Fg.fz, ec, putOuts]
end
theorem doors : ∀ d ∈ rangeL 0 17, ∀ a b x3 x4 x5 x6 : Option D, ∃ y, exs Cx bd [a, b, some d, x3, x4, x5, x6] = .ok .next [a, b, some d, y, x4, x5, x6] := by
  intro d hd a b x3 x4 x5 x6
  have e : rangeL 0 17 = [.int 0, .int 1, .int 2, .int 3, .int 4, .int 5, .int 6, .int 7, .int 8, .int 9, .int 10, .int 11, .int 12, .int 13, .int 14, .int 15, .int 16] := rfl
  rw [e] at hd
  simp only [List.mem_cons, List.not_mem_nil, or_false] at hd
  rcases hd with rfl | rfl | rfl | rfl | rfl | rfl | rfl | rfl | rfl | rfl | rfl | rfl | rfl | rfl | rfl | rfl | rfl
  · exact ⟨_, t0 a b x3 x4 x5 x6⟩
  · exact ⟨_, t1 a b x3 x4 x5 x6⟩
  · exact ⟨_, t2 a b x3 x4 x5 x6⟩
  · exact ⟨_, t3 a b x3 x4 x5 x6⟩
  · exact ⟨_, t4 a b x3 x4 x5 x6⟩
  · exact ⟨_, t5 a b x3 x4 x5 x6⟩
  · exact ⟨_, t6 a b x3 x4 x5 x6⟩
  · exact ⟨_, t7 a b x3 x4 x5 x6⟩
  · exact ⟨_, t8 a b x3 x4 x5 x6⟩
  · exact ⟨_, t9 a b x3 x4 x5 x6⟩
  · exact ⟨_, t10 a b x3 x4 x5 x6⟩
  · exact ⟨_, t11 a b x3 x4 x5 x6⟩
  · exact ⟨_, t12 a b x3 x4 x5 x6⟩
  · exact ⟨_, t13 a b x3 x4 x5 x6⟩
  · exact ⟨_, t14 a b x3 x4 x5 x6⟩
  · exact ⟨_, t15 a b x3 x4 x5 x6⟩
  · exact ⟨_, t16 a b x3 x4 x5 x6⟩
theorem loop : ∀ (ds : List D), (∀ d ∈ ds, d ∈ rangeL 0 17) → ∀ a b x2 x3 x4 x5 x6 : Option D, ∃ y2 y3, forLoop (.v 2) (exs Cx bd) ds [a, b, x2, x3, x4, x5, x6] = .ok .next [a, b, y2, y3, x4, x5, x6]
  | [], _, a, b, x2, x3, x4, x5, x6 => ⟨x2, x3, rfl⟩
  | d :: ds, h, a, b, x2, x3, x4, x5, x6 => by
    obtain ⟨y, e⟩ := doors d (h d List.mem_cons_self) a b x3 x4 x5 x6
    obtain ⟨y2, y3, e2⟩ := loop ds (fun z hz => h z (List.mem_cons_of_mem _ hz)) a b (some d) y x4 x5 x6
    refine ⟨y2, y3, ?_⟩
    have eb : bind (.v 2) d [a, b, x2, x3, x4, x5, x6] = some [a, b, some d, x3, x4, x5, x6] := rfl
    unfold forLoop
    rw [eb]
    show (exs Cx bd [a, b, some d, x3, x4, x5, x6]).bind _ = _
    rw [e]
    exact e2
theorem math (ns : List Int) : callF G LL (KK + 1) 42 [.lst (.sh 9) (ns.map .int)] = .ok (.bl true) [none] := by
  obtain ⟨a, b, ha, eg⟩ := gen_ok (G := G) (L := LL) (k := 10) (c := 32) (g := 33) rfl rfl ns 0
  obtain ⟨ys, a', d, eo, pm, _, _, _⟩ := order_ok (G := G) (L := LL) (k := 9) (h := 31) (r := 34) (o := 35) (xs := rangeL 0 17) (a := a) (b := b) (c' := 1000 * ((0 : Nat) : Int)) rfl rfl rfl rfl rfl (by decide) (by decide) ha (by decide) (by decide)
  have pn : pus (ns.map D.int) = true := pus_ints ns
  have f9 : fz (.lst (.sh 9) (ns.map D.int)) = .lst (.sh 9) (ns.map D.int) := congrArg (D.lst (.sh 9)) (fzs_ints ns)
  -- the generator
  have e1 : ex Cx (.asg (.v 1) (.call 33 [(.v 0), (.k (.int 0))] [] [])) [some (.lst (.sh 9) (ns.map .int)), none, none, none, none, none, none] = .ok .next [some (.lst (.sh 9) (ns.map .int)), some (gD a b (1000 * ((0 : Nat) : Int))), none, none, none, none, none] := by
    have ec : Cx.call 33 [.lst (.sh 9) (ns.map .int), .int 0] = .ok (gD a b (1000 * ((0 : Nat) : Int))) [none, none] := eg
    exact ex_gen (i := 0) pn f9 ec rfl
  -- the order
  have e2 : evs Cx [(.call 35 [(.mov 1), (.pr .listR [(.k (.int 17))])] [.sl 1, .fz] [])] [some (.lst (.sh 9) (ns.map .int)), some (gD a b (1000 * ((0 : Nat) : Int))), none, none, none, none, none] = .ok [.lst .own ys] [some (.lst (.sh 9) (ns.map .int)), some (gD a' b d), none, none, none, none, none] := by
    exact evs_ord rfl eo
  have mem : ∀ z ∈ fzs ys, z ∈ rangeL 0 17 := by
    have go : ∀ (l : List D), (∀ z ∈ l, z ∈ rangeL 0 17) → ∀ z ∈ fzs l, z ∈ rangeL 0 17 := by
      intro l
      induction l with
      | nil => exact fun _ z hz => nomatch hz
      | cons x l ih =>
        intro hl z hz
        have hz : z ∈ fz x :: fzs l := hz
        rcases List.mem_cons.mp hz with rfl | hz
        · have hx := hl x List.mem_cons_self
          have e : rangeL 0 17 = [.int 0, .int 1, .int 2, .int 3, .int 4, .int 5, .int 6, .int 7, .int 8, .int 9, .int 10, .int 11, .int 12, .int 13, .int 14, .int 15, .int 16] := rfl
          rw [e] at hx ⊢
          simp only [List.mem_cons, List.not_mem_nil, or_false] at hx
          rcases hx with rfl | rfl | rfl | rfl | rfl | rfl | rfl | rfl | rfl | rfl | rfl | rfl | rfl | rfl | rfl | rfl | rfl <;> simp [fz]
        · exact ih (fun y hy => hl y (List.mem_cons_of_mem _ hy)) z hz
    exact go ys fun z hz => pm.mem_iff.mp hz
  obtain ⟨y2, y3, el⟩ := loop (fzs ys) mem (some (.lst (.sh 9) (ns.map .int))) (some (gD a' b d)) none none none none none
  have tE := tE (some (.lst (.sh 9) (ns.map .int))) (some (gD a' b d)) y2 y3 none none none
  have run : ∃ q env, exs Cx F42.body [some (.lst (.sh 9) (ns.map .int)), none, none, none, none, none, none] = .ok (.ret (.bl true)) (q :: env) := by
    have eb : F42.body = .asg (.v 1) (.call 33 [(.v 0), (.k (.int 0))] [] []) :: .for_ (.v 2) .seq [(.call 35 [(.mov 1), (.pr .listR [(.k (.int 17))])] [.sl 1, .fz] [])] bd :: F42.body.drop 2 := rfl
    rw [eb]
    generalize F42.body.drop 2 = rest at tE
    have e3 : ex Cx (.for_ (.v 2) .seq [(.call 35 [(.mov 1), (.pr .listR [(.k (.int 17))])] [.sl 1, .fz] [])] bd) [some (.lst (.sh 9) (ns.map .int)), some (gD a b (1000 * ((0 : Nat) : Int))), none, none, none, none, none] = .ok .next [some (.lst (.sh 9) (ns.map .int)), some (gD a' b d), y2, y3, none, none, none] := by
      have tg : tgFree Cx.pin (.v 2) = true := rfl
      unfold ex
      rw [if_pos tg, e2]
      exact el
    have e4 : exs Cx (.asg (.v 1) (.call 33 [(.v 0), (.k (.int 0))] [] []) :: .for_ (.v 2) .seq [(.call 35 [(.mov 1), (.pr .listR [(.k (.int 17))])] [.sl 1, .fz] [])] bd :: rest) [some (.lst (.sh 9) (ns.map .int)), none, none, none, none, none, none] = exs Cx rest [some (.lst (.sh 9) (ns.map .int)), some (gD a' b d), y2, y3, none, none, none] := by
      rw [exs, e1]
      show exs Cx (.for_ _ _ _ _ :: rest) _ = _
      rw [exs, e3]
      rfl
    rw [e4]
    generalize exs Cx rest [some (.lst (.sh 9) (ns.map .int)), some (gD a' b d), y2, y3, none, none, none] = z at tE
    unfold finO at tE
    split at tE
    · exact ⟨_, _, rfl⟩
    · cases tE
  obtain ⟨q, env, run⟩ := run
  refine callF_of (F := F42) (env := q :: env) rfl ?_ run rfl
  show (true && ((false || pu (.lst (.sh 9) (ns.map D.int))) && true)) = true
  rw [show pu (.lst (.sh 9) (ns.map D.int)) = true from pn]
  rfl
end K90
set_option Elab.async false
set_option linter.all false
set_option maxRecDepth 100000
set_option maxHeartbeats 0
namespace K90
open PL PySem PySem.Spec L2
open PyProof.Rows hiding St
section
variable {w : World} {K : PySem.W.Frag} {mg : Str → Option Value} {base : Heap} {fd : Nat → FuncData} {L : Nat} {D0 fI cc cda : Addr}
theorem allOk (Fx : ∀ τ : Nat → Addr, Facts K mg ds free cns (tI.T K τ) fd) (Er : ∀ τ : Nat → Addr, Errs Lw.prog K mg par (tI.T K τ).cl D0 fI cc cda) (En : ∀ (τ : Nat → Addr) (i : Nat) (n : Str), clss[i]? = some n → mg n = some (.ref ((tI.T K τ).cl i))) :
    ∀ (k : Nat) (τ : Nat → Addr), AllOk Lw.prog w K mg base ds (tI.T K τ) fd G L k := by
  intro k
  induction k with
  | zero => exact fun τ i d _ => def_0
  | succ k ih =>
    intro τ i d e
    match i, e with
    | 0, e => have e : some d0 = some d := e; cases e; exact def_ok ((Fx τ).fn 0 d0 rfl) sc0 rfl rfl rfl (b0 (T := tI.T K τ) (Fx τ) (Er τ) (En τ) (ih τ))
    | 1, e => have e : some d1 = some d := e; cases e; exact def_ok ((Fx τ).fn 1 d1 rfl) sc1 rfl rfl rfl (b1 (T := tI.T K τ) (Fx τ) (Er τ) (En τ) (ih τ))
    | 2, e => have e : some d2 = some d := e; cases e; exact def_ok ((Fx τ).fn 2 d2 rfl) sc2 rfl rfl rfl (b2 (T := tI.T K τ) (Fx τ) (Er τ) (En τ) (ih τ))
    | 3, e => have e : some d3 = some d := e; cases e; exact def_ok ((Fx τ).fn 3 d3 rfl) sc3 rfl rfl rfl (b3 (T := tI.T K τ) (Fx τ) (Er τ) (En τ) (ih τ))
    | 4, e => have e : some d4 = some d := e; cases e; exact def_ok ((Fx τ).fn 4 d4 rfl) sc4 rfl rfl rfl (b4 (T := tI.T K τ) (Fx τ) (Er τ) (En τ) (ih τ))
    | 5, e => have e : some d5 = some d := e; cases e; exact def_ok ((Fx τ).fn 5 d5 rfl) sc5 rfl rfl rfl (b5 (T := tI.T K τ) (Fx τ) (Er τ) (En τ) (ih τ))
    | 6, e => have e : some d6 = some d := e; cases e; exact def_ok ((Fx τ).fn 6 d6 rfl) sc6 rfl rfl rfl (b6 (T := tI.T K τ) (Fx τ) (Er τ) (En τ) (ih τ))
    | 7, e => have e : some d7 = some d := e; cases e; exact def_ok ((Fx τ).fn 7 d7 rfl) sc7 rfl rfl rfl (b7 (T := tI.T K τ) (Fx τ) (Er τ) (En τ) (ih τ))
    | 8, e => have e : some d8 = some d := e; cases e; exact def_ok ((Fx τ).fn 8 d8 rfl) sc8 rfl rfl rfl (b8 (T := tI.T K τ) (Fx τ) (Er τ) (En τ) (ih τ))
    | 9, e => have e : some d9 = some d := e; cases e; exact def_ok ((Fx τ).fn 9 d9 rfl) sc9 rfl rfl rfl (b9 (T := tI.T K τ) (Fx τ) (Er τ) (En τ) (ih τ))
    | 10, e => have e : some d10 = some d := e; cases e; exact def_ok ((Fx τ).fn 10 d10 rfl) sc10 rfl rfl rfl (b10 (T := tI.T K τ) (Fx τ) (Er τ) (En τ) (ih τ))
    | 11, e => have e : some d11 = some d := e; cases e; exact def_ok ((Fx τ).fn 11 d11 rfl) sc11 rfl rfl rfl (b11 (T := tI.T K τ) (Fx τ) (Er τ) (En τ) (ih τ))
    | 12, e => have e : some d12 = some d := e; cases e; exact def_ok ((Fx τ).fn 12 d12 rfl) sc12 rfl rfl rfl (b12 (T := tI.T K τ) (Fx τ) (Er τ) (En τ) (ih τ))
    | 13, e => have e : some d13 = some d := e; cases e; exact def_ok ((Fx τ).fn 13 d13 rfl) sc13 rfl rfl rfl (b13 (T := tI.T K τ) (Fx τ) (Er τ) (En τ) (ih τ))
    | 14, e => have e : some d14 = some d := e; cases e; exact def_ok ((Fx τ).fn 14 d14 rfl) sc14 rfl rfl rfl (b14 (T := tI.T K τ) (Fx τ) (Er τ) (En τ) (ih τ))
    | 15, e => have e : some d15 = some d := e; cases e; exact def_ok ((Fx τ).fn 15 d15 rfl) sc15 rfl rfl rfl (b15 (T := tI.T K τ) (Fx τ) (Er τ) (En τ) (ih τ))
    | 16, e => have e : some d16 = some d := e; cases e; exact def_ok ((Fx τ).fn 16 d16 rfl) sc16 rfl rfl rfl (b16 (T := tI.T K τ) (Fx τ) (Er τ) (En τ) (ih τ))
    | 17, e => have e : some d17 = some d := e; cases e; exact def_ok ((Fx τ).fn 17 d17 rfl) sc17 rfl rfl rfl (b17 (T := tI.T K τ) (Fx τ) (Er τ) (En τ) (ih τ))
    | 18, e => have e : some d18 = some d := e; cases e; exact def_ok ((Fx τ).fn 18 d18 rfl) sc18 rfl rfl rfl (b18 (T := tI.T K τ) (Fx τ) (Er τ) (En τ) (ih τ))
    | 19, e => have e : some d19 = some d := e; cases e; exact def_ok ((Fx τ).fn 19 d19 rfl) sc19 rfl rfl rfl (b19 (T := tI.T K τ) (Fx τ) (Er τ) (En τ) (ih τ))
    | 20, e => have e : some d20 = some d := e; cases e; exact def_ok ((Fx τ).fn 20 d20 rfl) sc20 rfl rfl rfl (b20 (T := tI.T K τ) (Fx τ) (Er τ) (En τ) (ih τ))
    | 21, e => have e : some d21 = some d := e; cases e; exact def_ok ((Fx τ).fn 21 d21 rfl) sc21 rfl rfl rfl (b21 (T := tI.T K τ) (Fx τ) (Er τ) (En τ) (ih τ))
    | 22, e => have e : some d22 = some d := e; cases e; exact def_ok ((Fx τ).fn 22 d22 rfl) sc22 rfl rfl rfl (b22 (T := tI.T K τ) (Fx τ) (Er τ) (En τ) (ih τ))
    | 23, e => have e : some d23 = some d := e; cases e; exact def_ok ((Fx τ).fn 23 d23 rfl) sc23 rfl rfl rfl (b23 (T := tI.T K τ) (Fx τ) (Er τ) (En τ) (ih τ))
    | 24, e => have e : some d24 = some d := e; cases e; exact def_ok ((Fx τ).fn 24 d24 rfl) sc24 rfl rfl rfl (b24 (T := tI.T K τ) (Fx τ) (Er τ) (En τ) (ih τ))
    | 25, e => have e : some d25 = some d := e; cases e; exact def_ok ((Fx τ).fn 25 d25 rfl) sc25 rfl rfl rfl (b25 (T := tI.T K τ) (Fx τ) (Er τ) (En τ) (ih τ))
    | 26, e => have e : some d26 = some d := e; cases e; exact def_ok ((Fx τ).fn 26 d26 rfl) sc26 rfl rfl rfl (b26 (T := tI.T K τ) (Fx τ) (Er τ) (En τ) (ih τ))
    | 27, e => have e : some d27 = some d := e; cases e; exact def_ok ((Fx τ).fn 27 d27 rfl) sc27 rfl rfl rfl (b27 (T := tI.T K τ) (Fx τ) (Er τ) (En τ) (ih τ))
    | 28, e => have e : some d28 = some d := e; cases e; exact def_ok ((Fx τ).fn 28 d28 rfl) sc28 rfl rfl rfl (b28 (T := tI.T K τ) (Fx τ) (Er τ) (En τ) (ih τ))
    | 29, e => have e : some d29 = some d := e; cases e; exact def_ok ((Fx τ).fn 29 d29 rfl) sc29 rfl rfl rfl (b29 (T := tI.T K τ) (Fx τ) (Er τ) (En τ) (ih τ))
    | 30, e => have e : some d30 = some d := e; cases e; exact def_ok ((Fx τ).fn 30 d30 rfl) sc30 rfl rfl rfl (b30 (T := tI.T K τ) (Fx τ) (Er τ) (En τ) (ih τ))
    | 31, e => have e : some d31 = some d := e; cases e; exact def_ok ((Fx τ).fn 31 d31 rfl) sc31 rfl rfl rfl (b31 (T := tI.T K τ) (Fx τ) (Er τ) (En τ) (ih τ))
    | 32, e => have e : some d32 = some d := e; cases e; exact def_ok ((Fx τ).fn 32 d32 rfl) sc32 rfl rfl rfl (b32 (T := tI.T K τ) (Fx τ) (Er τ) (En τ) (ih τ))
    | 33, e => have e : some d33 = some d := e; cases e; exact def_ok ((Fx τ).fn 33 d33 rfl) sc33 rfl rfl rfl (b33 (T := tI.T K τ) (Fx τ) (Er τ) (En τ) (ih τ))
    | 34, e => have e : some d34 = some d := e; cases e; exact def_ok ((Fx τ).fn 34 d34 rfl) sc34 rfl rfl rfl (b34 (T := tI.T K τ) (Fx τ) (Er τ) (En τ) (ih τ))
    | 35, e => have e : some d35 = some d := e; cases e; exact def_ok ((Fx τ).fn 35 d35 rfl) sc35 rfl rfl rfl (b35 (T := tI.T K τ) (Fx τ) (Er τ) (En τ) (ih τ))
    | 36, e => have e : some d36 = some d := e; cases e; exact def_ok ((Fx τ).fn 36 d36 rfl) sc36 rfl rfl rfl (b36 (T := tI.T K τ) (Fx τ) (Er τ) (En τ) (ih τ))
    | 37, e => have e : some d37 = some d := e; cases e; exact def_ok ((Fx τ).fn 37 d37 rfl) sc37 rfl rfl rfl (b37 (T := tI.T K τ) (Fx τ) (Er τ) (En τ) (ih τ))
    | 38, e => have e : some d38 = some d := e; cases e; exact def_ok ((Fx τ).fn 38 d38 rfl) sc38 rfl rfl rfl (b38 (T := tI.T K τ) (Fx τ) (Er τ) (En τ) (ih τ))
    | 39, e => have e : some d39 = some d := e; cases e; exact def_ok ((Fx τ).fn 39 d39 rfl) sc39 rfl rfl rfl (b39 (T := tI.T K τ) (Fx τ) (Er τ) (En τ) (ih τ))
    | 40, e => have e : some d40 = some d := e; cases e; exact def_ok ((Fx τ).fn 40 d40 rfl) sc40 rfl rfl rfl (b40 (T := tI.T K τ) (Fx τ) (Er τ) (En τ) (ih τ))
    | 41, e => have e : some d41 = some d := e; cases e; exact def_ok ((Fx τ).fn 41 d41 rfl) sc41 rfl rfl rfl (b41 (T := tI.T K τ) (Fx τ) (Er τ) (En τ) (ih τ))
    | 42, e => have e : some d42 = some d := e; cases e; exact def_ok ((Fx τ).fn 42 d42 rfl) sc42 rfl rfl rfl (b42 (T := tI.T K τ) (Fx τ) (Er τ) (En τ) (ih τ) ih)
    | n + 43, e => have q : n + 43 < 43 := (List.getElem?_eq_some_iff.mp e).1; omega
end
theorem bo0 : BindOk d0 := fun _ _ _ _ _ _ us hl => match us, (show us.length = 1 from hl) with | [_], _ => rfl
theorem bo1 : BindOk d1 := fun _ _ _ _ _ _ us hl => match us, (show us.length = 1 from hl) with | [_], _ => rfl
theorem bo2 : BindOk d2 := fun _ _ _ _ _ _ us hl => match us, (show us.length = 1 from hl) with | [_], _ => rfl
theorem bo3 : BindOk d3 := fun _ _ _ _ _ _ us hl => match us, (show us.length = 1 from hl) with | [_], _ => rfl
theorem bo4 : BindOk d4 := fun _ _ _ _ _ _ us hl => match us, (show us.length = 1 from hl) with | [_], _ => rfl
theorem bo5 : BindOk d5 := fun _ _ _ _ _ _ us hl => match us, (show us.length = 1 from hl) with | [_], _ => rfl
theorem bo6 : BindOk d6 := fun _ _ _ _ _ _ us hl => match us, (show us.length = 1 from hl) with | [_], _ => rfl
theorem bo7 : BindOk d7 := fun _ _ _ _ _ _ us hl => match us, (show us.length = 1 from hl) with | [_], _ => rfl
theorem bo8 : BindOk d8 := fun _ _ _ _ _ _ us hl => match us, (show us.length = 1 from hl) with | [_], _ => rfl
theorem bo9 : BindOk d9 := fun _ _ _ _ _ _ us hl => match us, (show us.length = 1 from hl) with | [_], _ => rfl
theorem bo10 : BindOk d10 := fun _ _ _ _ _ _ us hl => match us, (show us.length = 1 from hl) with | [_], _ => rfl
theorem bo11 : BindOk d11 := fun _ _ _ _ _ _ us hl => match us, (show us.length = 4 from hl) with | [_, _, _, _], _ => rfl
theorem bo12 : BindOk d12 := fun _ _ _ _ _ _ us hl => match us, (show us.length = 1 from hl) with | [_], _ => rfl
theorem bo13 : BindOk d13 := fun _ _ _ _ _ _ us hl => match us, (show us.length = 1 from hl) with | [_], _ => rfl
theorem bo14 : BindOk d14 := fun _ _ _ _ _ _ us hl => match us, (show us.length = 2 from hl) with | [_, _], _ => rfl
theorem bo15 : BindOk d15 := fun _ _ _ _ _ _ us hl => match us, (show us.length = 1 from hl) with | [_], _ => rfl
theorem bo16 : BindOk d16 := fun _ _ _ _ _ _ us hl => match us, (show us.length = 1 from hl) with | [_], _ => rfl
theorem bo17 : BindOk d17 := fun _ _ _ _ _ _ us hl => match us, (show us.length = 2 from hl) with | [_, _], _ => rfl
theorem bo18 : BindOk d18 := fun _ _ _ _ _ _ us hl => match us, (show us.length = 2 from hl) with | [_, _], _ => rfl
theorem bo19 : BindOk d19 := fun _ _ _ _ _ _ us hl => match us, (show us.length = 2 from hl) with | [_, _], _ => rfl
theorem bo20 : BindOk d20 := fun _ _ _ _ _ _ us hl => match us, (show us.length = 2 from hl) with | [_, _], _ => rfl
theorem bo21 : BindOk d21 := fun _ _ _ _ _ _ us hl => match us, (show us.length = 3 from hl) with | [_, _, _], _ => rfl
theorem bo22 : BindOk d22 := fun _ _ _ _ _ _ us hl => match us, (show us.length = 1 from hl) with | [_], _ => rfl
theorem bo23 : BindOk d23 := fun _ _ _ _ _ _ us hl => match us, (show us.length = 1 from hl) with | [_], _ => rfl
theorem bo24 : BindOk d24 := fun _ _ _ _ _ _ us hl => match us, (show us.length = 3 from hl) with | [_, _, _], _ => rfl
theorem bo25 : BindOk d25 := fun _ _ _ _ _ _ us hl => match us, (show us.length = 1 from hl) with | [_], _ => rfl
theorem bo26 : BindOk d26 := fun _ _ _ _ _ _ us hl => match us, (show us.length = 1 from hl) with | [_], _ => rfl
theorem bo27 : BindOk d27 := fun _ _ _ _ _ _ us hl => match us, (show us.length = 2 from hl) with | [_, _], _ => rfl
theorem bo28 : BindOk d28 := fun _ _ _ _ _ _ us hl => match us, (show us.length = 1 from hl) with | [_], _ => rfl
theorem bo29 : BindOk d29 := fun _ _ _ _ _ _ us hl => match us, (show us.length = 2 from hl) with | [_, _], _ => rfl
theorem bo30 : BindOk d30 := fun _ _ _ _ _ _ us hl => match us, (show us.length = 1 from hl) with | [_], _ => rfl
theorem bo31 : BindOk d31 := fun _ _ _ _ _ _ us hl => match us, (show us.length = 2 from hl) with | [_, _], _ => rfl
theorem bo32 : BindOk d32 := fun _ _ _ _ _ _ us hl => match us, (show us.length = 2 from hl) with | [_, _], _ => rfl
theorem bo33 : BindOk d33 := fun _ _ _ _ _ _ us hl => match us, (show us.length = 2 from hl) with | [_, _], _ => rfl
theorem bo34 : BindOk d34 := fun _ _ _ _ _ _ us hl => match us, (show us.length = 2 from hl) with | [_, _], _ => rfl
theorem bo35 : BindOk d35 := fun _ _ _ _ _ _ us hl => match us, (show us.length = 2 from hl) with | [_, _], _ => rfl
theorem bo36 : BindOk d36 := fun _ _ _ _ _ _ us hl => match us, (show us.length = 2 from hl) with | [_, _], _ => rfl
theorem bo37 : BindOk d37 := fun _ _ _ _ _ _ us hl => match us, (show us.length = 2 from hl) with | [_, _], _ => rfl
theorem bo38 : BindOk d38 := fun _ _ _ _ _ _ us hl => match us, (show us.length = 2 from hl) with | [_, _], _ => rfl
theorem bo39 : BindOk d39 := fun _ _ _ _ _ _ us hl => match us, (show us.length = 2 from hl) with | [_, _], _ => rfl
theorem bo40 : BindOk d40 := fun _ _ _ _ _ _ us hl => match us, (show us.length = 2 from hl) with | [_, _], _ => rfl
theorem bo41 : BindOk d41 := fun _ _ _ _ _ _ us hl => match us, (show us.length = 1 from hl) with | [_], _ => rfl
theorem bo42 : BindOk d42 := fun _ _ _ _ _ _ us hl => match us, (show us.length = 1 from hl) with | [_], _ => rfl
theorem bindOk : ∀ d ∈ tI.ds, BindOk d := by
  intro d hd
  simp only [tI, ds, List.mem_cons, List.not_mem_nil, or_false] at hd
  rcases hd with rfl | rfl | rfl | rfl | rfl | rfl | rfl | rfl | rfl | rfl | rfl | rfl | rfl | rfl | rfl | rfl | rfl | rfl | rfl | rfl | rfl | rfl | rfl | rfl | rfl | rfl | rfl | rfl | rfl | rfl | rfl | rfl | rfl | rfl | rfl | rfl | rfl | rfl | rfl | rfl | rfl | rfl | rfl
  · exact bo0
  · exact bo1
  · exact bo2
  · exact bo3
  · exact bo4
  · exact bo5
  · exact bo6
  · exact bo7
  · exact bo8
  · exact bo9
  · exact bo10
  · exact bo11
  · exact bo12
  · exact bo13
  · exact bo14
  · exact bo15
  · exact bo16
  · exact bo17
  · exact bo18
  · exact bo19
  · exact bo20
  · exact bo21
  · exact bo22
  · exact bo23
  · exact bo24
  · exact bo25
  · exact bo26
  · exact bo27
  · exact bo28
  · exact bo29
  · exact bo30
  · exact bo31
  · exact bo32
  · exact bo33
  · exact bo34
  · exact bo35
  · exact bo36
  · exact bo37
  · exact bo38
  · exact bo39
  · exact bo40
  · exact bo41
  · exact bo42
theorem okcN : ∀ k, okc par k = true → k < clss.length
  | 0, _ => by decide
  | 1, _ => by decide
  | 2, _ => by decide
  | 3, _ => by decide
  | n + 4, h => nomatch (show false = true from h)
theorem law_end (hM : ∀ ns : List Int, ns.length ≤ 63 → callF G LL (KK + 1) 42 [.lst (.sh 9) (ns.map .int)] = .ok (.bl true) [none]) : Lw.Holds := by
  open PySem.W in
  w_on; o_law
  refine HandSHeadRun.head_any (r := PySem.W.OpenLaw.row Lw) (q := PySem.W.view (PySem.W.OpenLaw.row Lw).prog [55]) (H := hk) (ob := ob) (M := 20000) (loose := loose) (d := HandSHeadRun.topDef (PySem.W.OpenLaw.row Lw).prog 55) (kwd := []) ob_eq
    (by kernel_rfl) (fun s => by kernel_rfl) run (by kernel_rfl) (by kernel_rfl) (by kernel_rfl) (by rfl) (by first | assumption | decide +kernel) (by decide +kernel) ⟨rfl, rfl, rfl, rfl, rfl, by decide +kernel⟩ ?hw ?hc
  case hw => w_witness2
  case hc =>
    refine PL.walk_ofG (l := Lw) (n := 63) (k := KK + 1) (x := "script") rfl (by decide) (by kernel_rfl) ⟨rfl, by decide, by decide⟩ ?F
    intro w mg fa a h Y M hmg0
    obtain ⟨K, KX, c⟩ := Y
    have hmg : mg ("law" : PySem.Str) = some (.ref fa) := by
      have e : (HandSHeadRun.topDef (PySem.W.OpenLaw.row Lw).prog 55).name = ("law" : PySem.Str) := by kernel_rfl
      rw [← e]
      exact hmg0
    obtain ⟨fd, Fx⟩ := tI.facts KX M c ⟨d0, rfl⟩ bindOk
    obtain ⟨⟨D0, fI, cc, cda, Er⟩, En⟩ := tI.errs KX M c okcN
    have eg : (tI.T K fun _ => a).fa 42 = fa := by
      have q := hmg.symm.trans ((Fx fun _ => a).glo 42 d42 rfl)
      cases q
      rfl
    refine ⟨K, fd 42, spF ⟨K, Lw.prog, w, fun _ => a, (tI.T K fun _ => a).fa, (tI.T K fun _ => a).cl⟩ G LL (KK + 1) 42, KX, fun s v => ?_, fun H ns hl hS => prom_of rfl hS (hM ns hl), fun base hb hg => ?_⟩
    · have b := FunD.bindsA (ps := ["script"]) ((Fx fun _ => a).fn 42 d42 rfl) bo42
      exact b s [v] rfl
    · have r := allOk (w := w) (base := base) (L := LL) Fx Er En (KK + 1) (fun _ => a) 42 d42 rfl
      rw [eg] at r
      exact r
end K90
theorem PySem.Challenge.cw_lonehall_k90_matches_and_sums_refused_holds : PySem.Challenge.rw_lonehall_k90_matches_and_sums_refused.Holds :=
  K90.law_end fun ns _ => K90.math ns
