import PyProof.Rows.All
import Wide.All
import OpenK.AllK
import Wide.FinOn
import HandS.ForMost
import HandS.Exc
import HandS.Wide
import HandS.Deep
import KE.SortData
import HandS.CallSlots
import HandS.Defaults
import HandS.WordsExc
import PyProof.Rows.InDataRows
import HandS.Iter
import HandS.TupMul
import PyProof.StrBlock2
import KE.DataCmp
import HandS.TupLen
import HandS.IsInst
import HandS.TupAny
import HandS.Conv
import KE.KDictSum
import KE.DataMinMax
import HandS.RevTup
import HandS.Rev
import PyProof.ListNew
import HandS.Style
import PyProof.ListStr
import PyProof.Rows.StrRev
import HandS.TupSets
import KE.KeyNested
import KE.DatumOrd
import KE.GoesMore
import HandS.StrMore
import HandS.Small
import HandS.SetFor
import HandS.More
import KE.KStateDown
import HandS.Ends
import HandS.Head0
import HandS.Head1
import HandS.Head2
import HandS.HeadEnd
import HandS.HeadHook1
import HandS.HeadHook2
import PySem.Challenge.RW_coverpieces_k15_placements_are_just_thes
set_option Elab.async false
set_option autoImplicit false
set_option linter.all false
/-! MP: a small language of pure values with ownership flags, and its evaluator. -/
namespace MP
open PySem

/-! ### values -/
inductive D where
  | non | bl (b : Bool) | int (i : Int) | str (s : List Nat)
  | tup (o : Bool) (xs : List D)
  | lst (o : Bool) (xs : List D)
  | dic (o : Bool) (kd : Nat) (ks : List D) (vs : List D)
  | set (xs : List D)
  | ins (o : Bool) (c : Nat) (fn : List Str) (vs : List D)
  | exn (c : Nat)
  deriving Inhabited, Repr

/-- something within may be changed by its holder alone -/
def D.fl : D → Bool
  | .tup o _ => o
  | .lst o _ => o
  | .dic o _ _ _ => o
  | .ins o _ _ _ => o
  | _ => false

def D.kind : D → Nat
  | .non => 0 | .bl _ => 1 | .int _ => 2 | .str _ => 3 | .tup _ _ => 4 | .lst _ _ => 5 | .dic _ _ _ _ => 6 | .set _ => 7 | .ins _ _ _ _ => 8 | .exn _ => 9

mutual
/-- given up: nothing within is changed any more -/
def D.frz : D → D
  | .tup o xs => .tup false (if o then frzs xs else xs)
  | .lst o xs => .lst false (if o then frzs xs else xs)
  | .dic o kd ks vs => .dic false kd ks (if o then frzs vs else vs)
  | .ins o c fn vs => .ins false c fn (if o then frzs vs else vs)
  | d => d
def frzs : List D → List D
  | [] => []
  | d :: ds => d.frz :: frzs ds
end

mutual
def D.toP : D → PyData
  | .non => .none
  | .bl b => .bool b
  | .int i => .int i
  | .str s => .str ⟨s.toArray⟩
  | .tup _ xs => .tuple (toPs xs)
  | .lst _ xs => .list (toPs xs)
  | .dic _ _ _ _ => .dict []
  | .set _ => .dict []
  | .ins _ _ _ _ => .dict []
  | .exn _ => .dict []
def toPs : List D → List PyData
  | [] => []
  | d :: ds => d.toP :: toPs ds
end

mutual
/-- data of none, bools, ints, texts, tuples, lists, at most n deep -/
def D.sh : Nat → D → Bool
  | _, .non => true
  | _, .bl _ => true
  | _, .int _ => true
  | _, .str s => s.all fun c => decide (c < 1114112)
  | n + 1, .tup _ xs => shs n xs
  | n + 1, .lst _ xs => shs n xs
  | _, _ => false
def shs : Nat → List D → Bool
  | _, [] => true
  | n, d :: ds => d.sh n && shs n ds
end

def eqD (a b : D) : Bool := PyData.eqv a.toP b.toP
def ltD (a b : D) : Bool := PySem.W.dataLt a.toP b.toP
def lim : Nat := 16777216

/-! ### operations -/
inductive Ty where
  | int | bool | str | tuple | list | cls (c : Nat)
  deriving DecidableEq, Repr, Inhabited
inductive Op where
  | add | sub | mul | rep | fdiv | mod | pow | neg
  | eq | ne | lt | le | gt | ge | isN | notN | isF | notF | mem | nmem
  | ix | sl (lo hi : Bool) | rev
  | len | abs | min1 | max1 | min1g | max1g | min2 | max2 | min2g | max2g | sum | any | all | sorted | sortedg | set | list | listg | tuple | int | intg | str | lrev | lrng
  | upper | lower | isupper | islower | isalpha | find | count | join | split | starts | get1 | get2 | index | values | sortset | lenset | lcount
  | isi (ts : List Ty)
  deriving DecidableEq, Repr, Inhabited

@[irreducible] def mulOk (i j : Int) : Bool := (decide (-(2 ^ 64) < i) && decide (i < 2 ^ 64)) || (decide (-(2 ^ 64) < j) && decide (j < 2 ^ 64)) || (decide (i.natAbs < 2 ^ 4000) && decide (j.natAbs < 2 ^ 4000))
@[irreducible] def divOk (j : Int) : Bool := decide (0 < j) && decide (j < 2 ^ 4000)
def up1 (c : Nat) : Nat := if 97 ≤ c && c ≤ 122 then c - 32 else c
def lo1 (c : Nat) : Nat := if 65 ≤ c && c ≤ 90 then c + 32 else c
def ascii (s : List Nat) : Bool := s.all fun c => decide (c < 128)
def isUp (c : Nat) : Bool := 65 ≤ c && c ≤ 90
def isLo (c : Nat) : Bool := 97 ≤ c && c ≤ 122
def cutL {α : Type} (xs : List α) (lo hi : Option Int) : List α := (xs.drop (HT.sIx xs.length 0 lo)).take (HT.sIx xs.length xs.length hi - HT.sIx xs.length 0 lo)
def spl (c : Nat) : List Nat → List (List Nat)
  | [] => [[]]
  | x :: xs => if x = c then [] :: spl c xs else match spl c xs with
    | [] => [[x]]
    | w :: ws => (x :: w) :: ws
def joinS (sep : List Nat) : List (List Nat) → List Nat
  | [] => []
  | [x] => x
  | x :: y :: r => x ++ sep ++ joinS sep (y :: r)
def digs (i : Int) : List Nat := (Str.ofString (toString i)).cps.toList
def num? (s : List Nat) : Option Int := if s.all (fun c => 48 ≤ c && c ≤ 57) && !s.isEmpty && decide (s.length ≤ 600) then some ((s.foldl (fun a c => a * 10 + (c - 48)) 0 : Nat) : Int) else none
def dedup : List D → List D
  | [] => []
  | d :: ds => let r := dedup ds; if r.any (eqD d) then r else d :: r
def strs? : List D → Option (List (List Nat))
  | [] => some []
  | .str s :: ds => (strs? ds).map (s :: ·)
  | _ => none
def ints? : List D → Option (List Int)
  | [] => some []
  | .int s :: ds => (ints? ds).map (s :: ·)
  | _ => none
def bls? : List D → Option (List Bool)
  | [] => some []
  | .bl s :: ds => (bls? ds).map (s :: ·)
  | _ => none
/-- items of a list or tuple -/
def D.its : D → Option (List D)
  | .tup _ xs => some xs
  | .lst _ xs => some xs
  | _ => none
def isNon : D → Bool
  | .non => true
  | _ => false
def unfl (ds : List D) : Bool := ds.all fun d => !d.fl
def nice (d : D) : Bool := d.sh 60
def sortOk (ds : List D) : Bool := ds.all nice && (ds.all fun d => ds.all fun e => PySem.W.alike d.toP e.toP) && ((ds.all fun d => match d with | .tup _ (_ :: _) => true | _ => false) || (ds.all fun d => match d with | .tup _ _ => false | .non => false | _ => true))
def sortD (ds : List D) : List D := ds.mergeSort fun a b => !ltD b a
/-- the first of the least -/
def minD : List D → D → D
  | [], m => m
  | d :: ds, m => minD ds (if ltD d m then d else m)
def maxD : List D → D → D
  | [], m => m
  | d :: ds, m => maxD ds (if ltD m d then d else m)
def minI : List Int → Int → Int
  | [], m => m
  | d :: ds, m => minI ds (if d < m then d else m)
def maxI : List Int → Int → Int
  | [], m => m
  | d :: ds, m => maxI ds (if m < d then d else m)
def lookD (k : D) : List D → List D → Option D
  | a :: ks, v :: vs => if eqD a k then some v else lookD k ks vs
  | _, _ => none
def tyOf (sub : Nat → Nat → Bool) : D → Ty → Bool
  | .bl _, .bool => true
  | .bl _, .int => true
  | .int _, .int => true
  | .str _, .str => true
  | .tup _ _, .tuple => true
  | .lst _ _, .list => true
  | .exn c, .cls k => sub c k
  | .ins _ c _ _, .cls k => c == k
  | _, _ => false

/-- keys of dicts: ints and texts, or tuples of them -/
def keyK : D → Option L2.Key
  | .int i => some (.inl i)
  | .str s => some (.inr ⟨s.toArray⟩)
  | _ => none
def keysK : List D → Option (List L2.Key)
  | [] => some []
  | d :: ds => (keyK d).bind fun k => (keysK ds).map (k :: ·)
def keyT : D → Option (List L2.Key)
  | .tup _ ds => keysK ds
  | _ => none
def keyOk (kd : Nat) (k : D) : Bool := nice k && !k.fl && (if kd = 0 then (keyK k).isSome else if kd = 1 then (keyT k).isSome else false)
/-- a part of a list, tuple, text -/
def slD (d : D) (lo hi : Option Int) : Option D := match d with
  | .lst _ xs => if unfl xs then some (.lst true (cutL xs lo hi)) else none
  | .tup _ xs => if unfl xs then some (.tup false (cutL xs lo hi)) else none
  | .str s => some (.str (cutL s lo hi))
  | _ => none
def o_add : List D → Option D
  | [.int i, .int j] => some (.int (i + j))
  | [.str s, .str t] => if s.length + t.length ≤ lim then some (.str (s ++ t)) else none
  | [.lst _ xs, .lst _ ys] => if xs.length + ys.length ≤ lim && unfl xs && unfl ys then some (.lst true (xs ++ ys)) else none
  | [.tup _ xs, .tup _ ys] => if xs.length + ys.length ≤ lim && unfl xs && unfl ys then some (.tup false (xs ++ ys)) else none
  | _ => none
def o_sub : List D → Option D
  | [.int i, .int j] => some (.int (i - j))
  | _ => none
def o_mul : List D → Option D
  | [.int i, .int j] => if mulOk i j then some (.int (i * j)) else none
  | [.str s, .int j] => if s.length * j.toNat ≤ lim && decide (j < 2 ^ 60) && decide (-(2 ^ 60) < j) then some (.str (List.replicate j.toNat s).flatten) else none
  | [.lst true xs, .int j] => if xs.length * j.toNat ≤ lim && unfl xs && decide (j < 2 ^ 60) && decide (-(2 ^ 60) < j) then some (.lst true (List.replicate j.toNat xs).flatten) else none
  | [.tup _ xs, .int j] => if decide (xs.length ≤ 1000) && unfl xs && decide (j ≤ 1000) && decide (2 ≤ j) && !xs.isEmpty then some (.tup false (List.replicate j.toNat xs).flatten) else none
  | _ => none
def o_rep : List D → Option D
  | [.str s, .int j] => if s.length * j.toNat ≤ lim && decide (j < 2 ^ 60) && decide (-(2 ^ 60) < j) then some (.str (List.replicate j.toNat s).flatten) else none
  | [.lst _ xs, .int j] => if xs.length * j.toNat ≤ lim && unfl xs && decide (j < 2 ^ 60) && decide (-(2 ^ 60) < j) then some (.lst true (List.replicate j.toNat xs).flatten) else none
  | [.tup _ xs, .int j] => if xs.length * j.toNat ≤ lim && unfl xs && decide (j < 2 ^ 60) && decide (-(2 ^ 60) < j) then some (.tup false (List.replicate j.toNat xs).flatten) else none
  | _ => none
def o_fdiv : List D → Option D
  | [.int i, .int j] => if divOk j then some (.int (i / j)) else none
  | _ => none
def o_mod : List D → Option D
  | [.int i, .int j] => if 0 < j then some (.int (i % j)) else none
  | _ => none
def o_pow : List D → Option D
  | [.int i, .int j] => if 0 ≤ j && j ≤ 100000 && i.natAbs ≤ 1000 then some (.int (i ^ j.toNat)) else none
  | _ => none
def o_neg : List D → Option D
  | [.int i] => some (.int (-i))
  | _ => none
/-- lists of unlike length -/
def neLen : D → D → Bool
  | .lst _ xs, .lst _ ys => decide (xs.length ≠ ys.length)
  | _, _ => false
def o_eq : List D → Option D
  | [a, b] => if nice a && nice b then some (.bl (eqD a b)) else if neLen a b then some (.bl false) else none
  | _ => none
def o_ne : List D → Option D
  | [a, b] => if nice a && nice b then some (.bl (!eqD a b)) else if neLen a b then some (.bl true) else none
  | _ => none
def o_lt : List D → Option D
  | [.int i, .int j] => some (.bl (decide (i < j)))
  | [.str s, .str t] => some (.bl (decide (s < t)))
  | [.tup o xs, .tup p ys] => if nice (.tup o xs) && nice (.tup p ys) && PySem.W.alike (D.tup o xs).toP (D.tup p ys).toP then some (.bl (ltD (.tup o xs) (.tup p ys))) else none
  | _ => none
def o_le : List D → Option D
  | [.int i, .int j] => some (.bl (decide (i ≤ j)))
  | [.str s, .str t] => some (.bl (decide (s ≤ t)))
  | _ => none
def o_gt : List D → Option D
  | [.int i, .int j] => some (.bl (decide (j < i)))
  | _ => none
def o_ge : List D → Option D
  | [.int i, .int j] => some (.bl (decide (j ≤ i)))
  | _ => none
def o_isN : List D → Option D
  | [d] => some (.bl (isNon d))
  | _ => none
def o_notN : List D → Option D
  | [d] => some (.bl (!isNon d))
  | _ => none
def o_isF : List D → Option D
  | [.bl b] => some (.bl (!b))
  | _ => none
def o_notF : List D → Option D
  | [.bl b] => some (.bl b)
  | _ => none
def o_mem : List D → Option D
  | [.str s, .str t] => match s with | [c] => some (.bl (t.contains c)) | _ => none
  | [d, .dic _ kd ks vs] => if keyOk kd d then some (.bl (lookD d ks vs).isSome) else none
  | [d, .lst _ xs] => if nice d && xs.all nice then some (.bl (xs.any fun x => eqD x d)) else none
  | [d, .tup _ xs] => if nice d && xs.all nice then some (.bl (xs.any fun x => eqD x d)) else none
  | _ => none
def o_nmem : List D → Option D
  | [.str s, .str t] => match s with | [c] => some (.bl (!t.contains c)) | _ => none
  | [d, .dic _ kd ks vs] => if keyOk kd d then some (.bl (!(lookD d ks vs).isSome)) else none
  | [d, .lst _ xs] => if nice d && xs.all nice then some (.bl (!xs.any fun x => eqD x d)) else none
  | [d, .tup _ xs] => if nice d && xs.all nice then some (.bl (!xs.any fun x => eqD x d)) else none
  | _ => none
def o_ix : List D → Option D
  | [.lst _ xs, .int i] => (L2.atI xs i).bind fun d => if d.fl then none else some d
  | [.tup _ xs, .int i] => (L2.atI xs i).bind fun d => if d.fl then none else some d
  | [.str s, .int i] => (L2.atI s i).map fun c => .str [c]
  | [.dic _ kd ks vs, k] => if keyOk kd k then (lookD k ks vs).bind fun d => if d.fl then none else some d else none
  | _ => none
def o_sl (lo hi : Bool) : List D → Option D
  | d :: as => match lo, hi, as with
    | true, true, [.int i, .int j] => slD d (some i) (some j)
    | true, false, [.int i] => slD d (some i) none
    | false, true, [.int j] => slD d none (some j)
    | false, false, [] => slD d none none
    | _, _, _ => none
  | _ => none
def o_rev : List D → Option D
  | [.lst _ xs] => if unfl xs then some (.lst true xs.reverse) else none
  | [.str s] => some (.str s.reverse)
  | _ => none
def o_len : List D → Option D
  | [.str s] => some (.int s.length)
  | [.lst _ xs] => some (.int xs.length)
  | [.tup _ xs] => some (.int xs.length)
  | [.dic _ _ ks _] => some (.int ks.length)
  | [.set xs] => some (.int xs.length)
  | _ => none
def o_abs : List D → Option D
  | [.int i] => some (.int (if i < 0 then -i else i))
  | _ => none
def o_min2 : List D → Option D
  | [.int i, .int j] => some (.int (if j < i then j else i))
  | [.str s, .str t] => some (.str (if t < s then t else s))
  | _ => none
def o_max2 : List D → Option D
  | [.int i, .int j] => some (.int (if j > i then j else i))
  | [.str s, .str t] => some (.str (if s < t then t else s))
  | _ => none
def o_min1 : List D → Option D
  | [.lst _ xs] => match ints? xs with
    | some (i :: is) => some (.int (minI is i))
    | _ => match xs with
      | x :: ys => if sortOk (x :: ys) && unfl (x :: ys) then some (minD ys x) else none
      | [] => none
  | _ => none
def o_min1g : List D → Option D
  | [d] => match d.its with | some (x :: xs) => if sortOk (x :: xs) && unfl (x :: xs) then some (minD xs x) else none | _ => none
  | _ => none
def o_max1 : List D → Option D
  | [.lst _ xs] => match ints? xs with
    | some (i :: is) => some (.int (maxI is i))
    | _ => match xs with
      | x :: ys => if sortOk (x :: ys) && unfl (x :: ys) then some (maxD ys x) else none
      | [] => none
  | _ => none
def o_max1g : List D → Option D
  | [d] => match d.its with | some (x :: xs) => if sortOk (x :: xs) && unfl (x :: xs) then some (maxD xs x) else none | _ => none
  | _ => none
def o_sum : List D → Option D
  | [.lst _ xs] => (ints? xs).map fun is => .int is.sum
  | _ => none
def o_any : List D → Option D
  | [.lst _ xs] => (bls? xs).map fun is => .bl (is.any id)
  | _ => none
def o_all : List D → Option D
  | [.lst _ xs] => (bls? xs).map fun is => .bl (is.all id)
  | _ => none
def o_sorted : List D → Option D
  | [.lst _ xs] => if sortOk xs && unfl xs then some (.lst true (sortD xs)) else none
  | [.tup _ xs] => if sortOk xs && unfl xs then some (.lst true (sortD xs)) else none
  | [.set xs] => if sortOk xs && unfl xs then some (.lst true (sortD xs)) else none
  | [.dic _ _ ks _] => if sortOk ks && unfl ks then some (.lst true (sortD ks)) else none
  | _ => none
def o_set : List D → Option D
  | [d] => d.its.bind fun xs => if xs.all nice && unfl xs then some (.set (dedup xs)) else none
  | _ => none
def o_list : List D → Option D
  | [.lst _ xs] => if unfl xs then some (.lst true xs) else none
  | [.tup _ xs] => if unfl xs then some (.lst true xs) else none
  | [.str s] => some (.lst true (s.map fun c => .str [c]))
  | [.dic _ _ ks _] => if unfl ks then some (.lst true ks) else none
  | _ => none
def o_tuple : List D → Option D
  | [.lst _ xs] => if unfl xs then some (.tup false xs) else none
  | [.tup _ xs] => if unfl xs then some (.tup false xs) else none
  | [.set xs] => none
  | _ => none
def o_lrev : List D → Option D
  | [.lst _ xs] => if unfl xs then some (.lst true xs.reverse) else none
  | _ => none
def o_lrng : List D → Option D
  | [.int i, .int j] => if decide (-(2 ^ 60) < i) && decide (j < 2 ^ 60) && decide ((j - i).toNat ≤ lim) then some (.lst true ((List.range (j - i).toNat).map fun (k : Nat) => .int (i + (k : Int)))) else none
  | _ => none
def o_int : List D → Option D
  | [.int i] => some (.int i)
  | [.bl b] => some (.int (if b then 1 else 0))
  | [.str s] => (num? s).map .int
  | _ => none
def o_str : List D → Option D
  | [.int i] => if decide (i.natAbs.log2 < 1900) && decide ((digs i).length ≤ lim) then some (.str (digs i)) else none
  | _ => none
def o_upper : List D → Option D
  | [.str s] => if ascii s && decide (s.length ≤ 5592405) then some (.str (s.map up1)) else none
  | _ => none
def o_lower : List D → Option D
  | [.str s] => if ascii s && decide (s.length ≤ 5592405) then some (.str (s.map lo1)) else none
  | _ => none
def o_isupper : List D → Option D
  | [.str [c]] => if c < 128 then some (.bl (isUp c)) else none
  | _ => none
def o_islower : List D → Option D
  | [.str [c]] => if c < 128 then some (.bl (isLo c)) else none
  | _ => none
def o_isalpha : List D → Option D
  | [.str [c]] => if c < 128 then some (.bl (isUp c || isLo c)) else none
  | _ => none
def o_find : List D → Option D
  | [.str s, .str [c]] => some (.int (match s.findIdx? (· == c) with | some i => i | none => -1))
  | _ => none
def o_count : List D → Option D
  | [.str s, .str [c]] => some (.int (s.count c))
  | [.lst _ xs, .int i] => (ints? xs).map fun is => .int (is.count i)
  | _ => none
def o_join : List D → Option D
  | [.str s, d] => (d.its.bind strs?).bind fun ts => if (joinS s ts).length + s.length ≤ lim then some (.str (joinS s ts)) else none
  | _ => none
def o_split : List D → Option D
  | [.str s, .str [c]] => if s.length < lim - 4 then some (.lst true ((spl c s).map .str)) else none
  | _ => none
def o_starts : List D → Option D
  | [.str s, .str t] => some (.bl (t.isPrefixOf s))
  | _ => none
def o_get1 : List D → Option D
  | [.dic _ kd ks vs, k] => if keyOk kd k then match lookD k ks vs with | some d => if d.fl then none else some d | none => some .non else none
  | _ => none
def o_get2 : List D → Option D
  | [.dic _ kd ks vs, k, e] => if keyOk kd k then match lookD k ks vs with | some d => if d.fl then none else some d | none => if e.fl then none else some e else none
  | _ => none
def o_index : List D → Option D
  | [.lst _ xs, d] => if nice d && xs.all nice then match xs.findIdx? (fun x => eqD x d) with | some i => some (.int i) | none => none else none
  | _ => none
def o_lcount : List D → Option D
  | [.lst _ xs, .int i] => (ints? xs).map fun is => .int (is.count i)
  | _ => none
def o_values : List D → Option D
  | [.dic _ _ _ vs] => if unfl vs then some (.lst true vs) else none
  | _ => none
mutual
/-- may stand in a set: texts, ints, None, tuples of such -/
def D.keyable : D → Bool
  | .non => true
  | .int _ => true
  | .str _ => true
  | .tup false xs => keyables xs
  | _ => false
def keyables : List D → Bool
  | [] => true
  | d :: ds => d.keyable && keyables ds
end
def setable (d : D) : Bool := (match d with | .tup false _ => true | _ => false) && d.keyable && d.sh 8
/-- each less than those behind -/
def strictD : List D → Bool
  | [] => true
  | d :: ds => (ds.all fun e => ltD d e && !ltD e d) && strictD ds
def o_sortset : List D → Option D
  | [.lst _ xs] => if xs.all setable && decide (xs.length < 64) && sortOk xs && strictD (sortD (dedup xs)) then some (.lst true (sortD (dedup xs))) else none
  | _ => none
def o_lenset : List D → Option D
  | [.lst _ xs] => if xs.all setable && decide (xs.length < 64) then some (.int (dedup xs).length) else none
  | _ => none
def o_isi (sub : Nat → Nat → Bool) (ts : List Ty) : List D → Option D
  | [d] => some (.bl (ts.any fun t => tyOf sub d t))
  | _ => none
def i_min2 : List D → Option D
  | [.int i, .int j] => some (.int (if j < i then j else i))
  | _ => none
def i_max2 : List D → Option D
  | [.int i, .int j] => some (.int (if j > i then j else i))
  | _ => none
def i_list : List D → Option D
  | [.lst _ xs] => if unfl xs then some (.lst true xs) else none
  | [.tup _ xs] => if unfl xs then some (.lst true xs) else none
  | [.str s] => some (.lst true (s.map fun c => .str [c]))
  | _ => none
def i_int : List D → Option D
  | [.int i] => some (.int i)
  | [.bl b] => some (.int (if b then 1 else 0))
  | _ => none
/-- keys that may be walked: ints, tuples of ints -/
def intKey : D → Bool
  | .int _ => true
  | .tup false xs => (ints? xs).isSome
  | _ => false
def i_sorted : List D → Option D
  | [.lst _ xs] => if sortOk xs && unfl xs then some (.lst true (sortD xs)) else none
  | [.tup _ xs] => if sortOk xs && unfl xs then some (.lst true (sortD xs)) else none
  | [.dic _ _ ks _] => if sortOk ks && ks.all intKey then some (.lst true (sortD ks)) else none
  | _ => none
def opF (sub : Nat → Nat → Bool) (o : Op) (ds : List D) : Option D := match o with
  | .add => o_add ds
  | .sub => o_sub ds
  | .mul => o_mul ds
  | .rep => o_rep ds
  | .fdiv => o_fdiv ds
  | .mod => o_mod ds
  | .pow => o_pow ds
  | .neg => o_neg ds
  | .eq => o_eq ds
  | .ne => o_ne ds
  | .lt => o_lt ds
  | .le => o_le ds
  | .gt => o_gt ds
  | .ge => o_ge ds
  | .isN => o_isN ds
  | .notN => o_notN ds
  | .isF => o_isF ds
  | .notF => o_notF ds
  | .mem => o_mem ds
  | .nmem => o_nmem ds
  | .ix => o_ix ds
  | .sl lo hi => o_sl lo hi ds
  | .rev => o_rev ds
  | .len => o_len ds
  | .abs => o_abs ds
  | .min2 => i_min2 ds
  | .min2g => o_min2 ds
  | .max2 => i_max2 ds
  | .max2g => o_max2 ds
  | .min1 => o_min1 ds
  | .min1g => o_min1g ds
  | .max1 => o_max1 ds
  | .max1g => o_max1g ds
  | .sum => o_sum ds
  | .any => o_any ds
  | .all => o_all ds
  | .sorted => i_sorted ds
  | .sortedg => o_sorted ds
  | .set => o_set ds
  | .list => i_list ds
  | .listg => o_list ds
  | .tuple => o_tuple ds
  | .lrev => o_lrev ds
  | .lrng => o_lrng ds
  | .int => i_int ds
  | .intg => o_int ds
  | .str => o_str ds
  | .upper => o_upper ds
  | .lower => o_lower ds
  | .isupper => o_isupper ds
  | .islower => o_islower ds
  | .isalpha => o_isalpha ds
  | .find => o_find ds
  | .count => o_count ds
  | .join => o_join ds
  | .split => o_split ds
  | .starts => o_starts ds
  | .get1 => o_get1 ds
  | .get2 => o_get2 ds
  | .index => o_index ds
  | .values => o_values ds
  | .lcount => o_lcount ds
  | .sortset => o_sortset ds
  | .lenset => o_lenset ds
  | .isi ts => o_isi sub ts ds

/-- the receiver's kind -/
def recvK : Op → Nat
  | .get1 => 6 | .get2 => 6 | .values => 6 | .index => 5 | .lcount => 5
  | _ => 3
/-! ### the language -/
inductive MO where
  | app | ext | pop0 | pop1 | ins | clear | rever | sdapp
  deriving Inhabited, DecidableEq
mutual
/-- expressions -/
inductive CE where
  | rd (i : Nat) (fs : List Str)          -- a slot, or a field of it
  | mv (i : Nat)                          -- a slot given away
  | fz (c : CE)                           -- given up
  | bw (i : Nat)                          -- a slot lent to a call
  | k (d : D)
  | gl (x : Str) (d : D)                  -- a module's constant
  | op (o : Op) (as : CL)
  | tup (as : CL) | lst (as : CL) | dic (kd : Nat) (as : CL)
  | call (f : Nat) (as : CL)
  | and_ (a b : CE) | or_ (a b : CE) | not_ (a : CE)
  | chain (o p : Op) (a b c : CE)
  | comp (elt : CE) (t : CG) (s : CI) (c : CO) (own : List Nat)
  | mut (p : CP) (m : MO) (as : CL)
  | sortk (f : Nat) (a : CL)              -- sorted(a, key=f, reverse=True)
  | meth (o : Op) (a : CE) (as : CL)      -- a.m(..)
  deriving Inhabited
inductive CL where
  | nil | cons (a : CE) (as : CL)
  deriving Inhabited
/-- an optional condition -/
inductive CO where
  | none | some (c : CE)
  deriving Inhabited
/-- targets -/
inductive CG where
  | nm (i : Nat) | fl (i : Nat) (f : Str) | nil | cons (t ts : CG)
  deriving Inhabited
/-- what is walked -/
inductive CI where
  | se (c : CE) | rng1 (a : CE) | rng2 (a b : CE) | enu (a : CE) | zip (a b : CE) | items (a : CE) | revd (a : CE)
  deriving Inhabited
/-- paths to what is changed -/
inductive CP where
  | sl (i : Nat) | fld (p : CP) (f : Str) | at_ (p : CP) (c : CE)
  deriving Inhabited
end
inductive CS where
  | asg (t : CG) (c : CE)
  | aug (i : Nat) (o : Op) (c : CE)
  | augL (i : Nat) (c : CE)
  | setix (p : CP) (k c : CE)
  | augix (p : CP) (k : CE) (o : Op) (c : CE)
  | setf (i : Nat) (f : Str) (c : CE)
  | ex (c : CE)
  | ret (c : CE)
  | ife (c : CE) (a b : CS)
  | for_ (t : CG) (s : CI) (b : CS)
  | while_ (c : CE) (b : CS)
  | raise_ (k : Nat)
  | try_ (b : CS) (k : Nat) (i : Nat) (h : CS)
  | pass | brk | cont
  | frz (i : Nat) (fs : List Str)
  | kill (is : List Nat)
  | nil | seq (a b : CS)                  -- blocks
  deriving Inhabited

abbrev Rho := List (Option D)
inductive R (α : Type) where
  | ok (a : α) (ρ : Rho) | ex (c : Nat) (ρ : Rho) | bad
  deriving Inhabited
def R.bind {α β : Type} : R α → (α → Rho → R β) → R β
  | .ok a ρ, f => f a ρ
  | .ex c ρ, _ => .ex c ρ
  | .bad, _ => .bad
def R.of {α : Type} (ρ : Rho) : Option α → R α
  | some a => .ok a ρ
  | none => .bad
/-- what a def's call comes to: the value, what its reference parameters hold -/
inductive FR where
  | ok (d : D) (outs : Rho) | ex (c : Nat) (outs : Rho) | bad
  deriving Inhabited

structure Fn where
  name : Str
  kind : Nat := 0                         -- 0 a def, 1 a method, 2 a class's __init__
  cls : Str := Str.empty
  np : Nat
  ref : List Bool
  dfl : List D := []
  names : List Str
  body : CS
  deriving Inhabited

/-- what a call needs of the table -/
structure Tab where
  fns : List Fn
  sub : Nat → Nat → Bool

def Rho.get (ρ : Rho) (i : Nat) : Option D := (ρ[i]?).getD none
def fldOf (d : D) (f : Str) : Option D := match d with
  | .ins _ _ fn vs => lookF fn vs
  | _ => none
where lookF : List Str → List D → Option D
  | g :: gs, v :: vs => if g = f then some v else lookF gs vs
  | _, _ => none
def setF (f : Str) (v : D) : List Str → List D → List Str × List D
  | g :: gs, w :: ws => if g = f then (g :: gs, v :: ws) else let r := setF f v gs ws; (g :: r.1, w :: r.2)
  | _, _ => ([f], [v])
def rdF (d : D) : List Str → Option D
  | [] => some d
  | f :: fs => (fldOf d f).bind fun e => rdF e fs
def Rho.rd (ρ : Rho) (i : Nat) (fs : List Str) : Option D := (ρ.get i).bind fun d => rdF d fs
/-- a step of a path -/
inductive St where
  | f (f : Str) | k (d : D)
def setD (k v : D) : List D → List D → List D × List D
  | a :: ks, w :: vs => if eqD a k then (a :: ks, v :: vs) else let r := setD k v ks vs; (a :: r.1, w :: r.2)
  | _, _ => ([k], [v])
def popD (k : D) : List D → List D → List D × List D
  | a :: ks, w :: vs => if eqD a k then (ks, vs) else let r := popD k ks vs; (a :: r.1, w :: r.2)
  | ks, vs => (ks, vs)
/-- change what stands at a path; all on the way is the holder's own -/
def modD {α : Type} (g : D → Option (α × D)) : List St → D → Option (α × D)
  | [], d => if d.fl then g d else none
  | .f f :: ss, .ins true c fn vs => (fldOf (.ins true c fn vs) f).bind fun e => (modD g ss e).map fun r => (r.1, .ins true c fn (setF f r.2 fn vs).2)
  | .k (.int i) :: ss, .lst true xs => (L2.ixN xs.length i).bind fun j => (xs[j]?).bind fun e => (modD g ss e).map fun r => (r.1, .lst true (xs.set j r.2))
  | _, _ => none
def Rho.mod {α : Type} (ρ : Rho) (i : Nat) (ss : List St) (g : D → Option (α × D)) : R α :=
  match (ρ.get i).bind (modD g ss) with
  | some (a, d) => .ok a (ρ.set i (some d))
  | none => .bad

def mutF : MO → List D → D → Option (D × D)
  | .app, [e], .lst true xs => if xs.length < lim then some (.non, .lst true (xs ++ [e])) else none
  | .ext, [.lst true ys], .lst true xs => if xs.length + ys.length ≤ lim then some (.non, .lst true (xs ++ ys)) else none
  | .pop0, [], .lst true xs => match xs.getLast? with | some e => if e.fl then none else some (e, .lst true xs.dropLast) | none => none
  | .pop1, [.int i], .lst true xs => if decide (i < 2 ^ 60) && decide (-(2 ^ 60) < i) then (L2.ixN xs.length i).bind fun j => (xs[j]?).bind fun e => if e.fl then none else some (e, .lst true (xs.eraseIdx j)) else none
  | .ins, [.int i, e], .lst true xs => if 0 ≤ i && decide (i < 2 ^ 60) && xs.length < lim then some (.non, .lst true (xs.take i.toNat ++ e :: xs.drop i.toNat)) else none
  | .clear, [], .lst true _ => some (.non, .lst true [])
  | .rever, [], .lst true xs => some (.non, .lst true xs.reverse)
  | .sdapp, [k, e], .dic true kd ks vs =>                       -- d.setdefault(k, []).append(e)
    if nice k && ks.length < lim then match lookD k ks vs with
      | some (.lst true xs) => if xs.length < lim then some (.non, .dic true kd ks (setD k (.lst true (xs ++ [e])) ks vs).2) else none
      | some _ => none
      | none => some (.non, .dic true kd (ks ++ [k]) (vs ++ [.lst true [e]]))
    else none
  | _, _, _ => none

/-- what is changed is there already when the method is asked for -/
def mutAt (ρ : Rho) (i : Nat) (ss : List St) : Bool := match (ρ.get i).bind (modD (fun d => some (d, d)) ss) with
  | some (.lst true _, _) => true
  | some (.dic true _ _ _, _) => true
  | _ => false
/-- .. and of the method's type -/
def mutAtM (m : MO) (ρ : Rho) (i : Nat) (ss : List St) : Bool := match (ρ.get i).bind (modD (fun d => some (d, d)) ss) with
  | some (.lst true _, _) => decide (m ≠ .sdapp)
  | some (.dic true _ _ _, _) => decide (m = .sdapp)
  | _ => false
/-- a value laid at a target -/
def putG : CG → D → Rho → Option Rho
  | .nm i, d, ρ => if i < ρ.length then some (ρ.set i (some d)) else none
  | .fl i f, d, ρ => match ρ.get i with
    | some (.ins true k fn vs) => let r := setF f d fn vs; some (ρ.set i (some (.ins true k r.1 r.2)))
    | _ => none
  | .nil, .tup _ [], ρ => some ρ
  | .cons t ts, .tup o (d :: ds), ρ => (putG t d ρ).bind (putG ts (.tup o ds))
  | _, _, _ => none

def evens : List D → List D
  | a :: _ :: r => a :: evens r
  | _ => []
def odds : List D → List D
  | _ :: b :: r => b :: odds r
  | _ => []
def consO : Option D → List D → List D
  | some e, es => e :: es
  | none, es => es
def seqF (f : D → Rho → R (Option D)) : List D → Rho → R (List D)
  | [], ρ => .ok [] ρ
  | d :: ds, ρ => (f d ρ).bind fun e ρ => (seqF f ds ρ).bind fun es ρ => .ok (consO e es) ρ

def itemsOf (enu : Bool) (d : D) : Option (List D) := match d with
  | .lst _ xs => if unfl xs then some (if enu then numb xs else xs) else none
  | .tup _ xs => if unfl xs then some (if enu then numb xs else xs) else none
  | .str s => some (if enu then numb (s.map fun c => .str [c]) else s.map fun c => .str [c])
  | _ => none
where numb (xs : List D) : List D := (List.range xs.length).zipWith (fun (k : Nat) x => .tup false [.int (k : Int), x]) xs
/-- a walked slot whose holder may change it: held while it is walked -/
def holdOf (s : CI) (ρ : Rho) : Option (Nat × D × List D) := match s with
  | .se (.rd i []) => (ρ.get i).bind fun d => if d.fl then (itemsOf false d).map fun xs => (i, d, xs) else none
  | .enu (.rd i []) => (ρ.get i).bind fun d => if d.fl then (itemsOf true d).map fun xs => (i, d, xs) else none
  | _ => none
def R.map {α : Type} (f : Rho → Rho) : R α → R α
  | .ok a ρ => .ok a (f ρ)
  | .ex c ρ => .ex c (f ρ)
  | .bad => .bad
/-- the slots of a comprehension's own names, emptied and laid back -/
def clr : List Nat → Rho → Rho
  | [], ρ => ρ
  | i :: is, ρ => (clr is ρ).set i none
def unclr (ρ0 : Rho) : List Nat → Rho → Rho
  | [], ρ => ρ
  | i :: is, ρ => (unclr ρ0 is ρ).set i (ρ0.get i)
def ownFl (own : List Nat) (ρ : Rho) : Bool := own.any fun i => match ρ.get i with
  | some d => d.fl
  | none => false
/-- a comprehension's end: nothing may be raised in it -/
def compEnd (own : List Nat) (ρ : Rho) (back : Rho → Rho) : R (List D) → R D
  | .ok ys ρ' => if ys.length ≤ lim then .ok (.lst true ys) (back (unclr ρ own ρ')) else .bad
  | _ => .bad
/-- deferred: a slot that is read when all else is reckoned -/
def CE.isRd : CE → Bool
  | .rd _ _ => true
  | _ => false

mutual
/-- nothing within that others may hold and that could be changed -/
def D.noSh : D → Bool
  | .tup _ xs => noShs xs
  | .lst o xs => o && noShs xs
  | .dic o _ ks vs => o && noShs ks && noShs vs
  | .ins o _ _ vs => o && noShs vs
  | _ => true
def noShs : List D → Bool
  | [] => true
  | d :: ds => d.noSh && noShs ds
end
def stillL : CL → Bool
  | .nil => true
  | .cons (.rd _ []) as => stillL as
  | .cons (.k _) as => stillL as
  | _ => false
def hasBw : CL → Bool
  | .nil => false
  | .cons (.bw _) _ => true
  | .cons _ as => hasBw as
/-- the reference arguments, taken out of their slots -/
def takeR : List Bool → CL → List (Option D) → Rho → R (List D)
  | b :: bs, .cons a as, d :: ds, ρ => match d with
    | some d => (takeR bs as ds ρ).bind fun r ρ => .ok (d :: r) ρ
    | none => match a with
      | .rd i [] => match ρ.get i with
        | some d => (takeR bs as ds (ρ.set i none)).bind fun r ρ => .ok (d :: r) ρ
        | none => .bad
      | _ => .bad
  | _, .nil, [], ρ => .ok [] ρ
  | _, _, _, _ => .bad
/-- .. and laid back -/
def backR : List Bool → CL → Rho → Rho → Rho
  | b :: bs, .cons a as, o :: os, ρ => match b, a with
    | true, .rd i [] => backR bs as os (ρ.set i o)
    | _, _ => backR bs as os ρ
  | _, _, _, ρ => ρ

variable (T : Tab) (Φ : Nat → List D → FR)
mutual
def ev : CE → Rho → R D
  | .rd i fs, ρ => match ρ.rd i fs with
    | some d => if d.fl then .bad else .ok d ρ
    | none => .bad
  | .mv i, ρ => match ρ.get i with
    | some d => .ok d (ρ.set i none)
    | none => .bad
  | .bw _, _ => .bad
  | .fz c, ρ => (ev c ρ).bind fun d ρ => .ok d.frz ρ
  | .k d, ρ => .ok d ρ
  | .gl _ d, ρ => .ok d ρ
  | .op o as, ρ => (evp as ρ).bind fun ds ρ => .of ρ (opF T.sub o ds)
  | .tup as, ρ => (evs as ρ).bind fun ds ρ => .ok (.tup (ds.any D.fl) ds) ρ
  | .lst as, ρ => (evs as ρ).bind fun ds ρ => .ok (.lst true ds) ρ
  | .dic kd as, ρ => (evs as ρ).bind fun ds ρ => .ok (.dic true kd (evens ds) (odds ds)) ρ
  | .call f as, ρ => match T.fns[f]? with
    | none => .bad
    | some F => let bs := if F.kind = 2 then F.ref.drop 1 else F.ref
      (evr bs as ρ).bind fun os ρ => (takeR bs as os ρ).bind fun ds ρ =>
        let all := (if F.kind = 2 then [D.ins true f [] []] else []) ++ ds ++ F.dfl.drop (F.dfl.length + ds.length - (F.np - if F.kind = 2 then 1 else 0))
        match Φ f all with
        | .ok d outs => if hasBw as && !(d.noSh && outs.all fun o => match o with | some d => d.noSh | none => true) then .bad else if F.kind = 2 then (match outs with | some s :: outs => .ok s (backR bs as outs ρ) | _ => .bad) else .ok d (backR bs as outs ρ)
        | .ex c outs => if hasBw as && !(outs.all fun o => match o with | some d => d.noSh | none => true) then .bad else if F.kind = 2 then (match outs with | _ :: outs => .ex c (backR bs as outs ρ) | _ => .bad) else .ex c (backR bs as outs ρ)
        | .bad => .bad
  | .and_ a b, ρ => (ev a ρ).bind fun d ρ => match d with
    | .bl true => ev b ρ
    | .bl false => .ok (.bl false) ρ
    | _ => .bad
  | .or_ a b, ρ => (ev a ρ).bind fun d ρ => match d with
    | .bl true => .ok (.bl true) ρ
    | .bl false => ev b ρ
    | _ => .bad
  | .not_ a, ρ => (ev a ρ).bind fun d ρ => match d with
    | .bl b => .ok (.bl (!b)) ρ
    | _ => .bad
  | .chain o p a b c, ρ => (ev a ρ).bind fun x ρ => (ev b ρ).bind fun y ρ => match opF T.sub o [x, y] with
    | some (.bl true) => (ev c ρ).bind fun z ρ => .of ρ (opF T.sub p [y, z])
    | some (.bl false) => .ok (.bl false) ρ
    | _ => .bad
  | .comp elt t s c own, ρ =>
      let body := fun x ρ₁ => match putG t x (clr own ρ₁) with
        | none => .bad
        | some ρ₂ => (evo c ρ₂).bind fun b ρ₃ => if b then (ev elt ρ₃).bind fun y ρ₄ => .ok (some y) ρ₄ else .ok none ρ₃
      if ownFl own ρ then .bad else
      match holdOf s ρ with
      | some (i, d, xs) => compEnd own ρ (fun ρ' => ρ'.set i (some d)) (seqF body xs (ρ.set i none))
      | none => (evi s ρ).bind fun xs ρ => if ownFl own ρ then .bad else compEnd own ρ id (seqF body xs ρ)
  | .mut p m as, ρ => (evpath p ρ).bind fun (i, ss) ρ => if mutAtM m ρ i ss then (evs as ρ).bind fun ds ρ => ρ.mod i ss (mutF m ds) else .bad
  | .sortk f a, ρ => (evp a ρ).bind fun ds ρ => match ds with
    | [.lst _ xs] => if unfl xs then match xs.mapM fun x => match Φ f [x] with | .ok (.int i) _ => some i | _ => none with
        | some ks => .ok (.lst true (((ks.zip xs).mergeSort fun a b => decide (b.1 ≤ a.1)).map (·.2))) ρ
        | none => .bad
      else .bad
    | _ => .bad
  | .meth o a as, ρ => match a with
    | .rd i [] => match ρ.get i with
      | some d0 => if d0.kind = recvK o then (evp as ρ).bind fun ds ρ => match ρ.get i with
          | some d => if d.kind = d0.kind then .of ρ (opF T.sub o (d :: ds)) else .bad
          | none => .bad
        else .bad
      | none => .bad
    | a => (ev a ρ).bind fun d ρ => if d.kind = recvK o then (evp as ρ).bind fun ds ρ => .of ρ (opF T.sub o (d :: ds)) else .bad
/-- arguments that may be given away -/
def evs : CL → Rho → R (List D)
  | .nil, ρ => .ok [] ρ
  | .cons a as, ρ => (ev a ρ).bind fun d ρ => (evs as ρ).bind fun ds ρ => .ok (d :: ds) ρ
/-- arguments that are looked at alone -/
def evp : CL → Rho → R (List D)
  | .nil, ρ => .ok [] ρ
  | .cons (.rd i []) as, ρ => match ρ.get i with
    | none => .bad
    | some d0 => (evp as ρ).bind fun ds ρ => match ρ.get i with
      | some d => if d.kind = d0.kind then .ok (d :: ds) ρ else .bad
      | none => .bad
  | .cons (.rd i (f :: fs)) as, ρ => match ρ.rd i (f :: fs) with
    | some d => if d.fl && !stillL as then .bad else (evp as ρ).bind fun ds ρ => .ok (d :: ds) ρ
    | none => .bad
  | .cons a as, ρ => (ev a ρ).bind fun d ρ => (evp as ρ).bind fun ds ρ => .ok (d :: ds) ρ
/-- arguments of a call: those by reference left open -/
def evr : List Bool → CL → Rho → R (List (Option D))
  | _, .nil, ρ => .ok [] ρ
  | true :: bs, .cons (.rd i []) as, ρ => match ρ.get i with
    | none => .bad
    | some _ => (evr bs as ρ).bind fun ds ρ => .ok (none :: ds) ρ
  | _ :: bs, .cons (.bw i) as, ρ => match ρ.get i with
    | none => .bad
    | some _ => (evr bs as ρ).bind fun ds ρ => match ρ.get i with
      | some d => .ok (some d.frz :: ds) ρ
      | none => .bad
  | _ :: bs, .cons a as, ρ => (ev a ρ).bind fun d ρ => (evr bs as ρ).bind fun ds ρ => .ok (some d :: ds) ρ
  | [], .cons _ _, _ => .bad
def evo : CO → Rho → R Bool
  | .none, ρ => .ok true ρ
  | .some c, ρ => (ev c ρ).bind fun d ρ => match d with
    | .bl b => .ok b ρ
    | _ => .bad
/-- the items that are walked -/
def evi : CI → Rho → R (List D)
  | .se c, ρ => (ev c ρ).bind fun d ρ => .of ρ (itemsOf false d)
  | .rng1 a, ρ => (ev a ρ).bind fun d ρ => match d with
    | .int j => if decide (j < 2 ^ 60) && decide (-(2 ^ 60) < j) then .ok ((List.range j.toNat).map fun (k : Nat) => .int (k : Int)) ρ else .bad
    | _ => .bad
  | .rng2 a b, ρ => (ev a ρ).bind fun d ρ => (ev b ρ).bind fun e ρ => match d, e with
    | .int i, .int j => if decide (j < 2 ^ 60) && decide (-(2 ^ 60) < j) && decide (i < 2 ^ 60) && decide (-(2 ^ 60) < i) then .ok ((List.range (j - i).toNat).map fun (k : Nat) => .int (i + (k : Int))) ρ else .bad
    | _, _ => .bad
  | .enu a, ρ => (ev a ρ).bind fun d ρ => .of ρ (itemsOf true d)
  | .zip a b, ρ => (ev a ρ).bind fun d ρ => (ev b ρ).bind fun e ρ => match d, e with
    | .lst _ xs, .lst _ ys => if unfl xs && unfl ys then .ok (xs.zipWith (fun x y => .tup false [x, y]) ys) ρ else .bad
    | _, _ => .bad
  | .items a, ρ => (ev a ρ).bind fun d ρ => match d with
    | .dic _ _ ks vs => if !unfl ks || !unfl vs then .bad else .ok (ks.zipWith (fun x y => .tup false [x, y]) vs) ρ
    | _ => .bad
  | .revd a, ρ => (ev a ρ).bind fun d ρ => match d with
    | .lst _ xs => if !unfl xs then .bad else .ok xs.reverse ρ
    | _ => .bad
def evpath : CP → Rho → R (Nat × List St)
  | .sl i, ρ => .ok (i, []) ρ
  | .fld p f, ρ => (evpath p ρ).bind fun (i, ss) ρ => .ok (i, ss ++ [.f f]) ρ
  | .at_ p c, ρ => (evpath p ρ).bind fun (i, ss) ρ => (ev c ρ).bind fun d ρ => .ok (i, ss ++ [.k d]) ρ
end

inductive SR where
  | next (ρ : Rho) | ret (d : D) (ρ : Rho) | brk (ρ : Rho) | cont (ρ : Rho) | ex (c : Nat) (ρ : Rho) | bad
  deriving Inhabited
def R.st {α : Type} : R α → (α → Rho → SR) → SR
  | .ok a ρ, f => f a ρ
  | .ex c ρ, _ => .ex c ρ
  | .bad, _ => .bad
def SR.then : SR → (Rho → SR) → SR
  | .next ρ, f => f ρ
  | r, _ => r
def SR.map (f : Rho → Rho) : SR → SR
  | .next ρ => .next (f ρ)
  | .ret d ρ => .ret d (f ρ)
  | .brk ρ => .brk (f ρ)
  | .cont ρ => .cont (f ρ)
  | .ex c ρ => .ex c (f ρ)
  | .bad => .bad
def SR.ofO : Option Rho → SR
  | some ρ => .next ρ
  | none => .bad
def forF (f : D → Rho → SR) : List D → Rho → SR
  | [], ρ => .next ρ
  | d :: ds, ρ => match f d ρ with
    | .next ρ => forF f ds ρ
    | .cont ρ => forF f ds ρ
    | .brk ρ => .next ρ
    | r => r
def whileF (c : Rho → R D) (b : Rho → SR) : Nat → Rho → SR
  | 0, _ => .bad
  | n + 1, ρ => (c ρ).st fun d ρ => match d with
    | .bl true => (match b ρ with
      | .next ρ => whileF c b n ρ
      | .cont ρ => whileF c b n ρ
      | .brk ρ => .next ρ
      | r => r)
    | .bl false => .next ρ
    | _ => .bad
def setixF (k v : D) : D → Option (Unit × D)
  | .lst true xs => match k with
    | .int i => (L2.ixN xs.length i).bind fun j => if j < xs.length then some ((), .lst true (xs.set j v)) else none
    | _ => none
  | .dic true kd ks vs => if keyOk kd k && ks.length < lim && !v.fl then let r := setD k v ks vs; some ((), .dic true kd r.1 r.2) else none
  | _ => none
def getixF (k : D) : D → Option (D × D)
  | .lst true xs => match k with
    | .int i => (L2.atI xs i).bind fun e => if e.fl then none else some (e, .lst true xs)
    | _ => none
  | .dic true kd ks vs => if keyOk kd k then (lookD k ks vs).bind fun e => if e.fl then none else some (e, .dic true kd ks vs) else none
  | _ => none
def frzAt : List Str → D → Option D
  | [], d => some d.frz
  | f :: fs, .ins true c fn vs => (fldOf (.ins true c fn vs) f).bind fun e => (frzAt fs e).map fun e => .ins true c fn (setF f e fn vs).2
  | _, _ => none
/-- name op= value -/
def augF : Op → D → D → Option D
  | .add, .int i, .int j => some (.int (i + j))
  | .add, .str s, .str t => if s.length + t.length ≤ lim then some (.str (s ++ t)) else none
  | .sub, .int i, .int j => some (.int (i - j))
  | _, _, _ => none
def whileLim : Nat := 1000000000000
def ex (sub : Nat → Nat → Bool) : CS → Rho → SR
  | .asg t c, ρ => (ev T Φ c ρ).st fun d ρ => .ofO (putG t d ρ)
  | .aug i o c, ρ => match ρ.get i with
    | some x => if x.fl then .bad else (ev T Φ c ρ).st fun y ρ => match augF o x y with
      | some z => if i < ρ.length then .next (ρ.set i (some z)) else .bad
      | none => .bad
    | none => .bad
  | .augL i c, ρ => (ev T Φ c ρ).st fun y ρ => (ρ.mod i [] (mutF .ext [y])).st fun _ ρ => .next ρ
  | .setix p k c, ρ => (ev T Φ c ρ).st fun v ρ => (evpath T Φ p ρ).st fun (i, ss) ρ => if mutAt ρ i ss then (ev T Φ k ρ).st fun kd ρ => (ρ.mod i ss (setixF kd v)).st fun _ ρ => .next ρ else .bad
  | .augix p k o c, ρ => (evpath T Φ p ρ).st fun (i, ss) ρ => if mutAt ρ i ss then (ev T Φ k ρ).st fun kd ρ => (ρ.mod i ss (getixF kd)).st fun x ρ => (ev T Φ c ρ).st fun y ρ => match augF o x y with
      | some z => (ρ.mod i ss (setixF kd z)).st fun _ ρ => .next ρ
      | none => .bad
    else .bad
  | .setf i f c, ρ => (ev T Φ c ρ).st fun v ρ => match ρ.get i with
    | some (.ins true k fn vs) => let r := setF f v fn vs; .next (ρ.set i (some (.ins true k r.1 r.2)))
    | _ => .bad
  | .ex c, ρ => (ev T Φ c ρ).st fun _ ρ => .next ρ
  | .ret c, ρ => (ev T Φ c ρ).st fun d ρ => .ret d ρ
  | .ife c a b, ρ => (ev T Φ c ρ).st fun d ρ => match d with
    | .bl true => ex sub a ρ
    | .bl false => ex sub b ρ
    | _ => .bad
  | .for_ t s b, ρ => match holdOf s ρ with
    | some (i, d, xs) => (forF (fun x ρ => (SR.ofO (putG t x ρ)).then (ex sub b)) xs (ρ.set i none)).map fun ρ => ρ.set i (some d)
    | none => (evi T Φ s ρ).st fun xs ρ => forF (fun x ρ => (SR.ofO (putG t x ρ)).then (ex sub b)) xs ρ
  | .while_ c b, ρ => whileF (ev T Φ c) (ex sub b) whileLim ρ
  | .raise_ k, ρ => .ex k ρ
  | .try_ b k i h, ρ => match ex sub b ρ with
    | .ex c ρ => if T.sub c k then (match ex sub h (ρ.set i (some (.exn c))) with
        | .next ρ => .next (ρ.set i none)
        | .brk ρ => .brk (ρ.set i none)
        | .cont ρ => .cont (ρ.set i none)
        | r => r) else .ex c ρ
    | r => r
  | .pass, ρ => .next ρ
  | .brk, ρ => .brk ρ
  | .cont, ρ => .cont ρ
  | .frz i fs, ρ => match (ρ.get i).bind (frzAt fs) with
    | some d => .next (ρ.set i (some d))
    | none => .bad
  | .kill is, ρ => .next (is.foldl (fun ρ i => ρ.set i none) ρ)
  | .nil, ρ => .next ρ
  | .seq a b, ρ => (ex sub a ρ).then (ex sub b)

/-- what the reference parameters hold at the end -/
def outsR : List Bool → Rho → Rho
  | b :: bs, o :: os => (if b then o else none) :: outsR bs os
  | _, _ => []
def finish (ref : List Bool) : SR → FR
  | .next ρ => .ok .non (outsR ref ρ)
  | .ret d ρ => .ok d (outsR ref ρ)
  | .ex c ρ => .ex c (outsR ref ρ)
  | _ => .bad
def initR (F : Fn) (ds : List D) : Rho := ds.map some ++ List.replicate (F.names.length - ds.length) none
/-- non-reference arguments hold nothing that is another's -/
def argsOk : List Bool → List D → Bool
  | b :: bs, d :: ds => (b || !d.fl) && argsOk bs ds
  | _, [] => true
  | [], _ :: _ => false
def runF : Nat → Nat → List D → FR
  | 0, _, _ => .bad
  | n + 1, f, ds => match T.fns[f]? with
    | none => .bad
    | some F => if ds.length = F.np && argsOk F.ref ds then finish F.ref (ex T (runF n) T.sub F.body (initR F ds)) else .bad
end MP

set_option autoImplicit false
set_option linter.all false
set_option maxRecDepth 100000
/-! MP: how values stand in the abstract heap. -/
namespace MP
open PySem L2

abbrev Own := Addr → Prop
def none_ : Own := fun _ => False
def Same (S H : Hp) : Prop := ∀ a o, S a = some o → H a = some o

/-- a dict's object: its keys, the values -/
def dicHO (kd : Nat) (ks : List D) (ws : List V) : Option HO :=
  if kd = 0 then (ks.mapM keyK).bind fun kk => if kk.Nodup then some (.dK (kk.zip ws)) else none
  else if kd = 1 then (ks.mapM keyT).bind fun kk => if kk.Nodup then some (.dT (kk.zip ws)) else none
  else none
section
variable (K : PySem.W.Frag)
mutual
/-- v stands for d; r bounds what of the heap is its holder's own; S: what is shared and never changes -/
def RepV (S H : Hp) : D → V → Own → Prop
  | .non, v, _ => v = .non
  | .bl b, v, _ => v = .bl b
  | .int i, v, _ => v = .int i
  | .str s, v, _ => v = .str ⟨s.toArray⟩ ∧ s.length ≤ sizeLine
  | .tup o xs, v, r => ∃ a vs, v = .ref a ∧ S a = some (.tup vs) ∧ vs.length ≤ sizeLine ∧ (o = false → unfl xs = true) ∧ RepVs S H xs vs r
  | .lst false xs, v, r => ∃ a vs, v = .ref a ∧ SqL K S a vs ∧ vs.length ≤ sizeLine ∧ unfl xs = true ∧ RepVs S H xs vs r
  | .lst true xs, v, r => ∃ a vs, ∃ r' : Own, v = .ref a ∧ H a = some (.lst vs) ∧ vs.length ≤ sizeLine ∧ r a ∧ (∀ b, r' b → r b ∧ b ≠ a) ∧ RepVs S H xs vs r'
  | .dic false kd ks ds, v, r => ∃ a ws ho, v = .ref a ∧ dicHO kd ks ws = some ho ∧ S a = some ho ∧ ws.length ≤ sizeLine ∧ ks.length = ws.length ∧ unfl ds = true ∧ RepVs S H ds ws r
  | .dic true kd ks ds, v, r => ∃ a ws ho, ∃ r' : Own, v = .ref a ∧ dicHO kd ks ws = some ho ∧ H a = some ho ∧ ws.length ≤ sizeLine ∧ ks.length = ws.length ∧ r a ∧ (∀ b, r' b → r b ∧ b ≠ a) ∧ RepVs S H ds ws r'
  | .set _, _, _ => False
  | .ins _ _ _ _, _, _ => False
  | .exn _, _, _ => False
def RepVs (S H : Hp) : List D → List V → Own → Prop
  | [], [], _ => True
  | d :: ds, v :: vs, r => ∃ r1 r2 : Own, (∀ a, r1 a → r a) ∧ (∀ a, r2 a → r a) ∧ (∀ a, r1 a → r2 a → False) ∧ RepV S H d v r1 ∧ RepVs S H ds vs r2
  | [], _ :: _, _ => False
  | _ :: _, [], _ => False
end
end

section
variable {K : PySem.W.Frag} {S S' H H' : Hp}

theorem unfl_cons {d : D} {ds : List D} : unfl (d :: ds) = true ↔ d.fl = false ∧ unfl ds = true := by
  unfold unfl
  simp

theorem SqT.mono {a : Addr} {vs : List V} (h : SqT K S a vs) (k : Same S S') : SqT K S' a vs := by
  rcases h with (h | ⟨o, h⟩) | h
  · exact .inl (.inl (k _ _ h))
  · exact .inl (.inr ⟨o, k _ _ h⟩)
  · exact .inr h
theorem SqL.mono {a : Addr} {vs : List V} (h : SqL K S a vs) (k : Same S S') : SqL K S' a vs := by
  rcases h with (h | ⟨o, h⟩) | h
  · exact .inl (.inl (k _ _ h))
  · exact .inl (.inr ⟨o, k _ _ h⟩)
  · exact .inr h

mutual
/-- carried to a later heap -/
theorem RepV.to (kS : Same S S') : ∀ (d : D) (v : V) (r r' : Own), RepV K S H d v r → (∀ a, r a → r' a) → (∀ a, r a → H' a = H a) → RepV K S' H' d v r'
  | .non, _, _, _, h, _, _ => h
  | .bl _, _, _, _, h, _, _ => h
  | .int _, _, _, _, h, _, _ => h
  | .str _, _, _, _, h, _, _ => h
  | .tup o xs, v, r, r', h, hr, hH => by
    rw [RepV] at h ⊢
    obtain ⟨a, vs, e, q, z, u, t⟩ := h
    exact ⟨a, vs, e, kS _ _ q, z, u, RepVs.to kS xs vs r r' t hr hH⟩
  | .lst false xs, v, r, r', h, hr, hH => by
    rw [RepV] at h ⊢
    obtain ⟨a, vs, e, q, z, u, t⟩ := h
    exact ⟨a, vs, e, (SqL.mono q kS), z, u, RepVs.to kS xs vs r r' t hr hH⟩
  | .lst true xs, v, r, r', h, hr, hH => by
    rw [RepV] at h ⊢
    obtain ⟨a, vs, r1, e, q, z, ra, k, t⟩ := h
    exact ⟨a, vs, r1, e, (hH a ra).trans q, z, hr a ra, fun b hb => ⟨hr b (k b hb).1, (k b hb).2⟩, RepVs.to kS xs vs r1 r1 t (fun _ x => x) fun b hb => hH b (k b hb).1⟩
  | .dic false kd ks ds, v, r, r', h, hr, hH => by
    rw [RepV] at h ⊢
    obtain ⟨a, ws, ho, e, q, q2, z, l, u, t⟩ := h
    exact ⟨a, ws, ho, e, q, kS _ _ q2, z, l, u, RepVs.to kS ds ws r r' t hr hH⟩
  | .dic true kd ks ds, v, r, r', h, hr, hH => by
    rw [RepV] at h ⊢
    obtain ⟨a, ws, ho, r1, e, q, q2, z, l, ra, k, t⟩ := h
    exact ⟨a, ws, ho, r1, e, q, (hH a ra).trans q2, z, l, hr a ra, fun b hb => ⟨hr b (k b hb).1, (k b hb).2⟩, RepVs.to kS ds ws r1 r1 t (fun _ x => x) fun b hb => hH b (k b hb).1⟩
  | .set _, _, _, _, h, _, _ => by rw [RepV] at h; exact h.elim
  | .ins _ _ _ _, _, _, _, h, _, _ => by rw [RepV] at h; exact h.elim
  | .exn _, _, _, _, h, _, _ => by rw [RepV] at h; exact h.elim
theorem RepVs.to (kS : Same S S') : ∀ (ds : List D) (vs : List V) (r r' : Own), RepVs K S H ds vs r → (∀ a, r a → r' a) → (∀ a, r a → H' a = H a) → RepVs K S' H' ds vs r'
  | [], [], _, _, _, _, _ => by rw [RepVs]; trivial
  | [], _ :: _, _, _, h, _, _ => by rw [RepVs] at h; exact h.elim
  | _ :: _, [], _, _, h, _, _ => by rw [RepVs] at h; exact h.elim
  | d :: ds, v :: vs, r, r', h, hr, hH => by
    rw [RepVs] at h ⊢
    obtain ⟨r1, r2, k1, k2, dj, h1, h2⟩ := h
    exact ⟨r1, r2, fun a x => hr a (k1 a x), fun a x => hr a (k2 a x), dj, RepV.to kS d v r1 r1 h1 (fun _ x => x) fun b hb => hH b (k1 b hb), RepVs.to kS ds vs r2 r2 h2 (fun _ x => x) fun b hb => hH b (k2 b hb)⟩
end

mutual
/-- what is unflagged stands in what is shared alone -/
theorem RepV.shared : ∀ (d : D) (v : V) (r : Own), RepV K S H d v r → d.fl = false → RepV K S H' d v none_
  | .non, _, _, h, _ => h
  | .bl _, _, _, h, _ => h
  | .int _, _, _, h, _ => h
  | .str _, _, _, h, _ => h
  | .tup o xs, v, r, h, f => by
    rw [RepV] at h ⊢
    obtain ⟨a, vs, e, q, z, u, t⟩ := h
    exact ⟨a, vs, e, q, z, u, RepVs.shared xs vs r t (u f)⟩
  | .lst false xs, v, r, h, f => by
    rw [RepV] at h ⊢
    obtain ⟨a, vs, e, q, z, u, t⟩ := h
    exact ⟨a, vs, e, q, z, u, RepVs.shared xs vs r t u⟩
  | .lst true xs, v, r, h, f => by cases f
  | .dic false kd ks ds, v, r, h, f => by
    rw [RepV] at h ⊢
    obtain ⟨a, ws, ho, e, q, q2, z, l, u, t⟩ := h
    exact ⟨a, ws, ho, e, q, q2, z, l, u, RepVs.shared ds ws r t u⟩
  | .dic true _ _ _, v, r, h, f => by cases f
  | .set _, _, _, h, _ => by rw [RepV] at h; exact h.elim
  | .ins _ _ _ _, _, _, h, _ => by rw [RepV] at h; exact h.elim
  | .exn _, _, _, h, _ => by rw [RepV] at h; exact h.elim
theorem RepVs.shared : ∀ (ds : List D) (vs : List V) (r : Own), RepVs K S H ds vs r → unfl ds = true → RepVs K S H' ds vs none_
  | [], [], _, _, _ => by rw [RepVs]; trivial
  | [], _ :: _, _, h, _ => by rw [RepVs] at h; exact h.elim
  | _ :: _, [], _, h, _ => by rw [RepVs] at h; exact h.elim
  | d :: ds, v :: vs, r, h, f => by
    rw [RepVs] at h ⊢
    obtain ⟨r1, r2, k1, k2, dj, h1, h2⟩ := h
    obtain ⟨f1, f2⟩ := unfl_cons.mp f
    exact ⟨none_, none_, fun _ x => x, fun _ x => x, fun _ x _ => x, RepV.shared d v r1 h1 f1, RepVs.shared ds vs r2 h2 f2⟩
end

theorem RepVs.len : ∀ {ds : List D} {vs : List V} {r : Own}, RepVs K S H ds vs r → ds.length = vs.length
  | [], [], _, _ => rfl
  | [], _ :: _, _, h => by rw [RepVs] at h; exact h.elim
  | _ :: _, [], _, h => by rw [RepVs] at h; exact h.elim
  | d :: ds, v :: vs, r, h => by
    rw [RepVs] at h
    obtain ⟨_, _, _, _, _, _, t⟩ := h
    rw [List.length_cons, List.length_cons, t.len]
theorem RepV.mono {d : D} {v : V} {r r' : Own} (h : RepV K S H d v r) (k : ∀ a, r a → r' a) : RepV K S H d v r' := RepV.to (fun _ _ q => q) d v r r' h k fun _ _ => rfl
theorem RepVs.mono {d : List D} {v : List V} {r r' : Own} (h : RepVs K S H d v r) (k : ∀ a, r a → r' a) : RepVs K S H d v r' := RepVs.to (fun _ _ q => q) d v r r' h k fun _ _ => rfl
/-- an unflagged value, at any later time -/
theorem RepV.sh_to {d : D} {v : V} {r r' : Own} (h : RepV K S H d v r) (f : d.fl = false) (k : Same S S') : RepV K S' H' d v r' :=
  RepV.to k d v none_ r' (RepV.shared (H' := H') d v r h f) (fun _ x => x.elim) fun _ x => x.elim
theorem RepVs.sh_to {d : List D} {v : List V} {r r' : Own} (h : RepVs K S H d v r) (f : unfl d = true) (k : Same S S') : RepVs K S' H' d v r' :=
  RepVs.to k d v none_ r' (RepVs.shared (H' := H') d v r h f) (fun _ x => x.elim) fun _ x => x.elim

/-- the shared heap with what stands at r -/
def addS (S H : Hp) (r : Own) [DecidablePred r] : Hp := fun a => if r a then H a else S a
open Classical in
theorem addS_same {r : Own} (k : ∀ a, r a → S a = none) : Same S (addS S H r) := fun a o e => by
  unfold addS
  rw [if_neg]
  · exact e
  · intro q
    rw [k a q] at e
    cases e
end
section
variable {K : PySem.W.Frag} {S S' H H' : Hp}
open Classical in
mutual
theorem RepV.frz {r0 : Own} (k0 : ∀ a, r0 a → S a = none) : ∀ (d : D) (v : V) (r : Own), RepV K S H d v r → (∀ a, r a → r0 a) → RepV K (addS S H r0) H' d.frz v none_
  | .non, _, _, h, _ => h
  | .bl _, _, _, h, _ => h
  | .int _, _, _, h, _ => h
  | .str _, _, _, h, _ => h
  | .tup o xs, v, r, h, hr => by
    rw [RepV] at h
    obtain ⟨a, vs, e, q, z, u, t⟩ := h
    rw [D.frz, RepV]
    refine ⟨a, vs, e, addS_same k0 _ _ q, z, fun _ => ?_, ?_⟩
    · cases o with
      | false => exact u rfl
      | true => exact frzs_unfl xs
    · cases o with
      | false => exact RepVs.sh_to t (u rfl) (addS_same k0)
      | true => exact RepVs.frz k0 xs vs r t hr
  | .lst false xs, v, r, h, hr => by
    rw [RepV] at h
    obtain ⟨a, vs, e, q, z, u, t⟩ := h
    rw [D.frz, RepV]
    exact ⟨a, vs, e, (SqL.mono q (addS_same k0)), z, u, RepVs.sh_to t u (addS_same k0)⟩
  | .lst true xs, v, r, h, hr => by
    rw [RepV] at h
    obtain ⟨a, vs, r1, e, q, z, ra, k, t⟩ := h
    rw [D.frz, RepV]
    refine ⟨a, vs, e, .inl (.inl ?_), z, frzs_unfl xs, RepVs.frz k0 xs vs r1 t fun b hb => hr b (k b hb).1⟩
    unfold addS
    rw [if_pos (hr a ra)]
    exact q
  | .dic false kd ks ds, v, r, h, hr => by
    rw [RepV] at h
    obtain ⟨a, ws, ho, e, q, q2, z, l, u, t⟩ := h
    rw [D.frz, RepV]
    exact ⟨a, ws, ho, e, q, addS_same k0 _ _ q2, z, l, u, RepVs.sh_to t u (addS_same k0)⟩
  | .dic true kd ks ds, v, r, h, hr => by
    rw [RepV] at h
    obtain ⟨a, ws, ho, r1, e, q, q2, z, l, ra, k, t⟩ := h
    rw [D.frz, RepV]
    refine ⟨a, ws, ho, e, q, ?_, z, l, frzs_unfl ds, RepVs.frz k0 ds ws r1 t fun b hb => hr b (k b hb).1⟩
    unfold addS
    rw [if_pos (hr a ra)]
    exact q2
  | .set _, _, _, h, _ => by rw [RepV] at h; exact h.elim
  | .ins _ _ _ _, _, _, h, _ => by rw [RepV] at h; exact h.elim
  | .exn _, _, _, h, _ => by rw [RepV] at h; exact h.elim
theorem RepVs.frz {r0 : Own} (k0 : ∀ a, r0 a → S a = none) : ∀ (ds : List D) (vs : List V) (r : Own), RepVs K S H ds vs r → (∀ a, r a → r0 a) → RepVs K (addS S H r0) H' (frzs ds) vs none_
  | [], [], _, _, _ => by rw [frzs, RepVs]; trivial
  | [], _ :: _, _, h, _ => by rw [RepVs] at h; exact h.elim
  | _ :: _, [], _, h, _ => by rw [RepVs] at h; exact h.elim
  | d :: ds, v :: vs, r, h, hr => by
    rw [RepVs] at h
    obtain ⟨r1, r2, k1, k2, dj, h1, h2⟩ := h
    rw [frzs, RepVs]
    exact ⟨none_, none_, fun _ x => x, fun _ x => x, fun _ x _ => x, RepV.frz k0 d v r1 h1 fun a x => hr a (k1 a x), RepVs.frz k0 ds vs r2 h2 fun a x => hr a (k2 a x)⟩
theorem frz_fl : ∀ d : D, d.frz.fl = false
  | .non => rfl
  | .bl _ => rfl
  | .int _ => rfl
  | .str _ => rfl
  | .tup _ _ => rfl
  | .lst _ _ => rfl
  | .dic _ _ _ _ => rfl
  | .set _ => rfl
  | .ins _ _ _ _ => rfl
  | .exn _ => rfl
theorem frzs_unfl : ∀ ds : List D, unfl (frzs ds) = true
  | [] => rfl
  | d :: ds => by rw [frzs]; exact unfl_cons.mpr ⟨frz_fl d, frzs_unfl ds⟩
end
end
end MP

set_option autoImplicit false
set_option linter.all false
set_option maxRecDepth 100000
/-! MP: the state, what a step keeps, the readings. -/
namespace MP
open PySem L2

theorem Same.refl (H : Hp) : Same H H := fun _ _ h => h
theorem Same.trans {H H1 H2 : Hp} (a : Same H H1) (b : Same H1 H2) : Same H H2 := fun c o h => b c o (a c o h)

/-- what is its holder's own: not shared, and there -/
def Tp (o : HO) : Prop := ∃ vs, o = .tup vs
theorem Tp.lst {xs : List V} : ¬ Tp (.lst xs) := fun ⟨_, e⟩ => nomatch e
theorem Tp.dK {xs : List (Key × V)} : ¬ Tp (.dK xs) := fun ⟨_, e⟩ => nomatch e
theorem Tp.dT {xs : List (List Key × V)} : ¬ Tp (.dT xs) := fun ⟨_, e⟩ => nomatch e
def Live (S H : Hp) (r : Own) : Prop := ∀ a, r a → S a = none ∧ ∃ o, H a = some o ∧ ¬ Tp o

/-- the slots stand for ρ; R: what they own -/
structure Rel (K : PySem.W.Frag) (S H : Hp) (σ : L2.St) (ρ : Rho) (R : Own) : Prop where
  sub : MP.Same S H
  live : Live S H R
  len : ρ.length = σ.length
  slots : ∃ own : Nat → Own, (∀ i d, ρ[i]? = some (some d) → ∃ v, σ[i]? = some (some v) ∧ RepV K S H d v (own i)) ∧ (∀ i a, own i a → R a) ∧ ∀ i j a, own i a → own j a → i = j

/-- from (S, H) with R in hand to (S', H') with T in hand -/
structure Fr (S H : Hp) (R : Own) (S' H' : Hp) (T : Own) : Prop where
  ss : MP.Same S S'
  keep : ∀ a o, H a = some o → ¬ R a → H' a = some o
  res : ∀ a, T a → R a ∨ H a = none
  shr : ∀ a o, S' a = some o → S a = some o ∨ R a ∨ H a = none ∨ (Tp o ∧ H a = some o)

theorem Fr.refl {S H : Hp} {R : Own} : Fr S H R S H R := ⟨Same.refl S, fun _ _ e _ => e, fun _ t => .inl t, fun _ _ e => .inl e⟩
theorem Fr.less {S H S' H' : Hp} {R T T' : Own} (f : Fr S H R S' H' T) (k : ∀ a, T' a → T a) : Fr S H R S' H' T' := ⟨f.ss, f.keep, fun a t => f.res a (k a t), f.shr⟩
/-- two steps; what the first has in hand besides R1 stays in hand -/
theorem Fr.trans {S H S1 H1 S2 H2 : Hp} {R T1 R1 T2 : Own} (f : Fr S H R S1 H1 T1) (g : Fr S1 H1 R1 S2 H2 T2) (k : ∀ a, R1 a → T1 a) : Fr S H R S2 H2 (fun a => T2 a ∨ T1 a) := by
  have back : ∀ a, R1 a ∨ H1 a = none → R a ∨ H a = none := fun a x => by
    rcases x with x | x
    · exact f.res a (k a x)
    · by_cases r : R a
      · exact .inl r
      · cases q : H a with
        | none => exact .inr rfl
        | some o =>
          rw [f.keep a o q r] at x
          cases x
  refine ⟨f.ss.trans g.ss, fun a o e nr => g.keep a o (f.keep a o e nr) fun r1 => ?_, fun a t => ?_, fun a o e => ?_⟩
  · rcases f.res a (k a r1) with r | r
    · exact nr r
    · rw [r] at e; cases e
  · rcases t with t | t
    · exact back a (g.res a t)
    · exact f.res a t
  · rcases g.shr a o e with x | x | x | ⟨x, y⟩
    · exact f.shr a o x
    · rcases back a (.inl x) with z | z
      · exact .inr (.inl z)
      · exact .inr (.inr (.inl z))
    · rcases back a (.inr x) with z | z
      · exact .inr (.inl z)
      · exact .inr (.inr (.inl z))
    · by_cases r : R a
      · exact .inr (.inl r)
      · cases q : H a with
        | none => exact .inr (.inr (.inl rfl))
        | some u =>
          have := f.keep a u q r
          rw [y] at this
          cases this
          exact .inr (.inr (.inr ⟨x, rfl⟩))

section
variable {K : PySem.W.Frag} {S H S' H' : Hp} {σ : L2.St} {ρ : Rho} {R R' T r : Own}
/-- what is not in hand stays as it is: a value held aside -/
theorem Fr.aside (f : Fr S H R S' H' T) (live : Live S H r) (dj : ∀ a, R a → ¬ r a) : (∀ a, r a → H' a = H a) ∧ Live S' H' r ∧ ∀ a, T a → ¬ r a := by
  have nr : ∀ a, r a → ¬ R a := fun a x y => dj a y x
  refine ⟨fun a x => ?_, fun a x => ?_, fun a t x => ?_⟩
  · obtain ⟨o, e, _⟩ := (live a x).2
    rw [e]
    exact f.keep a o e (nr a x)
  · obtain ⟨s0, o, e, nt⟩ := live a x
    refine ⟨?_, o, f.keep a o e (nr a x), nt⟩
    cases q : S' a with
    | none => rfl
    | some u =>
      rcases f.shr a u q with z | z | z | ⟨z, y⟩
      · rw [z] at s0; cases s0
      · exact absurd z (nr a x)
      · rw [z] at e; cases e
      · rw [y] at e; cases e; exact absurd z nt
  · rcases f.res a t with z | z
    · exact nr a x z
    · obtain ⟨o, e, _⟩ := (live a x).2
      rw [z] at e; cases e
theorem Fr.carry {d : D} {v : V} (f : Fr S H R S' H' T) (live : Live S H r) (dj : ∀ a, R a → ¬ r a) (h : RepV K S H d v r) : RepV K S' H' d v r :=
  RepV.to f.ss d v r r h (fun _ x => x) (f.aside live dj).1
theorem Fr.carrys {d : List D} {v : List V} (f : Fr S H R S' H' T) (live : Live S H r) (dj : ∀ a, R a → ¬ r a) (h : RepVs K S H d v r) : RepVs K S' H' d v r :=
  RepVs.to f.ss d v r r h (fun _ x => x) (f.aside live dj).1

/-- the heap grows, what is in hand stays -/
theorem Rel.grow (h : Rel K S H σ ρ R) (kS : MP.Same S S') (sub : MP.Same S' H') (kR : ∀ a, R a → S' a = none ∧ H' a = H a) : Rel K S' H' σ ρ R := by
  obtain ⟨own, h1, h2, h3⟩ := h.slots
  refine ⟨sub, fun a x => ⟨(kR a x).1, ?_⟩, h.len, own, fun i d e => ?_, h2, h3⟩
  · rw [(kR a x).2]
    exact (h.live a x).2
  · obtain ⟨v, e1, e2⟩ := h1 i d e
    exact ⟨v, e1, RepV.to kS d v _ _ e2 (fun _ x => x) fun a x => (kR a (h2 i a x)).2⟩
/-- nothing in hand -/
theorem Rel.get (h : Rel K S H σ ρ R) {i : Nat} {d : D} (e : ρ.get i = some d) : ∃ v, σ[i]? = some (some v) ∧ ∃ r : Own, (∀ a, r a → R a) ∧ RepV K S H d v r := by
  obtain ⟨own, h1, h2, h3⟩ := h.slots
  have e' : ρ[i]? = some (some d) := by
    unfold Rho.get at e
    cases q : ρ[i]? with
    | none => rw [q] at e; cases e
    | some x => rw [q] at e; simp only [Option.getD_some] at e; rw [e]
  obtain ⟨v, e1, e2⟩ := h1 i d e'
  exact ⟨v, e1, own i, h2 i, e2⟩
theorem Rho.get_eq {ρ : Rho} {i : Nat} {d : D} (e : ρ.get i = some d) : ρ[i]? = some (some d) := by
  unfold Rho.get at e
  cases q : ρ[i]? with
  | none => rw [q] at e; cases e
  | some x => rw [q] at e; simp only [Option.getD_some] at e; rw [e]
/-- a slot given away: its own part is split off -/
theorem Rel.take (h : Rel K S H σ ρ R) {i : Nat} {d : D} (e : ρ.get i = some d) : ∃ (v : V) (R1 r : Own), σ[i]? = some (some v) ∧ Rel K S H σ (ρ.set i none) R1 ∧ RepV K S H d v r ∧ Live S H r ∧ (∀ a, R1 a → ¬ r a) ∧ (∀ a, R1 a → R a) ∧ ∀ a, r a → R a := by
  obtain ⟨own, h1, h2, h3⟩ := h.slots
  obtain ⟨v, e1, e2⟩ := h1 i d (Rho.get_eq e)
  refine ⟨v, fun a => ∃ j, j ≠ i ∧ own j a, own i, e1, ⟨h.sub, fun a ⟨j, _, x⟩ => h.live a (h2 j a x), by rw [List.length_set]; exact h.len, fun j => if j = i then none_ else own j, fun j d' e' => ?_, fun j a x => ?_, fun j k a x y => ?_⟩, e2, fun a x => h.live a (h2 i a x), fun a ⟨j, n, x⟩ y => n (h3 j i a x y), fun a ⟨j, n, x⟩ => h2 j a x, h2 i⟩
  · by_cases q : j = i
    · subst q
      by_cases hl : j < ρ.length
      · rw [List.getElem?_set_self hl] at e'
        cases e'
      · rw [List.getElem?_eq_none (by rw [List.length_set]; omega)] at e'
        cases e'
    · rw [List.getElem?_set_ne (Ne.symm q)] at e'
      obtain ⟨w, w1, w2⟩ := h1 j d' e'
      refine ⟨w, w1, ?_⟩
      simpa only [q, if_false] using w2
  · by_cases q : j = i
    · simp only [q, if_true] at x
      exact x.elim
    · simp only [q, if_false] at x
      exact ⟨j, q, x⟩
  · by_cases q : j = i
    · simp only [q, if_true] at x
      exact x.elim
    · by_cases q' : k = i
      · simp only [q', if_true] at y
        exact y.elim
      · simp only [q, q', if_false] at x y
        exact h3 j k a x y
/-- a slot filled -/
theorem Rel.put (h : Rel K S H σ ρ R) {i : Nat} {d : D} {v : V} (hi : i < ρ.length) (q : RepV K S H d v r) (live : Live S H r) (dj : ∀ a, R a → ¬ r a) : Rel K S H (σ.set i (some v)) (ρ.set i (some d)) (fun a => R a ∨ r a) := by
  obtain ⟨own, h1, h2, h3⟩ := h.slots
  refine ⟨h.sub, fun a x => ?_, by rw [List.length_set, List.length_set]; exact h.len, fun j => if j = i then r else own j, fun j d' e' => ?_, fun j a x => ?_, fun j k a x y => ?_⟩
  · rcases x with x | x
    · exact h.live a x
    · exact live a x
  · by_cases q' : j = i
    · subst q'
      rw [List.getElem?_set_self hi] at e'
      cases e'
      refine ⟨v, List.getElem?_set_self (by rw [← h.len]; exact hi), ?_⟩
      simpa only [if_true] using q
    · rw [List.getElem?_set_ne (Ne.symm q')] at e'
      obtain ⟨w, w1, w2⟩ := h1 j d' e'
      refine ⟨w, ?_, ?_⟩
      · rw [List.getElem?_set_ne (Ne.symm q')]
        exact w1
      · simpa only [q', if_false] using w2
  · by_cases q' : j = i
    · simp only [q', if_true] at x
      exact .inr x
    · simp only [q', if_false] at x
      exact .inl (h2 j a x)
  · by_cases q1 : j = i
    · by_cases q2 : k = i
      · rw [q1, q2]
      · simp only [q1, if_true] at x
        simp only [q2, if_false] at y
        exact absurd x (dj a (h2 k a y))
    · by_cases q2 : k = i
      · simp only [q1, if_false] at x
        simp only [q2, if_true] at y
        exact absurd y (dj a (h2 j a x))
      · simp only [q1, q2, if_false] at x y
        exact h3 j k a x y
/-- .. where the slot holds the value already -/
theorem Rel.put' (h : Rel K S H σ ρ R) {i : Nat} {d : D} {v : V} (hi : i < ρ.length) (e : σ[i]? = some (some v)) (q : RepV K S H d v r) (live : Live S H r) (dj : ∀ a, R a → ¬ r a) : Rel K S H σ (ρ.set i (some d)) (fun a => R a ∨ r a) := by
  have k := h.put hi q live dj
  have e2 : σ.set i (some v) = σ := by
    apply List.ext_getElem?
    intro j
    by_cases q' : j = i
    · subst q'
      rw [List.getElem?_set_self (by rw [← h.len]; exact hi), e]
    · rw [List.getElem?_set_ne (Ne.symm q')]
  rw [e2] at k
  exact k
/-- a slot forgotten -/
theorem Rel.drop (h : Rel K S H σ ρ R) (i : Nat) : Rel K S H σ (ρ.set i none) R := by
  obtain ⟨own, h1, h2, h3⟩ := h.slots
  refine ⟨h.sub, h.live, by rw [List.length_set]; exact h.len, own, fun j d' e' => ?_, h2, h3⟩
  by_cases q : j = i
  · subst q
    by_cases hl : j < ρ.length
    · rw [List.getElem?_set_self hl] at e'
      cases e'
    · rw [List.getElem?_eq_none (by rw [List.length_set]; omega)] at e'
      cases e'
  · rw [List.getElem?_set_ne (Ne.symm q)] at e'
    exact h1 j d' e'
/-- a slot filled in the frame that the list of slots does not speak of -/
theorem Rel.wider (h : Rel K S H σ ρ R) {R' : Own} (k : ∀ a, R a → R' a) (live : Live S H R') : Rel K S H σ ρ R' := by
  obtain ⟨own, h1, h2, h3⟩ := h.slots
  exact ⟨h.sub, live, h.len, own, h1, fun i a x => k a (h2 i a x), h3⟩
end
end MP

set_option autoImplicit false
set_option linter.all false
set_option maxRecDepth 100000
/-! MP: readings, argument lists. -/
namespace MP
open PySem L2

/-- the forms that are served -/
def plainX : Expr → Bool
  | .Starred _ _ => false
  | .Set _ _ _ => false
  | _ => true
theorem star_plain {e : Expr} (h : plainX e = true) (es : List Expr) (env : Env) : starEach (e :: es) env = (false, eval e env) :: starEach es env := by
  cases e <;> first | rfl | cases h
theorem marks_plain {op : CmpOp} {e : Expr} (h : plainX e = true) : behindInMarks op e = false := by
  cases e <;> first | rfl | cases h
theorem fold_plain {e : Expr} (h : plainX e = true) (env : Env) (x : Value) : foldedSetIterable e env x = pure x := by
  cases e <;> first | rfl | cases h
theorem stars_none {es : List Expr} (h : ∀ e ∈ es, plainX e = true) (pos : Pos) (env : Env) : (backTo pos (starEach es env)).any (·.1) = false := by
  induction es with
  | nil => rfl
  | cons e es ih =>
    rw [star_plain (h e List.mem_cons_self)]
    show (false || (backTo pos (starEach es env)).any (·.1)) = false
    rw [Bool.false_or]
    exact ih fun x hx => h x (List.mem_cons_of_mem _ hx)

/-! ### argument lists -/
inductive All2 {α β : Type} (R : α → β → Prop) : List α → List β → Prop where
  | nil : All2 R [] []
  | cons {a : α} {b : β} {as : List α} {bs : List β} : R a b → All2 R as bs → All2 R (a :: as) (b :: bs)
def tL : List TE → TA
  | [] => tNil
  | t :: ts => tCons t (tL ts)
theorem pa_all {X : Cx} : ∀ {es : List Expr} {ts : List TE}, (∀ e ∈ es, plainX e = true) → All2 (PE X) es ts → PA X es (tL ts)
  | _, _, _, .nil => pa_nil
  | e :: es, _, h, .cons a as => pa_cons a (pa_all (fun x hx => h x (List.mem_cons_of_mem _ hx)) as) (star_plain (h e List.mem_cons_self) es _)
theorem PE.imp {X : Cx} {e : Expr} {t t' : TE} (h : PE X e t) (k : ∀ σ H Q, t' σ H Q → t σ H Q) : PE X e t' := ⟨fun pins s σ H Q I q => h.run pins s σ H Q I (k σ H Q q)⟩
theorem PT.imp {X : Cx} {e : Expr} {t t' : TT} (h : PT X e t) (k : ∀ σ H Q, t' σ H Q → t σ H Q) : PT X e t' := ⟨fun pins s σ H Q I q => h.run pins s σ H Q I (k σ H Q q)⟩
theorem PS.imp {X : Cx} {e : Stmt} {t t' : TS} (h : PS X e t) (k : ∀ D σ H, t' D σ H → t D σ H) : PS X e t' := ⟨fun pins s σ H D I q => h.run pins s σ H D I (k D σ H q)⟩
theorem PSs.imp {X : Cx} {e : List Stmt} {t t' : TS} (h : PSs X e t) (k : ∀ D σ H, t' D σ H → t D σ H) : PSs X e t' := ⟨fun pins s σ H D I q => h.run pins s σ H D I (k D σ H q)⟩
theorem PI.imp {X : Cx} {tg e : Expr} {t t' : TI} (h : PI X tg e t) (k : ∀ σ H Q, t' σ H Q → t σ H Q) : PI X tg e t' := ⟨fun pins s σ H Q I q => h.run pins s σ H Q I (k σ H Q q)⟩
theorem PG.imp {X : Cx} {e : Expr} {t t' : TG} (h : PG X e t) (k : ∀ v σ H Q, t' v σ H Q → t v σ H Q) : PG X e t' := ⟨fun pins s σ H v u Q I r q => h.run pins s σ H v u Q I r (k v σ H Q q)⟩

/-! ### the readings -/
/-- what is fixed -/
structure Md where
  P : Program
  w : World
  K : PySem.W.Frag
  mg : Str → Option Value
  base : Heap
  T : Tab
  ad : Nat → Addr          -- the classes
  fa : Nat → Addr          -- the defs

section
variable (M : Md) (W : WX)
/-- what is wanted of an outcome, at (S, H), the slots σ, R in hand -/
def OutR {α : Type} (S H : Hp) (σ : L2.St) (R : Own) (post : α → Rho → Prop) : MP.R α → Prop
  | .ok a ρ' => post a ρ'
  | .ex k ρ' => ∀ H' S' R', Fr S H R S' H' R' → Rel M.K S' H' σ ρ' R' → W (.ref (M.ad k)) none σ H'
  | .bad => False
/-- a value behind -/
def PostE (S H : Hp) (σ : L2.St) (R : Own) (Q : VK) (d : D) (ρ' : Rho) : Prop := ∀ (v : V) (H' S' : Hp) (R' r : Own), Fr S H R S' H' (fun a => R' a ∨ r a) → Rel M.K S' H' σ ρ' R' → RepV M.K S' H' d v r → Live S' H' r → (∀ a, R' a → ¬ r a) → Q v H'
/-- values behind, given away -/
def PostL (S H : Hp) (σ : L2.St) (R : Own) (Q : List V → Hp → Prop) (ds : List D) (ρ' : Rho) : Prop := ∀ (vs : List V) (H' S' : Hp) (R' r : Own), Fr S H R S' H' (fun a => R' a ∨ r a) → Rel M.K S' H' σ ρ' R' → RepVs M.K S' H' ds vs r → Live S' H' r → (∀ a, R' a → ¬ r a) → Q vs H'
/-- values behind, looked at -/
def PostP (S H : Hp) (σ : L2.St) (R : Own) (Q : List V → Hp → Prop) (ds : List D) (ρ' : Rho) : Prop := ∀ (vs : List V) (H' S' : Hp) (R' : Own), Fr S H R S' H' R' → Rel M.K S' H' σ ρ' R' → All2 (fun d v => ∃ r, RepV M.K S' H' d v r) ds vs → Q vs H'
variable (Φ : Nat → List D → FR)
def tE (c : CE) : TE := fun σ H Q => ∃ S R ρ, Rel M.K S H σ ρ R ∧ OutR M W S H σ R (PostE M S H σ R Q) (ev M.T Φ c ρ)
end

section
variable {M : Md} {W : WX} {Φ : Nat → List D → FR} {S H S1 H1 : Hp} {σ : L2.St} {R R1 T1 : Own}
theorem OutR.bind {α β : Type} {x : MP.R α} {f : α → Rho → MP.R β} {post : β → Rho → Prop} (h : OutR M W S H σ R post (x.bind f)) : OutR M W S H σ R (fun a ρ => OutR M W S H σ R post (f a ρ)) x := by
  cases x with
  | ok a ρ => exact h
  | ex k ρ => exact h
  | bad => exact h
theorem OutR.mono {α : Type} {x : MP.R α} {post post' : α → Rho → Prop} (h : OutR M W S H σ R post x) (k : ∀ a ρ, post a ρ → post' a ρ) : OutR M W S H σ R post' x := by
  cases x with
  | ok a ρ => exact k _ _ h
  | ex k ρ => exact h
  | bad => exact h
/-- the outcome of a second step, wanted from the first's state -/
theorem OutR.from {α : Type} {x : MP.R α} {post post' : α → Rho → Prop} (h : OutR M W S H σ R post x) (f : Fr S H R S1 H1 T1) (kR : ∀ a, R1 a → T1 a) (k : ∀ a ρ, post a ρ → post' a ρ) : OutR M W S1 H1 σ R1 post' x := by
  cases x with
  | ok a ρ => exact k _ _ h
  | ex k ρ => exact fun H' S' R' g rel => h H' S' R' ((f.trans g kR).less fun a x => .inl x) rel
  | bad => exact h
theorem OutR.of {α : Type} {ρ : Rho} {o : Option α} {post : α → Rho → Prop} (h : OutR M W S H σ R post (MP.R.of ρ o)) : ∃ a, o = some a ∧ post a ρ := by
  cases o with
  | some a => exact ⟨a, rfl, h⟩
  | none => exact h.elim

/-- no instance is served so far: a slot has no fields -/
theorem nofld {K : PySem.W.Frag} {S H : Hp} {σ : L2.St} {ρ : Rho} {R : Own} (rel : Rel K S H σ ρ R) (i : Nat) (f : Str) (fs : List Str) (d : D) (e : ρ.rd i (f :: fs) = some d) : False := by
  unfold Rho.rd at e
  cases q : ρ.get i with
  | none => rw [q] at e; cases e
  | some x =>
    rw [q] at e
    obtain ⟨v, _, r, _, rep⟩ := rel.get q
    cases x with
    | ins o c fn vs => rw [RepV] at rep; exact rep
    | _ => cases e
/-- the readings of arguments that are given away -/
def tsE (M : Md) (W : WX) (Φ : Nat → List D → FR) : CL → List TE
  | .nil => []
  | .cons a as => tE M W Φ a :: tsE M W Φ as
theorem evs_ent : ∀ (as : CL) {S H : Hp} {R : Own} {ρ : Rho} {Q : List V → Hp → Prop}, Rel M.K S H σ ρ R → OutR M W S H σ R (PostL M S H σ R Q) (evs M.T Φ as ρ) → tL (tsE M W Φ as) σ H Q
  | .nil, S, H, R, ρ, Q, rel, h => by
    rw [evs] at h
    exact h [] H S R none_ (Fr.refl.less fun a x => x.elim id False.elim) rel (by rw [RepVs]; trivial) (fun a x => x.elim) fun a _ x => x
  | .cons a as, S, H, R, ρ, Q, rel, h => by
    rw [evs] at h
    refine ⟨S, R, ρ, rel, h.bind.mono fun d ρ1 h1 => ?_⟩
    intro v H1 S1 R1 r f1 rel1 rep1 live1 dj1
    refine evs_ent as (S := S1) (R := R1) rel1 (OutR.from h1.bind f1 (fun a x => .inl x) fun ds ρ2 h2 => ?_)
    intro vs H2 S2 R2 rs f2 rel2 rep2 live2 dj2
    obtain ⟨c1, c2, c3⟩ := f2.aside live1 dj1
    refine h2 (v :: vs) H2 S2 R2 (fun a => r a ∨ rs a) ((f1.trans f2 fun a x => .inl x).less fun a x => ?_) rel2 ?_ (fun a x => ?_) fun a x y => ?_
    · rcases x with x | x | x
      · exact .inl (.inl x)
      · exact .inr (.inr x)
      · exact .inl (.inr x)
    · rw [RepVs]
      exact ⟨r, rs, fun a x => .inl x, fun a x => .inr x, fun a x y => c3 a (.inr y) x, f2.carry live1 dj1 rep1, rep2⟩
    · rcases x with x | x
      · exact c2 a x
      · exact live2 a x
    · rcases y with y | y
      · exact c3 a (.inl x) y
      · exact dj2 a x y

/-- .. of those that are looked at -/
def tsP (M : Md) (W : WX) (Φ : Nat → List D → FR) : CL → List TE
  | .nil => []
  | .cons (.rd i []) as => tVar i :: tsP M W Φ as
  | .cons a as => tE M W Φ a :: tsP M W Φ as
theorem evp_ent : ∀ (as : CL) {S H : Hp} {R : Own} {ρ : Rho} {Q : List V → Hp → Prop}, Rel M.K S H σ ρ R → OutR M W S H σ R (PostP M S H σ R Q) (evp M.T Φ as ρ) → tL (tsP M W Φ as) σ H Q
  | .nil, S, H, R, ρ, Q, rel, h => by
    rw [evp] at h
    exact h [] H S R Fr.refl rel .nil
  | .cons a as, S, H, R, ρ, Q, rel, h => by
    have gen : (∀ i fs, a ≠ .rd i fs) → tL (tsP M W Φ (.cons a as)) σ H Q := fun na => by
      have e1 : evp M.T Φ (.cons a as) ρ = (ev M.T Φ a ρ).bind fun d ρ => (evp M.T Φ as ρ).bind fun ds ρ => .ok (d :: ds) ρ := by
        rw [evp]
        · exact fun i e => na i [] e
        · exact fun i f fs e => na i (f :: fs) e
      have e2 : tsP M W Φ (.cons a as) = tE M W Φ a :: tsP M W Φ as := by
        rw [tsP]
        exact fun i e => na i [] e
      rw [e1] at h
      rw [e2]
      refine ⟨S, R, ρ, rel, h.bind.mono fun d ρ1 h1 => ?_⟩
      intro v H1 S1 R1 r f1 rel1 rep1 live1 dj1
      refine evp_ent as (S := S1) (R := R1) rel1 (OutR.from h1.bind f1 (fun a x => .inl x) fun ds ρ2 h2 => ?_)
      intro vs H2 S2 R2 f2 rel2 reps2
      exact h2 (v :: vs) H2 S2 R2 ((f1.trans f2 fun a x => .inl x).less fun a x => .inl x) rel2 (.cons ⟨r, f2.carry live1 dj1 rep1⟩ reps2)
    cases a with
    | rd i fs =>
      cases fs with
      | nil =>
        rw [evp] at h
        rw [tsP]
        cases q : ρ.get i with
        | none =>
          rw [q] at h
          exact h.elim
        | some d0 =>
          rw [q] at h
          obtain ⟨v, e, _⟩ := rel.get q
          refine ⟨v, e, evp_ent as rel (h.bind.mono fun ds ρ2 h2 => ?_)⟩
          intro vs H2 S2 R2 f2 rel2 reps2
          cases q2 : ρ2.get i with
          | none =>
            rw [q2] at h2
            exact h2.elim
          | some d =>
            rw [q2] at h2
            obtain ⟨v', e', r, _, rep⟩ := rel2.get q2
            rw [e] at e'
            cases e'
            dsimp only at h2
            split at h2
            · exact h2 (v :: vs) H2 S2 R2 f2 rel2 (.cons ⟨r, rep⟩ reps2)
            · exact h2.elim
      | cons f fs =>
        -- the field of a slot
        have e2 : tsP M W Φ (.cons (.rd i (f :: fs)) as) = tE M W Φ (.rd i (f :: fs)) :: tsP M W Φ as := by
          rw [tsP]
          intro i e
          cases e
        rw [evp] at h
        rw [e2]
        have hd : ∀ d, ρ.rd i (f :: fs) ≠ some d := fun d e => nofld rel i f fs d e
        cases q : ρ.rd i (f :: fs) with
        | none =>
          rw [q] at h
          exact h.elim
        | some d => exact absurd q (hd d)
    | _ => exact gen fun i fs e => nomatch e
end
end MP

set_option autoImplicit false
set_option linter.all false
set_option maxRecDepth 100000
/-! MP: the operations, by values. -/
namespace MP
open PySem L2

theorem lim_eq : lim = sizeLine := by rw [sizeLine_eq]; rfl

section
variable (K : PySem.W.Frag)
/-- v stands for d, whoever holds it -/
def Rep (S H : Hp) (d : D) (v : V) : Prop := ∃ r, RepV K S H d v r
/-- what an operation leaves -/
def PostO (S H : Hp) (Q : VK) (d : D) : Prop := ∀ (v : V) (H' S' : Hp) (r : Own), MP.Same S S' → MP.Same S' H' → MP.Same H H' → (∀ a, r a → H a = none) → (∀ a o, S' a = some o → S a = some o ∨ H a = none ∨ (Tp o ∧ H a = some o)) → RepV K S' H' d v r → Live S' H' r → Q v H'
end
section
variable {K : PySem.W.Frag} {S H : Hp} {Q : VK} {d : D} {v : V} {r : Own}

theorem PostO.same (h : PostO K S H Q d) (sub : MP.Same S H) (f : d.fl = false) (q : RepV K S H d v r) : Q v H :=
  h v H S none_ (Same.refl S) sub (Same.refl H) (fun _ x => x.elim) (fun _ _ e => .inl e) (RepV.sh_to q f (Same.refl S)) fun _ x => x.elim
theorem PostO.int {i : Int} (h : PostO K S H Q (.int i)) (sub : MP.Same S H) : Q (.int i) H := h.same (r := none_) sub rfl (by rw [RepV])
theorem PostO.bl {i : Bool} (h : PostO K S H Q (.bl i)) (sub : MP.Same S H) : Q (.bl i) H := h.same (r := none_) sub rfl (by rw [RepV])
theorem PostO.str {i : List Nat} (h : PostO K S H Q (.str i)) (sub : MP.Same S H) (z : i.length ≤ sizeLine) : Q (.str ⟨i.toArray⟩) H := h.same (r := none_) sub rfl (by rw [RepV]; exact ⟨rfl, z⟩)
theorem PostO.non (h : PostO K S H Q .non) (sub : MP.Same S H) : Q .non H := h.same (r := none_) sub rfl (by rw [RepV])
theorem same_upd {p : Addr} {o : HO} (np : H p = none) : MP.Same H (upd H p o) := fun b x e => by rw [upd_ne (ne_of_none e np)]; exact e
theorem none_up (sub : MP.Same S H) {p : Addr} (np : H p = none) : S p = none := by
  cases q : S p with
  | none => rfl
  | some o =>
    rw [sub p o q] at np
    cases np
theorem PostO.list {xs : List D} {vs : List V} {p : Addr} (h : PostO K S H Q (.lst true xs)) (sub : MP.Same S H) (u : unfl xs = true) (q : RepVs K S H xs vs r) (z : vs.length ≤ sizeLine) (np : H p = none) : Q (.ref p) (upd H p (.lst vs)) := by
  have sp := none_up sub np
  refine h (.ref p) (upd H p (.lst vs)) S (fun a => a = p) (Same.refl S) (Same.trans sub (same_upd np)) (same_upd np) (fun a x => by rw [x]; exact np) (fun _ _ e => .inl e) ?_ fun a x => ?_
  · rw [RepV]
    exact ⟨p, vs, none_, rfl, upd_same, z, rfl, fun b x => x.elim, RepVs.sh_to q u (Same.refl S)⟩
  · rw [x]
    exact ⟨sp, _, upd_same, Tp.lst⟩
theorem PostO.tup {xs : List D} {vs : List V} {p : Addr} (h : PostO K S H Q (.tup false xs)) (sub : MP.Same S H) (u : unfl xs = true) (q : RepVs K S H xs vs r) (z : vs.length ≤ sizeLine) (np : H p = none) : Q (.ref p) (upd H p (.tup vs)) := by
  have sp := none_up sub np
  refine h (.ref p) (upd H p (.tup vs)) (upd S p (.tup vs)) none_ (same_upd sp) (fun b o e => ?_) (same_upd np) (fun a x => x.elim) (fun b o e => ?_) ?_ fun a x => x.elim
  · by_cases hb : b = p
    · subst hb
      rw [upd_same] at e ⊢
      exact e
    · rw [upd_ne hb] at e ⊢
      exact sub b o e
  · by_cases hb : b = p
    · subst hb
      exact .inr (.inl np)
    · rw [upd_ne hb] at e
      exact .inl e
  · rw [RepV]
    exact ⟨p, vs, rfl, upd_same, z, fun _ => u, RepVs.sh_to q u (same_upd sp)⟩

theorem Rep.int {i : Int} (h : Rep K S H (.int i) v) : v = .int i := by obtain ⟨r, h⟩ := h; rw [RepV] at h; exact h
theorem Rep.bl {i : Bool} (h : Rep K S H (.bl i) v) : v = .bl i := by obtain ⟨r, h⟩ := h; rw [RepV] at h; exact h
theorem Rep.str {i : List Nat} (h : Rep K S H (.str i) v) : v = .str ⟨i.toArray⟩ := by obtain ⟨r, h⟩ := h; rw [RepV] at h; exact h.1
theorem Rep.strz {i : List Nat} (h : Rep K S H (.str i) v) : i.length ≤ sizeLine := by obtain ⟨r, h⟩ := h; rw [RepV] at h; exact h.2
theorem Rep.non (h : Rep K S H .non v) : v = .non := by obtain ⟨r, h⟩ := h; rw [RepV] at h; exact h
theorem Rep.lst {o : Bool} {xs : List D} (sub : MP.Same S H) (h : Rep K S H (.lst o xs) v) : ∃ a vs r, v = .ref a ∧ SqL K H a vs ∧ vs.length ≤ sizeLine ∧ RepVs K S H xs vs r := by
  obtain ⟨r, h⟩ := h
  cases o with
  | false =>
    rw [RepV] at h
    obtain ⟨a, vs, e, q, z, u, t⟩ := h
    exact ⟨a, vs, r, e, SqL.mono q sub, z, t⟩
  | true =>
    rw [RepV] at h
    obtain ⟨a, vs, r', e, q, z, _, k, t⟩ := h
    exact ⟨a, vs, r', e, SqL.of q, z, t⟩
theorem Rep.tup {o : Bool} {xs : List D} (sub : MP.Same S H) (h : Rep K S H (.tup o xs) v) : ∃ a vs r, v = .ref a ∧ SqT K H a vs ∧ vs.length ≤ sizeLine ∧ RepVs K S H xs vs r := by
  obtain ⟨r, h⟩ := h
  rw [RepV] at h
  obtain ⟨a, vs, e, q, z, u, t⟩ := h
  exact ⟨a, vs, r, e, .inl (.inl (sub _ _ q)), z, t⟩

/-! items -/
theorem RepVs.at : ∀ {xs : List D} {vs : List V} {r : Own} {i : Nat} {d : D}, RepVs K S H xs vs r → xs[i]? = some d → ∃ v r', vs[i]? = some v ∧ RepV K S H d v r'
  | [], _, _, _, _, _, e => by simp at e
  | x :: xs, [], _, _, _, h, _ => by rw [RepVs] at h; exact h.elim
  | x :: xs, v :: vs, r, 0, d, h, e => by
    rw [RepVs] at h
    obtain ⟨r1, r2, _, _, _, h1, _⟩ := h
    simp at e
    subst e
    exact ⟨v, r1, rfl, h1⟩
  | x :: xs, v :: vs, r, i + 1, d, h, e => by
    rw [RepVs] at h
    obtain ⟨r1, r2, _, _, _, _, h2⟩ := h
    obtain ⟨w, r', e1, e2⟩ := RepVs.at (i := i) (d := d) h2 (by simpa using e)
    exact ⟨w, r', by simpa using e1, e2⟩
theorem atI_rep {xs : List D} {vs : List V} {i : Int} {d : D} (h : RepVs K S H xs vs r) (e : atI xs i = some d) : ∃ v r', atI vs i = some v ∧ RepV K S H d v r' := by
  unfold atI at e ⊢
  rw [← h.len]
  cases q : ixN xs.length i with
  | none => rw [q] at e; cases e
  | some j =>
    rw [q] at e
    exact h.at e
/-- unflagged lists, by pieces -/
theorem RepVs.append : ∀ {xs ys : List D} {vs ws : List V} {r1 r2 : Own}, RepVs K S H xs vs r1 → RepVs K S H ys ws r2 → unfl xs = true → unfl ys = true → RepVs K S H (xs ++ ys) (vs ++ ws) none_
  | [], ys, [], ws, _, _, _, h2, _, u => RepVs.sh_to h2 u (Same.refl S)
  | [], _, _ :: _, _, _, _, h1, _, _, _ => by rw [RepVs] at h1; exact h1.elim
  | _ :: _, _, [], _, _, _, h1, _, _, _ => by rw [RepVs] at h1; exact h1.elim
  | x :: xs, ys, v :: vs, ws, _, _, h1, h2, u1, u2 => by
    obtain ⟨f1, f2⟩ := unfl_cons.mp u1
    rw [RepVs] at h1
    obtain ⟨_, _, _, _, _, a, b⟩ := h1
    show RepVs K S H (x :: (xs ++ ys)) (v :: (vs ++ ws)) none_
    rw [RepVs]
    exact ⟨none_, none_, fun _ x => x, fun _ x => x, fun _ x _ => x, RepV.sh_to a f1 (Same.refl S), RepVs.append b h2 f2 u2⟩
theorem RepVs.drop : ∀ (n : Nat) {xs : List D} {vs : List V} {r : Own}, RepVs K S H xs vs r → RepVs K S H (xs.drop n) (vs.drop n) r
  | 0, _, _, _, h => h
  | n + 1, [], [], _, h => h
  | n + 1, [], _ :: _, _, h => by rw [RepVs] at h; exact h.elim
  | n + 1, _ :: _, [], _, h => by rw [RepVs] at h; exact h.elim
  | n + 1, x :: xs, v :: vs, r, h => by
    rw [RepVs] at h
    obtain ⟨r1, r2, _, k2, _, _, b⟩ := h
    exact (RepVs.drop n b).mono k2
theorem RepVs.take : ∀ (n : Nat) {xs : List D} {vs : List V} {r : Own}, RepVs K S H xs vs r → RepVs K S H (xs.take n) (vs.take n) r
  | 0, _, _, _, _ => by rw [List.take_zero, List.take_zero, RepVs]; trivial
  | n + 1, [], [], _, h => h
  | n + 1, [], _ :: _, _, h => by rw [RepVs] at h; exact h.elim
  | n + 1, _ :: _, [], _, h => by rw [RepVs] at h; exact h.elim
  | n + 1, x :: xs, v :: vs, r, h => by
    rw [RepVs] at h
    obtain ⟨r1, r2, k1, k2, dj, a, b⟩ := h
    rw [List.take_succ_cons, List.take_succ_cons, RepVs]
    exact ⟨r1, r2, k1, k2, dj, a, RepVs.take n b⟩
theorem unfl_iff {ds : List D} : unfl ds = true ↔ ∀ d ∈ ds, d.fl = false := by
  unfold unfl
  simp
theorem unfl_sub {xs ys : List D} (h : unfl ys = true) (k : ∀ d ∈ xs, d ∈ ys) : unfl xs = true := unfl_iff.mpr fun d m => unfl_iff.mp h d (k d m)
theorem cut_rep {xs : List D} {vs : List V} (h : RepVs K S H xs vs r) (lo hi : Option Int) : RepVs K S H (cutL xs lo hi) (cutV vs lo hi) r := by
  unfold cutL cutV
  rw [← h.len]
  exact (h.drop _).take _
theorem unfl_cut {xs : List D} (h : unfl xs = true) (lo hi : Option Int) : unfl (cutL xs lo hi) = true := unfl_sub h fun d m => List.mem_of_mem_drop (List.mem_of_mem_take m)
theorem RepVs.ints : ∀ {xs : List D} {vs : List V} {r : Own} {is : List Int}, RepVs K S H xs vs r → ints? xs = some is → vs = is.map V.int
  | [], [], _, _, _, e => by cases e; rfl
  | [], _ :: _, _, _, h, _ => by rw [RepVs] at h; exact h.elim
  | _ :: _, [], _, _, h, _ => by rw [RepVs] at h; exact h.elim
  | x :: xs, v :: vs, r, is, h, e => by
    rw [RepVs] at h
    obtain ⟨r1, r2, _, _, _, a, b⟩ := h
    cases x with
    | int i =>
      rw [ints?] at e
      cases q : ints? xs with
      | none => rw [q] at e; cases e
      | some js =>
        rw [q] at e
        cases e
        rw [RepV] at a
        rw [a, RepVs.ints b q]
        rfl
    | _ => simp [ints?] at e
theorem RepVs.bls : ∀ {xs : List D} {vs : List V} {r : Own} {is : List Bool}, RepVs K S H xs vs r → bls? xs = some is → vs = is.map V.bl
  | [], [], _, _, _, e => by cases e; rfl
  | [], _ :: _, _, _, h, _ => by rw [RepVs] at h; exact h.elim
  | _ :: _, [], _, _, h, _ => by rw [RepVs] at h; exact h.elim
  | x :: xs, v :: vs, r, is, h, e => by
    rw [RepVs] at h
    obtain ⟨r1, r2, _, _, _, a, b⟩ := h
    cases x with
    | bl i =>
      rw [bls?] at e
      cases q : bls? xs with
      | none => rw [q] at e; cases e
      | some js =>
        rw [q] at e
        cases e
        rw [RepV] at a
        rw [a, RepVs.bls b q]
        rfl
    | _ => simp [bls?] at e

/-! data at any depth -/
mutual
theorem RepV.dp (sub : MP.Same S H) : ∀ (n : Nat) (d : D) (v : V) (r : Own), RepV K S H d v r → d.sh n = true → Dp K H v d.toP
  | _, .non, _, _, h, _ => by rw [RepV] at h; rw [h]; exact .non
  | _, .bl _, _, _, h, _ => by rw [RepV] at h; rw [h]; exact .bl _
  | _, .int _, _, _, h, _ => by rw [RepV] at h; rw [h]; exact .int _
  | _, .str _, _, _, h, _ => by rw [RepV] at h; rw [h.1]; exact .str _
  | 0, .tup _ _, _, _, _, s => by rw [D.sh] at s; cases s; all_goals simp
  | 0, .lst _ _, _, _, _, s => by rw [D.sh] at s; cases s; all_goals simp
  | n + 1, .tup o xs, v, r, h, s => by
    rw [D.sh] at s
    rw [RepV] at h
    obtain ⟨a, vs, e, q, z, u, t⟩ := h
    rw [e, D.toP]
    exact .tup (.inl (.inl (sub _ _ q))) (RepVs.dp sub n xs vs r t s)
  | n + 1, .lst false xs, v, r, h, s => by
    rw [D.sh] at s
    rw [RepV] at h
    obtain ⟨a, vs, e, q, z, u, t⟩ := h
    rw [e, D.toP]
    exact .lst (SqL.mono q sub) (RepVs.dp sub n xs vs r t s)
  | n + 1, .lst true xs, v, r, h, s => by
    rw [D.sh] at s
    rw [RepV] at h
    obtain ⟨a, vs, r', e, q, z, _, k, t⟩ := h
    rw [e, D.toP]
    exact .lst (SqL.of q) (RepVs.dp sub n xs vs r' t s)
  | n, .dic _ _ _ _, _, _, _, s => by cases n <;> cases s
  | n, .set _, _, _, h, _ => by rw [RepV] at h; exact h.elim
  | n, .ins _ _ _ _, _, _, h, _ => by rw [RepV] at h; exact h.elim
  | n, .exn _, _, _, h, _ => by rw [RepV] at h; exact h.elim
theorem RepVs.dp (sub : MP.Same S H) : ∀ (n : Nat) (ds : List D) (vs : List V) (r : Own), RepVs K S H ds vs r → shs n ds = true → DpAll K H vs (toPs ds)
  | _, [], [], _, _, _ => by rw [toPs]; exact .nil
  | _, [], _ :: _, _, h, _ => by rw [RepVs] at h; exact h.elim
  | _, _ :: _, [], _, h, _ => by rw [RepVs] at h; exact h.elim
  | n, d :: ds, v :: vs, r, h, s => by
    rw [RepVs] at h
    obtain ⟨r1, r2, _, _, _, a, b⟩ := h
    rw [shs, Bool.and_eq_true] at s
    rw [toPs]
    exact .cons (RepV.dp sub n d v r1 a s.1) (RepVs.dp sub n ds vs r2 b s.2)
end
mutual
theorem sh_can : ∀ (n : Nat) (d : D), d.sh n = true → d.toP.canLay0 = true ∧ d.toP.depth ≤ n
  | _, .non, _ => by simp [D.toP, PyData.canLay0, PyData.depth]
  | _, .bl _, _ => by simp [D.toP, PyData.canLay0, PyData.depth]
  | _, .int _, _ => by simp [D.toP, PyData.canLay0, PyData.depth]
  | _, .str s, h => by
    rw [D.sh] at h
    simp only [D.toP, PyData.canLay0, PyData.depth, Nat.zero_le, and_true]
    simpa [PyData.strOk] using h
  | 0, .tup _ _, s => by rw [D.sh] at s; cases s; all_goals simp
  | 0, .lst _ _, s => by rw [D.sh] at s; cases s; all_goals simp
  | n + 1, .tup _ xs, s => by
    rw [D.sh] at s
    have k := sh_cans n xs s
    simp only [D.toP, PyData.canLay0, PyData.depth]
    exact ⟨k.1, by omega⟩
  | n + 1, .lst _ xs, s => by
    rw [D.sh] at s
    have k := sh_cans n xs s
    simp only [D.toP, PyData.canLay0, PyData.depth]
    exact ⟨k.1, by omega⟩
  | n, .dic _ _ _ _, s => by rw [D.sh] at s; cases s; all_goals simp
  | n, .set _, s => by rw [D.sh] at s; cases s; all_goals simp
  | n, .ins _ _ _ _, s => by rw [D.sh] at s; cases s; all_goals simp
  | n, .exn _, s => by rw [D.sh] at s; cases s; all_goals simp
theorem sh_cans : ∀ (n : Nat) (ds : List D), shs n ds = true → PyData.canLayAll0 (toPs ds) = true ∧ PyData.depthAll (toPs ds) ≤ n
  | _, [], _ => by simp [toPs, PyData.canLayAll0, PyData.depthAll]
  | n, d :: ds, s => by
    rw [shs, Bool.and_eq_true] at s
    have a := sh_can n d s.1
    have b := sh_cans n ds s.2
    rw [toPs, PyData.canLayAll0, PyData.depthAll, a.1, b.1]
    exact ⟨rfl, by omega⟩
end
theorem nice_shaped {d : D} (h : nice d = true) : SeqAt.shaped d.toP = true := by
  have k := sh_can 60 d h
  unfold SeqAt.shaped
  rw [k.1, Bool.true_and]
  exact decide_eq_true (by omega)
theorem Rep.dp (sub : MP.Same S H) (h : Rep K S H d v) (n : nice d = true) : Dp K H v d.toP := by
  obtain ⟨r, h⟩ := h
  exact RepV.dp sub 60 d v r h n
theorem shs_all {n : Nat} : ∀ {ds : List D}, (∀ d ∈ ds, d.sh n = true) → shs n ds = true
  | [], _ => rfl
  | d :: ds, h => by
    rw [shs, h d List.mem_cons_self, Bool.true_and]
    exact shs_all fun x m => h x (List.mem_cons_of_mem _ m)
theorem all_shs {n : Nat} : ∀ {ds : List D}, shs n ds = true → ∀ d ∈ ds, d.sh n = true
  | [], _, d, m => by cases m
  | x :: ds, h, d, m => by
    rw [shs, Bool.and_eq_true] at h
    rcases List.mem_cons.mp m with e | m
    · rw [e]; exact h.1
    · exact all_shs h.2 d m
theorem toPs_map (ds : List D) : toPs ds = ds.map D.toP := by
  induction ds with
  | nil => rfl
  | cons d ds ih => rw [toPs, ih]; rfl
end
end MP

set_option autoImplicit false
set_option linter.all false
set_option maxRecDepth 100000
/-! MP: each operation is what the model does. -/
namespace MP
open PySem L2

theorem all2_two {α β : Type} {R : α → β → Prop} {a b : α} {x y : β} (h : All2 R [a, b] [x, y]) : R a x ∧ R b y := by
  cases h with
  | cons h1 t => cases t with
    | cons h2 t2 => exact ⟨h1, h2⟩
theorem all2_one {α β : Type} {R : α → β → Prop} {a : α} {x : β} (h : All2 R [a] [x]) : R a x := by
  cases h with
  | cons h1 t => exact h1
theorem All2.len {α β : Type} {R : α → β → Prop} {as : List α} {bs : List β} (h : All2 R as bs) : as.length = bs.length := by
  induction h with
  | nil => rfl
  | cons _ _ ih => rw [List.length_cons, List.length_cons, ih]

/-- an operation of two, of one, by values -/
def Ok2 (K : PySem.W.Frag) (f : List D → Option D) (r : R2) : Prop := ∀ (ds : List D) (d : D) (x y : V) (S H : Hp) (Q : VK), f ds = some d → All2 (Rep K S H) ds [x, y] → MP.Same S H → PostO K S H Q d → r x y H Q
def Ok1 (K : PySem.W.Frag) (f : List D → Option D) (r : V → Hp → VK → Prop) : Prop := ∀ (ds : List D) (d : D) (x : V) (S H : Hp) (Q : VK), f ds = some d → All2 (Rep K S H) ds [x] → MP.Same S H → PostO K S H Q d → r x H Q
theorem two_of {α β : Type} {R : α → β → Prop} {ds : List α} {x y : β} (h : All2 R ds [x, y]) : ∃ a b, ds = [a, b] ∧ R a x ∧ R b y := by
  cases h with
  | cons h1 t => cases t with
    | cons h2 t2 => cases t2; exact ⟨_, _, rfl, h1, h2⟩
theorem one_of {α β : Type} {R : α → β → Prop} {ds : List α} {x : β} (h : All2 R ds [x]) : ∃ a, ds = [a] ∧ R a x := by
  cases h with
  | cons h1 t => cases t; exact ⟨_, rfl, h1⟩

section
variable {X : Cx} {K : PySem.W.Frag}
/-! ### + -/
def rCatL (K : PySem.W.Frag) : R2 := fun x y H Q => ∃ l b xs zs, x = .ref l ∧ y = .ref b ∧ SqL K H l xs ∧ SqL K H b zs ∧ xs.length + zs.length ≤ sizeLine ∧ ∀ p, H p = none → Q (.ref p) (upd H p (.lst (xs ++ zs)))
theorem op_catLL : OpR X (binaryOp .Add) (rCatL X.K) := by
  intro pins s σ H x y v u Q I rx ry h
  obtain ⟨l, b, xs, zs, rfl, rfl, hH, hB, hz, q⟩ := h
  cases rx
  cases ry
  obtain ⟨is1, v1, ⟨⟨cls, dd, data, sl⟩, n, ho, hc, hdd, hd⟩, z1⟩ := I.list hH
  obtain ⟨is2, v2, ⟨⟨cls2, dd2, data2, sl2⟩, n2, ho2, hc2, hdd2, hd2⟩, z2⟩ := I.list hB
  simp only at hc hdd hd hc2 hdd2 hd2
  subst hc hdd hd hc2 hdd2 hd2
  have l1 := v1.length
  have l2 := v2.length
  refine concat_meets ⟨_, ho, rfl⟩ ⟨_, ho2, rfl⟩ noFill_list_add seq_list_add PySem.F.slot_list_add PySem.F.entry_list_add (PySem.F.args_list_add_2 _ _) (PyProof.Rows.list_addW l b is1.toArray is2.toArray n n2 none none sl sl2 (by rw [List.size_toArray, List.size_toArray]; omega)) ⟨ho, ho2, ?_⟩
  have cat : is1.toArray ++ is2.toArray = (is1 ++ is2).toArray := by simp
  rw [cat]
  exact ⟨.ref _, _, I.lnew (t' := s.toks) (v1.append v2) (by rw [List.length_append]; omega), rfl, q _ I.fresh⟩
def rCatT0 (K : PySem.W.Frag) : R2 := fun x y H Q => ∃ a b ys, x = .ref a ∧ y = .ref b ∧ SqT K H a [] ∧ SqT K H b ys ∧ Q (.ref b) H
theorem op_catT0 : OpR X (binaryOp .Add) (rCatT0 X.K) := by
  intro pins s σ H x y v u Q I rx ry h
  obtain ⟨l, b, zs, rfl, rfl, hH, hB, q⟩ := h
  cases rx
  cases ry
  obtain ⟨is1, v1, ⟨⟨cls, dd, data, sl⟩, ho, hc, n, hd⟩, z1⟩ := I.tuple hH
  obtain ⟨is2, v2, ⟨⟨cls2, dd2, data2, sl2⟩, ho2, hc2, n2, hd2⟩, z2⟩ := I.tuple hB
  simp only at hc hd hc2 hd2
  subst hc hd hc2 hd2
  cases v1
  exact concat_meets ⟨_, ho, rfl⟩ ⟨_, ho2, rfl⟩ noFill_tuple_add seq_tuple_add PySem.F.slot_tuple_add PySem.F.entry_tuple_add (PySem.F.args_tuple_add_2 _ _) (PyProof.Rows.tuple_addW0 l b _ is2.toArray n n2 dd dd2 sl sl2 rfl) ⟨ho, ho2, ⟨.ref b, H, I, rfl, q⟩⟩
def rAddAll (K : PySem.W.Frag) : R2 := fun x y H Q => (rI0 fun i j => .int (i + j)) x y H Q ∨ (∃ i j, x = .str i ∧ y = .str j ∧ i.length + j.length ≤ sizeLine ∧ Q (.str (i ++ j)) H) ∨ rCatL K x y H Q ∨ rCatT K x y H Q ∨ rCatT0 K x y H Q
theorem op_addAll : OpR X (binaryOp .Add) (rAddAll X.K) := op_add.or (op_add_str.or (op_catLL.or (op_catT.or op_catT0)))
theorem ok_add : Ok2 K o_add (rAddAll K) := by
  intro ds d x y S H Q e reps sub post
  obtain ⟨a, b, rfl, ra, rb⟩ := two_of reps
  unfold o_add at e
  split at e
  · rename_i i j q
    simp only [List.cons.injEq, and_true] at q
    obtain ⟨rfl, rfl⟩ := q
    cases e
    exact .inl ⟨i, j, ra.int, rb.int, post.int sub⟩
  · rename_i i j q
    simp only [List.cons.injEq, and_true] at q
    obtain ⟨rfl, rfl⟩ := q
    split at e
    · rename_i hz
      cases e
      have hz' : (i ++ j).length ≤ sizeLine := by rw [← lim_eq, List.length_append]; exact hz
      refine .inr (.inl ⟨_, _, ra.str, rb.str, ?_, ?_⟩)
      · rw [← lim_eq]
        simpa [Str.length] using hz
      · have := post.str sub hz'
        have e2 : (⟨i.toArray⟩ ++ ⟨j.toArray⟩ : Str) = ⟨(i ++ j).toArray⟩ := by
          show Str.append _ _ = _
          simp [Str.append]
        rw [e2]
        exact this
    · cases e
  · rename_i o1 xs o2 ys q
    simp only [List.cons.injEq, and_true] at q
    obtain ⟨rfl, rfl⟩ := q
    split at e
    · rename_i hz
      simp only [Bool.and_eq_true, decide_eq_true_eq] at hz
      cases e
      obtain ⟨p1, vs, r1, rfl, q1, z1, t1⟩ := ra.lst sub
      obtain ⟨p2, ws, r2, rfl, q2, z2, t2⟩ := rb.lst sub
      have hl : vs.length + ws.length ≤ sizeLine := by rw [← lim_eq, ← t1.len, ← t2.len]; exact hz.1.1
      exact .inr (.inr (.inl ⟨p1, p2, vs, ws, rfl, rfl, q1, q2, hl, fun p np => post.list sub (unfl_iff.mpr fun d m => (List.mem_append.mp m).elim (unfl_iff.mp hz.1.2 d) (unfl_iff.mp hz.2 d)) (t1.append t2 hz.1.2 hz.2) (by rw [List.length_append]; exact hl) np⟩))
    · cases e
  · rename_i o1 xs o2 ys q
    simp only [List.cons.injEq, and_true] at q
    obtain ⟨rfl, rfl⟩ := q
    split at e
    · rename_i hz
      simp only [Bool.and_eq_true, decide_eq_true_eq] at hz
      cases e
      obtain ⟨p1, vs, r1, rfl, q1, z1, t1⟩ := ra.tup sub
      obtain ⟨p2, ws, r2, rfl, q2, z2, t2⟩ := rb.tup sub
      have hl : vs.length + ws.length ≤ sizeLine := by rw [← lim_eq, ← t1.len, ← t2.len]; exact hz.1.1
      have hu : unfl (xs ++ ys) = true := unfl_iff.mpr fun d m => (List.mem_append.mp m).elim (unfl_iff.mp hz.1.2 d) (unfl_iff.mp hz.2 d)
      by_cases hv : vs = []
      · subst hv
        have hx : xs = [] := by
          have := t1.len
          cases xs with
          | nil => rfl
          | cons _ _ => simp at this
        subst hx
        refine .inr (.inr (.inr (.inr ⟨p1, p2, ws, rfl, rfl, q1, q2, ?_⟩)))
        obtain ⟨r3, rb3⟩ := rb
        rw [RepV] at rb3
        obtain ⟨p3, ws3, e3, q3, z3, u3, t3⟩ := rb3
        cases e3
        refine PostO.same (d := .tup false ([] ++ ys)) post sub rfl (r := r3) ?_
        rw [RepV, List.nil_append]
        exact ⟨p2, ws3, rfl, q3, z3, fun _ => hz.2, t3⟩
      · refine .inr (.inr (.inr (.inl ⟨p1, p2, vs, ws, rfl, rfl, q1, q2, hv, hl, fun hw => ?_, fun hw p np => post.tup sub hu (t1.append t2 hz.1.2 hz.2) (by rw [List.length_append]; exact hl) np⟩)))
        subst hw
        have hy : ys = [] := by
          have := t2.len
          cases ys with
          | nil => rfl
          | cons _ _ => simp at this
        subst hy
        obtain ⟨r3, ra3⟩ := ra
        rw [RepV] at ra3
        obtain ⟨p3, ws3, e3, q3, z3, u3, t3⟩ := ra3
        cases e3
        refine PostO.same (d := .tup false (xs ++ [])) post sub rfl (r := r3) ?_
        rw [RepV, List.append_nil]
        exact ⟨p1, ws3, rfl, q3, z3, fun _ => hz.1.2, t3⟩
    · cases e
  · cases e
end
end MP

set_option autoImplicit false
set_option linter.all false
set_option maxRecDepth 100000
/-! MP: dicts. -/
namespace MP
open PySem L2

theorem str_ext {s t : List Nat} (h : (⟨s.toArray⟩ : Str) = ⟨t.toArray⟩) : s = t := by
  have := congrArg (fun z : Str => z.cps.toList) h
  simpa using this
theorem keyK_inv {a : D} {x : Key} (h : keyK a = some x) : (∃ i, a = .int i ∧ x = .inl i) ∨ ∃ s, a = .str s ∧ x = .inr ⟨s.toArray⟩ := by
  cases a with
  | int i => cases h; exact .inl ⟨i, rfl, rfl⟩
  | str s => cases h; exact .inr ⟨s, rfl, rfl⟩
  | _ => cases h
theorem keyK_eq {a b : D} {x y : Key} (ha : keyK a = some x) (hb : keyK b = some y) : eqD a b = decide (x = y) := by
  rcases keyK_inv ha with ⟨i, rfl, rfl⟩ | ⟨s, rfl, rfl⟩ <;> rcases keyK_inv hb with ⟨j, rfl, rfl⟩ | ⟨t, rfl, rfl⟩
  · show (i == j) = _
    rw [Bool.eq_iff_iff, beq_iff_eq, decide_eq_true_eq]
    exact ⟨fun e => by rw [e], fun e => Sum.inl.inj e⟩
  · rfl
  · rfl
  · simp only [eqD, D.toP, PyData.eqv]
    rw [Bool.eq_iff_iff, beq_iff_eq, decide_eq_true_eq]
    exact ⟨fun e => by rw [e], fun e => Sum.inr.inj e⟩
theorem keysK_eq : ∀ {as bs : List D} {xs ys : List Key}, keysK as = some xs → keysK bs = some ys → PyData.eqvAll (toPs as) (toPs bs) = decide (xs = ys)
  | [], [], xs, ys, ha, hb => by cases ha; cases hb; simp [toPs, PyData.eqvAll]
  | [], b :: bs, xs, ys, ha, hb => by
    cases ha
    rw [keysK] at hb
    obtain ⟨k, _, hb⟩ := Option.bind_eq_some_iff.mp hb
    obtain ⟨ks, _, rfl⟩ := Option.map_eq_some_iff.mp hb
    simp [toPs, PyData.eqvAll]
  | a :: as, [], xs, ys, ha, hb => by
    cases hb
    rw [keysK] at ha
    obtain ⟨k, _, ha⟩ := Option.bind_eq_some_iff.mp ha
    obtain ⟨ks, _, rfl⟩ := Option.map_eq_some_iff.mp ha
    simp [toPs, PyData.eqvAll]
  | a :: as, b :: bs, xs, ys, ha, hb => by
    rw [keysK] at ha hb
    obtain ⟨k, hk, ha⟩ := Option.bind_eq_some_iff.mp ha
    obtain ⟨ks, hks, rfl⟩ := Option.map_eq_some_iff.mp ha
    obtain ⟨l, hl, hb⟩ := Option.bind_eq_some_iff.mp hb
    obtain ⟨ls, hls, rfl⟩ := Option.map_eq_some_iff.mp hb
    rw [toPs, toPs, PyData.eqvAll, keysK_eq hks hls]
    have := keyK_eq hk hl
    unfold eqD at this
    rw [this, Bool.eq_iff_iff]
    simp
theorem keyT_inv {a : D} {x : List Key} (h : keyT a = some x) : ∃ o ds, a = .tup o ds ∧ keysK ds = some x := by
  cases a with
  | tup o ds => exact ⟨o, ds, rfl, h⟩
  | _ => cases h
theorem keyT_eq {a b : D} {x y : List Key} (ha : keyT a = some x) (hb : keyT b = some y) : eqD a b = decide (x = y) := by
  obtain ⟨o, ds, rfl, h1⟩ := keyT_inv ha
  obtain ⟨p, es, rfl, h2⟩ := keyT_inv hb
  unfold eqD
  rw [D.toP, D.toP, PyData.eqv]
  exact keysK_eq h1 h2
/-- a dict's look-up, by keys -/
theorem look_val {κ : Type} [DecidableEq κ] {key : D → Option κ} (ke : ∀ {a b x y}, key a = some x → key b = some y → eqD a b = decide (x = y)) {k : D} {x : κ} (hk : key k = some x) :
    ∀ {ks : List D} {kk : List κ} {K : PySem.W.Frag} {S H : Hp} {vs : List D} {ws : List V} {r : Own}, ks.mapM key = some kk → RepVs K S H vs ws r → ks.length = ws.length →
      (lookD k ks vs = none → valV (kk.zip ws) x = none) ∧ ∀ d, lookD k ks vs = some d → ∃ w r', valV (kk.zip ws) x = some w ∧ RepV K S H d w r'
  | [], kk, K, S, H, vs, ws, r, hm, hr, hl => by
    cases hm
    refine ⟨fun _ => rfl, fun d h => ?_⟩
    cases vs <;> cases h
  | a :: ks, kk, K, S, H, vs, ws, r, hm, hr, hl => by
    rw [List.mapM_cons] at hm
    obtain ⟨y, hy, hm⟩ := Option.bind_eq_some_iff.mp hm
    obtain ⟨kk', hk', hm⟩ := Option.bind_eq_some_iff.mp hm
    cases hm
    cases ws with
    | nil => cases hl
    | cons w ws =>
      cases vs with
      | nil => rw [RepVs] at hr; exact hr.elim
      | cons v vs =>
        rw [RepVs] at hr
        obtain ⟨r1, r2, _, _, _, h1, h2⟩ := hr
        obtain ⟨i1, i2⟩ := look_val ke hk hk' h2 (by simpa using hl)
        have e := ke hy hk
        rw [lookD, e, List.zip_cons_cons]
        by_cases hxy : y = x
        · rw [decide_eq_true hxy]
          simp only [if_true]
          refine ⟨fun h => (by cases h), fun d h => ?_⟩
          cases h
          exact ⟨w, r1, valV_pos hxy, h1⟩
        · rw [decide_eq_false hxy]
          rw [valV_neg hxy]
          simp only [Bool.false_eq_true, if_false]
          exact ⟨i1, i2⟩
section
variable {K : PySem.W.Frag} {S H : Hp}
theorem Rep.dic {o : Bool} {kd : Nat} {ks vs : List D} {v : V} (sub : MP.Same S H) (h : Rep K S H (.dic o kd ks vs) v) : ∃ a ws ho r, v = .ref a ∧ dicHO kd ks ws = some ho ∧ H a = some ho ∧ ws.length ≤ sizeLine ∧ ks.length = ws.length ∧ RepVs K S H vs ws r := by
  obtain ⟨r, h⟩ := h
  cases o with
  | false =>
    rw [RepV] at h
    obtain ⟨a, ws, ho, e, q, q2, z, l, u, t⟩ := h
    exact ⟨a, ws, ho, r, e, q, sub _ _ q2, z, l, t⟩
  | true =>
    rw [RepV] at h
    obtain ⟨a, ws, ho, r', e, q, q2, z, l, _, _, t⟩ := h
    exact ⟨a, ws, ho, r', e, q, q2, z, l, t⟩
theorem rep_keyK {d : D} {x : V} {k : Key} (h : Rep K S H d x) (e : keyK d = some k) : x = kV k := by
  rcases keyK_inv e with ⟨i, rfl, rfl⟩ | ⟨s, rfl, rfl⟩
  · exact h.int
  · exact h.str
theorem reps_keysK : ∀ {ds : List D} {ws : List V} {ks : List Key} {r : Own}, RepVs K S H ds ws r → keysK ds = some ks → ws = ks.map kV
  | [], [], ks, r, h, e => by cases e; rfl
  | [], _ :: _, _, _, h, _ => by rw [RepVs] at h; exact h.elim
  | _ :: _, [], _, _, h, _ => by rw [RepVs] at h; exact h.elim
  | d :: ds, w :: ws, ks, r, h, e => by
    rw [RepVs] at h
    obtain ⟨r1, r2, _, _, _, h1, h2⟩ := h
    rw [keysK] at e
    obtain ⟨k, hk, e⟩ := Option.bind_eq_some_iff.mp e
    obtain ⟨ks', hks, rfl⟩ := Option.map_eq_some_iff.mp e
    rw [List.map_cons, ← rep_keyK ⟨r1, h1⟩ hk, ← reps_keysK h2 hks]
theorem rep_keyT {d : D} {x : V} {k : List Key} (sub : MP.Same S H) (h : Rep K S H d x) (e : keyT d = some k) : ∃ b, x = .ref b ∧ H b = some (.tup (k.map kV)) := by
  obtain ⟨o, ds, rfl, e⟩ := keyT_inv e
  obtain ⟨r, h⟩ := h
  rw [RepV] at h
  obtain ⟨a, vs, rfl, q, z, u, t⟩ := h
  rw [reps_keysK t e] at q
  exact ⟨a, rfl, sub _ _ q⟩
theorem dicHO_0 {ks : List D} {ws : List V} {ho : HO} (h : dicHO 0 ks ws = some ho) : ∃ kk, ks.mapM keyK = some kk ∧ kk.Nodup ∧ ho = .dK (kk.zip ws) := by
  unfold dicHO at h
  rw [if_pos rfl] at h
  obtain ⟨kk, e, h⟩ := Option.bind_eq_some_iff.mp h
  split at h
  · cases h; exact ⟨kk, e, by assumption, rfl⟩
  · cases h
theorem dicHO_1 {ks : List D} {ws : List V} {ho : HO} (h : dicHO 1 ks ws = some ho) : ∃ kk, ks.mapM keyT = some kk ∧ kk.Nodup ∧ ho = .dT (kk.zip ws) := by
  unfold dicHO at h
  rw [if_neg (by decide), if_pos rfl] at h
  obtain ⟨kk, e, h⟩ := Option.bind_eq_some_iff.mp h
  split at h
  · cases h; exact ⟨kk, e, by assumption, rfl⟩
  · cases h
theorem dicHO_tp {kd : Nat} {ks : List D} {ws : List V} {ho : HO} (h : dicHO kd ks ws = some ho) : ¬ Tp ho := by
  by_cases k0 : kd = 0
  · subst k0
    obtain ⟨_, _, _, rfl⟩ := dicHO_0 h
    exact Tp.dK
  · by_cases k1 : kd = 1
    · subst k1
      obtain ⟨_, _, _, rfl⟩ := dicHO_1 h
      exact Tp.dT
    · unfold dicHO at h
      rw [if_neg k0, if_neg k1] at h
      cases h
theorem keyOk_inv {kd : Nat} {k : D} (h : keyOk kd k = true) : nice k = true ∧ k.fl = false ∧ ((kd = 0 ∧ ∃ x, keyK k = some x) ∨ (kd = 1 ∧ ∃ x, keyT k = some x)) := by
  unfold keyOk at h
  simp only [Bool.and_eq_true, Bool.not_eq_true'] at h
  refine ⟨h.1.1, h.1.2, ?_⟩
  have h2 := h.2
  split at h2
  · exact .inl ⟨by assumption, Option.isSome_iff_exists.mp h2⟩
  · split at h2
    · exact .inr ⟨by assumption, Option.isSome_iff_exists.mp h2⟩
    · cases h2
/-- what stands at a key -/
theorem rep_get {o : Bool} {kd : Nat} {ks vs : List D} {v x : V} {k : D} (sub : MP.Same S H) (h : Rep K S H (.dic o kd ks vs) v) (hk : keyOk kd k = true) (hx : Rep K S H k x) :
    ∃ a r, v = .ref a ∧ DGet H a x r ∧ IsD H a ∧ (lookD k ks vs = none → r = none) ∧ ∀ d, lookD k ks vs = some d → ∃ w r', r = some w ∧ RepV K S H d w r' := by
  obtain ⟨a, ws, ho, r, rfl, q, q2, z, l, t⟩ := h.dic sub
  obtain ⟨n, f, kc⟩ := keyOk_inv hk
  rcases kc with ⟨rfl, x', hx'⟩ | ⟨rfl, x', hx'⟩
  · obtain ⟨kk, e1, nd, rfl⟩ := dicHO_0 q
    obtain ⟨i1, i2⟩ := look_val keyK_eq hx' e1 t l
    rw [rep_keyK hx hx']
    exact ⟨a, _, rfl, .inl ⟨_, x', .inl q2, rfl, rfl⟩, .inl ⟨_, .inl q2⟩, i1, i2⟩
  · obtain ⟨kk, e1, nd, rfl⟩ := dicHO_1 q
    obtain ⟨i1, i2⟩ := look_val keyT_eq hx' e1 t l
    obtain ⟨b, rfl, hb⟩ := rep_keyT sub hx hx'
    exact ⟨a, _, rfl, .inr ⟨_, x', b, .inl q2, rfl, hb, rfl⟩, .inr ⟨_, .inl q2⟩, i1, i2⟩
end
/-! ### as operations -/
section
variable {X : Cx}
def rInDic : R2 := fun x y H Q => ∃ a o, y = .ref a ∧ DGet H a x o ∧ Q (.bl o.isSome) H
def rNotInDic : R2 := fun x y H Q => ∃ a o, y = .ref a ∧ DGet H a x o ∧ Q (.bl (!o.isSome)) H
def rIxDic : R2 := fun x y H Q => ∃ a w, x = .ref a ∧ DGet H a y (some w) ∧ Q w H
theorem op_inDic (hu : X.A.units + 1 < cLine) : OpR X (compareOp .In) rInDic := by
  intro pins s σ H x y v u Q I rx ry ⟨a, o, ey, g, q⟩
  subst ey
  obtain rfl : u = Value.ref a := ry
  exact d_in hu I g rx fun s3 I3 => ⟨.bl o.isSome, H, I3, rfl, q⟩
theorem op_notInDic (hu : X.A.units + 1 < cLine) : OpR X (compareOp .NotIn) rNotInDic := by
  intro pins s σ H x y v u Q I rx ry ⟨a, o, ey, g, q⟩
  subst ey
  obtain rfl : u = Value.ref a := ry
  exact d_notIn hu I g rx fun s3 I3 => ⟨.bl (!o.isSome), H, I3, rfl, q⟩
theorem ix_dic (hu : X.A.units + 1 < cLine) : IxR X rIxDic := by
  intro value slice pins s σ H x y v u Q I rx ry ⟨a, w, ex, g, q⟩ hs
  subst ex
  obtain rfl : v = Value.ref a := rx
  exact PyProof.Rows.tail_any (dict_typeIs I g) PySem.F.slot_dict_getitem.lookup (d_getItem hu I g ry fun w' s3 I3 rw' => ⟨w, H, I3, rw', q⟩) hs
end
end MP

set_option autoImplicit false
set_option linter.all false
set_option maxRecDepth 100000
/-! MP: more operations. -/
namespace MP
open PySem L2
section
variable {X : Cx} {K : PySem.W.Frag}

theorem rep_unfl {xs : List D} (h : unfl xs = true) (n : Nat) : unfl (List.replicate n xs).flatten = true := unfl_iff.mpr fun d hd => by
  obtain ⟨l, hl, hd⟩ := List.mem_flatten.mp hd
  rw [List.eq_of_mem_replicate hl] at hd
  exact unfl_iff.mp h d hd
theorem rep_reps {S H : Hp} {xs : List D} {vs : List V} {r : Own} (t : RepVs K S H xs vs r) (h : unfl xs = true) : ∀ n, RepVs K S H (List.replicate n xs).flatten (List.replicate n vs).flatten none_
  | 0 => by rw [List.replicate_zero, List.replicate_zero, List.flatten_nil, List.flatten_nil, RepVs]; trivial
  | n + 1 => by
    rw [List.replicate_succ, List.replicate_succ, List.flatten_cons, List.flatten_cons]
    exact t.append (rep_reps t h n) h (rep_unfl h n)
/-- two ints to a value -/
theorem ok_ii {f : List D → Option D} {C : Int → Int → Prop} {g : Int → Int → Int} (h : ∀ (ds : List D) (d : D), f ds = some d → ∃ i j, ds = [.int i, .int j] ∧ C i j ∧ d = .int (g i j)) : Ok2 K f (rI C fun i j => .int (g i j)) := by
  intro ds d x y S H Q e reps sub post
  obtain ⟨i, j, rfl, c, rfl⟩ := h ds d e
  obtain ⟨ra, rb⟩ := all2_two reps
  exact ⟨i, j, ra.int, rb.int, c, post.int sub⟩
theorem ok_sub : Ok2 K o_sub (rI0 fun i j => .int (i - j)) := by
  intro ds d x y S H Q e reps sub post
  unfold o_sub at e
  split at e
  · cases e
    obtain ⟨ra, rb⟩ := all2_two reps
    exact ⟨_, _, ra.int, rb.int, post.int sub⟩
  · cases e
def rMulS : R2 := fun x y H Q => ∃ (z : Str) (k : Int), x = .str z ∧ y = .int k ∧ MulOk z k ∧ Q (.str (Txt.mul z k)) H
theorem op_mulS : OpR X (binaryOp .Mult) rMulS := by
  intro pins s σ H x y v u Q I rx ry ⟨z, k, e1, e2, ok, q⟩
  subst e1 e2
  obtain ⟨t, rfl⟩ := rx
  obtain ⟨t', rfl⟩ := ry
  exact PySem.SB.mul ok fun t' tk => ⟨.str (Txt.mul z k), H, I.tok _, ⟨_, rfl⟩, q⟩
theorem fold_app (z : Array Nat) : ∀ (n : Nat) (acc : Array Nat), (List.replicate n z).foldl (· ++ ·) acc = acc ++ (List.replicate n z.toList).flatten.toArray
  | 0, acc => by simp
  | n + 1, acc => by
    rw [List.replicate_succ, List.foldl_cons, fold_app z n, List.replicate_succ, List.flatten_cons, Array.append_assoc]
    congr 1
    apply Array.ext'
    simp
theorem mul_txt (s : List Nat) (k : Int) : Txt.mul ⟨s.toArray⟩ k = ⟨(List.replicate k.toNat s).flatten.toArray⟩ := by
  unfold Txt.mul
  split
  · rename_i h
    rw [show k.toNat = 0 by omega]
    rfl
  · split
    · rename_i h1 h
      rw [Bool.or_eq_true, beq_iff_eq, beq_iff_eq] at h
      rcases h with h | h
      · subst h
        simp
      · have : s = [] := by
          have h : s.toArray.size = 0 := h
          rw [List.size_toArray] at h
          exact List.length_eq_zero_iff.mp h
        subst this
        have e : (List.replicate k.toNat ([] : List Nat)).flatten = [] := by simp
        rw [e]
    · rw [fold_app]
      simp
def rMulA (K : PySem.W.Frag) : R2 := fun x y H Q => ((rI CMul fun i j => .int (i * j)) x y H Q ∨ (rI CMulW fun i j => .int (i * j)) x y H Q) ∨ rMulS x y H Q ∨ rRep x y H Q ∨ rRepT K x y H Q
theorem op_mulA : OpR X (binaryOp .Mult) (rMulA X.K) := (op_mul.or op_mulW).or (op_mulS.or (op_rep.or op_repT))
theorem ok_mul : Ok2 K o_mul (rMulA K) := by
  intro ds d x y S H Q e reps sub post
  unfold o_mul at e
  split at e
  · rename_i i j
    split at e
    · rename_i hm
      cases e
      obtain ⟨ra, rb⟩ := all2_two reps
      unfold mulOk at hm
      simp only [Bool.or_eq_true, Bool.and_eq_true, decide_eq_true_eq] at hm
      rcases hm with (hm | hm) | hm
      · exact .inl (.inl ⟨i, j, ra.int, rb.int, .inl hm, post.int sub⟩)
      · exact .inl (.inl ⟨i, j, ra.int, rb.int, .inr hm, post.int sub⟩)
      · exact .inl (.inr ⟨i, j, ra.int, rb.int, wide_mul hm.1 hm.2 (by decide) (by decide) (by decide), post.int sub⟩)
    · cases e
  · rename_i z j
    split at e
    · rename_i hm
      simp only [Bool.and_eq_true, decide_eq_true_eq] at hm
      cases e
      obtain ⟨ra, rb⟩ := all2_two reps
      have hl : (List.replicate j.toNat z).flatten.length ≤ sizeLine := by
        rw [List.length_flatten, List.map_replicate, List.sum_replicate_nat, ← lim_eq]
        rw [Nat.mul_comm]
        exact hm.1.1
      refine .inr (.inl ⟨_, j, ra.str, rb.int, ?_, ?_⟩)
      · have hz : z.length * j.toNat ≤ 16777216 := hm.1.1
        refine ⟨?_, fun h1 h2 => ?_, fun h1 h2 => ?_⟩
        · rw [Bool.or_eq_false_iff, decide_eq_false_iff_not, decide_eq_false_iff_not]
          omega
        · show ¬ ((z.toArray.size : Int) > (2 ^ 63 - 1) / j)
          rw [List.size_toArray]
          have h3 : (z.length : Int) * j ≤ 16777216 := by
            have : ((z.length * j.toNat : Nat) : Int) ≤ 16777216 := Int.ofNat_le.mpr hz
            rw [Int.natCast_mul, Int.toNat_of_nonneg (by omega)] at this
            exact this
          intro h4
          have h5 := Int.lt_iff_add_one_le.mp h4
          have h6 : ((2 ^ 63 - 1) : Int) < ((2 ^ 63 - 1) / j + 1) * j := Int.lt_ediv_add_one_mul_self _ (by omega)
          have h7 : ((2 ^ 63 - 1) / j + 1) * j ≤ (z.length : Int) * j := Int.mul_le_mul_of_nonneg_right h5 (by omega)
          omega
        · show decide _ = false
          rw [decide_eq_false_iff_not]
          show ¬ (z.toArray.size * j.toNat > _)
          rw [List.size_toArray, sizeLine_eq]
          exact Nat.not_lt.mpr hz
      · rw [mul_txt]
        exact post.str sub hl
    · cases e
  · rename_i xs j
    split at e
    · rename_i hm
      simp only [Bool.and_eq_true, decide_eq_true_eq] at hm
      cases e
      obtain ⟨⟨r0, ra⟩, rb⟩ := all2_two reps
      rw [RepV] at ra
      obtain ⟨p, vs, r, rfl, q1, z, _, _, t⟩ := ra
      have hz : vs.length * j.toNat ≤ sizeLine := by rw [← lim_eq, ← t.len]; exact hm.1.1.1
      refine .inr (.inr (.inl ⟨p, j, vs, rfl, rb.int, q1, by omega, by omega, hz, fun l nl => ?_⟩))
      exact post.list sub (rep_unfl hm.1.1.2 _) (rep_reps t hm.1.1.2 _) (by rw [List.length_flatten, List.map_replicate, List.sum_replicate_nat, Nat.mul_comm]; exact hz) nl
    · cases e
  · rename_i o xs j
    split at e
    · rename_i hm
      simp only [Bool.and_eq_true, decide_eq_true_eq, Bool.not_eq_true', List.isEmpty_eq_false_iff] at hm
      cases e
      obtain ⟨ra, rb⟩ := all2_two reps
      obtain ⟨p, vs, r, rfl, q1, z, t⟩ := ra.tup sub
      have hne : vs ≠ [] := fun e => hm.2 (by have := t.len; rw [e] at this; exact List.length_eq_zero_iff.mp this)
      have hl : vs.length ≤ 1000 := by rw [← t.len]; exact hm.1.1.1.1
      refine .inr (.inr (.inr ⟨p, j, vs, rfl, rb.int, q1, hne, hm.1.2, hm.1.1.2, hl, fun l nl => ?_⟩))
      refine post.tup sub (rep_unfl hm.1.1.1.2 _) (rep_reps t hm.1.1.1.2 _) ?_ nl
      rw [List.length_flatten, List.map_replicate, List.sum_replicate_nat, sizeLine_eq]
      have h1 : j.toNat ≤ 1000 := by omega
      exact Nat.le_trans (Nat.mul_le_mul h1 hl) (by decide)
    · cases e
  · cases e
theorem ok_fdiv : Ok2 K o_fdiv (rI CDivW fun i j => .int (i / j)) := by
  intro ds d x y S H Q e reps sub post
  unfold o_fdiv at e
  split at e
  · rename_i i j
    split at e
    · rename_i hm
      cases e
      obtain ⟨ra, rb⟩ := all2_two reps
      unfold divOk at hm
      simp only [Bool.and_eq_true, decide_eq_true_eq] at hm
      refine ⟨i, j, ra.int, rb.int, ⟨hm.1, ?_⟩, post.int sub⟩
      have h2 : j.natAbs < 2 ^ 4000 := by
        have : (j.natAbs : Int) = j := Int.natAbs_of_nonneg (by omega)
        have k := hm.2
        rw [← this] at k
        exact_mod_cast k
      exact Nat.lt_trans (PySem.Flt.log2_lt_of (by decide) h2) (by decide)
    · cases e
  · cases e
theorem ok_mod : Ok2 K o_mod (rI (fun _ j => 0 < j) fun i j => .int (i % j)) := by
  intro ds d x y S H Q e reps sub post
  unfold o_mod at e
  split at e
  · rename_i i j
    split at e
    · rename_i hm
      cases e
      obtain ⟨ra, rb⟩ := all2_two reps
      exact ⟨i, j, ra.int, rb.int, hm, post.int sub⟩
    · cases e
  · cases e
theorem ok_pow : Ok2 K o_pow (rI CPow fun i j => .int (i ^ j.toNat)) := by
  intro ds d x y S H Q e reps sub post
  unfold o_pow at e
  split at e
  · rename_i i j
    split at e
    · rename_i hm
      cases e
      simp only [Bool.and_eq_true, decide_eq_true_eq] at hm
      obtain ⟨ra, rb⟩ := all2_two reps
      exact ⟨i, j, ra.int, rb.int, ⟨hm.1.1, by omega, Nat.lt_of_le_of_lt hm.2 (by decide)⟩, post.int sub⟩
    · cases e
  · cases e
theorem ok_neg : Ok1 K o_neg (rU fun i => .int (-i)) := by
  intro ds d x S H Q e reps sub post
  unfold o_neg at e
  split at e
  · cases e
    exact ⟨_, (all2_one reps).int, post.int sub⟩
  · cases e
/-! ### comparisons -/
/-! lists of unlike length: unequal, whatever stands in them -/
def rEqX (K : PySem.W.Frag) : R2 := fun x y H Q => rEqD K x y H Q ∨ ∃ a b xs ys, x = .ref a ∧ y = .ref b ∧ SqL K H a xs ∧ SqL K H b ys ∧ xs.length ≠ ys.length ∧ Q (.bl false) H
def rNeX (K : PySem.W.Frag) : R2 := fun x y H Q => rNeD K x y H Q ∨ ∃ a b xs ys, x = .ref a ∧ y = .ref b ∧ SqL K H a xs ∧ SqL K H b ys ∧ xs.length ≠ ys.length ∧ Q (.bl true) H
theorem op_eqX {X : Cx} (hu : X.A.units + 64 < cLine) : OpR X (compareOp .Eq) (rEqX X.K) := by
  intro pins s σ H x y v u Q I rx ry h
  rcases h with h | ⟨a, b, xs, ys, rfl, rfl, hx, hy, hn, q⟩
  · exact op_eqD hu pins s σ H x y v u Q I rx ry h
  · obtain rfl : v = Value.ref a := rx
    obtain rfl : u = Value.ref b := ry
    obtain ⟨its, r1, p1, _⟩ := I.list hx
    obtain ⟨ius, r2, p2, _⟩ := I.list hy
    exact SeqAt.RcAt.lists_lengths p1.isList p2.isList (by simp [← r1.length, ← r2.length, hn]) (by omega) X.prog X.w _ _ ⟨.bl _, H, I, rfl, q⟩
theorem op_neX {X : Cx} (hu : X.A.units + 64 < cLine) : OpR X (compareOp .NotEq) (rNeX X.K) := by
  intro pins s σ H x y v u Q I rx ry h
  rcases h with h | ⟨a, b, xs, ys, rfl, rfl, hx, hy, hn, q⟩
  · exact op_neD hu pins s σ H x y v u Q I rx ry h
  · obtain rfl : v = Value.ref a := rx
    obtain rfl : u = Value.ref b := ry
    obtain ⟨its, r1, p1, _⟩ := I.list hx
    obtain ⟨ius, r2, p2, _⟩ := I.list hy
    exact SeqAt.RcNeAt.lists_lengths p1.isList p2.isList (by simp [← r1.length, ← r2.length, hn]) (by omega) X.prog X.w _ _ ⟨.bl _, H, I, rfl, q⟩
theorem neLen_inv {a b : D} (h : neLen a b = true) : ∃ o xs p ys, a = .lst o xs ∧ b = .lst p ys ∧ xs.length ≠ ys.length := by
  unfold neLen at h
  split at h
  · exact ⟨_, _, _, _, rfl, rfl, of_decide_eq_true h⟩
  · cases h
theorem ok_eq : Ok2 K o_eq (rEqX K) := by
  intro ds d x y S H Q e reps sub post
  unfold o_eq at e
  split at e
  · rename_i a b
    obtain ⟨ra, rb⟩ := all2_two reps
    split at e
    · rename_i hm
      cases e
      simp only [Bool.and_eq_true] at hm
      exact .inl ⟨a.toP, b.toP, ra.dp sub hm.1, rb.dp sub hm.2, nice_shaped hm.1, nice_shaped hm.2, post.bl sub⟩
    · split at e
      · rename_i hn
        cases e
        obtain ⟨o, xs, p, ys, rfl, rfl, hl⟩ := neLen_inv hn
        obtain ⟨a1, vs, r1, e1, q1, _, t1⟩ := ra.lst sub
        obtain ⟨a2, us, r2, e2, q2, _, t2⟩ := rb.lst sub
        exact .inr ⟨a1, a2, vs, us, e1, e2, q1, q2, by rw [← t1.len, ← t2.len]; exact hl, post.bl sub⟩
      · cases e
  · cases e
theorem ok_ne : Ok2 K o_ne (rNeX K) := by
  intro ds d x y S H Q e reps sub post
  unfold o_ne at e
  split at e
  · rename_i a b
    obtain ⟨ra, rb⟩ := all2_two reps
    split at e
    · rename_i hm
      cases e
      simp only [Bool.and_eq_true] at hm
      exact .inl ⟨a.toP, b.toP, ra.dp sub hm.1, rb.dp sub hm.2, nice_shaped hm.1, nice_shaped hm.2, post.bl sub⟩
    · split at e
      · rename_i hn
        cases e
        obtain ⟨o, xs, p, ys, rfl, rfl, hl⟩ := neLen_inv hn
        obtain ⟨a1, vs, r1, e1, q1, _, t1⟩ := ra.lst sub
        obtain ⟨a2, us, r2, e2, q2, _, t2⟩ := rb.lst sub
        exact .inr ⟨a1, a2, vs, us, e1, e2, q1, q2, by rw [← t1.len, ← t2.len]; exact hl, post.bl sub⟩
      · cases e
  · cases e
def rLtI : R2 := rI0 fun i j => .bl (decide (i < j))
def rLeI : R2 := rI0 fun i j => .bl (decide (i ≤ j))
def rGtI : R2 := rI0 fun i j => .bl (decide (j < i))
def rGeI : R2 := rI0 fun i j => .bl (decide (j ≤ i))
theorem ok_gt : Ok2 K o_gt rGtI := by
  intro ds d x y S H Q e reps sub post
  unfold o_gt at e
  split at e
  · cases e
    obtain ⟨ra, rb⟩ := all2_two reps
    exact ⟨_, _, ra.int, rb.int, post.bl sub⟩
  · cases e
theorem ok_ge : Ok2 K o_ge rGeI := by
  intro ds d x y S H Q e reps sub post
  unfold o_ge at e
  split at e
  · cases e
    obtain ⟨ra, rb⟩ := all2_two reps
    exact ⟨_, _, ra.int, rb.int, post.bl sub⟩
  · cases e
def rLtB : R2 := fun x y H Q => rLtI x y H Q ∨ ∃ i j, x = .str i ∧ y = .str j ∧ Q (.bl (decide (i.cps.toList < j.cps.toList))) H
def rLtD (K : PySem.W.Frag) : R2 := fun x y H Q => ∃ d e, Dp K H x d ∧ Dp K H y e ∧ PySem.W.alike d e = true ∧ d ≠ .none ∧ d.depth ≤ 60 ∧ Q (.bl (PySem.W.dataLt d e)) H
def rLtA (K : PySem.W.Frag) : R2 := fun x y H Q => rLtB x y H Q ∨ rLtD K x y H Q
theorem op_ltD (hu : X.A.units + 64 < cLine) : OpR X (compareOp .Lt) (rLtD X.K) := by
  intro pins s σ H x y v u Q I rx ry h
  obtain ⟨d, e, hd, he, ha, hn, hz, q⟩ := h
  obtain ⟨as, r1⟩ := Dp.reads I d x v hd rx
  obtain ⟨bs, r2⟩ := Dp.reads I e y u he ry
  exact PySem.W.lt_data r1 r2 ha hn (by omega) ⟨.bl _, H, I, rfl, q⟩
def rLeA : R2 := fun x y H Q => rLeI x y H Q ∨ ∃ i j, x = .str i ∧ y = .str j ∧ Q (.bl (!decide (j.cps.toList < i.cps.toList))) H
theorem op_ltA (hu : X.A.units + 64 < cLine) : OpR X (compareOp .Lt) (rLtA X.K) := (op_lt.or op_lt_str).or (op_ltD hu)
theorem op_leA : OpR X (compareOp .LtE) rLeA := op_le.or op_le_str
theorem ok_lt : Ok2 K o_lt (rLtA K) := by
  intro ds d x y S H Q e reps sub post
  unfold o_lt at e
  split at e
  · cases e
    obtain ⟨ra, rb⟩ := all2_two reps
    exact .inl (.inl ⟨_, _, ra.int, rb.int, post.bl sub⟩)
  · cases e
    obtain ⟨ra, rb⟩ := all2_two reps
    exact .inl (.inr ⟨_, _, ra.str, rb.str, post.bl sub⟩)
  · rename_i o xs p ys
    split at e
    · rename_i hm
      cases e
      simp only [Bool.and_eq_true] at hm
      obtain ⟨ra, rb⟩ := all2_two reps
      exact .inr ⟨_, _, ra.dp sub hm.1.1, rb.dp sub hm.1.2, hm.2, (fun z => by rw [D.toP] at z; cases z), (sh_can 60 _ hm.1.1).2, post.bl sub⟩
    · cases e
  · cases e
theorem ok_le : Ok2 K o_le rLeA := by
  intro ds d x y S H Q e reps sub post
  unfold o_le at e
  split at e
  · cases e
    obtain ⟨ra, rb⟩ := all2_two reps
    exact .inl ⟨_, _, ra.int, rb.int, post.bl sub⟩
  · cases e
    obtain ⟨ra, rb⟩ := all2_two reps
    refine .inr ⟨_, _, ra.str, rb.str, ?_⟩
    have k := post.bl sub
    rename_i s t
    have e2 : decide (s ≤ t) = !decide (t < s) := by
      by_cases h : t < s
      · rw [decide_eq_true h, decide_eq_false (List.not_le.mpr h)]; rfl
      · rw [decide_eq_false h, decide_eq_true (List.not_lt.mp h)]; rfl
    rw [e2] at k
    exact k
  · cases e
def rIsN : V → Hp → VK → Prop := fun x H Q => Q (.bl (decide (x = .non))) H
def rNotN : V → Hp → VK → Prop := fun x H Q => Q (.bl (!decide (x = .non))) H
theorem isN_rep {S H : Hp} {d : D} {v : V} (h : Rep K S H d v) : decide (v = .non) = isNon d := by
  obtain ⟨r, h⟩ := h
  cases d with
  | non => rw [RepV] at h; rw [h]; rfl
  | bl b => rw [RepV] at h; rw [h]; rfl
  | int b => rw [RepV] at h; rw [h]; rfl
  | str b => rw [RepV] at h; rw [h.1]; rfl
  | tup o xs => rw [RepV] at h; obtain ⟨a, vs, e, _⟩ := h; rw [e]; rfl
  | lst o xs =>
    cases o with
    | false => rw [RepV] at h; obtain ⟨a, vs, e, _⟩ := h; rw [e]; rfl
    | true => rw [RepV] at h; obtain ⟨a, vs, r', e, _⟩ := h; rw [e]; rfl
  | dic o k ks vs =>
    cases o with
    | false => rw [RepV] at h; obtain ⟨a, ws, ho, e, _⟩ := h; rw [e]; rfl
    | true => rw [RepV] at h; obtain ⟨a, ws, ho, r', e, _⟩ := h; rw [e]; rfl
  | set xs => rw [RepV] at h; exact h.elim
  | ins o c f vs => rw [RepV] at h; exact h.elim
  | exn c => rw [RepV] at h; exact h.elim
theorem ok_isN : Ok1 K o_isN rIsN := by
  intro ds d x S H Q e reps sub post
  unfold o_isN at e
  split at e
  · cases e
    show Q _ H
    rw [isN_rep (all2_one reps)]
    exact post.bl sub
  · cases e
theorem ok_notN : Ok1 K o_notN rNotN := by
  intro ds d x S H Q e reps sub post
  unfold o_notN at e
  split at e
  · rename_i a
    cases e
    show Q _ H
    have k := post.bl sub
    rw [← isN_rep (all2_one reps)] at k
    exact k
  · cases e
/-! ### in -/
def rInT (K : PySem.W.Frag) : R2 := fun x y H Q => ∃ d ds, Dp K H x d ∧ Dp K H y (.tuple ds) ∧ SeqAt.shaped d = true ∧ SeqAt.shaped (.tuple ds) = true ∧ Q (.bl (ds.any fun z => PyData.eqv z d)) H
def rNotInT (K : PySem.W.Frag) : R2 := fun x y H Q => ∃ d ds, Dp K H x d ∧ Dp K H y (.tuple ds) ∧ SeqAt.shaped d = true ∧ SeqAt.shaped (.tuple ds) = true ∧ Q (.bl (!ds.any fun z => PyData.eqv z d)) H
theorem op_inT (hu : X.A.units + 65 < cLine) : OpR X (compareOp .In) (rInT X.K) := by
  intro pins s σ H x y v u Q I rx ry h
  obtain ⟨d, ds, hd, he, sd, se, q⟩ := h
  obtain ⟨as, r1⟩ := Dp.reads I d x v hd rx
  obtain ⟨bs, r2⟩ := Dp.reads I (.tuple ds) y u he ry
  exact SeqAt.in_tuple_reads r2 r1 (SeqAt.canLay_of_shaped se) (SeqAt.canLay_of_shaped sd) (PyProof.Rows.room_in_shaped sd hu) ⟨.bl _, H, I, rfl, q⟩
theorem op_notInT (hu : X.A.units + 65 < cLine) : OpR X (compareOp .NotIn) (rNotInT X.K) := by
  intro pins s σ H x y v u Q I rx ry h
  obtain ⟨d, ds, hd, he, sd, se, q⟩ := h
  obtain ⟨as, r1⟩ := Dp.reads I d x v hd rx
  obtain ⟨bs, r2⟩ := Dp.reads I (.tuple ds) y u he ry
  exact SeqAt.notIn_tuple_reads r2 r1 (SeqAt.canLay_of_shaped se) (SeqAt.canLay_of_shaped sd) (PyProof.Rows.room_in_shaped sd hu) ⟨.bl _, H, I, rfl, q⟩
def rInS : R2 := fun x y H Q => ∃ (c : Nat) (z : Str), x = .str ⟨#[c]⟩ ∧ y = .str z ∧ Q (.bl (decide (c ∈ z.cps.toList))) H
def rNotInS : R2 := fun x y H Q => ∃ (c : Nat) (z : Str), x = .str ⟨#[c]⟩ ∧ y = .str z ∧ Q (.bl (!decide (c ∈ z.cps.toList))) H
def rMem (K : PySem.W.Frag) : R2 := fun x y H Q => rInD K x y H Q ∨ rInT K x y H Q ∨ rInS x y H Q ∨ rInDic x y H Q
def rNmem (K : PySem.W.Frag) : R2 := fun x y H Q => rNotInD K x y H Q ∨ rNotInT K x y H Q ∨ rNotInS x y H Q ∨ rNotInDic x y H Q
theorem op_memA (hu : X.A.units + 65 < cLine) : OpR X (compareOp .In) (rMem X.K) := (op_inD hu).or ((op_inT hu).or (op_in_sign.or (op_inDic (by omega))))
theorem op_nmemA (hu : X.A.units + 65 < cLine) : OpR X (compareOp .NotIn) (rNmem X.K) := (op_notInD hu).or ((op_notInT hu).or (op_notIn_sign.or (op_notInDic (by omega))))
theorem any_toP (xs : List D) (d : D) : (toPs xs).any (fun z => PyData.eqv z d.toP) = xs.any fun x => eqD x d := by
  rw [toPs_map, List.any_map]
  rfl
theorem items_shaped {xs : List D} (h : xs.all nice = true) : SeqAt.shaped (.list (toPs xs)) = true ∧ SeqAt.shaped (.tuple (toPs xs)) = true := by
  have k := sh_cans 60 xs (shs_all fun d m => List.all_eq_true.mp h d m)
  have k2 := k.2
  have h1 : (PyData.list (toPs xs)).depth ≤ 64 := by rw [PyData.depth]; omega
  have h2 : (PyData.tuple (toPs xs)).depth ≤ 64 := by rw [PyData.depth]; omega
  have c1 : (PyData.list (toPs xs)).canLay0 = true := by rw [PyData.canLay0]; exact k.1
  have c2 : (PyData.tuple (toPs xs)).canLay0 = true := by rw [PyData.canLay0]; exact k.1
  unfold SeqAt.shaped
  rw [c1, c2, decide_eq_true h1, decide_eq_true h2]
  exact ⟨rfl, rfl⟩
theorem Rep.dpl {o : Bool} {S H : Hp} {xs : List D} {v : V} (sub : MP.Same S H) (h : Rep K S H (.lst o xs) v) (n : xs.all nice = true) : Dp K H v (.list (toPs xs)) := by
  obtain ⟨r, h⟩ := h
  exact RepV.dp sub 61 (.lst o xs) v r h (by rw [D.sh]; exact shs_all fun d m => List.all_eq_true.mp n d m)
theorem Rep.dpt {o : Bool} {S H : Hp} {xs : List D} {v : V} (sub : MP.Same S H) (h : Rep K S H (.tup o xs) v) (n : xs.all nice = true) : Dp K H v (.tuple (toPs xs)) := by
  obtain ⟨r, h⟩ := h
  exact RepV.dp sub 61 (.tup o xs) v r h (by rw [D.sh]; exact shs_all fun d m => List.all_eq_true.mp n d m)
theorem contains_mem (t : List Nat) (c : Nat) : t.contains c = decide (c ∈ t) := by
  by_cases h : c ∈ t
  · rw [decide_eq_true h]; exact List.contains_iff_mem.mpr h
  · rw [decide_eq_false h]
    cases q : t.contains c with
    | false => rfl
    | true => exact absurd (List.contains_iff_mem.mp q) h
theorem ok_mem : Ok2 K o_mem (rMem K) := by
  intro ds d x y S H Q e reps sub post
  obtain ⟨a, b, rfl, ra, rb⟩ := two_of reps
  unfold o_mem at e
  split at e
  · rename_i s t q
    simp only [List.cons.injEq, and_true] at q
    obtain ⟨rfl, rfl⟩ := q
    split at e
    · rename_i c
      cases e
      refine .inr (.inr (.inl ⟨c, _, ra.str, rb.str, ?_⟩))
      have k := post.bl sub
      rw [contains_mem] at k
      exact k
    · cases e
  · rename_i d0 o kd ks vs q
    simp only [List.cons.injEq, and_true] at q
    obtain ⟨rfl, rfl⟩ := q
    split at e
    · rename_i hk
      cases e
      obtain ⟨p, oo, rfl, g, _, g1, g2⟩ := rep_get sub rb hk ra
      refine .inr (.inr (.inr ⟨p, oo, rfl, g, ?_⟩))
      have k := post.bl sub
      have e2 : oo.isSome = (lookD a ks vs).isSome := by
        cases q : lookD a ks vs with
        | none => rw [g1 q]; rfl
        | some d => obtain ⟨w, _, e, _⟩ := g2 d q; rw [e]; rfl
      rw [e2]
      exact k
    · cases e
  · rename_i d0 o xs q
    simp only [List.cons.injEq, and_true] at q
    obtain ⟨rfl, rfl⟩ := q
    split at e
    · rename_i hm
      cases e
      simp only [Bool.and_eq_true] at hm
      have k := post.bl sub
      rw [← any_toP] at k
      exact .inl ⟨_, _, ra.dp sub hm.1, rb.dpl sub hm.2, nice_shaped hm.1, (items_shaped hm.2).1, k⟩
    · cases e
  · rename_i d0 o xs q
    simp only [List.cons.injEq, and_true] at q
    obtain ⟨rfl, rfl⟩ := q
    split at e
    · rename_i hm
      cases e
      simp only [Bool.and_eq_true] at hm
      have k := post.bl sub
      rw [← any_toP] at k
      exact .inr (.inl ⟨_, _, ra.dp sub hm.1, rb.dpt sub hm.2, nice_shaped hm.1, (items_shaped hm.2).2, k⟩)
    · cases e
  · cases e
theorem ok_nmem : Ok2 K o_nmem (rNmem K) := by
  intro ds d x y S H Q e reps sub post
  obtain ⟨a, b, rfl, ra, rb⟩ := two_of reps
  unfold o_nmem at e
  split at e
  · rename_i s t q
    simp only [List.cons.injEq, and_true] at q
    obtain ⟨rfl, rfl⟩ := q
    split at e
    · rename_i c
      cases e
      refine .inr (.inr (.inl ⟨c, _, ra.str, rb.str, ?_⟩))
      have k := post.bl sub
      rw [contains_mem] at k
      exact k
    · cases e
  · rename_i d0 o kd ks vs q
    simp only [List.cons.injEq, and_true] at q
    obtain ⟨rfl, rfl⟩ := q
    split at e
    · rename_i hk
      cases e
      obtain ⟨p, oo, rfl, g, _, g1, g2⟩ := rep_get sub rb hk ra
      refine .inr (.inr (.inr ⟨p, oo, rfl, g, ?_⟩))
      have k := post.bl sub
      have e2 : oo.isSome = (lookD a ks vs).isSome := by
        cases q : lookD a ks vs with
        | none => rw [g1 q]; rfl
        | some d => obtain ⟨w, _, e, _⟩ := g2 d q; rw [e]; rfl
      rw [e2]
      exact k
    · cases e
  · rename_i d0 o xs q
    simp only [List.cons.injEq, and_true] at q
    obtain ⟨rfl, rfl⟩ := q
    split at e
    · rename_i hm
      cases e
      simp only [Bool.and_eq_true] at hm
      have k := post.bl sub
      rw [← any_toP] at k
      exact .inl ⟨_, _, ra.dp sub hm.1, rb.dpl sub hm.2, nice_shaped hm.1, (items_shaped hm.2).1, k⟩
    · cases e
  · rename_i d0 o xs q
    simp only [List.cons.injEq, and_true] at q
    obtain ⟨rfl, rfl⟩ := q
    split at e
    · rename_i hm
      cases e
      simp only [Bool.and_eq_true] at hm
      have k := post.bl sub
      rw [← any_toP] at k
      exact .inr (.inl ⟨_, _, ra.dp sub hm.1, rb.dpt sub hm.2, nice_shaped hm.1, (items_shaped hm.2).2, k⟩)
    · cases e
  · cases e
/-! ### subscripts -/
def rIxA (K : PySem.W.Frag) : R2 := fun x y H Q => L2.rIx K x y H Q ∨ rIxDic x y H Q
theorem ix_all (hu : X.A.units + 1 < cLine) : IxR X (rIxA X.K) := ix_seq.or (ix_dic hu)
theorem ok_ix : Ok2 K o_ix (rIxA K) := by
  intro ds d x y S H Q e reps sub post
  obtain ⟨a, b, rfl, ra, rb⟩ := two_of reps
  unfold o_ix at e
  split at e
  · rename_i o xs i q
    simp only [List.cons.injEq, and_true] at q
    obtain ⟨rfl, rfl⟩ := q
    obtain ⟨p, vs, r, rfl, q1, z, t⟩ := ra.lst sub
    cases q2 : atI xs i with
    | none => rw [q2] at e; cases e
    | some d0 =>
      rw [q2] at e
      simp only [Option.bind_some] at e
      split at e
      · cases e
      · rename_i nf
        cases e
        obtain ⟨v, r', e1, e2⟩ := atI_rep t q2
        exact .inl (.inl ⟨p, vs, i, v, rfl, rb.int, q1, e1, post.same sub (by simpa using nf) e2⟩)
  · rename_i o xs i q
    simp only [List.cons.injEq, and_true] at q
    obtain ⟨rfl, rfl⟩ := q
    obtain ⟨p, vs, r, rfl, q1, z, t⟩ := ra.tup sub
    cases q2 : atI xs i with
    | none => rw [q2] at e; cases e
    | some d0 =>
      rw [q2] at e
      simp only [Option.bind_some] at e
      split at e
      · cases e
      · rename_i nf
        cases e
        obtain ⟨v, r', e1, e2⟩ := atI_rep t q2
        exact .inl (.inr (.inl ⟨p, vs, i, v, rfl, rb.int, q1, e1, post.same sub (by simpa using nf) e2⟩))
  · rename_i s i q
    simp only [List.cons.injEq, and_true] at q
    obtain ⟨rfl, rfl⟩ := q
    cases q2 : atI s i with
    | none => rw [q2] at e; cases e
    | some c =>
      rw [q2] at e
      cases e
      exact .inl (.inr (.inr ⟨_, i, c, ra.str, rb.int, (by show s.toArray.size ≤ sizeLine; rw [List.size_toArray]; exact ra.strz), q2, post.str sub (by rw [List.length_singleton]; rw [sizeLine_eq]; decide)⟩))
  · rename_i o kd ks vs k q
    simp only [List.cons.injEq, and_true] at q
    obtain ⟨rfl, rfl⟩ := q
    split at e
    · rename_i hk
      obtain ⟨p, r, rfl, g, _, g1, g2⟩ := rep_get sub ra hk rb
      cases q : lookD b ks vs with
      | none => rw [q] at e; cases e
      | some e0 =>
        rw [q] at e
        simp only [Option.bind_some] at e
        split at e
        · cases e
        · rename_i nf
          cases e
          obtain ⟨w, r', rfl, e2⟩ := g2 _ q
          exact .inr ⟨p, w, rfl, g, post.same sub (by simpa using nf) e2⟩
    · cases e
  · cases e
end
end MP

set_option autoImplicit false
set_option linter.all false
set_option maxRecDepth 100000
/-! MP: slices and the built-ins of one thing. -/
namespace MP
open PySem L2
section
variable {X : Cx} {K : PySem.W.Frag}
/-! ### slices -/
def OkSl (K : PySem.W.Frag) (r : V → Option Int → Option Int → Hp → VK → Prop) : Prop := ∀ (d0 d : D) (lo hi : Option Int) (x : V) (S H : Hp) (Q : VK), slD d0 lo hi = some d → Rep K S H d0 x → MP.Same S H → PostO K S H Q d → r x lo hi H Q
def rSlA (K : PySem.W.Frag) : V → Option Int → Option Int → Hp → VK → Prop := fun x lo hi H Q => rSlL K x lo hi H Q ∨ L2.rSlA K x lo hi H Q ∨ rSlS x lo hi H Q
theorem sl_all : SlR X (MP.rSlA X.K) := sl_list.or (sl_tupA.or sl_str)
theorem cutL_len {α : Type} (xs : List α) (lo hi : Option Int) : (cutL xs lo hi).length ≤ xs.length := by
  unfold cutL
  rw [List.length_take, List.length_drop]
  omega
theorem ok_sl : OkSl K (MP.rSlA K) := by
  intro d0 d lo hi x S H Q e ra sub post
  unfold slD at e
  split at e
  · rename_i o xs
    split at e
    · rename_i hm
      cases e
      obtain ⟨p, vs, r, rfl, q1, z, t⟩ := ra.lst sub
      exact .inl ⟨p, vs, rfl, q1, fun q np => post.list sub (unfl_cut hm lo hi) (cut_rep t lo hi) (Nat.le_trans (cutV_length vs lo hi) z) np⟩
    · cases e
  · rename_i o xs
    split at e
    · rename_i hm
      cases e
      obtain ⟨p, vs, r, rfl, q1, z, t⟩ := ra.tup sub
      refine .inr (.inl ⟨p, vs, rfl, q1, fun w => ?_, fun _ q np => post.tup sub (unfl_cut hm lo hi) (cut_rep t lo hi) (Nat.le_trans (cutV_length vs lo hi) z) np⟩)
      have e : cutL xs lo hi = xs := by
        unfold cutL
        rw [t.len, w.1, w.2, List.drop_zero, Nat.sub_zero, ← t.len, List.take_length]
      refine post.same (v := .ref p) (r := none_) sub rfl ?_
      rw [e]
      obtain ⟨r0, ra0⟩ := ra
      rw [RepV] at ra0 ⊢
      obtain ⟨a, us, e1, e2, e3, e4, e5⟩ := ra0
      exact ⟨a, us, e1, e2, e3, fun _ => hm, RepVs.sh_to e5 hm (Same.refl S)⟩
    · cases e
  · rename_i s
    cases e
    refine .inr (.inr ⟨_, ra.str, (by show s.toArray.size ≤ sizeLine; rw [List.size_toArray]; exact ra.strz), ?_⟩)
    have k := post.str sub (Nat.le_trans (cutL_len s lo hi) ra.strz)
    have e2 : cutS ⟨s.toArray⟩ lo hi = ⟨(cutL s lo hi).toArray⟩ := by
      unfold cutS cutL
      simp [Str.length]
    rw [e2]
    exact k
  · cases e
/-! ### one thing -/
def OkC (K : PySem.W.Frag) (f : List D → Option D) (r : List V → Hp → VK → Prop) : Prop := ∀ (ds : List D) (d : D) (xs : List V) (S H : Hp) (Q : VK), f ds = some d → All2 (Rep K S H) ds xs → MP.Same S H → PostO K S H Q d → r xs H Q
theorem all2_inv1 {α β : Type} {R : α → β → Prop} {a : α} {xs : List β} (h : All2 R [a] xs) : ∃ x, xs = [x] ∧ R a x := by
  cases h with
  | cons h1 t => cases t; exact ⟨_, rfl, h1⟩
theorem all2_inv2 {α β : Type} {R : α → β → Prop} {a b : α} {xs : List β} (h : All2 R [a, b] xs) : ∃ x y, xs = [x, y] ∧ R a x ∧ R b y := by
  cases h with
  | cons h1 t => cases t with
    | cons h2 t2 => cases t2; exact ⟨_, _, rfl, h1, h2⟩
def rLenDK : List V → Hp → VK → Prop := fun xs H Q => ∃ a kvs, xs = [V.ref a] ∧ H a = some (.dK kvs) ∧ Q (.int kvs.length) H
def rLenA0 (K : PySem.W.Frag) : List V → Hp → VK → Prop := fun xs H Q => ∃ x n, xs = [x] ∧ LenV K x H n ∧ Q (.int n) H
theorem mapM_len {α β : Type} {f : α → Option β} : ∀ {l : List α} {m : List β}, l.mapM f = some m → m.length = l.length
  | [], m, h => by cases h; rfl
  | a :: l, m, h => by
    rw [List.mapM_cons] at h
    obtain ⟨y, _, h⟩ := Option.bind_eq_some_iff.mp h
    obtain ⟨ys, hy, h⟩ := Option.bind_eq_some_iff.mp h
    cases h
    rw [List.length_cons, List.length_cons, mapM_len hy]
def rLenA (K : PySem.W.Frag) : List V → Hp → VK → Prop := fun xs H Q => rLenA0 K xs H Q ∨ rLenDK xs H Q ∨ rLenT xs H Q
theorem or_call {X : Cx} {f : Value} {r r' : List V → Hp → VK → Prop} (h : CallR X f r) (h' : CallR X f r') : CallR X f fun xs H Q => r xs H Q ∨ r' xs H Q := by
  intro pins s σ H xs us Q I rv q
  rcases q with q | q
  · exact h pins s σ H xs us Q I rv q
  · exact h' pins s σ H xs us Q I rv q
theorem call_lenA {X : Cx} : CallR X (.builtin "len") (rLenA X.K) := or_call call_len (or_call call_lenD call_len_dT)
theorem ok_len : OkC K o_len (rLenA K) := by
  intro ds d xs S H Q e reps sub post
  unfold o_len at e
  split at e
  · rename_i s
    cases e
    obtain ⟨x, rfl, ra⟩ := all2_inv1 reps
    refine .inl ⟨x, s.length, rfl, ?_, post.int sub⟩
    rw [ra.str]
    exact ⟨by show s.toArray.size ≤ sizeLine; rw [List.size_toArray]; exact ra.strz, by show s.length = s.toArray.size; rw [List.size_toArray]⟩
  · rename_i o ys
    cases e
    obtain ⟨x, rfl, ra⟩ := all2_inv1 reps
    obtain ⟨p, vs, r, rfl, q1, z, t⟩ := ra.lst sub
    exact .inl ⟨_, _, rfl, .inl ⟨vs, q1, t.len⟩, post.int sub⟩
  · rename_i o ys
    cases e
    obtain ⟨x, rfl, ra⟩ := all2_inv1 reps
    obtain ⟨p, vs, r, rfl, q1, z, t⟩ := ra.tup sub
    exact .inl ⟨_, _, rfl, .inr ⟨vs, q1, t.len⟩, post.int sub⟩
  · rename_i o kd ks vs
    cases e
    obtain ⟨x, rfl, ra⟩ := all2_inv1 reps
    obtain ⟨a, ws, ho, r, rfl, q, q2, z, l, t⟩ := ra.dic sub
    have hd : kd = 0 ∨ kd = 1 := by
      unfold dicHO at q
      split at q
      · exact .inl (by assumption)
      · split at q
        · exact .inr (by assumption)
        · cases q
    rcases hd with rfl | rfl
    · obtain ⟨kk, e1, nd, rfl⟩ := dicHO_0 q
      refine .inr (.inl ⟨a, _, rfl, q2, ?_⟩)
      have hl : (kk.zip ws).length = ks.length := by
        rw [List.length_zip, mapM_len e1]; omega
      rw [hl]
      exact post.int sub
    · obtain ⟨kk, e1, nd, rfl⟩ := dicHO_1 q
      refine .inr (.inr ⟨a, _, rfl, q2, ?_⟩)
      have hl : (kk.zip ws).length = ks.length := by
        rw [List.length_zip, mapM_len e1]; omega
      rw [hl]
      exact post.int sub
  · cases e
    obtain ⟨x, rfl, ⟨r, ra⟩⟩ := all2_inv1 reps
    rw [RepV] at ra
    exact ra.elim
  · cases e
def rAbs : List V → Hp → VK → Prop := fun xs H Q => ∃ i, xs = [.int i] ∧ Q (.int (if i < 0 then -i else i)) H
theorem ok_abs : OkC K o_abs rAbs := by
  intro ds d xs S H Q e reps sub post
  unfold o_abs at e
  split at e
  · cases e
    obtain ⟨x, rfl, ra⟩ := all2_inv1 reps
    exact ⟨_, by rw [ra.int], post.int sub⟩
  · cases e
def rMin2 : List V → Hp → VK → Prop := fun xs H Q => ∃ i j, xs = [.int i, .int j] ∧ Q (.int (if j < i then j else i)) H
def rMax2 : List V → Hp → VK → Prop := fun xs H Q => ∃ i j, xs = [.int i, .int j] ∧ Q (.int (if j > i then j else i)) H
theorem ok_min2 : OkC K i_min2 rMin2 := by
  intro ds d xs S H Q e reps sub post
  unfold i_min2 at e
  split at e
  · cases e
    obtain ⟨x, y, rfl, ra, rb⟩ := all2_inv2 reps
    exact ⟨_, _, by rw [ra.int, rb.int], post.int sub⟩
  · cases e
theorem ok_max2 : OkC K i_max2 rMax2 := by
  intro ds d xs S H Q e reps sub post
  unfold i_max2 at e
  split at e
  · cases e
    obtain ⟨x, y, rfl, ra, rb⟩ := all2_inv2 reps
    exact ⟨_, _, by rw [ra.int, rb.int], post.int sub⟩
  · cases e
theorem minI_ok : ∀ (is : List Int) (m : Int), (minI is m ∈ m :: is) ∧ ∀ y ∈ m :: is, minI is m ≤ y
  | [], m => by simp [minI]
  | d :: ds, m => by
    obtain ⟨h1, h2⟩ := minI_ok ds (if d < m then d else m)
    rw [minI]
    refine ⟨?_, fun y hy => ?_⟩
    · rcases List.mem_cons.mp h1 with e | e
      · rw [e]
        by_cases h : d < m
        · simp [h]
        · simp [h]
      · simp [e]
    · have h3 := h2 _ List.mem_cons_self
      rcases List.mem_cons.mp hy with e | hy
      · rw [e]
        by_cases h : d < m
        · simp only [h, if_true] at h3 ⊢; omega
        · simp only [h, if_false] at h3 ⊢; omega
      · rcases List.mem_cons.mp hy with e | hy
        · rw [e]
          by_cases h : d < m
          · simp only [h, if_true] at h3 ⊢; omega
          · simp only [h, if_false] at h3 ⊢; omega
        · exact h2 y (List.mem_cons_of_mem _ hy)
theorem maxI_ok : ∀ (is : List Int) (m : Int), (maxI is m ∈ m :: is) ∧ ∀ y ∈ m :: is, y ≤ maxI is m
  | [], m => by simp [maxI]
  | d :: ds, m => by
    obtain ⟨h1, h2⟩ := maxI_ok ds (if m < d then d else m)
    rw [maxI]
    refine ⟨?_, fun y hy => ?_⟩
    · rcases List.mem_cons.mp h1 with e | e
      · rw [e]
        by_cases h : m < d
        · simp [h]
        · simp [h]
      · simp [e]
    · have h3 := h2 _ List.mem_cons_self
      rcases List.mem_cons.mp hy with e | hy
      · rw [e]
        by_cases h : m < d
        · simp only [h, if_true] at h3 ⊢; omega
        · simp only [h, if_false] at h3 ⊢; omega
      · rcases List.mem_cons.mp hy with e | hy
        · rw [e]
          by_cases h : m < d
          · simp only [h, if_true] at h3 ⊢; omega
          · simp only [h, if_false] at h3 ⊢; omega
        · exact h2 y (List.mem_cons_of_mem _ hy)
theorem ok_sum : OkC K o_sum (rSum K) := by
  intro ds d xs S H Q e reps sub post
  unfold o_sum at e
  split at e
  · rename_i o ys
    cases q : ints? ys with
    | none => rw [q] at e; cases e
    | some is =>
      rw [q] at e
      cases e
      obtain ⟨x, rfl, ra⟩ := all2_inv1 reps
      obtain ⟨p, vs, r, rfl, q1, z, t⟩ := ra.lst sub
      rw [t.ints q] at q1
      exact ⟨p, is, rfl, q1, post.int sub⟩
  · cases e
theorem ok_any : OkC K o_any (rAny K) := by
  intro ds d xs S H Q e reps sub post
  unfold o_any at e
  split at e
  · rename_i o ys
    cases q : bls? ys with
    | none => rw [q] at e; cases e
    | some is =>
      rw [q] at e
      cases e
      obtain ⟨x, rfl, ra⟩ := all2_inv1 reps
      obtain ⟨p, vs, r, rfl, q1, z, t⟩ := ra.lst sub
      rw [t.bls q] at q1
      exact ⟨p, is, rfl, q1, post.bl sub⟩
  · cases e
theorem ok_all : OkC K o_all (rAll K) := by
  intro ds d xs S H Q e reps sub post
  unfold o_all at e
  split at e
  · rename_i o ys
    cases q : bls? ys with
    | none => rw [q] at e; cases e
    | some is =>
      rw [q] at e
      cases e
      obtain ⟨x, rfl, ra⟩ := all2_inv1 reps
      obtain ⟨p, vs, r, rfl, q1, z, t⟩ := ra.lst sub
      rw [t.bls q] at q1
      exact ⟨p, is, rfl, q1, post.bl sub⟩
  · cases e
/-! ### list, tuple, int -/
def rTupleOf (K : PySem.W.Frag) : List V → Hp → VK → Prop := fun xs H Q => ∃ p ys, xs = [.ref p] ∧ ((SqL K H p ys ∧ ∀ l, H l = none → Q (.ref l) (upd H l (.tup ys))) ∨ (SqT K H p ys ∧ Q (.ref p) H))
theorem ok_tuple : OkC K o_tuple (rTupleOf K) := by
  intro ds d xs S H Q e reps sub post
  unfold o_tuple at e
  split at e
  · split at e
    · rename_i hm
      cases e
      obtain ⟨x, rfl, ra⟩ := all2_inv1 reps
      obtain ⟨p, vs, r, rfl, q1, z, t⟩ := ra.lst sub
      exact ⟨p, vs, rfl, .inl ⟨q1, fun l nl => post.tup sub hm t z nl⟩⟩
    · cases e
  · split at e
    · rename_i hm
      cases e
      obtain ⟨x, rfl, ra⟩ := all2_inv1 reps
      obtain ⟨p, vs, r, rfl, q1, z, t⟩ := ra.tup sub
      refine ⟨p, vs, rfl, .inr ⟨q1, ?_⟩⟩
      obtain ⟨r3, ra3⟩ := ra
      rw [RepV] at ra3
      obtain ⟨p3, ws3, e3, q3, z3, u3, t3⟩ := ra3
      refine post.same sub rfl (r := r3) ?_
      rw [RepV]
      exact ⟨p3, ws3, e3, q3, z3, fun _ => hm, t3⟩
    · cases e
  · cases e
  · cases e
def rInt1 : List V → Hp → VK → Prop := fun xs H Q => (∃ i, xs = [.int i] ∧ Q (.int i) H) ∨ ∃ k, xs = [.bl k] ∧ Q (.int (if k then 1 else 0)) H
theorem ok_int : OkC K i_int rInt1 := by
  intro ds d xs S H Q e reps sub post
  unfold i_int at e
  split at e
  · cases e
    obtain ⟨x, rfl, ra⟩ := all2_inv1 reps
    exact .inl ⟨_, by rw [ra.int], post.int sub⟩
  · cases e
    obtain ⟨x, rfl, ra⟩ := all2_inv1 reps
    exact .inr ⟨_, by rw [ra.bl], post.int sub⟩
  · cases e
/-! ### sorted -/
theorem zip_rep {S H : Hp} : ∀ {ds : List D} {vs : List V} {r : Own}, RepVs K S H ds vs r → unfl ds = true → ∀ p ∈ vs.zip ds, RepV K S H p.2 p.1 none_ ∧ p.2.fl = false
  | [], [], _, _, _, p, m => by simp at m
  | [], _ :: _, _, h, _, _, _ => by rw [RepVs] at h; exact h.elim
  | _ :: _, [], _, h, _, _, _ => by rw [RepVs] at h; exact h.elim
  | d :: ds, v :: vs, r, h, u, p, m => by
    rw [RepVs] at h
    obtain ⟨r1, r2, _, _, _, a, b⟩ := h
    obtain ⟨f1, f2⟩ := unfl_cons.mp u
    rw [List.zip_cons_cons] at m
    rcases List.mem_cons.mp m with e | m
    · rw [e]
      exact ⟨RepV.sh_to a f1 (Same.refl S), f1⟩
    · exact zip_rep b f2 p m
theorem rep_pairs {S H : Hp} : ∀ {ps : List (V × D)}, (∀ p ∈ ps, RepV K S H p.2 p.1 none_) → RepVs K S H (ps.map (·.2)) (ps.map (·.1)) none_
  | [], _ => by rw [List.map_nil, List.map_nil, RepVs]; trivial
  | p :: ps, h => by
    rw [List.map_cons, List.map_cons, RepVs]
    exact ⟨none_, none_, fun _ x => x, fun _ x => x, fun _ x _ => x, h p List.mem_cons_self, rep_pairs fun q m => h q (List.mem_cons_of_mem _ m)⟩
def leP (p q : V × D) : Bool := !ltD q.2 p.2
/-- what a walk of the thing at a gives: lists, tuples; the keys of a dict -/
def SrcS (K : PySem.W.Frag) (H : Hp) (a : Addr) (P : List V → Prop) : Prop :=
  (∃ vs, (SqL K H a vs ∨ SqT K H a vs) ∧ P vs) ∨ (∃ kvs, H a = some (.dK kvs) ∧ P (kvs.map fun kv => kV kv.1)) ∨ ∃ kvs, H a = some (.dT kvs) ∧ ∀ bs, IsKeys H kvs bs → (∀ b xs, H b = some (.tup xs) → xs.length ≤ sizeLine) → P (bs.map V.ref)
theorem SrcS.mono {K : PySem.W.Frag} {H : Hp} {a : Addr} {P P' : List V → Prop} (h : SrcS K H a P) (k : ∀ vs, P vs → P' vs) : SrcS K H a P' :=
  h.imp (fun ⟨vs, q, x⟩ => ⟨vs, q, k _ x⟩) fun h => h.imp (fun ⟨kvs, q, x⟩ => ⟨kvs, q, k _ x⟩) fun ⟨kvs, q, x⟩ => ⟨kvs, q, fun bs y z => k _ (x bs y z)⟩
theorem collect_tup {P : Program} {w : World} {A : Around} {E : Value → Shared → Prop} {s : Shared} {l : Addr} {vs : List Value} {Q : List Value → Shared → Prop} (hl : PyProof.Rows.IsTup s.heap l vs.toArray)
    (h : Q vs { s with heap := (s.heap.push (PyProof.Rows.seqObj "list" #[] 0)).update s.heap.objs.size (Obj.mapSeq (· ++ vs.toArray)) }) (hsz : vs.length ≤ sizeLine) :
    wpAny (model P w) A (collect (.ref l)) Q E s := by
  obtain ⟨o, ho, hc, n, hd⟩ := id hl
  unfold collect
  refine wpAny_bind (wpAny_runValue (codeAny_builtin PyProof.Rows.entry_proto_collect' ?_))
  show wpAny _ _ (do again (.builtin "list.__iadd__" ⟨[← newList [], .ref l], []⟩)) _ _ s
  refine wpAny_bind (wpAny_newList (wpAny_pure ⟨Code.quiet_builtin _ (by decide +kernel), codeAny_builtin PyProof.Rows.entry_list_iadd' ?_⟩))
  show wpAny _ _ (Builtin.List.listExtendWith (.ref s.heap.objs.size) (.ref l) (.ref s.heap.objs.size)) _ _ { s with heap := s.heap.push (PyProof.Rows.seqObj "list" #[] 0) }
  unfold Builtin.List.listExtendWith
  have ho' : (s.heap.push (PyProof.Rows.seqObj "list" #[] 0)).get? l = some o := Heap.get?_push_of_some _ ho
  refine wpAny_bind (wpAny_typeOf (T := "tuple") ⟨o, ho', hc⟩ ?_)
  have ht : (Value.type "tuple" == Value.type "tuple") = true := by rfl
  rw [if_pos (by rw [ht]; simp)]
  refine wpAny_bind (PyProof.Rows.listItems_at ho' hd ?_)
  refine wpAny_bind (PyProof.Rows.listItems_at (xs := #[]) (n := 0) (Heap.get?_push_size _ rfl) rfl ?_)
  rw [if_neg (by simp)]
  refine wpAny_bind (PyProof.Rows.listUpdate_at (xs := #[]) (n := 0) (Heap.get?_push_size _ rfl) rfl ?_ (Nat.zero_le _) (by show (#[] ++ vs.toArray).size ≤ sizeLine + 1; simp only [Array.size_append, List.size_toArray, List.length_nil]; omega))
  refine wpAny_pure ?_
  show wpAny (model P w) A (do
      let o ← load s.heap.objs.size
      match o.data with
      | .seq xs _ => pure xs.toList
      | _ => unsupported "internal:collect") Q E { s with heap := (s.heap.push (PyProof.Rows.seqObj "list" #[] 0)).update s.heap.objs.size (Obj.mapSeq (· ++ vs.toArray)) }
  refine wpAny_bind (wpAny_load (PyProof.Rows.get?_update_seq (Heap.get?_push_size _ rfl) _) ?_)
  show wpAny _ _ (pure ((#[] : Array Value) ++ vs.toArray).toList) Q E _
  rw [show ((#[] : Array Value) ++ vs.toArray).toList = vs by simp]
  exact wpAny_pure h
theorem collect_src {pins : List (Addr × Obj)} {σ : L2.St} {H : Hp} {s : Shared} (I : Inv X pins σ H s) {A : Around} (hh : A.handled = none) {E : Value → Shared → Prop} {a : Addr} {P : List V → Prop} (h : SrcS X.K H a P) {Q : List Value → Shared → Prop}
    (q : ∀ vs its h' tk, P vs → Vals vs its → vs.length ≤ sizeLine → (∀ b o, s.heap.get? b = some o → h'.get? b = some o) → Q its { s with heap := h', toks := tk }) : wpAny (model X.prog X.w) A (collect (.ref a)) Q E s := by
  have kp : ∀ vs : List Value, ∀ b o, s.heap.get? b = some o → ((s.heap.push (PyProof.Rows.seqObj "list" #[] 0)).update s.heap.objs.size (Obj.mapSeq (· ++ vs.toArray))).get? b = some o := fun vs b o e => by
    rw [(Heap.SameBut.update (s.heap.push (PyProof.Rows.seqObj "list" #[] 0)) s.heap.objs.size (Obj.mapSeq (· ++ vs.toArray))).2 b (Nat.ne_of_lt (Heap.lt_size e))]
    exact Heap.get?_push_of_some _ e
  rcases h with ⟨vs, h | h, p⟩ | ⟨kvs, h, p⟩ | ⟨kvs, h, p⟩
  · obtain ⟨its, r, pl, hz⟩ := I.list h
    exact PyProof.Rows.collect_list pl.isList (q vs its _ s.toks p r hz (kp its)) (by rw [← r.length]; exact hz)
  · obtain ⟨its, r, pl, hz⟩ := I.tuple h
    exact collect_tup pl (q vs its _ s.toks p r hz (kp its)) (by rw [← r.length]; exact hz)
  · obtain ⟨z, lo, vs, rk, hd⟩ := (show ObjOk X.prog X.w H s.heap a (.dK kvs) from I.hok a _ h)
    obtain ⟨ep, hat⟩ := hd.dictAt
    have hl : kvs.length = vs.length := Paired.length rk
    refine PySem.W.kdu_collect (PySem.W.kdl_dict (knd := mixKind X.prog X.w) (kvs := vs) (ep := ep) lo) hh hat (by rw [← hl]; exact z) fun h' tk acc' hkeep hacc => q _ _ h' tk p ?_ (by rw [List.length_map]; exact z) hkeep
    have el : acc'.toList.length = acc'.size := by simp
    refine vals_of_at (by rw [List.length_map, el, hacc.1, hl]) fun j x w h1 h2 => ?_
    obtain ⟨k, y, hky, hi⟩ := hacc.2 j w (by rw [← Array.getElem?_toList]; exact h2)
    have e1 : (kvs.map (·.1))[j]? = some k := by
      rw [KV.keys rk, List.getElem?_map, hky] <;> rfl
    have e2 : (kvs.map fun kv => kV kv.1)[j]? = some (kV k) := by
      have e3 : (kvs.map fun kv => kV kv.1) = (kvs.map (·.1)).map kV := by rw [List.map_map] <;> rfl
      rw [e3, List.getElem?_map, e1] <;> rfl
    rw [e2] at h1
    cases h1
    exact keyIs_rel hi
  · obtain ⟨z, hs, ks, pr, o, es, ep, ho, hx, hdt, he, hn⟩ := (show ObjOk X.prog X.w H s.heap a (.dT kvs) from I.hok a _ h)
    have l1 : es.size = ks.length := size_of_entries he
    have l2 : kvs.length = ks.length := Paired.length pr
    refine PySem.W.kdu_collect (kdl_raw hs hx hdt) hh ho (by omega) fun h' tk acc' kp it => ?_
    have ea : acc'.toList = ks.map fun x => Value.ref x.2.1 := by
      have hl : acc'.toList.length = ks.length := by rw [Array.length_toList, it.1]; exact l1
      apply List.ext_getElem?
      intro j
      rw [List.getElem?_map]
      cases hj : acc'.toList[j]? with
      | none =>
        have h1 := List.getElem?_eq_none_iff.mp hj
        rw [List.getElem?_eq_none (by omega)]
        all_goals rfl
      | some v =>
        obtain ⟨en, hen, hv⟩ := it.2 j v (by rw [← Array.getElem?_toList]; exact hj)
        have qe := entry_at he j
        rw [hen] at qe
        cases hb : ks[j]? with
        | none =>
          rw [hb] at qe
          exact nomatch (show some en = none from qe)
        | some b =>
          rw [hb] at qe
          have e2 : en = entryOfKey (tupleKind (mixKind X.prog X.w)) b := Option.some.inj qe
          rw [hv, e2]
          all_goals rfl
    have eb : acc'.toList = (ks.map fun x => x.2.1).map Value.ref := by rw [ea, List.map_map]; all_goals rfl
    rw [eb]
    exact q _ _ h' tk (p _ (isKeys_of pr) fun b xs e => (show ObjOk X.prog X.w H s.heap b (.tup xs) from I.hok b _ e).1) (vals_refs _) (by rw [List.length_map, List.length_map]; omega) kp
def rSortD (K : PySem.W.Frag) : List V → Hp → VK → Prop := fun xs H Q => ∃ a, xs = [.ref a] ∧ SrcS K H a fun vs => ∃ ds, ds.length = vs.length ∧ DpAll K H vs (toPs ds) ∧ sortOk ds = true ∧ ∀ p, H p = none → Q (.ref p) (upd H p (.lst (((vs.zip ds).mergeSort leP).map (·.1))))
theorem reads_each {pins : List (Addr × Obj)} {σ : L2.St} {H : Hp} {s : Shared} (I : Inv X pins σ H s) : ∀ {ds : List D} {vs : List V} {us : List Value}, DpAll X.K H vs (toPs ds) → Vals vs us → PySem.W.EachIs (fun (u : Value) (p : V × D) => RelV p.1 u ∧ ∃ as, Reads s.heap u p.2.toP as) us (vs.zip ds)
  | [], [], _, _, .nil => .nil
  | [], _ :: _, _, h, _ => by rw [toPs] at h; cases h
  | d :: ds, [], _, h, _ => by rw [toPs] at h; cases h
  | d :: ds, v :: vs, _, h, .cons r t => by
    rw [toPs] at h
    cases h with
    | cons h1 h2 => exact .cons ⟨r, Dp.reads I d.toP v _ h1 r⟩ (reads_each I h2 t)
theorem vals_of_each : ∀ {us : List Value} {ps : List (V × D)}, PySem.W.EachIs (fun (u : Value) (p : V × D) => RelV p.1 u) us ps → Vals (ps.map (·.1)) us
  | _, _, .nil => .nil
  | _, _, .cons r t => .cons r (vals_of_each t)
theorem cr_sortD (hc : X.calm = true) (hu : X.A.units + 64 < cLine) : CallR X (.builtin "sorted") (rSortD X.K) := by
  intro pins s σ H xs us Q I rv h
  obtain ⟨a, rfl, hsrc⟩ := h
  rw [Vals.ref1 rv]
  refine Calls.call_function_entry PyProof.Rows.kind_sorted PyProof.Rows.plain_sorted PyProof.Rows.entry_sorted (PyProof.Rows.args_sorted1 _) ?_
  unfold Builtin.«sorted»
  refine wpAny_bind (m := checkCount "sorted" 1 1 _) (wpAny_pure ?_)
  refine wpAny_bind (collect_src (A := X.A.in1) I (I.ok.hd hc) hsrc fun vs its h' tk P r hz kp => ?_)
  obtain ⟨ds, hlen, hd, hs, q⟩ := P
  have I1 : Inv X pins σ H { s with heap := h', toks := tk } := I.kept fun b o e => kp b o e
  have each := reads_each I1 hd r
  have hal : PySem.W.AllAlike ((vs.zip ds).map fun p => p.2.toP) := by
    intro x hx y hy
    obtain ⟨p, hp, rfl⟩ := List.mem_map.mp hx
    obtain ⟨p', hp', rfl⟩ := List.mem_map.mp hy
    unfold sortOk at hs
    simp only [Bool.and_eq_true] at hs
    exact List.all_eq_true.mp (List.all_eq_true.mp hs.1.2 p.2 (List.of_mem_zip hp).2) p'.2 (List.of_mem_zip hp').2
  have hk : PySem.W.Sortable ((vs.zip ds).map fun p => p.2.toP) := by
    unfold sortOk at hs
    simp only [Bool.and_eq_true, Bool.or_eq_true] at hs
    rcases hs.2 with k | k
    · refine .inl fun x hx => ?_
      obtain ⟨p, hp, rfl⟩ := List.mem_map.mp hx
      have k1 := List.all_eq_true.mp k p.2 (List.of_mem_zip hp).2
      split at k1
      · rename_i o y ys e
        rw [e, D.toP, toPs]
        exact ⟨_, _, rfl⟩
      · cases k1
    · refine .inr fun x hx => ?_
      obtain ⟨p, hp, rfl⟩ := List.mem_map.mp hx
      have k1 := List.all_eq_true.mp k p.2 (List.of_mem_zip hp).2
      cases e : p.2 with
      | tup o ys => rw [e] at k1; cases k1
      | non => rw [e] at k1; cases k1
      | _ => exact ⟨fun z => (by rw [D.toP] at z; cases z), fun xs z => (by rw [D.toP] at z; cases z)⟩
  have hdep : ∀ p, p ∈ vs.zip ds → X.A.units + 2 + p.2.toP.depth < cLine := fun p hp => by
    unfold sortOk at hs
    simp only [Bool.and_eq_true] at hs
    have k := (sh_can 60 p.2 (List.all_eq_true.mp hs.1.1 p.2 (List.of_mem_zip hp).2)).2
    omega
  have zl : (vs.zip ds).length = vs.length := by rw [List.length_zip, hlen, Nat.min_self]
  have iz : its.length ≤ sizeLine := by rw [← r.length]; exact hz
  refine wpAny_bind (wpAny_newList ?_ iz)
  have hoL : (h'.push (PyProof.Rows.seqObj "list" its.toArray 0)).get? h'.objs.size = some (PyProof.Rows.seqObj "list" its.toArray 0) := Heap.get?_push_size _ rfl
  have e1 : PySem.W.EachIs (fun (u : Value) (p : V × D) => RelV p.1 u) its (vs.zip ds) := each.mono fun _ _ x => x.1
  have old : ∀ b u, h'.get? b = some u → (PySem.W.sortingHeap (h'.push (PyProof.Rows.seqObj "list" its.toArray 0)) h'.objs.size its).get? b = some u := fun b u e => PySem.W.sortingHeap_old (Nat.ne_of_lt (Heap.lt_size e)) (Heap.get?_push_of_some _ e)
  have e2 : PySem.W.EachIs (fun (u : Value) (p : V × D) => ∃ as, Reads (PySem.W.sortingHeap (h'.push (PyProof.Rows.seqObj "list" its.toArray 0)) h'.objs.size its) u p.2.toP as) its (vs.zip ds) := each.mono fun _ _ ⟨_, as, x⟩ => ⟨as, PyProof.Rows.Reads.keeps old x⟩
  refine wpAny_bind (wpAny_holding (wpAny_call_entry PyProof.Rows.slot_list_sort ⟨_, hoL, rfl⟩ PyProof.Rows.entry_list_sort (PySem.W.list_sort_vals (κ := PySem.W.dataKind (PySem.W.sortingHeap (h'.push (PyProof.Rows.seqObj "list" its.toArray 0)) h'.objs.size its) ((vs.zip ds).map fun p => p.2.toP)) hoL
    (PySem.W.SortsAt.data (s := { s with heap := PySem.W.sortingHeap (h'.push (PyProof.Rows.seqObj "list" its.toArray 0)) h'.objs.size its, toks := tk }) (PySem.W.each_map (R := fun v d => ∃ as, Reads (PySem.W.sortingHeap (h'.push (PyProof.Rows.seqObj "list" its.toArray 0)) h'.objs.size its) v d as) (fun p : V × D => p.2.toP) e2) hal hk (PySem.W.bound_map fun b hb => ?_)) iz ⟨.none, rfl, ?_⟩) (PyProof.Rows.args_list_sort _)))
  · have := hdep b hb
    simp only [Around.in1]
    omega
  · have eo := PySem.W.sortVals_data (enc := fun p : V × D => p.2.toP) false e1 e2 hal
    have same : (vs.zip ds).mergeSort (PySem.W.dataLe false fun p => p.2.toP) = (vs.zip ds).mergeSort leP := rfl
    rw [same] at eo
    have hl2 : (((vs.zip ds).mergeSort leP).map (·.1)).length ≤ sizeLine := by rw [List.length_map, List.length_mergeSort, zl]; exact hz
    obtain ⟨c, hc2⟩ := PyProof.Rows.sortedHeap_at (vs := its) (out := (PySem.W.sortVals (PySem.W.dataKind (PySem.W.sortingHeap (h'.push (PyProof.Rows.seqObj "list" its.toArray 0)) h'.objs.size its) ((vs.zip ds).map fun p => p.2.toP)) false its its).toArray) hoL
    have kp2 : ∀ b u, h'.get? b = some u → (PyProof.Rows.sortedHeap (h'.push (PyProof.Rows.seqObj "list" its.toArray 0)) h'.objs.size its (PySem.W.sortVals (PySem.W.dataKind (PySem.W.sortingHeap (h'.push (PyProof.Rows.seqObj "list" its.toArray 0)) h'.objs.size its) ((vs.zip ds).map fun p => p.2.toP)) false its its).toArray).get? b = some u := fun b u e => by
      have lt := Heap.lt_size e
      rw [PyProof.Rows.sortedHeap_old (Nat.ne_of_lt lt) (by rw [PyProof.Rows.size_push']; exact Nat.lt_succ_of_lt lt)]
      exact Heap.get?_push_of_some _ e
    refine wpAny_pure ⟨_, rfl, .ref h'.objs.size, upd H h'.objs.size (.lst (((vs.zip ds).mergeSort leP).map (·.1))), I1.laid (t' := tk) kp2 (Nat.le_refl _) ⟨hl2, _, c, vals_of_each eo, hc2⟩, rfl, q _ (I1.hok.fresh (Nat.le_refl _))⟩
theorem sort_snd {vs : List V} {ds : List D} (h : ds.length = vs.length) : ((vs.zip ds).mergeSort leP).map (·.2) = sortD ds := by
  unfold sortD
  rw [PySem.W.sort_maps (r := leP) (s := fun a b => !ltD b a) (fun p : V × D => p.2) (fun _ _ _ _ => rfl), List.map_snd_zip (by omega)]
theorem sorted_list {ys : List D} {vs : List V} {r : Own} {S H : Hp} {Q : VK} (sub : MP.Same S H) (post : PostO K S H Q (.lst true (sortD ys))) (hm : sortOk ys = true ∧ unfl ys = true) (z : vs.length ≤ sizeLine) (t : RepVs K S H ys vs r) :
    ∃ ds, ds.length = vs.length ∧ DpAll K H vs (toPs ds) ∧ sortOk ds = true ∧ ∀ p, H p = none → Q (.ref p) (upd H p (.lst (((vs.zip ds).mergeSort leP).map (·.1)))) := by
  have hn : shs 60 ys = true := by
    have k := hm.1
    unfold sortOk at k
    simp only [Bool.and_eq_true] at k
    exact shs_all fun d m => List.all_eq_true.mp k.1.1 d m
  refine ⟨ys, t.len, RepVs.dp sub 60 ys vs r t hn, hm.1, fun l nl => ?_⟩
  have zl : (vs.zip ys).length = vs.length := by rw [List.length_zip, t.len, Nat.min_self]
  have rp : RepVs K S H (((vs.zip ys).mergeSort leP).map (·.2)) (((vs.zip ys).mergeSort leP).map (·.1)) none_ := rep_pairs fun p m => (zip_rep t hm.2 p (List.mem_mergeSort.mp m)).1
  rw [sort_snd t.len] at rp
  have hu : unfl (sortD ys) = true := unfl_sub hm.2 fun d m => List.mem_mergeSort.mp m
  exact post.list sub hu rp (by rw [List.length_map, List.length_mergeSort, zl]; exact z) nl
/-- the key tuples are shared from now on -/
def addT (S H : Hp) (bs : List Addr) : Hp := fun a => open Classical in if a ∈ bs then H a else S a
theorem ints_of {xs : List D} (h : (ints? xs).isSome = true) : ∃ is : List Int, xs = is.map .int := by
  induction xs with
  | nil => exact ⟨[], rfl⟩
  | cons d ds ih =>
    cases d with
    | int i =>
      rw [ints?] at h
      cases q : ints? ds with
      | none => rw [q] at h; cases h
      | some js =>
        obtain ⟨is, e⟩ := ih (by rw [q]; rfl)
        exact ⟨i :: is, by rw [e]; rfl⟩
    | _ => cases h
theorem keysK_ints : ∀ is : List Int, keysK (is.map .int) = some (is.map Sum.inl)
  | [] => rfl
  | i :: is => by rw [List.map_cons, keysK, keysK_ints is]; rfl
theorem reps_ints {S H : Hp} : ∀ is : List Int, RepVs K S H (is.map .int) (is.map V.int) none_
  | [] => by rw [List.map_nil, List.map_nil, RepVs]; trivial
  | i :: is => by
    rw [List.map_cons, List.map_cons, RepVs]
    exact ⟨none_, none_, fun _ x => x, fun _ x => x, fun _ x _ => x, (by rw [RepV]), reps_ints is⟩
theorem unfl_ints (is : List Int) : unfl (is.map D.int) = true := by
  unfold unfl
  rw [List.all_eq_true]
  intro d hd
  obtain ⟨i, _, rfl⟩ := List.mem_map.mp hd
  rfl
/-- the keys of a dict with tuple keys, as values -/
theorem keysT_reps {S H : Hp} : ∀ {ks : List D} {kk : List (List Key)} {ws : List V} {bs : List Addr}, ks.mapM keyT = some kk → ws.length = kk.length → IsKeys H (kk.zip ws) bs → ks.all intKey = true → (∀ b xs, H b = some (.tup xs) → xs.length ≤ sizeLine) →
    bs.length = ks.length ∧ (∀ b ∈ bs, ∃ xs, H b = some (.tup xs)) ∧ ∀ S' : Hp, (∀ b ∈ bs, S' b = H b) → RepVs K S' H ks (bs.map V.ref) none_
  | [], kk, ws, bs, h, hl, ik, _, _ => by
    have e : kk = [] := by simpa using h.symm
    subst e
    cases ik
    refine ⟨rfl, (fun b hb => by cases hb), fun S' _ => by rw [List.map_nil, RepVs]; trivial⟩
  | d :: ks, kk, ws, bs, h, hl, ik, hi, hz => by
    rw [List.mapM_cons] at h
    cases q : keyT d with
    | none => rw [q] at h; cases h
    | some k =>
      cases q2 : ks.mapM keyT with
      | none => rw [q, q2] at h; cases h
      | some kk2 =>
        rw [q, q2] at h
        have e : k :: kk2 = kk := by simpa using h
        subst e
        cases ws with
        | nil => cases hl
        | cons w ws =>
          rw [List.zip_cons_cons] at ik
          unfold IsKeys at ik
          cases ik with
          | @cons _ b _ bs hb t =>
            rw [List.all_cons, Bool.and_eq_true] at hi
            obtain ⟨l1, l2, l3⟩ := keysT_reps (S := S) (H := H) q2 (by simpa using hl) t hi.2 hz
            obtain ⟨o, ds, rfl, e2⟩ := keyT_inv q
            have ho : o = false := by
              cases o with
              | false => rfl
              | true => cases hi.1
            subst ho
            obtain ⟨is, rfl⟩ := ints_of hi.1
            rw [keysK_ints] at e2
            cases e2
            have hb : H b = some (.tup ((is.map Sum.inl).map kV)) := hb
            rw [List.map_map] at hb
            have hb : H b = some (.tup (is.map V.int)) := hb
            refine ⟨by rw [List.length_cons, List.length_cons, l1], fun c hc => ?_, fun S' hS => ?_⟩
            · rcases List.mem_cons.mp hc with z | z
              · rw [z]; exact ⟨_, hb⟩
              · exact l2 c z
            · rw [List.map_cons, RepVs]
              refine ⟨none_, none_, fun _ x => x, fun _ x => x, fun _ x _ => x, ?_, l3 S' fun c hc => hS c (List.mem_cons_of_mem _ hc)⟩
              rw [RepV]
              exact ⟨b, is.map V.int, rfl, (hS b List.mem_cons_self).trans hb, hz b _ hb, fun _ => unfl_ints is, reps_ints is⟩
theorem keysK_reps {S H : Hp} : ∀ {ks : List D} {kk : List Key} {ws : List V}, ks.mapM keyK = some kk → ws.length = kk.length → ks.all intKey = true → RepVs K S H ks ((kk.zip ws).map fun kv => kV kv.1) none_
  | [], kk, ws, h, _, _ => by
    have e : kk = [] := by simpa using h.symm
    subst e
    rw [List.zip_nil_left, List.map_nil, RepVs]; trivial
  | d :: ks, kk, ws, h, hl, hi => by
    rw [List.mapM_cons] at h
    cases q : keyK d with
    | none => rw [q] at h; cases h
    | some k =>
      cases q2 : ks.mapM keyK with
      | none => rw [q, q2] at h; cases h
      | some kk2 =>
        rw [q, q2] at h
        have e : k :: kk2 = kk := by simpa using h
        subst e
        cases ws with
        | nil => cases hl
        | cons w ws =>
          rw [List.all_cons, Bool.and_eq_true] at hi
          rw [List.zip_cons_cons, List.map_cons, RepVs]
          refine ⟨none_, none_, fun _ x => x, fun _ x => x, fun _ x _ => x, ?_, keysK_reps q2 (by simpa using hl) hi.2⟩
          rcases keyK_inv q with ⟨i, rfl, rfl⟩ | ⟨s, rfl, rfl⟩
          · rw [RepV]; rfl
          · cases hi.1
theorem intKey_unfl {ks : List D} (h : ks.all intKey = true) : unfl ks = true := by
  unfold unfl
  rw [List.all_eq_true] at h ⊢
  intro d hd
  have := h d hd
  cases d with
  | tup o xs => cases o with
    | false => rfl
    | true => cases this
  | lst o xs => cases this
  | dic o _ _ _ => cases this
  | ins o _ _ _ => cases this
  | _ => rfl
theorem ok_sorted : OkC K i_sorted (rSortD K) := by
  intro ds d xs S H Q e reps sub post
  unfold i_sorted at e
  split at e
  · rename_i o ys
    split at e
    · rename_i hm
      cases e
      simp only [Bool.and_eq_true] at hm
      obtain ⟨x, rfl, ra⟩ := all2_inv1 reps
      obtain ⟨p, vs, r, rfl, q1, z, t⟩ := ra.lst sub
      exact ⟨p, rfl, .inl ⟨vs, .inl q1, sorted_list sub post hm z t⟩⟩
    · cases e
  · rename_i o ys
    split at e
    · rename_i hm
      cases e
      simp only [Bool.and_eq_true] at hm
      obtain ⟨x, rfl, ra⟩ := all2_inv1 reps
      obtain ⟨p, vs, r, rfl, q1, z, t⟩ := ra.tup sub
      exact ⟨p, rfl, .inl ⟨vs, .inr q1, sorted_list sub post hm z t⟩⟩
    · cases e
  · rename_i o kd ks vals
    split at e
    · rename_i hm
      cases e
      simp only [Bool.and_eq_true] at hm
      obtain ⟨x, rfl, ra⟩ := all2_inv1 reps
      obtain ⟨a, ws, ho, r, rfl, q1, q2, z, hl, t⟩ := ra.dic sub
      have hu := intKey_unfl hm.2
      have hm2 : sortOk ks = true ∧ unfl ks = true := ⟨hm.1, hu⟩
      by_cases k0 : kd = 0
      · subst k0
        obtain ⟨kk, m1, nd, rfl⟩ := dicHO_0 q1
        have lk : ws.length = kk.length := by rw [← hl]; exact (mapM_len m1).symm
        refine ⟨a, rfl, .inr (.inl ⟨_, q2, sorted_list sub post hm2 (by rw [List.length_map, List.length_zip]; omega) (keysK_reps m1 lk hm.2)⟩)⟩
      · by_cases k1 : kd = 1
        · subst k1
          obtain ⟨kk, m1, nd, rfl⟩ := dicHO_1 q1
          have lk : ws.length = kk.length := by rw [← hl]; exact (mapM_len m1).symm
          refine ⟨a, rfl, .inr (.inr ⟨_, q2, fun bs ik hz => ?_⟩)⟩
          obtain ⟨l1, l2, l3⟩ := keysT_reps (S := S) (K := K) m1 lk ik hm.2 hz
          have sS : MP.Same S (addT S H bs) := fun b u e => by
            unfold addT
            split
            · exact sub b u e
            · exact e
          have sH : MP.Same (addT S H bs) H := fun b u e => by
            unfold addT at e
            split at e
            · exact e
            · exact sub b u e
          have rp := l3 (addT S H bs) fun b hb => by unfold addT; rw [if_pos hb]
          refine sorted_list (S := addT S H bs) sH ?_ hm2 (by rw [List.length_map]; omega) rp
          intro v H' S' r' s1 s2 s3 fr sh rep lv
          refine post v H' S' r' (Same.trans sS s1) s2 s3 fr (fun b u e => ?_) rep lv
          rcases sh b u e with x | x | x
          · unfold addT at x
            split at x
            · rename_i hb
              obtain ⟨us, e3⟩ := l2 b hb
              rw [e3] at x
              cases x
              exact .inr (.inr ⟨⟨_, rfl⟩, e3⟩)
            · exact .inl x
          · exact .inr (.inl x)
          · exact .inr (.inr x)
        · unfold dicHO at q1
          rw [if_neg k0, if_neg k1] at q1
          cases q1
    · cases e
  · cases e
end
end MP

set_option autoImplicit false
set_option linter.all false
set_option maxRecDepth 100000
/-! MP: least and greatest of data, the text of an int. -/
namespace MP
open PySem L2
section
variable {X : Cx} {K : PySem.W.Frag}
theorem vals_at : ∀ {xs : List V} {us : List Value} {i : Nat} {u : Value}, Vals xs us → us[i]? = some u → ∃ x, xs[i]? = some x ∧ RelV x u
  | _, _, i, u, .nil, h => by simp at h
  | x :: xs, _ :: us, 0, u, .cons r rs, h => by cases h; exact ⟨x, rfl, r⟩
  | x :: xs, _ :: us, i + 1, u, .cons r rs, h => vals_at (i := i) rs h
theorem minD_fold : ∀ (xs : List D) (x : D), MP.minD xs x = xs.foldl (fun a y => if ltD y a then y else a) x
  | [], x => rfl
  | y :: ys, x => by rw [MP.minD, List.foldl_cons, minD_fold ys]
theorem maxD_fold : ∀ (xs : List D) (x : D), MP.maxD xs x = xs.foldl (fun a y => if ltD a y then y else a) x
  | [], x => rfl
  | y :: ys, x => by rw [MP.maxD, List.foldl_cons, maxD_fold ys]
theorem toPs_getD (ds : List D) (i : Nat) : (toPs ds).getD i .none = (ds.getD i .non).toP := by
  rw [toPs_map, List.getD_eq_getElem?_getD, List.getD_eq_getElem?_getD, List.getElem?_map]
  cases ds[i]? <;> rfl
def bestLt (ds : List D) (n : Nat) : Nat := argBest (fun i j => PySem.W.dataLt ((toPs ds).getD i .none) ((toPs ds).getD j .none)) n
def bestGt (ds : List D) (n : Nat) : Nat := argBest (fun i j => PySem.W.dataLt ((toPs ds).getD j .none) ((toPs ds).getD i .none)) n
theorem bestLt_at (x : D) (xs : List D) : (x :: xs)[bestLt (x :: xs) xs.length]? = some (MP.minD xs x) := by
  obtain ⟨h1, h2⟩ := PySem.W.argBest_fold ltD D.non x xs xs.length (Nat.le_refl _)
  rw [List.take_length, ← minD_fold] at h2
  have e : bestLt (x :: xs) xs.length = argBest (fun i j => ltD ((x :: xs).getD i .non) ((x :: xs).getD j .non)) xs.length := by
    unfold bestLt
    congr 1
    funext i j
    rw [toPs_getD, toPs_getD]
    rfl
  rw [e]
  have hl : argBest (fun i j => ltD ((x :: xs).getD i .non) ((x :: xs).getD j .non)) xs.length < (x :: xs).length := by rw [List.length_cons]; omega
  rw [List.getD_eq_getElem?_getD, List.getElem?_eq_getElem hl] at h2
  rw [List.getElem?_eq_getElem hl]
  exact congrArg some h2
theorem bestGt_at (x : D) (xs : List D) : (x :: xs)[bestGt (x :: xs) xs.length]? = some (MP.maxD xs x) := by
  obtain ⟨h1, h2⟩ := PySem.W.argBest_fold (fun a b => ltD b a) D.non x xs xs.length (Nat.le_refl _)
  rw [List.take_length, ← maxD_fold] at h2
  have e : bestGt (x :: xs) xs.length = argBest (fun i j => ltD ((x :: xs).getD j .non) ((x :: xs).getD i .non)) xs.length := by
    unfold bestGt
    congr 1
    funext i j
    rw [toPs_getD, toPs_getD]
    rfl
  rw [e]
  have hl : argBest (fun i j => ltD ((x :: xs).getD j .non) ((x :: xs).getD i .non)) xs.length < (x :: xs).length := by rw [List.length_cons]; omega
  rw [List.getD_eq_getElem?_getD, List.getElem?_eq_getElem hl] at h2
  rw [List.getElem?_eq_getElem hl]
  exact congrArg some h2
def rBestD (K : PySem.W.Frag) (best : List D → Nat → Nat) : List V → Hp → VK → Prop := fun xs H Q => ∃ a vs x ds, xs = [.ref a] ∧ SqL K H a vs ∧ DpAll K H vs (toPs (x :: ds)) ∧ PySem.W.AlikeAll (toPs (x :: ds)) ∧ PyData.depthAll (toPs (x :: ds)) ≤ 60 ∧ ∀ v, vs[best (x :: ds) ds.length]? = some v → Q v H
theorem cr_minD (hc : X.calm = true) (hu : X.A.units + 64 < cLine) : CallR X (.builtin "min") (rBestD X.K bestLt) := by
  intro pins s σ H xs us Q I rv h
  obtain ⟨a, vs, x, ds, rfl, hl, hd, ha, hdep, q⟩ := h
  rw [Vals.ref1 rv]
  obtain ⟨its, r, pl, hz⟩ := I.list hl
  obtain ⟨as, hr⟩ := Dp.readsAll I _ _ its hd r
  have hn : its.toArray.size = ds.length + 1 := by
    have e := PySem.SeqAt.ReadsAll.length _ _ _ hr
    rw [toPs_map, List.length_map, List.length_cons] at e
    rw [List.size_toArray]
    exact e
  refine PySem.call_min_walkH (PySem.W.iter_listW (A := X.A.in1) (I.ok.hd hc) pl.isList fun s₂ e W st hfp hw hk => ?_)
  refine ⟨_, _, _, _, _, _, _, s.heap, _, rfl, W, st, hfp, by omega, hw, hk, PySem.W.cmpIn_lt (A := X.A.in1) (vs := its.toArray) (xs := toPs (x :: ds)) hr ha (by show X.A.units + 1 + _ < _; omega), fun v s' hP m => ?_⟩
  obtain ⟨h', tk, rfl, hk'⟩ := PySem.W.moved_old e rfl m
  have e1 : its.toArray.size - 1 = ds.length := by omega
  rw [e1] at hP
  rw [List.getElem?_toArray] at hP
  obtain ⟨w, hw1, hw2⟩ := vals_at r hP
  exact ⟨w, H, I.kept (t' := tk) hk', hw2, q w hw1⟩
theorem cr_maxD (hc : X.calm = true) (hu : X.A.units + 64 < cLine) : CallR X (.builtin "max") (rBestD X.K bestGt) := by
  intro pins s σ H xs us Q I rv h
  obtain ⟨a, vs, x, ds, rfl, hl, hd, ha, hdep, q⟩ := h
  rw [Vals.ref1 rv]
  obtain ⟨its, r, pl, hz⟩ := I.list hl
  obtain ⟨as, hr⟩ := Dp.readsAll I _ _ its hd r
  have hn : its.toArray.size = ds.length + 1 := by
    have e := PySem.SeqAt.ReadsAll.length _ _ _ hr
    rw [toPs_map, List.length_map, List.length_cons] at e
    rw [List.size_toArray]
    exact e
  refine PySem.call_max_walkH (PySem.W.iter_listW (A := X.A.in1) (I.ok.hd hc) pl.isList fun s₂ e W st hfp hw hk => ?_)
  refine ⟨_, _, _, _, _, _, _, s.heap, _, rfl, W, st, hfp, by omega, hw, hk, PySem.W.cmpIn_gt (A := X.A.in1) (vs := its.toArray) (xs := toPs (x :: ds)) hr ha (by show X.A.units + 1 + _ < _; omega), fun v s' hP m => ?_⟩
  obtain ⟨h', tk, rfl, hk'⟩ := PySem.W.moved_old e rfl m
  have e1 : its.toArray.size - 1 = ds.length := by omega
  rw [e1] at hP
  rw [List.getElem?_toArray] at hP
  obtain ⟨w, hw1, hw2⟩ := vals_at r hP
  exact ⟨w, H, I.kept (t' := tk) hk', hw2, q w hw1⟩
/-! ### the text of an int -/
theorem alike_of {xs : List D} (h : sortOk xs = true) : PySem.W.AlikeAll (toPs xs) := by
  unfold sortOk at h
  simp only [Bool.and_eq_true, Bool.or_eq_true] at h
  refine ⟨fun x hx y hy => ?_, fun x hx => ?_⟩
  · rw [toPs_map] at hx hy
    obtain ⟨a, ha, rfl⟩ := List.mem_map.mp hx
    obtain ⟨b, hb, rfl⟩ := List.mem_map.mp hy
    exact List.all_eq_true.mp (List.all_eq_true.mp h.1.2 a ha) b hb
  · rw [toPs_map] at hx
    obtain ⟨a, ha, rfl⟩ := List.mem_map.mp hx
    rcases h.2 with k | k
    · have k1 := List.all_eq_true.mp k a ha
      cases a <;> first | (rw [D.toP]; intro z; cases z; done) | cases k1
    · have k1 := List.all_eq_true.mp k a ha
      cases a <;> first | (rw [D.toP]; intro z; cases z; done) | cases k1
theorem ok_best {best : List D → Nat → Nat} {f : List D → D → D} (hb : ∀ x xs, (x :: xs)[best (x :: xs) xs.length]? = some (f xs x)) {o : Bool} {x : D} {ys : List D} {v : V} {S H : Hp} {Q : VK} (hm : (sortOk (x :: ys) && unfl (x :: ys)) = true) (ra : Rep K S H (.lst o (x :: ys)) v) (sub : MP.Same S H) (post : PostO K S H Q (f ys x)) : rBestD K best [v] H Q := by
  rw [Bool.and_eq_true] at hm
  obtain ⟨p, vs, r, rfl, q1, z, t⟩ := ra.lst sub
  have hn : shs 60 (x :: ys) = true := by
    have k := hm.1
    unfold sortOk at k
    simp only [Bool.and_eq_true] at k
    exact shs_all fun d m => List.all_eq_true.mp k.1.1 d m
  refine ⟨p, vs, x, ys, rfl, q1, RepVs.dp sub 60 _ vs r t hn, alike_of hm.1, (sh_cans 60 _ hn).2, fun w hw => ?_⟩
  obtain ⟨w', r', hw', rep⟩ := t.at (hb x ys)
  rw [hw] at hw'
  cases hw'
  exact post.same sub (unfl_iff.mp hm.2 _ (List.mem_of_getElem? (hb x ys))) rep
def rMinA (K : PySem.W.Frag) : List V → Hp → VK → Prop := fun xs H Q => rMin K xs H Q ∨ rBestD K bestLt xs H Q
def rMaxA (K : PySem.W.Frag) : List V → Hp → VK → Prop := fun xs H Q => rMax K xs H Q ∨ rBestD K bestGt xs H Q
theorem cr_minA (hc : X.calm = true) (hu : X.A.units + 64 < cLine) : CallR X (.builtin "min") (rMinA X.K) := or_call (cr_min hc) (cr_minD hc hu)
theorem cr_maxA (hc : X.calm = true) (hu : X.A.units + 64 < cLine) : CallR X (.builtin "max") (rMaxA X.K) := or_call (cr_max hc) (cr_maxD hc hu)
theorem ok_min1 : OkC K o_min1 (rMinA K) := by
  intro ds d xs S H Q e reps sub post
  unfold o_min1 at e
  split at e
  · split at e
    · rename_i o ys i is q
      cases e
      obtain ⟨x, rfl, ra⟩ := all2_inv1 reps
      obtain ⟨p, vs, r, rfl, q1, z, t⟩ := ra.lst sub
      rw [t.ints q] at q1
      refine .inl ⟨p, i :: is, rfl, q1, by simp, fun m hm hle => ?_⟩
      obtain ⟨h1, h2⟩ := minI_ok is i
      have : m = minI is i := Int.le_antisymm (hle _ h1) (h2 m hm)
      rw [this]
      exact post.int sub
    · split at e
      · split at e
        · rename_i hm
          cases e
          obtain ⟨x, rfl, ra⟩ := all2_inv1 reps
          exact .inr (ok_best bestLt_at hm ra sub post)
        · cases e
      · cases e
  · cases e
theorem ok_max1 : OkC K o_max1 (rMaxA K) := by
  intro ds d xs S H Q e reps sub post
  unfold o_max1 at e
  split at e
  · split at e
    · rename_i o ys i is q
      cases e
      obtain ⟨x, rfl, ra⟩ := all2_inv1 reps
      obtain ⟨p, vs, r, rfl, q1, z, t⟩ := ra.lst sub
      rw [t.ints q] at q1
      refine .inl ⟨p, i :: is, rfl, q1, by simp, fun m hm hle => ?_⟩
      obtain ⟨h1, h2⟩ := maxI_ok is i
      have : m = maxI is i := Int.le_antisymm (h2 m hm) (hle _ h1)
      rw [this]
      exact post.int sub
    · split at e
      · split at e
        · rename_i hm
          cases e
          obtain ⟨x, rfl, ra⟩ := all2_inv1 reps
          exact .inr (ok_best bestGt_at hm ra sub post)
        · cases e
      · cases e
  · cases e
/-! ### the text of an int -/
def rStrI : List V → Hp → VK → Prop := fun xs H Q => ∃ i, xs = [.int i] ∧ i.natAbs.log2 < 1920 ∧ Q (.str (Str.ofString (toString i))) H
theorem ok_str : OkC K o_str rStrI := by
  intro ds d xs S H Q e reps sub post
  unfold o_str at e
  split at e
  · rename_i i
    split at e
    · rename_i h
      cases e
      simp only [Bool.and_eq_true, decide_eq_true_eq] at h
      obtain ⟨x, rfl, ra⟩ := all2_inv1 reps
      refine ⟨i, by rw [ra.int], by omega, ?_⟩
      exact post.str (i := digs i) sub (by rw [← lim_eq]; exact h.2)
    · cases e
  · cases e
end
end MP

set_option autoImplicit false
set_option linter.all false
set_option maxRecDepth 100000
/-! MP: list(reversed(a list)). -/
namespace MPR
open PySem PySem.Spec PyProof.Rows L2 RT
section
variable {prog : Program} {w : World} {A : Around} {s : Shared}
theorem wpAny_extend_revL {R : Result → Shared → Prop} {it l : Addr} {items : Array Value} (hh : A.handled = none) (hit : s.heap.IsRevIter it l ((items.size : Int) - 1)) (hl : s.heap.IsList l items) (hne : l ≠ it) (hn : items.size ≤ sizeLine) (S : Addr) (res : Value) (c₀ : Nat) (hSf : S ∉ [it, l])
    (hS : s.heap.get? S = some { cls := .type "list", data := .seq #[] c₀ })
    (hR : ∀ s' acc' c', Moved (S :: [it]) (fun a b => b = a) s s' → s'.heap.get? S = some { cls := .type "list", dict := none, data := .seq acc' c', slots := #[] } → ItemsOf (fun i v => items[items.size - 1 - i]? = some v) acc' items.size → R (.ok (.ret res)) s') :
    wpAny (model prog w) A.in1 (Builtin.List.listExtendWith (.ref S) (.ref it) res)
      (fun fin s' => match fin with | .done f => R (.ok f) s' | .again c' => c'.quiet = true ∧ codeAny (model prog w) A c' R s') (fun e s' => R (.error e) s') s := by
  have W := (Walks.listRev (prog := prog) (w := w) (A := A.in1) hh it l hne items).toS
  have hT : s.TypeIs (.ref it) "list_reverseiterator" := hit.typeIs
  have hSI : S ≠ it := fun e => hSf (by rw [e]; simp)
  have h1 : Builtin.List.listSameRef (.ref S) (.ref it) = false := by simp [Builtin.List.listSameRef, hSI]
  unfold Builtin.List.listExtendWith
  refine wpAny_bind (wpAny_typeOf hT ?_)
  rw [if_neg (by rw [h1]; decide)]
  refine wpAny_bind (wpAny_pyIter_revIter hit ?_)
  refine wpAny_bind (wpAny_holding ?_)
  unfold Builtin.List.listLengthHint
  refine wpAny_bind (wpAny_specialOf hT nolen_lri ?_)
  show wpAny _ A.in1 (specialOf (Value.ref it) (Str.ofString "__length_hint__") >>= _) _ _ _
  refine wpAny_bind (wpAny_specialOf hT hint_lri ?_)
  generalize hid : ("list_reverseiterator.__length_hint__" : String) = id0
  wp_delta
  rw [show splitId id0 = some ("list_reverseiterator", "__length_hint__") from by subst hid; decide +kernel]
  subst hid
  refine wpAny_bind (wpAny_isInstance (b := true) hT (by rw [isSubtype_type]; kernel_rfl) ?_)
  refine wpAny_pure ?_
  have e0 : ((items.size : Nat) : Int) - 1 - ((0 : Nat) : Int) = (items.size : Int) - 1 := by omega
  rw [if_neg (by decide)]
  refine wpAny_pure ⟨plainId_quiet F.plain_extend_loop _, codeAny_extend_loopS W hn _ hSf _ items.size 0 _ _ _ rfl (Nat.zero_le _) ⟨Nat.zero_le _, by rw [e0]; exact hit, hl⟩ hS (ItemsOf.nil _) fun s' acc' c' hm hS' hacc => ?_⟩
  exact hR s' acc' c' hm hS' hacc
theorem list_init_rev {R : Result → Shared → Prop} {it l : Addr} {items : Array Value} (hh : A.handled = none) (hit : s.heap.IsRevIter it l ((items.size : Int) - 1)) (hl : s.heap.IsList l items) (hne : l ≠ it) (hn : items.size ≤ sizeLine) (S : Addr) (hSf : S ∉ [it, l])
    (hS : s.heap.get? S = some { cls := .type "list", data := .seq #[] })
    (hR : ∀ s' acc' c', Moved (S :: [it]) (fun a b => b = a) s s' → s'.heap.get? S = some { cls := .type "list", dict := none, data := .seq acc' c', slots := #[] } → ItemsOf (fun i v => items[items.size - 1 - i]? = some v) acc' items.size → R (.ok (.ret .none)) s') :
    wpAny (model prog w) A.in1 (Builtin.«list.__init__» ⟨[.ref S, .ref it], []⟩)
      (fun fin s' => match fin with | .done f => R (.ok f) s' | .again c' => c'.quiet = true ∧ codeAny (model prog w) A c' R s') (fun e s' => R (.error e) s') s := by
  show wpAny _ A.in1 (do let old ← Builtin.List.listItems (.ref S); Builtin.List.listUpdate (.ref S) (fun _ => #[]); letGo old.toList.reverse; Builtin.List.listExtendWith (.ref S) (.ref it) .none) _ _ s
  refine wpAny_bind ?_
  unfold Builtin.List.listItems
  refine wpAny_bind (wpAny_seqItems hS rfl (wpAny_pure ?_))
  show wpAny _ A.in1 (updateSeq S (fun _ => #[]) >>= fun _ => letGo (#[] : Array Value).toList.reverse >>= fun _ => Builtin.List.listExtendWith (.ref S) (.ref it) .none) _ _ s
  refine wpAny_bind (wpAny_updateSeq hS rfl ?_)
  have hS₂ := Heap.get?_update_self (Obj.mapSeq (fun _ => (#[] : Array Value))) hS rfl
  have oth : ∀ b o, b ≠ S → s.heap.get? b = some o → (s.heap.update S (Obj.mapSeq (fun _ => (#[] : Array Value)))).get? b = some o :=
    fun b o hb e => (Heap.get?_update_other _ _ (Ne.symm hb)).trans e
  have n1 : it ≠ S := fun e => hSf (by rw [e]; simp)
  have n2 : l ≠ S := fun e => hSf (by rw [e]; simp)
  refine wpAny_bind (wpAny_letGo ?_)
  refine wpAny_extend_revL hh (s := { s with heap := s.heap.update S (Obj.mapSeq (fun _ => (#[] : Array Value))) }) (hit.at fun o e => oth _ o n1 e) (hl.at fun o e => oth _ o n2 e) hne hn S .none _ hSf hS₂ fun s' acc' c' hm hS' hacc => ?_
  refine hR s' acc' c' (Moved.trans (G := fun a b => b = a) (fun _ _ _ h1 h2 => h2.trans h1) ((Moved.refl (wr := [S, it]) (G := fun a b => b = a) (fun _ => rfl)).then_heap (Nat.le_refl _) fun b o hb e => oth b o (fun h => hb (by rw [h]; simp)) e) hm) hS' hacc
end
section
variable {prog : Program} {w : World} {A : Around} {E : Value → Shared → Prop} {s : Shared}
theorem call_list_revL {Q : Value → Shared → Prop} {it l : Addr} {items : Array Value} (hh : A.handled = none) (hit : s.heap.IsRevIter it l ((items.size : Int) - 1)) (hl : s.heap.IsList l items) (hne : l ≠ it) (hn : items.size ≤ sizeLine)
    (hQ : ∀ (h' : Heap) (tk : Nat) (acc : Array Value) (c : Nat), (∀ b o, b ≠ it → s.heap.get? b = some o → h'.get? b = some o) → h'.get? s.heap.objs.size = some { cls := .type "list", dict := none, data := .seq acc c, slots := #[] } → ItemsOf (fun i v => items[items.size - 1 - i]? = some v) acc items.size →
      Q (.ref s.heap.objs.size) { s with heap := h', toks := tk }) :
    wpAny (model prog w) A (call (.type "list") [.ref it]) Q E s := by
  obtain ⟨oi, hoi, _⟩ := id hit
  obtain ⟨ol, hol, _⟩ := id hl
  have hSi : s.heap.objs.size ≠ it := Nat.ne_of_gt (Heap.lt_size hoi)
  have hSl : s.heap.objs.size ≠ l := Nat.ne_of_gt (Heap.lt_size hol)
  have hSf : s.heap.objs.size ∉ [it, l] := by simp only [List.mem_cons, List.not_mem_nil, or_false, not_or]; exact ⟨hSi, hSl⟩
  refine callType_codes (Q₁ := fun obj s₁ => obj = .ref s.heap.objs.size ∧ s₁ = { s with heap := s.heap.push { cls := .type "list", data := .seq #[] } }) F.called_list (F.typeCall_list_1 _) F.entry_list_init
    (code_list_new _ ⟨rfl, rfl⟩) fun obj s₁ h₁ => ?_
  obtain ⟨rfl, rfl⟩ := h₁
  have hS : (s.heap.push { cls := .type "list", data := .seq #[] }).get? s.heap.objs.size = some { cls := .type "list", data := .seq #[] } := Heap.get?_push_size _ rfl
  refine ⟨⟨_, hS, rfl⟩, F.args_list_init_2 _ _, list_init_rev (A := A.in1) hh (s := { s with heap := s.heap.push { cls := .type "list", data := .seq #[] } }) (hit.at fun o e => Heap.get?_push_of_some _ e) (hl.push _) hne hn _ hSf hS fun s' acc' c' hm hS' hacc => ?_⟩
  refine ⟨rfl, ?_⟩
  rw [Moved.eq_with hm]
  refine hQ s'.heap s'.toks acc' c' (fun b o hb e => hm.heap b o (fun hmem => ?_) (Heap.get?_push_of_some _ e)) hS' hacc
  rcases List.mem_cons.mp hmem with e' | hmem
  · exact absurd (Heap.lt_size e) (by rw [e']; exact Nat.lt_irrefl _)
  · exact hb (List.mem_singleton.mp hmem)
end
/-- list(reversed(x)), x a list: a new list -/
def rRevL (K : PySem.W.Frag) : List V → Hp → VK → Prop := fun vs H Q => ∃ (a : Addr) (xs : List V), vs = [.ref a] ∧ SqL K H a xs ∧ ∀ q, H q = none → Q (.ref q) (upd H q (.lst xs.reverse))
section
variable {X : Cx}
theorem pe_listRev {e : Expr} {te : TE} {p p2 pos pos2 : Pos} (hc : X.calm = true) (hg : Gl X "list") (hm : X.mg "list" = none) (hg2 : Gl X "reversed") (hm2 : X.mg "reversed" = none) (he : PE X e te)
    (hs : starEach [e] X.env = (false, eval e X.env) :: starEach [] X.env := by rfl)
    (hs2 : starEach [.Call (.Name "reversed" p2) [e] [] pos2] X.env = (false, eval (.Call (.Name "reversed" p2) [e] [] pos2) X.env) :: starEach [] X.env := by rfl) :
    PE X (.Call (.Name "list" p) [.Call (.Name "reversed" p2) [e] [] pos2] [] pos) (tCB (rRevL X.K) (MP.tL [te])) := by
  refine ⟨fun pins s σ H Q I h => ?_⟩
  refine Call_ (ld_blt I hg hm boot_list (PyProof.Rows.callWith_type1 (args_cons (Call_ (ld_blt I hg2 hm2 PyProof.Rows.boot_reversed (PyProof.Rows.callWith_type1 (args_cons (thn (he.run pins s σ H _ I h) fun u s1 ⟨v, H1, I1, r1, q1⟩ => args_nil ?_) hs) hs rfl))) hs2) hs2 rfl))
  obtain ⟨a, xs, ev, hq, q⟩ : rRevL X.K [v] H1 Q := q1
  simp only [List.cons.injEq, and_true] at ev
  subst ev
  obtain rfl : u = Value.ref a := r1
  obtain ⟨its, rv, p', hz⟩ := I1.list hq
  refine call_reversed_list p'.isList (args_nil ?_)
  have k0 : ∀ b o, s1.heap.get? b = some o → (s1.heap.push (revObj a ((its.toArray.size : Int) - 1))).get? b = some o := fun b o e => Heap.get?_push_of_some _ e
  have I2 : Inv X pins σ H1 { s1 with heap := s1.heap.push (revObj a ((its.toArray.size : Int) - 1)) } := I1.kept (t' := s1.toks) k0
  obtain ⟨f0, f1, f2, f3, f4, f5⟩ := I1.fpOk (H' := H1) (b := s1.heap.objs.size) (Nat.le_refl _) (I1.hok.fresh (Nat.le_refl _))
  have hl := p'.isList
  obtain ⟨ol, hol, _⟩ := id hl
  have hne : a ≠ s1.heap.objs.size := Nat.ne_of_lt (Heap.lt_size hol)
  have hn : its.toArray.size ≤ sizeLine := by rw [List.size_toArray, ← rv.length]; exact hz
  refine call_list_revL (s := { s1 with heap := s1.heap.push (revObj a ((its.toArray.size : Int) - 1)) }) (I1.ok.hd hc) ⟨_, Heap.get?_push_size _ rfl, rfl, rfl⟩ (hl.push _) hne hn fun h' tk acc c hk hS hi => ?_
  have hsz : s1.heap.objs.size ≤ s1.heap.objs.size + 1 := Nat.le_succ _
  have ez : (s1.heap.push (revObj a ((its.toArray.size : Int) - 1))).objs.size = s1.heap.objs.size + 1 := Heap.size_push ..
  have hS : h'.get? (s1.heap.objs.size + 1) = some { cls := .type "list", dict := none, data := .seq acc c, slots := #[] } := by rw [← ez]; exact hS
  show EP X pins σ Q (.ref (s1.heap.push (revObj a ((its.toArray.size : Int) - 1))).objs.size) _
  rw [ez]
  refine ⟨.ref (s1.heap.objs.size + 1), upd H1 (s1.heap.objs.size + 1) (.lst xs.reverse), I1.laid (t' := tk) (fun b o e => hk b o (Nat.ne_of_lt (Heap.lt_size e)) (Heap.get?_push_of_some _ e)) hsz (show ObjOk X.prog X.w _ h' _ (.lst xs.reverse) from ⟨by rw [List.length_reverse]; exact hz, acc.toList, c, vals_rev rv hi, by simpa using hS⟩), rfl, q _ (I1.hok.fresh hsz)⟩
end
end MPR

set_option autoImplicit false
set_option linter.all false
set_option maxRecDepth 100000
/-! MP: list(text), x[::-1], `is False`. -/
namespace MP
open PySem L2

/-! ### list(..) -/
def signsV (z : List Nat) : List V := z.map fun c => V.str ⟨#[c]⟩
def rListOf (K : PySem.W.Frag) : List V → Hp → VK → Prop := fun xs H Q => (∃ p ys, xs = [.ref p] ∧ (SqL K H p ys ∨ SqT K H p ys) ∧ ∀ l, H l = none → Q (.ref l) (upd H l (.lst ys))) ∨
  ∃ z : Str, xs = [.str z] ∧ z.length ≤ sizeLine ∧ ∀ l, H l = none → Q (.ref l) (upd H l (.lst (signsV z.cps.toList)))
theorem call_listA {X : Cx} (hc : X.calm = true) : CallR X (.type "list") (rListOf X.K) := by
  refine CallR.or call_list_of ?_
  intro pins s σ H xs us Q I r h
  obtain ⟨z, rfl, hz, q⟩ := h
  obtain ⟨u, rfl, rx⟩ := vals1 r
  obtain ⟨t, rfl⟩ := rx
  refine PySem.call_list_str (hn := hz) (I.ok.hd hc) z t fun h' tk acc c keep at_ its => ?_
  have e : acc.toList.length = z.cps.size := by rw [Array.length_toList]; exact its.1
  have vals : Vals (signsV z.cps.toList) acc.toList := by
    have k : signsV z.cps.toList = (List.range acc.toList.length).map fun i => V.str ⟨#[z.cps.getD i 0]⟩ := by
      unfold signsV
      apply List.ext_getElem
      · simp [e]
      · intro i h1 h2
        simp only [List.length_map, Array.length_toList] at h1
        simp [Array.getD, h1]
    rw [k]
    refine vals_of_get acc.toList _ fun j u hj => ?_
    obtain ⟨c, u', hc', rfl⟩ := its.2 j u (by rw [← hj, Array.getElem?_toList])
    refine ⟨u', ?_⟩
    have : z.cps.getD j 0 = c := by
      obtain ⟨hlt, hh⟩ := Array.getElem?_eq_some_iff.mp hc'
      simp [Array.getD, hlt, hh]
    rw [this]
  refine ⟨.ref s.heap.objs.size, _, I.laid (t' := tk) keep (Nat.le_refl _) (show ObjOk X.prog X.w _ h' _ (.lst (signsV z.cps.toList)) from ⟨?_, acc.toList, c, vals, by simpa using at_⟩), rfl, q _ (I.hok.fresh (Nat.le_refl _))⟩
  unfold signsV
  rw [List.length_map, Array.length_toList]
  exact hz
theorem reps_signs {K : PySem.W.Frag} {S H : Hp} : ∀ z : List Nat, RepVs K S H (z.map fun c => D.str [c]) (signsV z) none_
  | [] => by show RepVs K S H [] [] none_; rw [RepVs]; trivial
  | c :: z => by
    show RepVs K S H (D.str [c] :: z.map fun c => D.str [c]) (V.str ⟨#[c]⟩ :: signsV z) none_
    rw [RepVs]
    exact ⟨none_, none_, fun _ x => x, fun _ x => x, fun _ x _ => x, by rw [RepV]; exact ⟨rfl, by unfold sizeLine; simp⟩, reps_signs z⟩
theorem unfl_signs : ∀ z : List Nat, unfl (z.map fun c => D.str [c]) = true
  | [] => rfl
  | c :: z => by rw [List.map_cons]; exact unfl_cons.mpr ⟨rfl, unfl_signs z⟩
theorem ok_list {K : PySem.W.Frag} : OkC K i_list (rListOf K) := by
  intro ds d xs S H Q e reps sub post
  unfold i_list at e
  split at e
  · split at e
    · rename_i hm
      cases e
      obtain ⟨x, rfl, ra⟩ := all2_inv1 reps
      obtain ⟨p, vs, r, rfl, q1, z, t⟩ := ra.lst sub
      exact .inl ⟨p, vs, rfl, .inl q1, fun l nl => post.list sub hm t z nl⟩
    · cases e
  · split at e
    · rename_i hm
      cases e
      obtain ⟨x, rfl, ra⟩ := all2_inv1 reps
      obtain ⟨p, vs, r, rfl, q1, z, t⟩ := ra.tup sub
      exact .inl ⟨p, vs, rfl, .inr q1, fun l nl => post.list sub hm t z nl⟩
    · cases e
  · rename_i s
    cases e
    obtain ⟨x, rfl, ra⟩ := all2_inv1 reps
    have hz := ra.strz
    rw [ra.str]
    refine .inr ⟨_, rfl, by show s.toArray.size ≤ _; rw [List.size_toArray]; exact hz, fun l nl => ?_⟩
    have k : (⟨s.toArray⟩ : Str).cps.toList = s := by simp
    rw [k]
    exact post.list sub (unfl_signs s) (reps_signs s) (by unfold signsV; rw [List.length_map]; exact hz) nl
  · cases e

/-! ### x[::-1] -/
def rRevA (K : PySem.W.Frag) : V → Hp → VK → Prop := fun x H Q => (∃ a xs, x = .ref a ∧ SqL K H a xs ∧ ∀ p, H p = none → Q (.ref p) (upd H p (.lst xs.reverse))) ∨
  ∃ z : Str, x = .str z ∧ z.length ≤ sizeLine ∧ Q (.str ⟨z.cps.toList.reverse.toArray⟩) H
theorem rev_txt (x : Str) (u : Tok) : Txt.sliceBy x none none (-1, u) = ⟨x.cps.toList.reverse.toArray⟩ := by
  have e := PyProof.Rows.step_rev_list x u
  have k : (List.range x.length).map (fun k => x.cps.getD (x.length - 1 - k) 0) = x.cps.toList.reverse := by
    apply List.ext_getElem
    · simp [Str.length]
    · intro i h1 h2
      have h3 : i < x.cps.size := by simpa using h2
      rw [List.getElem_map, List.getElem_reverse, List.getElem_range]
      have h4 : x.length - 1 - i < x.cps.size := by show x.cps.size - 1 - i < _; omega
      simp [Array.getD, Str.length, show x.cps.size - 1 - i < x.cps.size by omega]
  rw [k] at e
  generalize Txt.sliceBy x none none (-1, u) = y at e ⊢
  cases y with
  | mk c =>
    congr 1
    rw [← e]
theorem pe_revA {X : Cx} {e : Expr} {te : TE} {k : Nat} {p1 p2 p3 pos : Pos} (he : PE X e te) : PE X (.Subscript e (.Slice none none (some (.UnaryOp .USub (.Constant (.int 1) k p1) p2)) p3) pos) (tUn (rRevA X.K) te) := by
  refine ⟨fun pins s σ H Q I h => ?_⟩
  refine PyProof.Rows.Subscript_ (thn (he.run pins s σ H _ I h) fun v s1 ⟨x, H1, I1, r1, q1⟩ => ?_)
  have hst : PO X (some (.UnaryOp .USub (.Constant (.int 1) k p1) p2)) (tPart (tUn (rU fun i => .int (-i)) (tC (.int 1)))) := po_some (pe_un un_neg pe_int)
  refine wpAny_Slice (thn (po_none.run pins s1 σ H1 (fun o H2 => o = none ∧ H2 = H1) I1 ⟨rfl, rfl⟩) fun vl s2 ⟨l, H2, I2, pl, el, e2⟩ => ?_)
  subst el e2
  refine thn (po_none.run pins s2 σ H2 (fun o H3 => o = none ∧ H3 = H2) I2 ⟨rfl, rfl⟩) fun vu s3 ⟨u, H3, I3, pu, eu, e3⟩ => ?_
  subst eu e3
  refine thn (hst.run pins s3 σ H3 (fun o H4 => o = some (-1) ∧ H4 = H3) I3 ⟨1, rfl, -1, rfl, rfl, rfl⟩) fun vs s4 ⟨o, H4, I4, ps, eo, e4⟩ => ?_
  subst eo e4
  have I5 : Inv X pins σ H4 { s4 with heap := s4.heap.push { cls := .type "slice", data := .fields #[vl, vu, vs] } } := I4.kept (t' := s4.toks) fun b ob q => Heap.get?_push_of_some _ q
  rcases q1 with ⟨a, xs, ex, hx, q⟩ | ⟨z, ex, hz, q⟩
  · subst ex
    cases r1
    obtain ⟨its, r, ht, hz⟩ := I5.list hx
    have hlen := r.length
    show wpAny (model X.prog X.w) X.A (PyProof.Rows.subscriptTail e (.Slice none none (some (.UnaryOp .USub (.Constant (.int 1) k p1) p2)) p3) (.ref a) (.ref s4.heap.objs.size)) (EP X pins σ Q) X.xe _
    refine PyProof.Rows.tail_any (ops := [.ref a, .ref s4.heap.objs.size]) ht.isList.typeIs (PySem.slot_list_getitem.lookup) ?_ (by with_unfolding_all rfl)
    refine wpAny_getItem_list_slice ht.isList (Heap.IsSliceOf.new _ vl vu vs) pl pu ps (by decide) ?_ (by rw [List.size_toArray]; omega)
    rw [PySem.W.krv_pick]
    refine ⟨.ref _, _, I5.laid (t' := s4.toks) (o := .lst xs.reverse) (fun b ob q => Heap.get?_push_of_some _ q) (Nat.le_refl _) ?_, rfl, q _ (I5.hok.fresh (Nat.le_refl _))⟩
    exact ⟨by rw [List.length_reverse]; exact hz, _, 0, r.reverse, Heap.get?_push_size _ rfl⟩
  · subst ex
    obtain ⟨t, rfl⟩ := r1
    obtain ⟨l', rfl, e1⟩ := IsPart.raw pl
    obtain ⟨u', rfl, e2⟩ := IsPart.raw pu
    obtain ⟨w', rfl, e3⟩ := IsPart.raw ps
    cases l' with
    | some _ => cases e1
    | none =>
      cases u' with
      | some _ => cases e2
      | none =>
        cases w' with
        | none => cases e3
        | some p =>
          obtain ⟨j, tk⟩ := p
          have ej : (-1 : Int) = j := by cases e3; rfl
          subst ej
          show wpAny (model X.prog X.w) X.A (PyProof.Rows.subscriptTail e (.Slice none none (some (.UnaryOp .USub (.Constant (.int 1) k p1) p2)) p3) (.str z t) (.ref s4.heap.objs.size)) (EP X pins σ Q) X.xe _
          refine PyProof.Rows.tail_any (ops := [.str z t, .ref s4.heap.objs.size]) (typeIs_str _ _ _) (F.slot_str_getitem.lookup) ?_ (by with_unfolding_all rfl)
          refine wpAny_getItem_str_slice (l := none) (u := none) (st := some (-1, tk)) ⟨_, Heap.get?_push_size _ rfl, rfl, rfl⟩ rfl ?_
          refine PySem.post_val_or_str ⟨Nat.le_trans (Txt.sliceBy_le z none none (-1, tk) (show (-1 : Int) ≠ 0 by decide)) hz, fun t' c => ?_⟩
          refine ⟨.str ⟨z.cps.toList.reverse.toArray⟩, H4, I5.tok _, ⟨t', ?_⟩, q⟩
          rw [← rev_txt z tk]
          rfl
theorem RepVs.rev {K : PySem.W.Frag} {S H : Hp} : ∀ {xs : List D} {vs : List V} {r : Own}, RepVs K S H xs vs r → unfl xs = true → RepVs K S H xs.reverse vs.reverse none_
  | [], [], _, _, _ => by rw [List.reverse_nil, List.reverse_nil, RepVs]; trivial
  | [], _ :: _, _, h, _ => by rw [RepVs] at h; exact h.elim
  | _ :: _, [], _, h, _ => by rw [RepVs] at h; exact h.elim
  | x :: xs, v :: vs, r, h, u => by
    rw [RepVs] at h
    obtain ⟨r1, r2, _, _, _, h1, h2⟩ := h
    obtain ⟨u1, u2⟩ := unfl_cons.mp u
    rw [List.reverse_cons, List.reverse_cons]
    refine RepVs.append (RepVs.rev h2 u2) (r2 := none_) ?_ ?_ (unfl_cons.mpr ⟨u1, rfl⟩)
    · rw [RepVs]
      exact ⟨none_, none_, fun _ x => x, fun _ x => x, fun _ x _ => x, RepV.shared _ _ _ h1 u1, by rw [RepVs]; trivial⟩
    · unfold unfl at u2 ⊢
      rw [List.all_reverse]
      exact u2
theorem ok_rev {K : PySem.W.Frag} : Ok1 K o_rev (rRevA K) := by
  intro ds d x S H Q e reps sub post
  unfold o_rev at e
  split at e
  · split at e
    · rename_i hm
      cases e
      obtain ⟨x, ex, ra⟩ := all2_inv1 reps
      cases ex
      obtain ⟨p, vs, r, rfl, q1, z, t⟩ := ra.lst sub
      refine .inl ⟨p, vs, rfl, q1, fun l nl => post.list sub ?_ (RepVs.rev t hm) (by rw [List.length_reverse]; exact z) nl⟩
      unfold unfl at hm ⊢
      rw [List.all_reverse]
      exact hm
    · cases e
  · rename_i s
    cases e
    obtain ⟨x, ex, ra⟩ := all2_inv1 reps
    cases ex
    have hz := ra.strz
    rw [ra.str]
    refine .inr ⟨_, rfl, by show s.toArray.size ≤ _; rw [List.size_toArray]; exact hz, ?_⟩
    have k : (⟨s.toArray⟩ : Str).cps.toList = s := by simp
    rw [k]
    exact post.str sub (by rw [List.length_reverse]; exact hz)
  · cases e
/-! ### is False -/
def rIsF : V → Hp → VK → Prop := fun x H Q => rIsB x (.bl false) H Q
def rNotF : V → Hp → VK → Prop := fun x H Q => rNotB x (.bl false) H Q
theorem ok_isF {K : PySem.W.Frag} : Ok1 K o_isF rIsF := by
  intro ds d x S H Q e reps sub post
  unfold o_isF at e
  split at e
  · rename_i b
    cases e
    obtain ⟨x, ex, ra⟩ := all2_inv1 reps
    cases ex
    rw [ra.bl]
    refine ⟨b, false, rfl, rfl, ?_⟩
    have p := post.bl sub
    cases b <;> exact p
  · cases e
theorem ok_notF {K : PySem.W.Frag} : Ok1 K o_notF rNotF := by
  intro ds d x S H Q e reps sub post
  unfold o_notF at e
  split at e
  · rename_i b
    cases e
    obtain ⟨x, ex, ra⟩ := all2_inv1 reps
    cases ex
    rw [ra.bl]
    refine ⟨b, false, rfl, rfl, ?_⟩
    have p := post.bl sub
    cases b <;> exact p
  · cases e
end MP

set_option autoImplicit false
set_option linter.all false
set_option maxRecDepth 100000
/-! MP: sets of nested tuples (the kit's TupSets has those of ints; its table lemmas serve here). -/
namespace MP
open PySem PySem.Spec PyProof.Rows L2

def IsN (h : Heap) (k : NestedKey) (b : Addr) : Prop := NestedIs h k (.ref b) ∧ k.depth ≤ 8
section
variable {P : Program} {w : World} {A : Around} {E : Value → Shared → Prop} {s : Shared}
theorem IsN.grow {h h' : Heap} {k : NestedKey} {b : Addr} (x : IsN h k b) (g : ∀ c o, h.get? c = some o → h'.get? c = some o) : IsN h' k b :=
  ⟨NestedIs.at (fun c o _ _ e _ => g c o e) k _ x.1, x.2⟩
theorem IsN.beside {h h' : Heap} {k : NestedKey} {a b : Addr} {o : Obj} {es : Array (Int × Value)} {ep : Nat} {t : SetTable} (x : IsN h k b) (ho : h.get? a = some o) (hd : o.data = .set es ep t) (sb : Heap.SameBut a h h') : IsN h' k b :=
  ⟨NestedIs.at (fun c o' _ _ e1 e2 => (sb.2 c fun z => by rw [z, ho] at e1; cases e1; rw [hd] at e2; cases e2).trans e1) k _ x.1, x.2⟩
theorem IsN.inj {h : Heap} {k k' : NestedKey} {b : Addr} (x : IsN h k b) (y : IsN h k' b) : k = k' := NestedIs.inj _ _ _ x.1 y.1

/-! ### small questions -/
mutual
theorem cls_key : ∀ (k : NestedKey) (v : Value) (n : Nat) (s : Shared) (A : Around) (E : Value → Shared → Prop) (Q : Bool → Shared → Prop), NestedIs s.heap k v → k.depth ≤ n → Q false s → wpAny (model P w) A (ofAClassStatement n v) Q E s
  | .none, v, n, s, A, E, Q, x, _, q => by
    cases x
    cases n <;> exact wpAny_pure q
  | .num i, v, n, s, A, E, Q, x, _, q => by
    cases x <;> cases n <;> exact wpAny_pure q
  | .text z, v, n, s, A, E, Q, x, _, q => by
    cases x
    cases n <;> exact wpAny_pure q
  | .tup ks, v, n, s, A, E, Q, x, hn, q => by
    cases x with
    | @tup a o vs m _ hg hc hd hk =>
      rw [NestedKey.depth] at hn
      cases n with
      | zero => omega
      | succ n =>
        have ty : s.TypeIs (.ref a) "tuple" := ⟨o, hg, hc⟩
        unfold ofAClassStatement
        refine wpAny_bind (wpAny_typeOf ty ?_)
        dsimp only
        have tt : (("tuple" : String) == "tuple") = true := by decide
        simp only [tt, if_true, Bool.not_true, Bool.false_eq_true, if_false]
        try refine wpAny_bind (wpAny_pure ?_)
        try simp only [Bool.not_true, Bool.false_eq_true, if_false]
        show wpAny _ _ (seqItems? (.ref a) >>= _) _ _ s
        refine wpAny_bind (wpAny_seqItems hg hd ?_)
        dsimp only
        refine wpAny_bind ?_
        show wpAny _ _ (forIn vs _ _) _ _ s
        rw [← Array.forIn_toList]
        refine wpAny_forIn_list _ (fun rest r s' => r.1 = none ∧ s' = s ∧ ∀ u ∈ rest, ∀ (Q : Bool → Shared → Prop), Q false s → wpAny (model P w) A (ofAClassStatement n u) Q E s) _ ?_ ?_ _ _ ⟨rfl, rfl, fun u hu Q q => cls_keys ks vs.toList n s A E Q hk (by omega) q u hu⟩
        · rintro u rest r s' ⟨hr, rfl, all⟩
          refine wpAny_bind (all u List.mem_cons_self _ ?_)
          simp only [Bool.false_eq_true, if_false]
          exact wpAny_pure ⟨rfl, rfl, fun u' h' => all u' (List.mem_cons_of_mem _ h')⟩
        · rintro ⟨r1, r2⟩ s' ⟨hr, rfl, _⟩
          have hr : r1 = none := hr
          subst hr
          exact wpAny_pure q
theorem cls_keys : ∀ (ks : List NestedKey) (vs : List Value) (n : Nat) (s : Shared) (A : Around) (E : Value → Shared → Prop) (Q : Bool → Shared → Prop), NestedAll s.heap ks vs → NestedKey.depthAll ks ≤ n → Q false s → ∀ v ∈ vs, wpAny (model P w) A (ofAClassStatement n v) Q E s
  | [], _, n, s, A, E, Q, x, _, q, v, hv => by cases x; cases hv
  | k :: ks, _, n, s, A, E, Q, x, hn, q, v, hv => by
    cases x with
    | cons x1 x2 =>
      rw [NestedKey.depthAll] at hn
      rcases List.mem_cons.mp hv with e | hv
      · rw [e]; exact cls_key k _ n s A E Q x1 (by omega) q
      · exact cls_keys ks _ n s A E Q x2 (by omega) q v hv
end
mutual
theorem byv_key : ∀ (k : NestedKey) (v : Value) (n : Nat) (s : Shared) (A : Around) (E : Value → Shared → Prop) (Q : Bool → Shared → Prop), NestedIs s.heap k v → (∀ b, Q b s) → wpAny (model P w) A (hashByValue n v) Q E s
  | .none, v, n, s, A, E, Q, x, q => by
    cases x
    cases n <;> exact wpAny_pure (q _)
  | .num i, v, n, s, A, E, Q, x, q => by
    cases x <;> cases n <;> exact wpAny_pure (q _)
  | .text z, v, n, s, A, E, Q, x, q => by
    cases x
    cases n <;> exact wpAny_pure (q _)
  | .tup ks, v, n, s, A, E, Q, x, q => by
    cases x with
    | @tup a o vs m _ hg hc hd hk =>
      cases n with
      | zero => exact wpAny_pure (q _)
      | succ n =>
        have ty : s.TypeIs (.ref a) "tuple" := ⟨o, hg, hc⟩
        unfold hashByValue
        refine wpAny_bind (wpAny_specialOf ty F.slot_tuple_hash.lookup ?_)
        show wpAny _ _ (seqItems? (.ref a) >>= _) _ _ s
        refine wpAny_bind (wpAny_seqItems hg hd ?_)
        refine wpAny_bind ?_
        show wpAny _ _ (forIn vs _ _) _ _ s
        rw [← Array.forIn_toList]
        refine wpAny_forIn_list _ (fun rest r s' => r.1 = none ∧ s' = s ∧ ∀ u ∈ rest, ∀ (Q : Bool → Shared → Prop), (∀ b, Q b s) → wpAny (model P w) A (hashByValue n u) Q E s) _ ?_ ?_ _ _ ⟨rfl, rfl, fun u hu Q q => byv_keys ks vs.toList n s A E Q hk q u hu⟩
        · rintro u rest r s' ⟨hr, rfl, all⟩
          refine wpAny_bind (all u List.mem_cons_self _ fun b => ?_)
          cases b with
          | true =>
            simp only [Bool.not_true, Bool.false_eq_true, if_false]
            exact wpAny_pure ⟨rfl, rfl, fun u' h' => all u' (List.mem_cons_of_mem _ h')⟩
          | false =>
            simp only [Bool.not_false, if_true]
            exact wpAny_pure (wpAny_pure (q false))
        · rintro ⟨r1, r2⟩ s' ⟨hr, rfl, _⟩
          have hr : r1 = none := hr
          subst hr
          exact wpAny_pure (q true)
theorem byv_keys : ∀ (ks : List NestedKey) (vs : List Value) (n : Nat) (s : Shared) (A : Around) (E : Value → Shared → Prop) (Q : Bool → Shared → Prop), NestedAll s.heap ks vs → (∀ b, Q b s) → ∀ v ∈ vs, wpAny (model P w) A (hashByValue n v) Q E s
  | [], _, n, s, A, E, Q, x, q, v, hv => by cases x; cases hv
  | k :: ks, _, n, s, A, E, Q, x, q, v, hv => by
    cases x with
    | cons x1 x2 =>
      rcases List.mem_cons.mp hv with e | hv
      · rw [e]; exact byv_key k _ n s A E Q x1 q
      · exact byv_keys ks _ n s A E Q x2 q v hv
end
/-- the search tells nothing of its way -/
theorem unseen {k : NestedKey} {b : Addr} {Q : Bool → Shared → Prop} (hb : IsN s.heap k b) {ys : List Value} (hy : ∀ y ∈ ys, ∃ k' c, y = Value.ref c ∧ IsN s.heap k' c) (q : Q false s) : wpAny (model P w) A (searchCouldBeSeen (.ref b) ys) Q E s := by
  unfold searchCouldBeSeen
  refine wpAny_bind (wpAny_forIn_list _ (fun rest r s' => r.1 = none ∧ s' = s ∧ ∀ y ∈ rest, ∃ k' c, y = Value.ref c ∧ IsN s.heap k' c) _ ?_ ?_ _ _ ⟨rfl, rfl, hy⟩)
  · rintro v rest r s' ⟨hr, rfl, all⟩
    obtain ⟨k', c, rfl, hc⟩ := all v List.mem_cons_self
    have more := fun u hu => all u (List.mem_cons_of_mem _ hu)
    dsimp only
    split
    · exact wpAny_pure ⟨rfl, rfl, more⟩
    · refine wpAny_bind (quiet_key k _ 8 s' hb.1 hb.2 _ _ _ ?_)
      simp only [Bool.not_true, Bool.false_eq_true, if_false]
      refine wpAny_bind (quiet_key k' _ 8 s' hc.1 hc.2 _ _ _ ?_)
      simp only [Bool.not_true, Bool.false_eq_true, if_false]
      refine wpAny_bind (cls_key k _ 8 s' _ _ _ hb.1 hb.2 ?_)
      simp only [Bool.false_eq_true, if_false]
      refine wpAny_bind (cls_key k' _ 8 s' _ _ _ hc.1 hc.2 ?_)
      simp only [Bool.false_eq_true, if_false]
      exact wpAny_pure ⟨rfl, rfl, more⟩
  · rintro ⟨r1, r2⟩ s' ⟨hr, rfl, _⟩
    have hr : r1 = none := hr
    subst hr
    exact wpAny_pure q

/-! ### the set -/
def rowN (w : World) (L : List (Addr × NestedKey)) : List (Int × Value) := L.map fun p => (p.2.hash w, Value.ref p.1)
structure SetN (w : World) (h : Heap) (a : Addr) (L : List (Addr × NestedKey)) (es : Array (Int × Value)) (ep : Nat) (t : SetTable) : Prop where
  obj : ∃ o, h.get? a = some o ∧ o.ExactSet ∧ o.data = .set es ep t
  ent : es.toList = rowN w L
  tab : TabOk t (L.map fun p => p.2.hash w)
  uniq : (L.map (·.2)).Nodup
  keys : ∀ p ∈ L, IsN h p.2 p.1
  led : w.params.followText "set-order" = true ∨ t.led = true
  room : L.length * 5 < t.mask * 3
  few : L.length < 64
theorem rowN_len (L : List (Addr × NestedKey)) {es : Array (Int × Value)} (e : es.toList = rowN w L) : es.size = L.length := by
  rw [← Array.length_toList, e, rowN, List.length_map]
theorem rowN_at {L : List (Addr × NestedKey)} {es : Array (Int × Value)} (e : es.toList = rowN w L) {i : Nat} {p : Addr × NestedKey} (h : L[i]? = some p) : es[i]? = some (p.2.hash w, Value.ref p.1) := by
  rw [← Array.getElem?_toList, e, rowN, List.getElem?_map, h]
  rfl
variable {a : Addr} {L : List (Addr × NestedKey)} {es : Array (Int × Value)} {ep : Nat} {t : SetTable}
theorem fits_of (hs : t.place.size = es.size) (hd : t.dummies = #[]) (hm : es.size ≤ t.mask) : t.fits es.size = true := by
  unfold SetTable.fits SetTable.fill
  rw [hd, Bool.and_eq_true, beq_iff_eq, decide_eq_true_eq]
  exact ⟨hs, by show t.place.size + 0 ≤ t.mask; omega⟩
theorem SetN.fit (S : SetN w s.heap a L es ep t) : t.fits es.size = true := by
  have h1 := S.tab.sz
  rw [List.length_map] at h1
  have h2 := rowN_len L S.ent
  have h3 := S.room
  exact fits_of (by omega) S.tab.dm (by omega)
theorem SetN.stays (S : SetN w s.heap a L es ep t) : ¬ t.gaveWay = true := by
  unfold SetTable.gaveWay
  rw [mask_odd S.tab.mok]
  decide
theorem nth_quiet (m : Nat) : ∀ (n : Nat) (p : SetTable.Probe), p.dummy = none → (nth m p n).dummy = none
  | 0, p, h => h
  | n + 1, p, h => nth_quiet m n (adv m p) (by unfold adv; split <;> exact h)
/-- the n-th step of a search for the hash x -/
abbrev stp (t : SetTable) (x : Int) (n : Nat) : SetTable.Probe := nth t.mask (runAt t.mask (SetTable.bits x % (t.mask + 1)) (SetTable.bits x)) n
theorem stp_add (t : SetTable) (x : Int) (c q : Nat) : nth t.mask (stp t x c) q = stp t x (c + q) := (nth_add t.mask c _ q).symm
theorem look_from (S : SetN w s.heap a L es ep t) {x : Addr} {k : NestedKey} (hx : IsN s.heap k x) (hu : A.units + 8 < cLine) {K : Nat} (fuel : K < 10 * SetTable.turns t.mask)
    (free : way t.mask (k.hash w) K ∉ t.place.toList) (taken : ∀ c, c < K → way t.mask (k.hash w) c ∈ t.place.toList) {Q : SetFound → Shared → Prop}
    (yes : k ∈ L.map (·.2) → Q (.there none) s) (no : k ∉ L.map (·.2) → Q (.free (way t.mask (k.hash w) K) false) s) :
    ∀ (f c : Nat) (stand : Option SetTable.Probe), stand.getD (t.probeStart (k.hash w)) = stp t (k.hash w) c → c ≤ K → K - c < f →
      (∀ (i : Nat) p, L[i]? = some p → p.2 = k → ∃ c', c ≤ c' ∧ c' < K ∧ t.place.toList[i]? = some (way t.mask (k.hash w) c')) →
      wpAny (model P w) A (setSearchFrom a (.ref x) (k.hash w) true f stand) Q E s
  | 0, c, stand, _, _, lt, _ => absurd lt (Nat.not_lt_zero _)
  | f + 1, c, stand, hst, hc, lt, ahead => by
    obtain ⟨o, ho, hex, hd⟩ := S.obj
    have fit := S.fit
    rw [setSearchFrom_succ]
    refine wpAny_bind (wpAny_setState_of ho hd fit ?_)
    dsimp only
    refine wp_if_neg S.stays ?_
    try refine wpAny_bind (wpAny_pure ?_)
    have wy : ∀ q, (nth t.mask (stp t (k.hash w) c) q).j = way t.mask (k.hash w) (c + q) := fun q => congrArg SetTable.Probe.j (stp_add t (k.hash w) c q)
    have told : ∀ (i : Nat) p, L[i]? = some p → (fun i => (es[i]?.map (·.1)).getD 0) i = p.2.hash w := fun i p hp => by
      show (es[i]?.map (·.1)).getD 0 = _
      rw [rowN_at S.ent hp]
      rfl
    rcases go_spec t S.tab.ris S.tab.dm (fun i => (es[i]?.map (·.1)).getD 0) (k.hash w) (10 * SetTable.turns t.mask) (K - c) (stp t (k.hash w) c) (nth_quiet _ c _ rfl) (by omega)
      (fun q hq => by rw [wy]; exact taken (c + q) (by omega)) (by rw [wy, show c + (K - c) = K by omega]; exact free) with ⟨q, i, hq, hi, hh, none_, pr⟩ | ⟨none_, pr⟩
    · have pr' : t.probe (fun i => (es[i]?.map (·.1)).getD 0) (k.hash w) (stand.getD (t.probeStart (k.hash w))) = some (.candidate (way t.mask (k.hash w) (c + q)) i (stp t (k.hash w) (c + (q + 1)))) := by
        rw [hst, ← wy, ← stp_add]
        exact pr
      rw [pr']
      dsimp only
      rw [wy] at hi
      have il : i < L.length := by
        have z1 : i < t.place.toList.length := (List.getElem?_eq_some_iff.mp hi).1
        have z2 := S.tab.sz
        rw [List.length_map] at z2
        rw [Array.length_toList] at z1
        omega
      obtain ⟨p, hp⟩ : ∃ p, L[i]? = some p := ⟨_, List.getElem?_eq_getElem il⟩
      have mp := List.mem_of_getElem? hp
      have kp := S.keys p mp
      have rest : wpAny (model P w) A (searchRest a (.ref x) (k.hash w) true f es t (way t.mask (k.hash w) (c + q)) i (stp t (k.hash w) (c + (q + 1)))) Q E s := by
        unfold searchRest
        rw [rowN_at S.ent hp]
        dsimp only
        refine wpAny_bind (wpAny_holding ((nestedKind P w).eqBool (x := p.2) (y := k) hu kp hx ?_))
        refine wpAny_bind (wpAny_setState_of ho hd fit ?_)
        dsimp only
        by_cases e : p.2 = k
        · refine wp_if_pos (by simp [e]) (wpAny_pure (yes (List.mem_map.mpr ⟨p, mp, e⟩)))
        · refine wp_if_neg (by simp [e]) ?_
          try refine wpAny_bind (wpAny_pure ?_)
          rw [sameMem]
          dsimp only
          have live := slot_live S.tab.ris hi
          simp only [if_true, live, rowN_at S.ent hp]
          refine wpAny_bind (wpAny_isSame_ref_self (wpAny_bind (wpAny_pure ?_)))
          simp only [if_true]
          refine wp_if_neg (by simp [e]) ?_
          refine look_from S hx hu fuel free taken yes no f (c + (q + 1)) _ rfl (by omega) (by omega) fun i0 p0 h0 k0 => ?_
          obtain ⟨c', g1, g2, g3⟩ := ahead i0 p0 h0 k0
          refine ⟨c', ?_, g2, g3⟩
          have n1 : ¬ c' < c + q := fun z => none_ (c' - c) i0 (by omega) (by rw [wy, show c + (c' - c) = c' by omega]; exact g3) ((told i0 p0 h0).trans (congrArg (NestedKey.hash w) k0))
          have n2 : c' ≠ c + q := fun z => by
            rw [z] at g3
            have l2 := slot_live S.tab.ris g3
            rw [live] at l2
            injection l2 with l2
            rw [← l2, hp] at h0
            cases h0
            exact e k0
          omega
      by_cases hl : t.led = true
      · refine wp_if_neg (by simp [hl]) ?_
        try refine wpAny_bind (wpAny_pure ?_)
        exact rest
      · refine wp_if_pos (by simp [hl]) ?_
        refine wpAny_bind (unseen hx (fun y hy => ?_) ?_)
        · obtain ⟨r, hr, er⟩ := List.mem_map.mp hy
          have r1 : r ∈ es := by
            have : r ∈ es ∧ r.1 = k.hash w := by simpa using hr
            exact this.1
          have r2 : r ∈ es.toList := by simpa using r1
          rw [S.ent] at r2
          obtain ⟨p2, m2, e2⟩ := List.mem_map.mp r2
          exact ⟨p2.2, p2.1, by rw [← er, ← e2], S.keys p2 m2⟩
        · refine wp_if_neg (by decide) ?_
          try refine wpAny_bind (wpAny_pure ?_)
          exact rest
    · have pr' : t.probe (fun i => (es[i]?.map (·.1)).getD 0) (k.hash w) (stand.getD (t.probeStart (k.hash w))) = some (.empty (way t.mask (k.hash w) K) none) := by
        rw [hst, show way t.mask (k.hash w) K = (nth t.mask (stp t (k.hash w) c) (K - c)).j by rw [wy, show c + (K - c) = K by omega]]
        exact pr
      rw [pr']
      dsimp only
      refine wpAny_pure (no fun hm => ?_)
      obtain ⟨p0, m0, k0⟩ := List.mem_map.mp hm
      obtain ⟨i0, l0, e0⟩ := List.getElem_of_mem m0
      have h0 : L[i0]? = some p0 := by rw [List.getElem?_eq_getElem l0, e0]
      obtain ⟨c', g1, g2, g3⟩ := ahead i0 p0 h0 k0
      exact none_ (c' - c) i0 (by omega) (by rw [wy, show c + (c' - c) = c' by omega]; exact g3) ((told i0 p0 h0).trans (congrArg (NestedKey.hash w) k0))
theorem look_for (S : SetN w s.heap a L es ep t) {x : Addr} {k : NestedKey} (hx : IsN s.heap k x) (hu : A.units + 8 < cLine) {Q : SetFound → Shared → Prop} (yes : k ∈ L.map (·.2) → Q (.there none) s)
    (no : ∀ K, k ∉ L.map (·.2) → way t.mask (k.hash w) K ∉ t.place.toList → (∀ c, c < K → way t.mask (k.hash w) c ∈ t.place.toList) → Q (.free (way t.mask (k.hash w) K) false) s) :
    wpAny (model P w) A (setSearch a (.ref x) (k.hash w) true) Q E s := by
  have room := S.room
  obtain ⟨K, fuel, free, taken⟩ := S.tab.first (by rw [List.length_map]; omega) (k.hash w)
  have small : K < 100000 := by
    have : SetTable.turns t.mask ≤ 142 := by
      unfold SetTable.turns
      rcases S.tab.mok with e | e | e <;> omega
    omega
  unfold setSearch
  refine look_from S hx hu fuel free taken yes (fun z => no K z free taken) 100000 0 none rfl (Nat.zero_le _) (by omega) fun i p hp e => ?_
  have hi : (L.map fun p => p.2.hash w)[i]? = some (k.hash w) := by
    rw [List.getElem?_map, hp, ← e]
    rfl
  have il : i < t.place.toList.length := by
    have z1 : i < L.length := (List.getElem?_eq_some_iff.mp hp).1
    have z2 := S.tab.sz
    rw [List.length_map] at z2
    rw [Array.length_toList]
    omega
  obtain ⟨c, hc, e2⟩ := S.tab.before free hi (List.getElem?_eq_getElem il)
  exact ⟨c, Nat.zero_le _, hc, by rw [List.getElem?_eq_getElem il, e2]⟩

/-! ### laying anew, adding -/
theorem pick_rows : ∀ (l : List Nat), (∀ i ∈ l, i < L.length) → es.toList = rowN w L → ∃ L2 : List (Addr × NestedKey), l.filterMap (fun i => es[i]?) = rowN w L2 ∧ L2 = l.filterMap (fun i => L[i]?) ∧ (L2.map fun p => p.2.hash w) = l.map fun i => (es.map (·.1)).getD i 0
  | [], _, _ => ⟨[], rfl, rfl, rfl⟩
  | i :: l, hl, e => by
    obtain ⟨L2, e1, e2, e3⟩ := pick_rows l (fun j hj => hl j (List.mem_cons_of_mem _ hj)) e
    have hi := hl i List.mem_cons_self
    have at_ := List.getElem?_eq_getElem hi
    have ea := rowN_at (w := w) e at_
    refine ⟨L[i] :: L2, ?_, ?_, ?_⟩
    · rw [List.filterMap_cons_some ea, e1]
      rfl
    · rw [List.filterMap_cons_some at_, e2]
    · rw [List.map_cons, List.map_cons, e3]
      congr 1
      have e5 : (es.map (·.1))[i]? = some ((L[i]).2.hash w) := by
        rw [Array.getElem?_map, ea]
        rfl
      simp [Array.getD_eq_getD_getElem?, e5]
theorem range_pick {α : Type} (L : List α) : (List.range L.length).filterMap (fun i => L[i]?) = L := by
  induction L with
  | nil => rfl
  | cons a L ih =>
    rw [List.length_cons, List.range_succ_eq_map, List.filterMap_cons]
    show a :: _ = a :: L
    rw [List.filterMap_map]
    exact congrArg (a :: ·) ih
theorem reorder (e : es.toList = rowN w L) {order : Array Nat} (hp : order.toList.Perm (List.range L.length)) :
    ∃ L2, (order.filterMap (es[·]?)).toList = rowN w L2 ∧ L2.Perm L ∧ (L2.map fun p => p.2.hash w) = order.toList.map fun i => (es.map (·.1)).getD i 0 := by
  obtain ⟨L2, e1, e2, e3⟩ := pick_rows order.toList (fun i hi => List.mem_range.mp (hp.mem_iff.mp hi)) e
  refine ⟨L2, ?_, ?_, e3⟩
  · rw [Array.toList_filterMap]
    exact e1
  · have := hp.filterMap (fun i => L[i]?)
    rw [range_pick, ← e2] at this
    exact this
theorem lay_anew {o : Obj} (ho : s.heap.get? a = some o) (hex : o.ExactSet) (hd : o.data = .set es ep t) (e : es.toList = rowN w L) (hsz : t.place.size = es.size) (hdm : t.dummies = #[]) (hm : es.size ≤ t.mask)
    (un : (L.map (·.2)).Nodup) (ks : ∀ p ∈ L, IsN s.heap p.2 p.1) (ld : w.params.followText "set-order" = true ∨ t.led = true) (few : L.length < 64) {wanted M : Nat}
    (hw : SetTable.sizeAbove wanted - 1 = M) (hM : MaskOk M) (hw2 : SetTable.sizeAbove wanted ≤ 128) (rm : L.length * 5 < M * 3) {Q : Unit → Shared → Prop}
    (q : ∀ h' L' es' ep' t', Heap.SameBut a s.heap h' → SetN w h' a L' es' ep' t' → L'.Perm L → Q () { s with heap := h' }) : wpAny (model P w) A (setRelay a wanted) Q E s := by
  have sl := rowN_len L e
  obtain ⟨t', order, er, hp, T, em, el, _, ed⟩ := relaid_ok t (hs := es.map (·.1)) (wanted := wanted) hw hM (by rw [Array.size_map, sl]; omega)
  rw [Array.size_map, sl] at hp
  obtain ⟨L2, r1, r2, r3⟩ := reorder e hp
  rw [← r3] at T
  have s2 := rowN_len L2 r1
  rw [r2.length_eq, ← sl] at s2
  rw [setRelay_eq]
  refine wpAny_bind (wpAny_setState_of ho hd (fits_of hsz hdm hm) ?_)
  dsimp only
  refine wp_if_neg (by rw [sizeLine_eq]; omega) ?_
  try refine wpAny_bind (wpAny_pure ?_)
  rw [er]
  dsimp only
  refine wpAny_bind ?_
  refine wp_if_neg (by rw [s2]; simp) ?_
  try refine wpAny_bind (wpAny_pure ?_)
  refine wpAny_pure ?_
  dsimp only
  refine wpAny_storeSet_of ho hd ?_ (by rw [s2, sl, sizeLine_eq]; omega)
  have sb : Heap.SameBut a s.heap (s.heap.update a (Obj.putSet (order.filterMap (es[·]?)) t')) := Heap.SameBut.update ..
  refine q _ L2 (order.filterMap (es[·]?)) (ep + 1) t' sb ⟨⟨_, store_at ho hd, ⟨hex.1, hex.2.1, hex.2.2⟩, rfl⟩, r1, T, (r2.map (·.2)).nodup_iff.mpr un, fun p m => (ks p (r2.mem_iff.mp m)).beside ho hd sb, by rw [el]; exact ld, ?_, by rw [r2.length_eq]; exact few⟩ r2
  rw [r2.length_eq, em]
  exact rm
theorem put_rows (L : List (Addr × NestedKey)) (i : Nat) (x : Addr) (k : NestedKey) : rowN w (L.take i ++ (x, k) :: L.drop i) = (rowN w L).take i ++ (k.hash w, Value.ref x) :: (rowN w L).drop i := by
  unfold rowN
  rw [List.map_append, List.map_cons, List.map_take, List.map_drop]
theorem add_one (S : SetN w s.heap a L es ep t) {x : Addr} {k : NestedKey} (hx : IsN s.heap k x) (hu : A.units + 8 < cLine) (more : L.length + 1 < 64) {Q : Bool → Shared → Prop}
    (q : ∀ b h' L' es' ep' t', Heap.SameBut a s.heap h' → SetN w h' a L' es' ep' t' → (k ∈ L.map (·.2) → L' = L) → (k ∉ L.map (·.2) → L'.Perm ((x, k) :: L)) → Q b { s with heap := h' }) :
    wpAny (model P w) A (setAddHashed a (.ref x) (k.hash w)) Q E s := by
  obtain ⟨o, ho, hex, hd⟩ := S.obj
  have sl := rowN_len L S.ent
  have room := S.room
  unfold setAddHashed
  refine wpAny_holding ?_
  rw [show (100000 : Nat) = 99999 + 1 from rfl, setAddHashedIn_succ]
  refine wpAny_bind (wpAny_setState_of ho hd S.fit ?_)
  dsimp only
  refine wp_if_neg (by simp [byScan, Value.scannable]) ?_
  try refine wpAny_bind (wpAny_pure ?_)
  refine wpAny_bind (look_for S hx hu (fun hm => ?_) fun K hm free taken => ?_)
  · dsimp only
    exact wpAny_pure (q false s.heap L es ep t (Heap.SameBut.refl a s.heap) S (fun _ => rfl) fun z => absurd hm z)
  dsimp only
  refine wpAny_bind (wpAny_setState_of ho hd S.fit ?_)
  dsimp only
  obtain ⟨q1, q2, q3, q4, q5, _, _, _, q9⟩ := S.tab.put free taken
  generalize hpt : t.put (way t.mask (k.hash w) K) = pt at q1 q3 q4 q5 q9 ⊢
  obtain ⟨t1, p⟩ := pt
  dsimp only at q1 q3 q4 q5 q9 ⊢
  subst q1
  have ein : (SetTable.insertAt es (SetTable.below t.place (way t.mask (k.hash w) K)) (k.hash w, Value.ref x)).toList = rowN w (L.take (SetTable.below t.place (way t.mask (k.hash w) K)) ++ (x, k) :: L.drop (SetTable.below t.place (way t.mask (k.hash w) K))) := by
    rw [SetTable.toList_insertAt, put_rows, S.ent]
  generalize SetTable.below t.place (way t.mask (k.hash w) K) = p at q2 q3 ein ⊢
  have pm := put_perm L p (x, k)
  have ln : (L.take p ++ (x, k) :: L.drop p).length = L.length + 1 := pm.length_eq
  rw [show (L.map fun p => p.2.hash w).take p ++ k.hash w :: (L.map fun p => p.2.hash w).drop p = (L.take p ++ (x, k) :: L.drop p).map (fun p => p.2.hash w) by rw [List.map_append, List.map_cons, List.map_take, List.map_drop]] at q3
  have un : ((L.take p ++ (x, k) :: L.drop p).map (·.2)).Nodup := by
    refine (pm.map (·.2)).nodup_iff.mpr ?_
    rw [List.map_cons]
    exact List.nodup_cons.mpr ⟨hm, S.uniq⟩
  generalize SetTable.insertAt es p (k.hash w, Value.ref x) = es1 at ein ⊢
  generalize L.take p ++ (x, k) :: L.drop p = L1 at pm ln q3 un ein
  have z1 : es1.size = L.length + 1 := by rw [rowN_len L1 ein, ln]
  -- either way of the flag
  have core : ∀ t2 : SetTable, t2.place = t1.place → t2.dummies = t1.dummies → t2.mask = t1.mask → t2.led = t1.led → t2.fill = t1.fill →
      wpAny (model P w) A (do
        storeSet a es1 t2
        if !false && t2.tooFull then setRelay a (SetTable.grown (es.size + 1))
        return true) Q E s := by
    intro t2 f1 f2 f3 f4 f5
    have T2 : TabOk t2 (L1.map fun p => p.2.hash w) := ⟨by rw [f1]; exact q3.ris, by rw [f2]; exact q3.dm, by rw [f1]; exact q3.sz, by rw [f3]; exact q3.mok, by rw [f1, f3]; exact q3.bd, by rw [f1, f3]; exact q3.reach⟩
    have m2 : t2.mask = t.mask := f3.trans q4
    refine wpAny_bind (wpAny_storeSet_of ho hd ?_ (by rw [z1, sizeLine_eq]; omega))
    have sb : Heap.SameBut a s.heap (s.heap.update a (Obj.putSet es1 t2)) := Heap.SameBut.update ..
    have ho1 := store_at (es' := es1) (t' := t2) ho hd
    generalize s.heap.update a (Obj.putSet es1 t2) = h1 at sb ho1 ⊢
    have ks : ∀ p ∈ L1, IsN h1 p.2 p.1 := fun p hp => by
      rcases List.mem_cons.mp (pm.mem_iff.mp hp) with e | hp
      · rw [e]; exact hx.beside ho hd sb
      · exact (S.keys p hp).beside ho hd sb
    have ld : w.params.followText "set-order" = true ∨ t2.led = true := by rw [f4, q5]; exact S.led
    have fl : t2.fill = L.length + 1 := by rw [f5, q9, List.length_map]
    by_cases hf : t2.tooFull = true
    · first
        | (refine wpAny_bind ?_; refine wp_if_pos (by simp [hf]) ?_)
        | (refine wp_if_pos (by simp [hf]) ?_; refine wpAny_bind ?_)
      have full : (L.length + 1) * 5 ≥ t.mask * 3 := by
        have h := hf
        unfold SetTable.tooFull at h
        rw [decide_eq_true_eq, fl, m2] at h
        exact h
      rw [sl]
      have ps : t2.place.size = es1.size := by
        have h := T2.sz
        rw [List.length_map, ln] at h
        rw [h, z1]
      have go : ∀ M, SetTable.sizeAbove (SetTable.grown (L.length + 1)) - 1 = M → MaskOk M → SetTable.sizeAbove (SetTable.grown (L.length + 1)) ≤ 128 → (L.length + 1) * 5 < M * 3 → L.length + 1 ≤ t.mask →
          wpAny (model P w) A (setRelay a (SetTable.grown (L.length + 1))) (fun _ s' => wpAny (model P w) A (pure true) Q E s') E { s with heap := h1 } := fun M g1 g2 g3 g4 g5 => by
        refine lay_anew (s := { s with heap := h1 }) ho1 ⟨hex.1, hex.2.1, hex.2.2⟩ rfl ein ps T2.dm (by rw [z1, m2]; exact g5) un ks ld (by rw [ln]; exact more) g1 g2 g3 (by rw [ln]; exact g4) fun h2 L2 es2 ep2 t3 sb2 S2 pm2 => ?_
        exact wpAny_pure (q true h2 L2 es2 ep2 t3 (sb.trans sb2) S2 (fun z => absurd z hm) fun _ => pm2.trans pm)
      rcases S.tab.mok with e | e | e
      · have l4 : L.length = 4 := by omega
        exact go 31 (by rw [l4, size_20]) (.inr (.inl rfl)) (by rw [l4, size_20]; decide) (by omega) (by omega)
      · have l4 : L.length = 18 := by omega
        exact go 127 (by rw [l4, size_76]) (.inr (.inr rfl)) (by rw [l4, size_76]; decide) (by omega) (by omega)
      · omega
    · first
        | refine wp_if_neg (by simp [hf]) ?_
        | (refine wpAny_bind ?_; refine wp_if_neg (by simp [hf]) ?_; refine wpAny_pure ?_)
      refine wpAny_pure (q true h1 L1 es1 (ep + 1) t2 sb ⟨⟨_, ho1, ⟨hex.1, hex.2.1, hex.2.2⟩, rfl⟩, ein, T2, un, ks, ld, ?_, by rw [ln]; exact more⟩ (fun z => absurd z hm) fun _ => pm)
      have h := hf
      unfold SetTable.tooFull at h
      rw [decide_eq_true_eq, fl] at h
      rw [ln]
      omega
  by_cases hp1 : t1.plain = true
  · first
      | (refine wpAny_bind ?_; refine wp_if_pos hp1 ?_; refine byv_key k _ 8 s _ _ _ hx.1 fun b => ?_)
      | refine wp_if_pos hp1 (wpAny_bind (byv_key k _ 8 s _ _ _ hx.1 fun b => ?_))
    cases b with
    | true => exact core t1 rfl rfl rfl rfl rfl
    | false => exact core { t1 with plain := false } rfl rfl rfl rfl rfl
  · first
      | (refine wpAny_bind ?_; refine wp_if_neg hp1 ?_; refine wpAny_pure ?_)
      | refine wp_if_neg hp1 (wpAny_bind (wpAny_pure ?_))
    exact core t1 rfl rfl rfl rfl rfl

/-! ### set(..) -/
structure GotN (ks : List (Addr × NestedKey)) (i : Nat) (L : List (Addr × NestedKey)) : Prop where
  sub : ∀ p ∈ L, p ∈ ks.take i
  all : ∀ p ∈ ks.take i, p.2 ∈ L.map (·.2)
  len : L.length ≤ i
theorem GotN.zero (ks : List (Addr × NestedKey)) : GotN ks 0 [] := ⟨fun p h => absurd h List.not_mem_nil, fun p h => absurd (by simpa using h) (fun z : False => z), Nat.le_refl _⟩
theorem GotN.next {ks L L' : List (Addr × NestedKey)} {i : Nat} {x : Addr × NestedKey} (g : GotN ks i L) (h : ks[i]? = some x) (c1 : x.2 ∈ L.map (·.2) → L' = L) (c2 : x.2 ∉ L.map (·.2) → L'.Perm (x :: L)) : GotN ks (i + 1) L' := by
  have tk := take_next h
  by_cases c : x.2 ∈ L.map (·.2)
  · rw [c1 c]
    refine ⟨fun p hp => ?_, fun p hp => ?_, Nat.le_succ_of_le g.len⟩
    · rw [tk]; exact List.mem_append_left _ (g.sub p hp)
    · rw [tk] at hp
      rcases List.mem_append.mp hp with z | z
      · exact g.all p z
      · rw [List.mem_singleton.mp z]; exact c
  · have pm := c2 c
    refine ⟨fun p hp => ?_, fun p hp => ?_, by rw [pm.length_eq]; exact Nat.succ_le_succ g.len⟩
    · rw [tk]
      rcases List.mem_cons.mp (pm.mem_iff.mp hp) with e | z
      · rw [e]; exact List.mem_append_right _ (List.mem_singleton.mpr rfl)
      · exact List.mem_append_left _ (g.sub p z)
    · rw [(pm.map (·.2)).mem_iff, List.map_cons]
      rw [tk] at hp
      rcases List.mem_append.mp hp with z | z
      · exact List.mem_cons_of_mem _ (g.all p z)
      · rw [List.mem_singleton.mp z]; exact List.mem_cons_self
theorem SetN.kept {h h' : Heap} (S : SetN w h a L es ep t) (ha : ∀ o, h.get? a = some o → h'.get? a = some o) (hk : ∀ p ∈ L, IsN h' p.2 p.1) : SetN w h' a L es ep t :=
  ⟨S.obj.imp fun o z => ⟨ha o z.1, z.2⟩, S.ent, S.tab, S.uniq, hk, S.led, S.room, S.few⟩
abbrev set0 (w : World) : SetTable := .fresh 0 0 (!w.params.followText "set-order")
abbrev obj0 (w : World) : Obj := { cls := .type "set", dict := none, data := .set #[] 0 (set0 w) }
theorem setN_new {h : Heap} (ho : h.get? a = some { cls := .type "set", dict := none, data := .set #[] 0 (set0 w) }) : SetN w h a [] #[] 0 (set0 w) := by
  refine ⟨⟨_, ho, ⟨rfl, rfl, rfl⟩, rfl⟩, rfl, ⟨List.Pairwise.nil, rfl, rfl, .inl rfl, fun x hx => (by cases hx), fun i h j hi => (by simp at hi)⟩, List.nodup_nil, fun p hp => (by cases hp), ?_, ?_, ?_⟩
  · show _ ∨ (!w.params.followText "set-order") = true
    cases w.params.followText "set-order" <;> simp
  · show 0 * 5 < 7 * 3
    decide
  · show 0 < 64
    decide
theorem fill_set {I : Addr} {fp wr : List Addr} {G : Array GenState → Array GenState → Prop} {n : Nat} {Pv : Nat → Value → Prop} {St : Nat → Shared → Prop} {R : Result → Shared → Prop}
    (W : WalksS P w A.in1 I fp wr G n Pv St) (S : Addr) (out : S ∉ fp) (ks : List (Addr × NestedKey)) (hn : n = ks.length) (few : ks.length < 64) (val : ∀ i v, Pv i v → ∃ p, ks[i]? = some p ∧ v = .ref p.1)
    (h0 : Heap) (hk : ∀ p ∈ ks, IsN h0 p.2 p.1) (S0 : h0.get? S = none) (w0 : ∀ b ∈ wr, h0.get? b = none) (hu : A.in1.units + 8 < cLine) :
    ∀ (k i : Nat) (s : Shared), n - i = k → i ≤ n → St i s → (∀ b o, h0.get? b = some o → s.heap.get? b = some o) → (∃ L es ep t, SetN w s.heap S L es ep t ∧ GotN ks i L) →
      (∀ s' L es ep t, Moved (S :: wr) G s s' → SetN w s'.heap S L es ep t → GotN ks n L → (∀ b o, h0.get? b = some o → s'.heap.get? b = some o) → R (.ok (.ret .none)) s') →
      codeAny (model P w) A (.builtin "set.update.loop" ⟨[.ref S, .ref I], []⟩) R s := by
  have keepM : ∀ {s s' : Shared}, Moved wr G s s' → (∀ b o, h0.get? b = some o → s.heap.get? b = some o) → ∀ b o, h0.get? b = some o → s'.heap.get? b = some o := fun hm kp b o e =>
    hm.heap b o (fun z => by rw [w0 b z] at e; cases e) (kp b o e)
  have wider : ∀ b ∈ wr, b ∈ S :: wr := fun b z => List.mem_cons_of_mem _ z
  have Sw : S ∉ wr := fun z => out (W.sub _ z)
  intro k
  induction k with
  | zero =>
    intro i s e1 e2 st kp ⟨L, es, ep, t, hS, g⟩ fin
    obtain rfl : i = n := by omega
    refine codeAny_builtin F.entry_set_update_loop ?_
    rw [Around.under_plainId F.plain_set_update_loop _]
    show wpAny _ A.in1 (pyNext (.ref I) >>= _) _ _ s
    refine wpAny_bind (W.done s _ _ st fun s' hm => ?_)
    show wpAny _ A.in1 (ret Value.none) _ _ s'
    have kp' := keepM hm kp
    exact wpAny_pure (fin s' L es ep t (hm.mono wider) (hS.kept (fun o e => hm.heap S o Sw e) fun p hp => (hk p (List.mem_of_mem_take (g.sub p hp))).grow kp') g kp')
  | succ k ih =>
    intro i s e1 e2 st kp ⟨L, es, ep, t, hS, g⟩ fin
    have lt : i < n := by omega
    refine codeAny_builtin F.entry_set_update_loop ?_
    rw [Around.under_plainId F.plain_set_update_loop _]
    show wpAny _ A.in1 (pyNext (.ref I) >>= _) _ _ s
    refine wpAny_bind (W.item i s _ _ lt st fun v s' hP st' hm => ?_)
    obtain ⟨p, hp, rfl⟩ := val i v hP
    have kp' := keepM hm kp
    have hS' := hS.kept (h' := s'.heap) (fun o e => hm.heap S o Sw e) fun q hq => (hk q (List.mem_of_mem_take (g.sub q hq))).grow kp'
    have hx : IsN s'.heap p.2 p.1 := (hk p (List.mem_of_getElem? hp)).grow kp'
    show wpAny _ A.in1 (holding [Value.ref p.1] (setAdd S (.ref p.1)) >>= _) _ _ s'
    refine wpAny_bind (wpAny_holding ?_)
    unfold setAdd
    refine wpAny_holding (wpAny_bind ((nestedKind P w).pyHash (k := p.2) hu hx ?_))
    refine add_one (s := { s' with toks := s'.toks + (nestedKind P w).draws p.2 }) hS' hx hu (by have := g.len; omega) fun b h' L' es' ep' t' sb S2 c1 c2 => ?_
    have back : ∀ b o, h0.get? b = some o → h'.get? b = some o := fun b o e => (sb.2 b fun z => by rw [z, S0] at e; cases e).trans (kp' b o e)
    refine wpAny_pure ⟨plainId_quiet F.plain_set_update_loop _, ih (i + 1) _ (by omega) lt (W.frame _ s' _ _ st' (Nat.le_add_right _ _) fun b hb o e => ?_) back ⟨L', es', ep', t', S2, g.next hp c1 c2⟩ fun s'' L2 es2 ep2 t2 hm2 S3 g3 kp3 => ?_⟩
    · rw [sb.2 b fun z => out (by rw [← z]; exact hb)]
      exact e
    · refine fin s'' L2 es2 ep2 t2 (Moved.trans W.gtrans ((hm.mono wider).then_heap (Nat.le_add_right _ _) fun b o hb e => ?_) hm2) S3 g3 kp3
      rw [sb.2 b fun z => hb (by rw [z]; exact List.mem_cons_self)]
      exact e
set_option maxHeartbeats 3200000 in
theorem call_setN {l : Addr} {items : Array Value} (ks : List (Addr × NestedKey)) {Q : Value → Shared → Prop} (hh : A.handled = none) (hl : s.heap.IsList l items) (hit : items.toList = ks.map fun p => Value.ref p.1)
    (hk : ∀ p ∈ ks, IsN s.heap p.2 p.1) (few : ks.length < 64) (hu : A.units + 12 < cLine)
    (q : ∀ (h' : Heap) (tk : Nat) L es ep t, SetN w h' s.heap.objs.size L es ep t → GotN ks ks.length L → (∀ b o, s.heap.get? b = some o → h'.get? b = some o) → Q (.ref s.heap.objs.size) { s with heap := h', toks := tk }) :
    wpAny (model P w) A (call (.type "set") [.ref l]) Q E s := by
  have isz : items.size = ks.length := by rw [← Array.length_toList, hit, List.length_map]
  obtain ⟨c, tl, hmro⟩ := F.called_set.mro
  have hmade := F.called_set.made
  have hsub := F.called_set.sub
  refine wpAny_call (codeAny_of_tree ?_)
  show wpAny _ _ (callAny (.type "set") _) _ _ _
  refine wpAny_pure ⟨Code.quiet_builtin _ (by decide +kernel), codeAny_builtin F.entry_type_call ?_⟩
  rw [Around.under_plain (weight_type_call_type "set" [.ref l] []) rfl]
  have h1 := F.called_set.notType
  have h2 := F.called_set.canCreate
  have hct := F.typeCall_set_1 (.ref l)
  repeat (any_goals (first | assumption | wp_step))
  refine codeAny_mono (code_set_led1 (.ref l) (E := E) (Q₁ := fun obj s₁ => obj = .ref s.heap.objs.size ∧ s₁ = { s with heap := s.heap.push { cls := .type "set", dict := none, data := .set #[] 0 (set0 w) } }) ⟨rfl, rfl⟩) fun r s₁ hr => ?_
  cases r with
  | error e => exact hr
  | ok fl =>
    cases fl with
    | ret obj =>
      obtain ⟨rfl, rfl⟩ := hr
      have hS : (s.heap.push (obj0 w)).get? s.heap.objs.size = some (obj0 w) := Heap.get?_push_size _ rfl
      have hT : Shared.TypeIs { s with heap := s.heap.push (obj0 w) } (.ref s.heap.objs.size) "set" := ⟨_, hS, rfl⟩
      have hli := F.called_set.init.lookup
      have hbi := F.called_set.init.bind (.ref s.heap.objs.size)
      repeat (any_goals (first | assumption | wp_step))
      refine codeAny_mono (codeAny_call_builtin (R := wants (fun r s₂ => r = .none ∧ ∃ h' tk L es ep t, s₂ = { s with heap := h', toks := tk } ∧ SetN w h' s.heap.objs.size L es ep t ∧ GotN ks ks.length L ∧
          (∀ b o, s.heap.get? b = some o → h'.get? b = some o)) E) F.called_set.init.plain F.entry_set_init (check_set_init_1 hT ?_)) fun r₂ s₂ hr₂ => ?_
      · obtain ⟨⟨ocls, odict, odata, oslots⟩, hol, hcl, nl, hdl⟩ := hl
        simp only at hcl hdl
        subst hcl hdl
        have hol' := Heap.get?_push_of_some (obj0 w) hol
        have hsls := F.sub_list_set
        have hslf := F.sub_list_frozenset
        have hne : (Value.type "list" == Value.type "dict") = false := by decide
        have hl1 : (s.heap.push (obj0 w)).IsList l items := ⟨_, hol', rfl, nl, rfl⟩
        unfold Builtin.«set.__init__» noKeywords Builtin.Frozenset.updateFrom
        generalize hPI : pyIter = PI
        wp_walk
        subst hPI
        refine wpAny_pyIter_list hl1 ?_
        refine wpAny_bind (wpAny_runValue ?_)
        have lS : l < s.heap.objs.size := Heap.lt_size hol
        have hh3 : A.in1.in1.in1.handled = none := by simp [hh]
        have z1 : (s.heap.push (obj0 w)).objs.size = s.heap.objs.size + 1 := Heap.size_push ..
        have gone : ∀ b, s.heap.objs.size ≤ b → s.heap.get? b = none := fun b hb => by
          cases e : s.heap.get? b with
          | none => rfl
          | some o => exact absurd (Nat.lt_of_lt_of_le (Heap.lt_size e) hb) (Nat.lt_irrefl _)
        refine fill_set ((Walks.list hh3 _ l (Nat.ne_of_lt (by rw [z1]; exact Nat.lt_succ_of_lt lS)) items).toS) s.heap.objs.size (fun e => by
            rcases List.mem_cons.mp e with e | e
            · exact Nat.ne_of_lt (by rw [z1]; exact Nat.lt_succ_self _) e
            · exact Nat.ne_of_gt lS (List.mem_singleton.mp e)) ks isz few (fun i v hv => by
            have e : items.toList[i]? = some v := by rw [Array.getElem?_toList]; exact hv
            rw [hit, List.getElem?_map] at e
            obtain ⟨p, hp, rfl⟩ := Option.map_eq_some_iff.mp e
            exact ⟨p, hp, rfl⟩) s.heap hk (gone _ (Nat.le_refl _)) (fun b hb => gone b (by rw [List.mem_singleton.mp hb, z1]; omega)) (by simp only [Around.in1]; omega) (items.size - 0) 0 _ (by omega) (Nat.zero_le _)
          ⟨⟨_, Heap.get?_push_size _ rfl, rfl, rfl⟩, (hl1.push _)⟩ (fun b o e => Heap.get?_push_of_some _ (Heap.get?_push_of_some _ e)) ?_ ?_
        · refine ⟨[], #[], 0, set0 w, setN_new ?_, GotN.zero ks⟩
          exact Heap.get?_push_of_some { cls := .type "list_iterator", data := .fields #[.ref l, .int 0 0] } hS
        · intro s' L es ep t hm S2 g2 kp
          obtain ⟨h', g', d', tk', os'⟩ := s'
          have eg : g' = s.gens := hm.gens
          have ed : d' = s.drawn := hm.drawn
          have eo : os' = s.os := hm.os
          subst eg ed eo
          refine wpAny_pure ?_
          show wpAny _ _ (ret Value.none) _ _ _
          rw [isz] at g2
          exact wpAny_pure ⟨rfl, h', tk', L, es, ep, t, rfl, S2, g2, kp⟩
      · cases r₂ with
        | error e => exact hr₂
        | ok fl₂ =>
          cases fl₂ with
          | ret r =>
            obtain ⟨rfl, h', tk, L, es, ep, t, rfl, S2, g2, kp⟩ := hr₂
            repeat (any_goals (first | assumption | wp_step))
            exact q _ _ _ _ _ _ S2 g2 kp
          | _ => exact hr₂.elim
    | _ => exact hr.elim
end
end MP

set_option autoImplicit false
set_option linter.all false
set_option maxRecDepth 100000
/-! MP: sorted(set(..)), len(set(..)) of nested tuples. -/
namespace MP
open PySem PySem.Spec PyProof.Rows L2

/-! ### keys of values -/
mutual
def keyN : D → NestedKey
  | .int i => .num i
  | .str s => .text ⟨s.toArray⟩
  | .tup _ xs => .tup (keyNs xs)
  | .non => .none
  | .bl _ => .none
  | .lst _ _ => .none
  | .dic _ _ _ _ => .none
  | .set _ => .none
  | .ins _ _ _ _ => .none
  | .exn _ => .none
def keyNs : List D → List NestedKey
  | [] => []
  | d :: ds => keyN d :: keyNs ds
end
mutual
theorem keyN_inj : ∀ (a b : D), a.keyable = true → b.keyable = true → keyN a = keyN b → a = b
  | .non, b, ha, hb, e => by
    cases b with
    | non => rfl
    | int _ => rw [keyN, keyN] at e; cases e
    | str _ => rw [keyN, keyN] at e; cases e
    | tup _ _ => rw [keyN, keyN] at e; cases e
    | _ => cases hb
  | .int i, b, ha, hb, e => by
    cases b with
    | int j => rw [keyN, keyN] at e; cases e; rfl
    | non => rw [keyN, keyN] at e; cases e
    | str _ => rw [keyN, keyN] at e; cases e
    | tup _ _ => rw [keyN, keyN] at e; cases e
    | _ => cases hb
  | .str s, b, ha, hb, e => by
    cases b with
    | str t => rw [keyN, keyN] at e; rw [str_ext (NestedKey.text.inj e)]
    | non => rw [keyN, keyN] at e; cases e
    | int _ => rw [keyN, keyN] at e; cases e
    | tup _ _ => rw [keyN, keyN] at e; cases e
    | _ => cases hb
  | .tup o xs, b, ha, hb, e => by
    cases b with
    | tup p ys =>
      cases o <;> cases p <;> first | cases ha | cases hb | skip
      rw [D.keyable] at ha hb
      rw [keyN, keyN] at e
      rw [keyNs_inj xs ys ha hb (NestedKey.tup.inj e)]
    | non => rw [keyN, keyN] at e; cases e
    | int _ => rw [keyN, keyN] at e; cases e
    | str _ => rw [keyN, keyN] at e; cases e
    | _ => cases hb
  | .bl _, b, ha, hb, e => by cases ha
  | .lst _ _, b, ha, hb, e => by cases ha
  | .dic _ _ _ _, b, ha, hb, e => by cases ha
  | .set _, b, ha, hb, e => by cases ha
  | .ins _ _ _ _, b, ha, hb, e => by cases ha
  | .exn _, b, ha, hb, e => by cases ha
theorem keyNs_inj : ∀ (a b : List D), keyables a = true → keyables b = true → keyNs a = keyNs b → a = b
  | [], [], _, _, _ => rfl
  | [], _ :: _, _, _, e => by rw [keyNs, keyNs] at e; cases e
  | _ :: _, [], _, _, e => by rw [keyNs, keyNs] at e; cases e
  | a :: as, b :: bs, ha, hb, e => by
    rw [keyables, Bool.and_eq_true] at ha hb
    rw [keyNs, keyNs] at e
    injection e with e1 e2
    rw [keyN_inj a b ha.1 hb.1 e1, keyNs_inj as bs ha.2 hb.2 e2]
end
mutual
theorem eqv_key : ∀ (a b : D), a.keyable = true → b.keyable = true → PyData.eqv a.toP b.toP = true → keyN a = keyN b
  | .non, b, ha, hb, e => by
    cases b with
    | non => rfl
    | int _ => simp [D.toP, PyData.eqv] at e
    | str _ => simp [D.toP, PyData.eqv] at e
    | tup _ _ => simp [D.toP, PyData.eqv] at e
    | _ => cases hb
  | .int i, b, ha, hb, e => by
    cases b with
    | int j => simp [D.toP, PyData.eqv] at e; rw [e]
    | non => simp [D.toP, PyData.eqv] at e
    | str _ => simp [D.toP, PyData.eqv] at e
    | tup _ _ => simp [D.toP, PyData.eqv] at e
    | _ => cases hb
  | .str s, b, ha, hb, e => by
    cases b with
    | str t => simp [D.toP, PyData.eqv] at e; rw [keyN, keyN, e]
    | non => simp [D.toP, PyData.eqv] at e
    | int _ => simp [D.toP, PyData.eqv] at e
    | tup _ _ => simp [D.toP, PyData.eqv] at e
    | _ => cases hb
  | .tup o xs, b, ha, hb, e => by
    cases b with
    | tup p ys =>
      cases o <;> cases p <;> first | cases ha | cases hb | skip
      rw [D.keyable] at ha hb
      rw [D.toP, D.toP, PyData.eqv] at e
      rw [keyN, keyN, eqvs_key xs ys ha hb e]
    | non => simp [D.toP, PyData.eqv] at e
    | int _ => simp [D.toP, PyData.eqv] at e
    | str _ => simp [D.toP, PyData.eqv] at e
    | _ => cases hb
  | .bl _, b, ha, hb, e => by cases ha
  | .lst _ _, b, ha, hb, e => by cases ha
  | .dic _ _ _ _, b, ha, hb, e => by cases ha
  | .set _, b, ha, hb, e => by cases ha
  | .ins _ _ _ _, b, ha, hb, e => by cases ha
  | .exn _, b, ha, hb, e => by cases ha
theorem eqvs_key : ∀ (a b : List D), keyables a = true → keyables b = true → PyData.eqvAll (toPs a) (toPs b) = true → keyNs a = keyNs b
  | [], [], _, _, _ => rfl
  | [], _ :: _, _, _, e => by simp [toPs, PyData.eqvAll] at e
  | _ :: _, [], _, _, e => by simp [toPs, PyData.eqvAll] at e
  | a :: as, b :: bs, ha, hb, e => by
    rw [keyables, Bool.and_eq_true] at ha hb
    rw [toPs, toPs, PyData.eqvAll, Bool.and_eq_true] at e
    rw [keyNs, keyNs, eqv_key a b ha.1 hb.1 e.1, eqvs_key as bs ha.2 hb.2 e.2]
end
mutual
theorem depth_sh : ∀ (n : Nat) (d : D), d.sh n = true → (keyN d).depth ≤ n
  | n, .non, _ => Nat.zero_le _
  | n, .bl _, _ => Nat.zero_le _
  | n, .int _, _ => Nat.zero_le _
  | n, .str _, _ => Nat.zero_le _
  | 0, .tup _ xs, h => by cases h
  | n + 1, .tup _ xs, h => by
    rw [D.sh] at h
    rw [keyN, NestedKey.depth]
    exact Nat.succ_le_succ (depth_shs n xs h)
  | n, .lst _ _, _ => Nat.zero_le _
  | n, .dic _ _ _ _, _ => Nat.zero_le _
  | n, .set _, _ => Nat.zero_le _
  | n, .ins _ _ _ _, _ => Nat.zero_le _
  | n, .exn _, _ => Nat.zero_le _
theorem depth_shs : ∀ (n : Nat) (ds : List D), shs n ds = true → NestedKey.depthAll (keyNs ds) ≤ n
  | n, [], _ => Nat.zero_le _
  | n, d :: ds, h => by
    rw [shs, Bool.and_eq_true] at h
    rw [keyNs, NestedKey.depthAll]
    exact Nat.max_le.mpr ⟨depth_sh n d h.1, depth_shs n ds h.2⟩
end
section
variable {X : Cx} {pins : List (Addr × Obj)} {σ : L2.St} {H : Hp} {s : Shared}
mutual
theorem rep_key (I : Inv X pins σ H s) {S : Hp} (sub : MP.Same S H) : ∀ (d : D) (v : V) (u : Value) (r : Own), d.keyable = true → RepV X.K S H d v r → RelV v u → NestedIs s.heap (keyN d) u
  | .non, v, u, r, _, h, rv => by
    rw [RepV] at h
    subst h
    cases rv
    exact .none
  | .int i, v, u, r, _, h, rv => by
    rw [RepV] at h
    subst h
    obtain ⟨t, rfl⟩ := rv
    exact .int i t
  | .str z, v, u, r, _, h, rv => by
    rw [RepV] at h
    rw [h.1] at rv
    obtain ⟨t, rfl⟩ := rv
    exact .text _ t
  | .tup o xs, v, u, r, hk, h, rv => by
    cases o with
    | true => cases hk
    | false =>
      rw [D.keyable] at hk
      rw [RepV] at h
      obtain ⟨a, vs, rfl, q, _, _, t⟩ := h
      cases rv
      obtain ⟨its, rr, ⟨ob, ho, hc, n, hd⟩, _⟩ := I.tuple (.inl (.inl (sub _ _ q)))
      rw [keyN]
      exact .tup ho hc hd (by simpa using reps_key I sub xs vs its r hk t rr)
  | .bl _, _, _, _, hk, _, _ => by cases hk
  | .lst _ _, _, _, _, hk, _, _ => by cases hk
  | .dic _ _ _ _, _, _, _, hk, _, _ => by cases hk
  | .set _, _, _, _, hk, _, _ => by cases hk
  | .ins _ _ _ _, _, _, _, hk, _, _ => by cases hk
  | .exn _, _, _, _, hk, _, _ => by cases hk
theorem reps_key (I : Inv X pins σ H s) {S : Hp} (sub : MP.Same S H) : ∀ (ds : List D) (vs : List V) (us : List Value) (r : Own), keyables ds = true → RepVs X.K S H ds vs r → Vals vs us → NestedAll s.heap (keyNs ds) us
  | [], [], _, _, _, _, .nil => .nil
  | [], _ :: _, _, _, _, h, _ => by rw [RepVs] at h; exact h.elim
  | _ :: _, [], _, _, _, h, _ => by rw [RepVs] at h; exact h.elim
  | d :: ds, v :: vs, _, r, hk, h, .cons a b => by
    rw [RepVs] at h
    obtain ⟨r1, r2, _, _, _, h1, h2⟩ := h
    rw [keyables, Bool.and_eq_true] at hk
    exact .cons (rep_key I sub d v _ r1 hk.1 h1 a) (reps_key I sub ds vs _ r2 hk.2 h2 b)
end
end
mutual
theorem eqv_refl0 : ∀ (n : Nat) (d : D), d.sh n = true → PyData.eqv d.toP d.toP = true
  | _, .non, _ => rfl
  | _, .bl b, _ => by simp [D.toP, PyData.eqv]
  | _, .int i, _ => by simp [D.toP, PyData.eqv]
  | _, .str s, _ => by simp [D.toP, PyData.eqv]
  | 0, .tup _ xs, h => by cases h
  | n + 1, .tup _ xs, h => by
    rw [D.sh] at h
    rw [D.toP, PyData.eqv]
    exact eqvs_refl0 n xs h
  | 0, .lst _ xs, h => by cases h
  | n + 1, .lst _ xs, h => by
    rw [D.sh] at h
    rw [D.toP, PyData.eqv]
    exact eqvs_refl0 n xs h
  | n, .dic _ _ _ _, h => by cases n <;> cases h
  | n, .set _, h => by cases n <;> cases h
  | n, .ins _ _ _ _, h => by cases n <;> cases h
  | n, .exn _, h => by cases n <;> cases h
theorem eqvs_refl0 : ∀ (n : Nat) (ds : List D), shs n ds = true → PyData.eqvAll (toPs ds) (toPs ds) = true
  | _, [], _ => by simp [toPs, PyData.eqvAll]
  | n, d :: ds, h => by
    rw [shs, Bool.and_eq_true] at h
    rw [toPs, PyData.eqvAll, eqv_refl0 n d h.1, eqvs_refl0 n ds h.2]
    rfl
end
/-! ### order -/
theorem perm_map_inv {α β : Type} (f : α → β) {l m : List β} (p : l.Perm m) : ∀ L : List α, m = L.map f → ∃ bs : List α, l = bs.map f ∧ bs.Perm L := by
  induction p with
  | nil => intro L e; exact ⟨[], rfl, by cases L with | nil => exact .nil | cons _ _ => cases e⟩
  | cons x _ ih =>
    intro L e
    cases L with
    | nil => cases e
    | cons a L =>
      injection e with e1 e2
      obtain ⟨bs, h1, h2⟩ := ih L e2
      exact ⟨a :: bs, by rw [List.map_cons, e1, h1], h2.cons a⟩
  | swap x y l =>
    intro L e
    rcases L with _ | ⟨a, _ | ⟨b, L⟩⟩
    · cases e
    · cases e
    · injection e with e1 e2
      injection e2 with e2 e3
      exact ⟨b :: a :: L, by rw [List.map_cons, List.map_cons, e1, e2, e3], List.Perm.swap a b L⟩
  | trans _ _ ih1 ih2 =>
    intro L e
    obtain ⟨bs, h1, h2⟩ := ih2 L e
    obtain ⟨cs, h3, h4⟩ := ih1 bs h1
    exact ⟨cs, h3, h4.trans h2⟩
theorem strict_pw : ∀ {M : List D}, strictD M = true → M.Pairwise fun a b => ltD a b = true ∧ ltD b a = false
  | [], _ => .nil
  | d :: M, h => by
    rw [strictD, Bool.and_eq_true, List.all_eq_true] at h
    refine .cons (fun e he => ?_) (strict_pw h.2)
    have := h.1 e he
    rw [Bool.and_eq_true, Bool.not_eq_true'] at this
    exact this
theorem pw_at {α : Type} {R : α → α → Prop} {M : List α} (h : M.Pairwise R) {i j : Nat} (hij : i < j) (hj : j < M.length) : R M[i] M[j] := List.pairwise_iff_getElem.mp h i j (by omega) hj hij
/-- a strictly rising list is what sorting tells of any order of it -/
theorem sort_strict {M ds : List D} (st : M.Pairwise fun a b => ltD a b = true ∧ ltD b a = false) (p : ds.Perm M) : sortD ds = M := by
  have self : ∀ d : D, ltD d d = false := fun d => PySem.W.dataLt_self d.toP
  -- by the places in M
  have idx : ∃ f : D → Nat, ∀ i (h : i < M.length), f M[i] = i := by
    classical
    refine ⟨fun d => if h : ∃ i, ∃ hi : i < M.length, M[i] = d then h.choose else 0, fun i hi => ?_⟩
    have ex : ∃ j, ∃ hj : j < M.length, M[j] = M[i] := ⟨i, hi, rfl⟩
    show (if h : ∃ j, ∃ hj : j < M.length, M[j] = M[i] then h.choose else 0) = i
    rw [dif_pos ex]
    obtain ⟨hj, ej⟩ := ex.choose_spec
    rcases Nat.lt_trichotomy ex.choose i with z | z | z
    · have := (pw_at st z hi).1
      rw [ej, self] at this
      cases this
    · exact z
    · have := (pw_at st z hj).1
      rw [ej, self] at this
      cases this
  obtain ⟨f, hf⟩ := idx
  have le : ∀ a ∈ ds, ∀ b ∈ ds, (!ltD b a) = decide (f a ≤ f b) := by
    intro a ha b hb
    obtain ⟨i, hi, rfl⟩ := List.getElem_of_mem (p.mem_iff.mp ha)
    obtain ⟨j, hj, rfl⟩ := List.getElem_of_mem (p.mem_iff.mp hb)
    rw [hf i hi, hf j hj]
    rcases Nat.lt_trichotomy i j with z | z | z
    · rw [(pw_at st z hj).2, decide_eq_true (by omega)]
      rfl
    · subst z
      rw [self, decide_eq_true (Nat.le_refl _)]
      rfl
    · rw [(pw_at st z hi).1, decide_eq_false (by omega)]
      rfl
  have m1 := PySem.W.sort_maps (r := fun a b => !ltD b a) (s := fun a b : Nat => decide (a ≤ b)) f le
  have pf : (sortD ds).Perm M := (List.mergeSort_perm ds _).trans p
  have srt : ((sortD ds).map f).Pairwise (· ≤ ·) := by
    unfold sortD
    rw [m1]
    have := List.pairwise_mergeSort (le := fun a b : Nat => decide (a ≤ b)) (fun a b c h1 h2 => by simp at *; omega) (fun a b => by simp; omega) (ds.map f)
    exact this.imp fun h => of_decide_eq_true h
  have srtM : (M.map f).Pairwise (· ≤ ·) := by
    rw [List.pairwise_map]
    refine List.pairwise_iff_getElem.mpr fun i j hi hj hij => ?_
    rw [hf i hi, hf j hj]
    exact Nat.le_of_lt hij
  have em : (sortD ds).map f = M.map f := List.Perm.eq_of_pairwise (le := (· ≤ ·)) (fun a b _ _ h1 h2 => Nat.le_antisymm h1 h2) srt srtM (pf.map f)
  apply List.ext_getElem pf.length_eq
  intro i h1 h2
  have ei : f (sortD ds)[i] = f M[i] := by
    have := congrArg (fun l => l[i]?) em
    simpa [List.getElem?_map, h1, h2] using this
  obtain ⟨j, hj, ej⟩ := List.getElem_of_mem (pf.mem_iff.mp (List.getElem_mem h1))
  rw [← ej, hf j hj, hf i h2] at ei
  subst ei
  exact ej.symm

/-! ### what stands in the set -/
theorem any_key {d : D} {ds : List D} (hd : setable d = true) (hs : ∀ e ∈ ds, setable e = true) : ds.any (eqD d) = true ↔ d ∈ ds := by
  rw [List.any_eq_true]
  constructor
  · rintro ⟨e, he, h⟩
    have k1 := hd
    have k2 := hs e he
    unfold setable at k1 k2
    simp only [Bool.and_eq_true] at k1 k2
    rw [keyN_inj d e k1.1.2 k2.1.2 (eqv_key d e k1.1.2 k2.1.2 h)]
    exact he
  · intro h
    refine ⟨d, h, ?_⟩
    show PyData.eqv d.toP d.toP = true
    have k1 := hd
    unfold setable at k1
    simp only [Bool.and_eq_true] at k1
    exact eqv_refl0 8 d k1.2
theorem dedup_ok : ∀ {ds : List D}, (∀ e ∈ ds, setable e = true) → (dedup ds).Nodup ∧ ∀ d, d ∈ dedup ds ↔ d ∈ ds
  | [], _ => ⟨List.nodup_nil, fun d => Iff.rfl⟩
  | d :: ds, h => by
    have hs := fun e he => h e (List.mem_cons_of_mem _ he)
    obtain ⟨i1, i2⟩ := dedup_ok hs
    have hd := h d List.mem_cons_self
    have ak := any_key hd (ds := dedup ds) fun e he => hs e ((i2 e).mp he)
    rw [dedup]
    by_cases c : (dedup ds).any (eqD d) = true
    · rw [if_pos c]
      refine ⟨i1, fun e => ?_⟩
      rw [i2, List.mem_cons]
      exact ⟨.inr, fun z => z.elim (fun z => by rw [z]; exact (i2 d).mp (ak.mp c)) id⟩
    · rw [if_neg c]
      refine ⟨List.nodup_cons.mpr ⟨fun z => c (ak.mpr z), i1⟩, fun e => ?_⟩
      rw [List.mem_cons, List.mem_cons, i2]
end MP

set_option autoImplicit false
set_option linter.all false
set_option maxRecDepth 100000
/-! MP: sorted(set(..)), len(set(..)), called. -/
namespace MP
open PySem PySem.Spec PyProof.Rows L2
section
variable {P : Program} {w : World} {A : Around} {E : Value → Shared → Prop} {s : Shared}
theorem sorted_setN {β : Type} {bs0 : List β} {ad : β → Addr} {enc : β → PyData} {a : Addr} {L : List (Addr × NestedKey)} {es : Array (Int × Value)} {ep : Nat} {t : SetTable} {Q : Value → Shared → Prop} (S : SetN w s.heap a L es ep t) (hh : A.handled = none)
    (eL : (L.map fun p => Value.ref p.1) = bs0.map fun b => Value.ref (ad b)) (er : ∀ b ∈ bs0, ∃ as, Reads s.heap (.ref (ad b)) (enc b) as) (hal : PySem.W.AllAlike (bs0.map enc)) (hk : PySem.W.Sortable (bs0.map enc)) (hu : ∀ b ∈ bs0, A.units + 2 + (enc b).depth < cLine)
    (q : ∀ s' p (out : Array Value) (c : Nat) (bs1 : List β), (∀ b o, s.heap.get? b = some o → s'.heap.get? b = some o) → s'.gens = s.gens → s'.os = s.os → s.heap.objs.size ≤ p → s'.heap.get? p = some (seqObj "list" out c) →
      bs1.Perm bs0 → out.toList = (bs1.mergeSort (PySem.W.dataLe false enc)).map (fun b => Value.ref (ad b)) → Q (.ref p) s') :
    wpAny (model P w) A (call (.builtin "sorted") [.ref a]) Q E s := by
  obtain ⟨o, ho, hex, hd⟩ := S.obj
  have sl := rowN_len L S.ent
  have few := S.few
  refine Calls.call_function_entry kind_sorted plain_sorted entry_sorted (args_sorted1 _) ?_
  unfold Builtin.«sorted»
  refine wpAny_bind (m := checkCount "sorted" 1 1 _) (wpAny_pure ?_)
  refine wpAny_bind (collect_set (A := A.in1) hh ⟨o, ho, hex.1, hd⟩ S.fit (by unfold scanBound; omega) S.tab.ris S.led fun s1 vs k1 hz g1 o1 pm => ?_)
  have ee : es.toList.map (·.2) = L.map fun p => Value.ref p.1 := by
    rw [S.ent, rowN, List.map_map]
    rfl
  rw [ee, eL] at pm
  obtain ⟨bs1, rfl, p1⟩ := perm_map_inv (fun b => Value.ref (ad b)) pm bs0 rfl
  have len1 : bs1.length < 64 := by
    have := congrArg List.length eL
    rw [List.length_map, List.length_map] at this
    rw [p1.length_eq, ← this]
    exact few
  have pe : (bs1.map enc).Perm (bs0.map enc) := p1.map enc
  have hal1 : PySem.W.AllAlike (bs1.map enc) := fun x hx y hy => hal x (pe.mem_iff.mp hx) y (pe.mem_iff.mp hy)
  have hk1 : PySem.W.Sortable (bs1.map enc) := hk.imp (fun h d hd => h d (pe.mem_iff.mp hd)) (fun h d hd => h d (pe.mem_iff.mp hd))
  refine wpAny_bind (wpAny_newList ?_ (by rw [sizeLine_eq, List.length_map]; omega))
  have hoL : (s1.heap.push (seqObj "list" (bs1.map fun b => Value.ref (ad b)).toArray 0)).get? s1.heap.objs.size = some (seqObj "list" (bs1.map fun b => Value.ref (ad b)).toArray 0) := Heap.get?_push_size _ rfl
  have old : ∀ b u, s.heap.get? b = some u → b < s1.heap.objs.size := fun b u e => Heap.lt_size (k1 b u e)
  have e1 : PySem.W.EachIs (fun (v : Value) (b : β) => v = Value.ref (ad b)) (bs1.map fun b => Value.ref (ad b)) bs1 := by
    have : ∀ l : List β, PySem.W.EachIs (fun (v : Value) (b : β) => v = Value.ref (ad b)) (l.map fun b => Value.ref (ad b)) l := fun l => by
      induction l with
      | nil => exact .nil
      | cons b l ih => exact .cons rfl ih
    exact this bs1
  have e2 : PySem.W.EachIs (fun (v : Value) (b : β) => ∃ as, Reads (PySem.W.sortingHeap (s1.heap.push (seqObj "list" (bs1.map fun b => Value.ref (ad b)).toArray 0)) s1.heap.objs.size (bs1.map fun b => Value.ref (ad b))) v (enc b) as) (bs1.map fun b => Value.ref (ad b)) bs1 := by
    have : ∀ l : List β, (∀ b ∈ l, b ∈ bs0) → PySem.W.EachIs (fun (v : Value) (b : β) => ∃ as, Reads (PySem.W.sortingHeap (s1.heap.push (seqObj "list" (bs1.map fun b => Value.ref (ad b)).toArray 0)) s1.heap.objs.size (bs1.map fun b => Value.ref (ad b))) v (enc b) as) (l.map fun b => Value.ref (ad b)) l := fun l hl => by
      induction l with
      | nil => exact .nil
      | cons b l ih =>
        refine .cons ?_ (ih fun c hc => hl c (List.mem_cons_of_mem _ hc))
        obtain ⟨as, r⟩ := er b (hl b List.mem_cons_self)
        exact ⟨as, PyProof.Rows.Reads.keeps (fun c u e => PySem.W.sortingHeap_old (Nat.ne_of_lt (old c u e)) (Heap.get?_push_of_some _ (k1 c u e))) r⟩
    exact this bs1 fun b hb => p1.mem_iff.mp hb
  refine wpAny_bind (wpAny_holding (wpAny_call_entry slot_list_sort ⟨_, hoL, rfl⟩ entry_list_sort (PySem.W.list_sort_vals (κ := PySem.W.dataKind (PySem.W.sortingHeap (s1.heap.push (seqObj "list" (bs1.map fun b => Value.ref (ad b)).toArray 0)) s1.heap.objs.size (bs1.map fun b => Value.ref (ad b))) (bs1.map enc)) hoL
    (PySem.W.SortsAt.data (s := { s1 with heap := PySem.W.sortingHeap (s1.heap.push (seqObj "list" (bs1.map fun b => Value.ref (ad b)).toArray 0)) s1.heap.objs.size (bs1.map fun b => Value.ref (ad b)) }) (PySem.W.each_map (R := fun v d => ∃ as, Reads (PySem.W.sortingHeap (s1.heap.push (seqObj "list" (bs1.map fun b => Value.ref (ad b)).toArray 0)) s1.heap.objs.size (bs1.map fun b => Value.ref (ad b))) v d as) enc e2) hal1 hk1 (PySem.W.bound_map fun b hb => ?_)) (by rw [List.length_map, sizeLine_eq]; omega) ⟨.none, rfl, ?_⟩) (args_list_sort _)))
  · have := hu b (p1.mem_iff.mp hb)
    simp only [Around.in1]
    omega
  · have fin := PySem.W.sortVals_data false e1 e2 hal1
    have eo : ∀ (us : List Value) (l : List β), PySem.W.EachIs (fun (v : Value) (b : β) => v = Value.ref (ad b)) us l → us = l.map fun b => Value.ref (ad b) := by
      intro us l h
      induction h with
      | nil => rfl
      | cons r _ ih => rw [List.map_cons, r, ih]
    have fin2 := eo _ _ fin
    obtain ⟨c, hc⟩ := sortedHeap_at (vs := bs1.map fun b => Value.ref (ad b)) (out := (PySem.W.sortVals (PySem.W.dataKind (PySem.W.sortingHeap (s1.heap.push (seqObj "list" (bs1.map fun b => Value.ref (ad b)).toArray 0)) s1.heap.objs.size (bs1.map fun b => Value.ref (ad b))) (bs1.map enc)) false (bs1.map fun b => Value.ref (ad b)) (bs1.map fun b => Value.ref (ad b))).toArray) hoL
    refine wpAny_pure ⟨_, rfl, q _ s1.heap.objs.size _ c bs1 (fun b u e => ?_) g1 o1 hz hc p1 (by rw [List.toList_toArray]; exact fin2)⟩
    have lt := old b u e
    show (sortedHeap (s1.heap.push (seqObj "list" (bs1.map fun b => Value.ref (ad b)).toArray 0)) s1.heap.objs.size (bs1.map fun b => Value.ref (ad b)) _).get? b = some u
    rw [sortedHeap_old (Nat.ne_of_lt lt) (by rw [size_push']; exact Nat.lt_succ_of_lt lt)]
    exact Heap.get?_push_of_some _ (k1 b u e)
end

/-! ### fused -/
section
variable {X : Cx}
def rSortSet (K : PySem.W.Frag) : List V → Hp → VK → Prop := fun xs H Q => ∃ (l : Addr) (T : List (Addr × D)) (S : Hp), xs = [.ref l] ∧ SqL K H l (T.map fun x => V.ref x.1) ∧ MP.Same S H ∧ (∀ x ∈ T, RepV K S H x.2 (.ref x.1) none_ ∧ setable x.2 = true ∧ Dp K H (.ref x.1) x.2.toP) ∧ T.length < 64 ∧
  sortOk (T.map (·.2)) = true ∧ strictD (sortD (dedup (T.map (·.2)))) = true ∧ ∀ p (M : List (Addr × D)), H p = none → (∀ x ∈ M, x ∈ T) → M.map (·.2) = sortD (dedup (T.map (·.2))) → Q (.ref p) (upd H p (.lst (M.map fun x => V.ref x.1)))
def rLenSet (K : PySem.W.Frag) : List V → Hp → VK → Prop := fun xs H Q => ∃ (l : Addr) (T : List (Addr × D)) (S : Hp), xs = [.ref l] ∧ SqL K H l (T.map fun x => V.ref x.1) ∧ MP.Same S H ∧ (∀ x ∈ T, RepV K S H x.2 (.ref x.1) none_ ∧ setable x.2 = true) ∧ T.length < 64 ∧ Q (.int (dedup (T.map (·.2))).length) H
theorem refs_are {T : List (Addr × D)} : ∀ {us : List Value}, Vals (T.map fun x => V.ref x.1) us → us = T.map fun x => Value.ref x.1 := by
  induction T with
  | nil => intro us h; cases h; rfl
  | cons x T ih =>
    intro us h
    cases h with
    | cons r t => cases r; rw [List.map_cons, ih t]
theorem vals_are : ∀ (T : List (Addr × D)), Vals (T.map fun x => V.ref x.1) (T.map fun x => Value.ref x.1)
  | [] => .nil
  | _ :: T => .cons rfl (vals_are T)
theorem isN_of {pins : List (Addr × Obj)} {σ : L2.St} {H S : Hp} {s : Shared} (I : Inv X pins σ H s) (sub : MP.Same S H) {x : Addr × D} (h : RepV X.K S H x.2 (.ref x.1) none_ ∧ setable x.2 = true) : IsN s.heap (keyN x.2) x.1 := by
  obtain ⟨h1, h2⟩ := h
  unfold setable at h2
  simp only [Bool.and_eq_true] at h2
  exact ⟨rep_key I sub x.2 _ _ _ h2.1.2 h1 rfl, depth_sh 8 x.2 h2.2⟩
/-- what the set holds, by values -/
theorem got_values {T : List (Addr × D)} {L : List (Addr × NestedKey)} (hs : ∀ x ∈ T, setable x.2 = true) (un : (L.map (·.2)).Nodup) (g : GotN (T.map fun x => (x.1, keyN x.2)) (T.map fun x => (x.1, keyN x.2)).length L) :
    ∃ M : List (Addr × D), (L.map fun p => Value.ref p.1) = (M.map fun x => Value.ref x.1) ∧ (∀ x ∈ M, x ∈ T) ∧ (M.map (·.2)).Perm (dedup (T.map (·.2))) := by
  have keyable : ∀ x ∈ T, x.2.keyable = true := fun x hx => by
    have := hs x hx
    unfold setable at this
    simp only [Bool.and_eq_true] at this
    exact this.1.2
  have sub : ∀ p ∈ L, ∃ x ∈ T, p = (x.1, keyN x.2) := fun p hp => by
    have := g.sub p hp
    rw [List.take_length] at this
    obtain ⟨x, hx, e⟩ := List.mem_map.mp this
    exact ⟨x, hx, e.symm⟩
  have pick : ∀ L : List (Addr × NestedKey), (∀ p ∈ L, ∃ x ∈ T, p = (x.1, keyN x.2)) → ∃ M : List (Addr × D), L = M.map (fun x => (x.1, keyN x.2)) ∧ ∀ x ∈ M, x ∈ T := by
    intro L
    induction L with
    | nil => intro _; exact ⟨[], rfl, fun x hx => absurd hx List.not_mem_nil⟩
    | cons p L ih =>
      intro h
      obtain ⟨x, hx, e⟩ := h p List.mem_cons_self
      obtain ⟨M, e2, hM⟩ := ih fun r hr => h r (List.mem_cons_of_mem _ hr)
      refine ⟨x :: M, by rw [List.map_cons, ← e, ← e2], fun y hy => ?_⟩
      rcases List.mem_cons.mp hy with z | z
      · rw [z]; exact hx
      · exact hM y z
  obtain ⟨M, rfl, hM⟩ := pick L sub
  have dn := dedup_ok (ds := T.map (·.2)) (fun e he => by obtain ⟨x, hx, rfl⟩ := List.mem_map.mp he; exact hs x hx)
  refine ⟨M, by rw [List.map_map]; rfl, hM, ?_⟩
  refine (List.perm_ext_iff_of_nodup ?_ dn.1).mpr fun d => ?_
  · rw [List.map_map] at un
    have : (M.map ((fun d => keyN d) ∘ fun x => x.2)).Nodup := un
    rw [← List.map_map] at this
    exact nodup_of_map this
  · rw [dn.2]
    constructor
    · intro h
      obtain ⟨x, hx, rfl⟩ := List.mem_map.mp h
      exact List.mem_map.mpr ⟨x, hM x hx, rfl⟩
    · intro h
      obtain ⟨x, hx, rfl⟩ := List.mem_map.mp h
      have m := g.all (x.1, keyN x.2) (by rw [List.take_length]; exact List.mem_map.mpr ⟨x, hx, rfl⟩)
      rw [List.map_map] at m
      obtain ⟨y, hy, e⟩ := List.mem_map.mp m
      have e : keyN y.2 = keyN x.2 := e
      exact List.mem_map.mpr ⟨y, hy, keyN_inj _ _ (keyable y (hM y hy)) (keyable x hx) e⟩
theorem pe_lenSetN {a : Expr} {ta : TE} {p p2 q pos : Pos} (hc : X.calm = true) (hu : X.A.units + 64 < cLine) (hg : Gl X "len") (hm : X.mg "len" = none) (hg2 : Gl X "set") (hm2 : X.mg "set" = none) (ha : PE X a ta) (na : starEach [a] X.env = (false, eval a X.env) :: starEach [] X.env) :
    PE X (.Call (.Name "len" p) [.Call (.Name "set" p2) [a] [] q] [] pos) (tCB (rLenSet X.K) (tL [ta])) := by
  refine ⟨fun pins s σ H Q I h => ?_⟩
  refine Call_ (ld_blt I hg hm PySem.boot_len ?_)
  refine PyProof.Rows.callWith_builtin1 (PyProof.Rows.args_cons ?_ rfl) rfl rfl
  refine Call_ (ld_blt I hg2 hm2 PyProof.Rows.boot_set ?_)
  refine PyProof.Rows.callWith_type1 (PyProof.Rows.args_cons (thn (ha.run pins s σ H _ I h) fun v s1 ⟨x, H1, I1, r1, q1⟩ => PyProof.Rows.args_nil ?_) na) na rfl
  obtain ⟨l, T, S, ex, hq, sub, hT, few, q1⟩ := q1
  cases ex
  cases r1
  obtain ⟨its, r, pl, hz⟩ := I1.list hq
  refine call_setN (P := X.prog) (w := X.w) (T.map fun x => (x.1, keyN x.2)) (I1.ok.hd hc) pl.isList (by rw [List.toList_toArray, refs_are r, List.map_map]; rfl) (fun z hz => by obtain ⟨x, hx, rfl⟩ := List.mem_map.mp hz; exact isN_of I1 sub (hT x hx)) (by rw [List.length_map]; exact few) (by omega) fun h' tk L es ep t R g kp => ?_
  refine PyProof.Rows.args_nil ?_
  obtain ⟨M, e1, _, pm⟩ := got_values (fun x hx => (hT x hx).2) R.uniq g
  have len : es.size = (dedup (T.map (·.2))).length := by
    rw [rowN_len L R.ent, ← pm.length_eq, List.length_map]
    have := congrArg List.length e1
    simpa using this
  have hfew := R.few
  obtain ⟨o, ho, hex, hd⟩ := R.obj
  have I2 : Inv X pins σ H1 { s1 with heap := h', toks := tk } := I1.kept fun b o e => kp b o e
  refine call_len_set ho hex hd (SetN.fit (s := { s1 with heap := h', toks := tk }) R) (by rw [rowN_len L R.ent]; omega) ⟨.int (dedup (T.map (·.2))).length, H1, I2.tok _, ⟨_, by rw [len]⟩, q1⟩
theorem pe_sortSet {a : Expr} {ta : TE} {p p2 q pos : Pos} (hc : X.calm = true) (hu : X.A.units + 128 < cLine) (hg : Gl X "sorted") (hm : X.mg "sorted" = none) (hg2 : Gl X "set") (hm2 : X.mg "set" = none) (ha : PE X a ta) (na : starEach [a] X.env = (false, eval a X.env) :: starEach [] X.env) :
    PE X (.Call (.Name "sorted" p) [.Call (.Name "set" p2) [a] [] q] [] pos) (tCB (rSortSet X.K) (tL [ta])) := by
  refine ⟨fun pins s σ H Q I h => ?_⟩
  refine Call_ (ld_blt I hg hm PyProof.Rows.boot_sorted ?_)
  refine PyProof.Rows.callWith_builtin1 (PyProof.Rows.args_cons ?_ rfl) rfl rfl
  refine Call_ (ld_blt I hg2 hm2 PyProof.Rows.boot_set ?_)
  refine PyProof.Rows.callWith_type1 (PyProof.Rows.args_cons (thn (ha.run pins s σ H _ I h) fun v s1 ⟨x, H1, I1, r1, q1⟩ => PyProof.Rows.args_nil ?_) na) na rfl
  obtain ⟨l, T, S, ex, hq, sub, hT, few, so, st, q1⟩ := q1
  cases ex
  cases r1
  obtain ⟨its, r, pl, hz⟩ := I1.list hq
  refine call_setN (P := X.prog) (w := X.w) (T.map fun x => (x.1, keyN x.2)) (I1.ok.hd hc) pl.isList (by rw [List.toList_toArray, refs_are r, List.map_map]; rfl) (fun z hz => by obtain ⟨x, hx, rfl⟩ := List.mem_map.mp hz; exact isN_of I1 sub ⟨(hT x hx).1, (hT x hx).2.1⟩) (by rw [List.length_map]; exact few) (by omega) fun h' tk L es ep t R g kp => ?_
  refine PyProof.Rows.args_nil ?_
  obtain ⟨M, e1, hM, pm⟩ := got_values (fun x hx => (hT x hx).2.1) R.uniq g
  have I2 : Inv X pins σ H1 { s1 with heap := h', toks := tk } := I1.kept fun b o e => kp b o e
  have dn := dedup_ok (ds := T.map (·.2)) (fun e he => by obtain ⟨x, hx, rfl⟩ := List.mem_map.mp he; exact (hT x hx).2.1)
  have so' := so
  unfold sortOk at so'
  simp only [Bool.and_eq_true, Bool.or_eq_true] at so'
  have inT : ∀ x ∈ M, x.2 ∈ T.map (·.2) := fun x hx => List.mem_map.mpr ⟨x, hM x hx, rfl⟩
  have al : PySem.W.AllAlike (M.map fun x => x.2.toP) := by
    intro y hy z hz
    obtain ⟨y1, hy1, rfl⟩ := List.mem_map.mp hy
    obtain ⟨z1, hz1, rfl⟩ := List.mem_map.mp hz
    exact List.all_eq_true.mp (List.all_eq_true.mp so'.1.2 _ (inT y1 hy1)) _ (inT z1 hz1)
  have sb : PySem.W.Sortable (M.map fun x => x.2.toP) := by
    rcases so'.2 with k | k
    · refine .inl fun y hy => ?_
      obtain ⟨x, hx, rfl⟩ := List.mem_map.mp hy
      have k1 := List.all_eq_true.mp k _ (inT x hx)
      split at k1
      · rename_i o z zs e
        rw [e, D.toP, toPs]
        exact ⟨_, _, rfl⟩
      · cases k1
    · refine .inr fun y hy => ?_
      obtain ⟨x, hx, rfl⟩ := List.mem_map.mp hy
      have k1 := List.all_eq_true.mp k _ (inT x hx)
      cases e : x.2 with
      | tup o ys => rw [e] at k1; cases k1
      | non => rw [e] at k1; cases k1
      | _ => exact ⟨fun z => (by rw [D.toP] at z; cases z), fun xs z => (by rw [D.toP] at z; cases z)⟩
  refine sorted_setN (s := { s1 with heap := h', toks := tk }) (bs0 := M) (ad := fun x => x.1) (enc := fun x => x.2.toP) R (I1.ok.hd hc) e1 (fun x hx => Dp.reads I2 x.2.toP (.ref x.1) _ (hT x (hM x hx)).2.2 rfl) al sb (fun x hx => ?_) fun s' p out c bs1 k g1 o1 hp hg p1 eo => ?_
  · have k := (sh_can 60 x.2 (List.all_eq_true.mp so'.1.1 _ (inT x hx))).2
    omega
  have len1 : (bs1.mergeSort (PySem.W.dataLe false fun x : Addr × D => x.2.toP)).length = bs1.length := List.length_mergeSort _
  have few1 : bs1.length ≤ sizeLine := by
    have h1 := R.few
    have h2 := congrArg List.length e1
    rw [List.length_map, List.length_map] at h2
    rw [p1.length_eq, sizeLine_eq]
    omega
  have mem1 : ∀ x ∈ bs1.mergeSort (PySem.W.dataLe false fun x : Addr × D => x.2.toP), x ∈ T := fun x hx => hM x (p1.mem_iff.mp (List.mem_mergeSort.mp hx))
  have told : (bs1.mergeSort (PySem.W.dataLe false fun x : Addr × D => x.2.toP)).map (·.2) = sortD (dedup (T.map (·.2))) := by
    have e2 : (bs1.mergeSort (PySem.W.dataLe false fun x : Addr × D => x.2.toP)).map (·.2) = sortD (bs1.map (·.2)) := PySem.W.sort_maps (s := fun a b => !ltD b a) (fun x : Addr × D => x.2) fun a _ b _ => rfl
    rw [e2]
    exact sort_strict (strict_pw st) ((p1.map (·.2)).trans (pm.trans (List.mergeSort_perm _ _).symm))
  have hn : H1 p = none := I2.hok.fresh hp
  have hv : Vals ((bs1.mergeSort (PySem.W.dataLe false fun x : Addr × D => x.2.toP)).map fun x => V.ref x.1) out.toList := by rw [eo]; exact vals_are _
  have new : ObjOk X.prog X.w (upd H1 p (.lst ((bs1.mergeSort (PySem.W.dataLe false fun x : Addr × D => x.2.toP)).map fun x => V.ref x.1))) s'.heap p (.lst ((bs1.mergeSort (PySem.W.dataLe false fun x : Addr × D => x.2.toP)).map fun x => V.ref x.1)) := ⟨by rw [List.length_map, len1]; exact few1, out.toList, c, hv, hg⟩
  have J : L2.Inv X pins σ (upd H1 p (.lst ((bs1.mergeSort (PySem.W.dataLe false fun x : Addr × D => x.2.toP)).map fun x => V.ref x.1))) s' := I2.call' (ch := []) o1 (Un.laid k hp hn) (I2.hok.laid k hp new) (by rw [g1]; exact I2.bare) (fun _ z => nomatch z)
  exact ⟨.ref p, _, J, rfl, q1 p _ hn mem1 told⟩
end
end MP

set_option autoImplicit false
set_option linter.all false
set_option maxRecDepth 100000
/-! MP: sorted(set(..)), len(set(..)): as operations. -/
namespace MP
open PySem L2
section
variable {K : PySem.W.Frag} {S H : Hp}
theorem lay_T : ∀ {xs : List D} {vs : List V} {r : Own}, (∀ d ∈ xs, setable d = true) → RepVs K S H xs vs r → ∃ T : List (Addr × D), vs = T.map (fun x => V.ref x.1) ∧ xs = T.map (·.2) ∧ ∀ x ∈ T, RepV K S H x.2 (.ref x.1) none_
  | [], [], _, _, _ => ⟨[], rfl, rfl, fun x hx => absurd hx List.not_mem_nil⟩
  | [], _ :: _, _, _, h => by rw [RepVs] at h; exact h.elim
  | _ :: _, [], _, _, h => by rw [RepVs] at h; exact h.elim
  | d :: xs, v :: vs, r, hs, h => by
    rw [RepVs] at h
    obtain ⟨r1, r2, _, _, _, h1, h2⟩ := h
    obtain ⟨T, e1, e2, hT⟩ := lay_T (fun d hd => hs d (List.mem_cons_of_mem _ hd)) h2
    have sd := hs d List.mem_cons_self
    unfold setable at sd
    simp only [Bool.and_eq_true] at sd
    have isT : ∃ ys, d = .tup false ys := by
      have := sd.1.1
      split at this
      · exact ⟨_, rfl⟩
      · cases this
    obtain ⟨ys, rfl⟩ := isT
    have h3 := RepV.shared (H' := H) _ _ _ h1 rfl
    have h4 := h3
    rw [RepV] at h4
    obtain ⟨a, ws, rfl, _⟩ := h4
    refine ⟨(a, .tup false ys) :: T, by rw [List.map_cons, e1], by rw [List.map_cons, e2], fun x hx => ?_⟩
    rcases List.mem_cons.mp hx with z | z
    · rw [z]; exact h3
    · exact hT x z
theorem reps_T {M : List (Addr × D)} (h : ∀ x ∈ M, RepV K S H x.2 (.ref x.1) none_) : RepVs K S H (M.map (·.2)) (M.map fun x => V.ref x.1) none_ := by
  induction M with
  | nil => rw [List.map_nil, List.map_nil, RepVs]; trivial
  | cons x M ih =>
    rw [List.map_cons, List.map_cons, RepVs]
    exact ⟨none_, none_, fun _ z => z, fun _ z => z, fun _ z _ => z, h x List.mem_cons_self, ih fun y hy => h y (List.mem_cons_of_mem _ hy)⟩
theorem unfl_T {M : List (Addr × D)} (h : ∀ x ∈ M, setable x.2 = true) : unfl (M.map (·.2)) = true := by
  unfold unfl
  rw [List.all_eq_true]
  intro d hd
  obtain ⟨x, hx, rfl⟩ := List.mem_map.mp hd
  have sd := h x hx
  unfold setable at sd
  simp only [Bool.and_eq_true] at sd
  have := sd.1.1
  split at this
  · rename_i e; rw [e]; rfl
  · cases this
theorem dedup_len : ∀ ds : List D, (dedup ds).length ≤ ds.length
  | [] => Nat.le_refl _
  | d :: ds => by
    rw [dedup]
    have := dedup_len ds
    split
    · exact Nat.le_succ_of_le this
    · simp only [List.length_cons]; omega
theorem ok_lenset : OkC K o_lenset (rLenSet K) := by
  intro ds d xs S H Q e reps sub post
  unfold o_lenset at e
  split at e
  · rename_i o ys
    split at e
    · rename_i hm
      cases e
      rw [Bool.and_eq_true, decide_eq_true_eq, List.all_eq_true] at hm
      obtain ⟨x, rfl, ra⟩ := all2_inv1 reps
      obtain ⟨p, vs, r, rfl, q1, z, t⟩ := ra.lst sub
      obtain ⟨T, rfl, rfl, hT⟩ := lay_T hm.1 t
      exact ⟨p, T, S, rfl, q1, sub, fun x hx => ⟨hT x hx, hm.1 _ (List.mem_map.mpr ⟨x, hx, rfl⟩)⟩, by simpa using hm.2, post.int sub⟩
    · cases e
  · cases e
theorem ok_sortset : OkC K o_sortset (rSortSet K) := by
  intro ds d xs S H Q e reps sub post
  unfold o_sortset at e
  split at e
  · rename_i o ys
    split at e
    · rename_i hm
      cases e
      rw [Bool.and_eq_true, Bool.and_eq_true, Bool.and_eq_true, decide_eq_true_eq, List.all_eq_true] at hm
      obtain ⟨⟨⟨m1, m2⟩, m3⟩, m4⟩ := hm
      obtain ⟨x, rfl, ra⟩ := all2_inv1 reps
      obtain ⟨p, vs, r, rfl, q1, z, t⟩ := ra.lst sub
      obtain ⟨T, rfl, rfl, hT⟩ := lay_T m1 t
      have st : ∀ x ∈ T, setable x.2 = true := fun x hx => m1 _ (List.mem_map.mpr ⟨x, hx, rfl⟩)
      have dn := dedup_ok m1
      refine ⟨p, T, S, rfl, q1, sub, fun x hx => ⟨hT x hx, st x hx, ?_⟩, by simpa using m2, m3, m4, fun l M nl hM eM => ?_⟩
      · have sd := st x hx
        unfold setable at sd
        simp only [Bool.and_eq_true] at sd
        exact RepV.dp sub 8 x.2 _ _ (hT x hx) sd.2
      · rw [← eM] at post
        refine post.list sub (unfl_T fun x hx => st x (hM x hx)) (reps_T fun x hx => hT x (hM x hx)) ?_ nl
        have l1 := congrArg List.length eM
        rw [List.length_map] at l1
        have l2 : (sortD (dedup (T.map (·.2)))).length = (dedup (T.map (·.2))).length := List.length_mergeSort _
        have l3 := dedup_len (T.map (·.2))
        have l4 : T.length < 64 := by simpa using m2
        rw [List.length_map] at l3 ⊢
        rw [sizeLine_eq]
        omega
    · cases e
  · cases e
end
end MP

set_option autoImplicit false
set_option linter.all false
set_option maxRecDepth 100000
/-! MP: operations and the syntax that writes them. -/
namespace MP
open PySem L2

/-- what is known of a piece of code: its names, its scope, the names that it may store, the table, the module's constants -/
structure Gx where
  N : List Str
  sc : Scope
  asn : List Str
  T : Tab
  cs : List (Str × D)
def glb (sc : Scope) (x : Str) : Bool := decide (sc.names.lookup x = some .globalImplicit)
def vis (sc : Scope) (x : Str) : Bool := decide (sc.names.lookup x = some .local) || decide (sc.names.lookup x = some .cell) || decide (sc.names.lookup x = some .free)
def loc (sc : Scope) (x : Str) : Bool := decide (sc.names.lookup x = some .local) || decide (sc.names.lookup x = some .cell)
def plainName (x : Str) : Bool := !(x == ("__debug__" : Str)) && !(x == ("__classdict__" : Str)) && !(x == ("__name__" : Str))
def blt : List Str := ["abs", "min", "max", "len", "sum", "any", "all", "sorted", "list", "tuple", "int", "str", "isinstance", "range", "enumerate", "zip", "set", "reversed", "bool"]

structure Sit (M : Md) (n : Nat) (g : Gx) (X : Cx) (W : WX) : Prop where
  prog : X.prog = M.P
  w : X.w = M.w
  K : X.K = M.K
  mg : X.mg = M.mg
  base : X.base = M.base
  N : X.N = g.N
  nd : g.N.Nodup
  sc : X.env.scope = g.sc
  calm : X.calm = true
  tk : Takes X W
  room : Room n X.A
  fn : ∀ x, x ∈ g.asn → Loc X.env.scope x ∧ (X.fn x = true ∨ X.env.scope.names.lookup x = some .local)
  T : g.T = M.T
  cs : ∀ p ∈ g.cs, ∃ v u, M.mg p.1 = some u ∧ RelV v u ∧ p.2.fl = false ∧ ∀ S H, RepV M.K S H p.2 v none_
  free0 : ∀ x ∈ MP.blt, M.mg x = none
  pass : PassesOwn (model X.prog X.w) X.A X.env X.xe

/-- by position: two things, one -/
def L2r (r : R2) : List V → Hp → VK → Prop
  | [x, y], H, Q => r x y H Q
  | _, _, _ => False
def L1r (r : V → Hp → VK → Prop) : List V → Hp → VK → Prop
  | [x], H, Q => r x H Q
  | _, _, _ => False
theorem Ok2.c {K : PySem.W.Frag} {f : List D → Option D} {r : R2} (h : Ok2 K f r) (two : ∀ ds d, f ds = some d → ds.length = 2) : OkC K f (L2r r) := by
  intro ds d xs S H Q e reps sub post
  have l := two ds d e
  have l2 := reps.len
  match xs, l2 with
  | [x, y], _ => exact h ds d x y S H Q e reps sub post
  | [], l2 => simp [l] at l2
  | [_], l2 => simp [l] at l2
  | _ :: _ :: _ :: _, l2 => simp [l] at l2
theorem Ok1.c {K : PySem.W.Frag} {f : List D → Option D} {r : V → Hp → VK → Prop} (h : Ok1 K f r) (one : ∀ ds d, f ds = some d → ds.length = 1) : OkC K f (L1r r) := by
  intro ds d xs S H Q e reps sub post
  have l := one ds d e
  have l2 := reps.len
  match xs, l2 with
  | [x], _ => exact h ds d x S H Q e reps sub post
  | [], l2 => simp [l] at l2
  | _ :: _ :: _, l2 => simp [l] at l2

def ixOk : Expr → Bool
  | .Slice _ _ _ _ => false
  | _ => true
def isN (x : Str) (sc : Scope) (s : Str) : Bool := decide (x = s) && glb sc x
def blts : Op → Option Str
  | .len => some "len" | .abs => some "abs" | .min1 => some "min" | .max1 => some "max" | .min2 => some "min" | .max2 => some "max"
  | .sum => some "sum" | .any => some "any" | .all => some "all" | .sorted => some "sorted" | .list => some "list" | .tuple => some "tuple" | .int => some "int" | .str => some "str"
  | _ => none
def slArgs : Bool → Bool → Option Expr → Option Expr → Option (List Expr)
  | true, true, some a, some b => some [a, b]
  | true, false, some a, none => some [a]
  | false, true, none, some b => some [b]
  | false, false, none, none => some []
  | _, _, _, _ => none
/-- a built-in type's name -/
def tyNm : Ty → Option String
  | .int => some "int" | .bool => some "bool" | .str => some "str" | .tuple => some "tuple" | .list => some "list"
  | .cls _ => none
def isiArgs (sc : Scope) (o : Op) (x : Str) (a : Expr) (as : List Expr) : Option (List Expr) := match o, as with
  | .isi [t], [.Name y _] => match tyNm t with
    | some n => if isN x sc "isinstance" && isN y sc (Str.ofString n) then some [a] else none
    | none => none
  | _, _ => none
def setArgs (sc : Scope) (o : Op) (x : Str) (a : Expr) (as : List Expr) : Option (List Expr) := match o, a, as with
  | .sortset, .Call (.Name y _) [e] [] _, [] => if isN x sc "sorted" && isN y sc "set" then some [e] else none
  | .lenset, .Call (.Name y _) [e] [] _, [] => if isN x sc "len" && isN y sc "set" then some [e] else none
  | .lrev, .Call (.Name y _) [e] [] _, [] => if isN x sc "list" && isN y sc "reversed" then some [e] else none
  | _, _, _ => none
/-- the operands of an operation, as the text writes it -/
def opArgs (sc : Scope) (o : Op) (e : Expr) : Option (List Expr) := match e with
  | .BinOp a b c _ => match o, b with
    | .add, .Add => some [a, c]
    | .sub, .Sub => some [a, c]
    | .mul, .Mult => some [a, c]
    | .fdiv, .FloorDiv => some [a, c]
    | .mod, .Mod => some [a, c]
    | .pow, .Pow => some [a, c]
    | _, _ => none
  | .UnaryOp u a _ => match o, u with
    | .neg, .USub => some [a]
    | _, _ => none
  | .Compare a [c] [b] _ => match o, c with
    | .eq, .Eq => some [a, b]
    | .ne, .NotEq => some [a, b]
    | .lt, .Lt => some [a, b]
    | .le, .LtE => some [a, b]
    | .gt, .Gt => some [a, b]
    | .ge, .GtE => some [a, b]
    | .mem, .In => some [a, b]
    | .nmem, .NotIn => some [a, b]
    | .isN, .Is => match b with
      | .Constant .none _ _ => some [a]
      | _ => none
    | .notN, .IsNot => match b with
      | .Constant .none _ _ => some [a]
      | _ => none
    | .isF, .Is => match b with
      | .Constant (.bool false) _ _ => some [a]
      | _ => none
    | .notF, .IsNot => match b with
      | .Constant (.bool false) _ _ => some [a]
      | _ => none
    | _, _ => none
  | .Subscript a b _ => match o with
    | .ix => if ixOk b then some [a, b] else none
    | .sl lo hi => match b with
      | .Slice l h none _ => (slArgs lo hi l h).map fun r => a :: r
      | _ => none
    | .rev => match b with
      | .Slice none none (some (.UnaryOp .USub (.Constant (.int 1) _ _) _)) _ => some [a]
      | _ => none
    | _ => none
  | .Call (.Name x _) (a :: as) [] _ => match blts o with
    | some s => if isN x sc s then some (a :: as) else none
    | none => match setArgs sc o x a as with
      | some es => some es
      | none => isiArgs sc o x a as
  | _ => none

theorem plain_ix {b : Expr} (h : ixOk b = true) : PlainIx b := by
  intro o i
  unfold subscripted
  cases b <;> first | rfl | cases h

section
variable {M : Md} {n : Nat} {g : Gx} {X : Cx} {W : WX}
theorem Sit.hu (s : Sit M n g X W) : X.A.units + 65 < cLine := by
  have := s.room.un
  omega
theorem Sit.gl (s : Sit M n g X W) {x : Str} (h : glb g.sc x = true) : Gl X x := by
  unfold Gl Env.kindOf
  rw [s.sc]
  exact of_decide_eq_true h
theorem Sit.free (s : Sit M n g X W) {x : Str} (h : x ∈ MP.blt) : X.mg x = none := by rw [s.mg]; exact s.free0 x h
/-- parts of a slice: ints at the end -/
def rSl2 (r : V → Option Int → Option Int → Hp → VK → Prop) : List V → Hp → VK → Prop := fun vs H Q => match vs with
  | [x, .int i, .int j] => r x (some i) (some j) H Q
  | _ => False
def rSlLo (r : V → Option Int → Option Int → Hp → VK → Prop) : List V → Hp → VK → Prop := fun vs H Q => match vs with
  | [x, .int i] => r x (some i) none H Q
  | _ => False
def rSlHi (r : V → Option Int → Option Int → Hp → VK → Prop) : List V → Hp → VK → Prop := fun vs H Q => match vs with
  | [x, .int j] => r x none (some j) H Q
  | _ => False
def rSlNo (r : V → Option Int → Option Int → Hp → VK → Prop) : List V → Hp → VK → Prop := fun vs H Q => match vs with
  | [x] => r x none none H Q
  | _ => False
/-- a[lo:hi], the parts' kinds asked at the end -/
theorem slice_core {r : V → Option Int → Option Int → Hp → VK → Prop} (hr : SlR X r) {e : Expr} {l h : Option Expr} {p2 : Pos} {pins : List (Addr × Obj)} {s3 : Shared} {σ : L2.St} {H3 : Hp} {Q : VK} {x : V} {v vl vu : Value} {lo hi : Option Int}
    (I3 : Inv X pins σ H3 s3) (r1 : RelV x v) (pl : IsPart vl lo) (pu : IsPart vu hi) (q3 : r x lo hi H3 Q) :
    wpAny (model X.prog X.w) X.A (PyProof.Rows.subscriptTail e (.Slice l h none p2) v (.ref s3.heap.objs.size)) (EP X pins σ Q) X.xe { s3 with heap := s3.heap.push { cls := .type "slice", data := .fields #[vl, vu, .none] } } := by
  have I4 : Inv X pins σ H3 { s3 with heap := s3.heap.push { cls := .type "slice", data := .fields #[vl, vu, .none] } } := I3.kept (t' := s3.toks) fun b ob q => Heap.get?_push_of_some _ q
  obtain ⟨T, id, hT, ht, hg⟩ := hr pins _ σ H3 x v vl vu lo hi s3.heap.objs.size Q I4 r1 (Heap.IsSliceOf.new ..) pl pu q3
  exact PyProof.Rows.tail_any (ops := [.ref s3.heap.objs.size, v]) ht hT hg (by with_unfolding_all rfl)
theorem pe_sl2 {r : V → Option Int → Option Int → Hp → VK → Prop} (hr : SlR X r) {e a b : Expr} {te ta tb : TE} {p2 pos : Pos} (he : PE X e te) (ha : PE X a ta) (hb : PE X b tb) : PE X (.Subscript e (.Slice (some a) (some b) none p2) pos) (tCB (rSl2 r) (tL [te, ta, tb])) := by
  refine ⟨fun pins s σ H Q I h => ?_⟩
  refine PyProof.Rows.Subscript_ (thn (he.run pins s σ H _ I h) fun v s1 ⟨x, H1, I1, r1, q1⟩ => ?_)
  refine wpAny_Slice (thn (ha.run pins s1 σ H1 _ I1 q1) fun vl s2 ⟨y, H2, I2, r2, q2⟩ => thn (hb.run pins s2 σ H2 _ I2 q2) fun vu s3 ⟨z, H3, I3, r3, q3⟩ => ?_)
  rw [evalPart_none]
  refine wpAny_pure ?_
  have q3 : rSl2 r [x, y, z] H3 Q := q3
  unfold rSl2 at q3
  split at q3
  · rename_i x' i j e3
    simp only [List.cons.injEq, and_true] at e3
    obtain ⟨rfl, rfl, rfl⟩ := e3
    obtain ⟨t1, rfl⟩ := r2
    obtain ⟨t2, rfl⟩ := r3
    exact slice_core hr I3 r1 (.int i t1) (.int j t2) q3
  · exact q3.elim
theorem pe_slLo {r : V → Option Int → Option Int → Hp → VK → Prop} (hr : SlR X r) {e a : Expr} {te ta : TE} {p2 pos : Pos} (he : PE X e te) (ha : PE X a ta) : PE X (.Subscript e (.Slice (some a) none none p2) pos) (tCB (rSlLo r) (tL [te, ta])) := by
  refine ⟨fun pins s σ H Q I h => ?_⟩
  refine PyProof.Rows.Subscript_ (thn (he.run pins s σ H _ I h) fun v s1 ⟨x, H1, I1, r1, q1⟩ => ?_)
  refine wpAny_Slice (thn (ha.run pins s1 σ H1 _ I1 q1) fun vl s2 ⟨y, H2, I2, r2, q2⟩ => ?_)
  rw [evalPart_none]
  refine wpAny_pure (wpAny_pure ?_)
  have q3 : rSlLo r [x, y] H2 Q := q2
  unfold rSlLo at q3
  split at q3
  · rename_i x' i e3
    simp only [List.cons.injEq, and_true] at e3
    obtain ⟨rfl, rfl⟩ := e3
    obtain ⟨t1, rfl⟩ := r2
    exact slice_core hr I2 r1 (.int i t1) .none q3
  · exact q3.elim
theorem pe_slHi {r : V → Option Int → Option Int → Hp → VK → Prop} (hr : SlR X r) {e a : Expr} {te ta : TE} {p2 pos : Pos} (he : PE X e te) (ha : PE X a ta) : PE X (.Subscript e (.Slice none (some a) none p2) pos) (tCB (rSlHi r) (tL [te, ta])) := by
  refine ⟨fun pins s σ H Q I h => ?_⟩
  refine PyProof.Rows.Subscript_ (thn (he.run pins s σ H _ I h) fun v s1 ⟨x, H1, I1, r1, q1⟩ => ?_)
  refine wpAny_Slice ?_
  rw [evalPart_none]
  refine wpAny_pure (thn (ha.run pins s1 σ H1 _ I1 q1) fun vl s2 ⟨y, H2, I2, r2, q2⟩ => ?_)
  refine wpAny_pure ?_
  have q3 : rSlHi r [x, y] H2 Q := q2
  unfold rSlHi at q3
  split at q3
  · rename_i x' i e3
    simp only [List.cons.injEq, and_true] at e3
    obtain ⟨rfl, rfl⟩ := e3
    obtain ⟨t1, rfl⟩ := r2
    exact slice_core hr I2 r1 .none (.int i t1) q3
  · exact q3.elim
theorem pe_slNo {r : V → Option Int → Option Int → Hp → VK → Prop} (hr : SlR X r) {e : Expr} {te : TE} {p2 pos : Pos} (he : PE X e te) : PE X (.Subscript e (.Slice none none none p2) pos) (tCB (rSlNo r) (tL [te])) := by
  refine ⟨fun pins s σ H Q I h => ?_⟩
  refine PyProof.Rows.Subscript_ (thn (he.run pins s σ H _ I h) fun v s1 ⟨x, H1, I1, r1, q1⟩ => ?_)
  refine wpAny_Slice ?_
  rw [evalPart_none]
  refine wpAny_pure (wpAny_pure (wpAny_pure ?_))
  exact slice_core hr I1 r1 .none .none q1

/-- what an operation's expression does, its operands reckoned -/
def OpE (M : Md) (X : Cx) (o : Op) (e : Expr) (es : List Expr) : Prop := ∃ r, OkC M.K (opF M.T.sub o) r ∧ ∀ ts, All2 (PE X) es ts → PE X e (tCB r (tL ts))
theorem ope2 {o : Op} {e a b : Expr} {r : R2} (ok : Ok2 M.K (opF M.T.sub o) r) (two : ∀ ds d, opF M.T.sub o ds = some d → ds.length = 2) (h : ∀ ta tb, PE X a ta → PE X b tb → PE X e (tOp r ta tb)) : OpE M X o e [a, b] := by
  refine ⟨L2r r, ok.c two, fun ts all => ?_⟩
  cases all with
  | cons h1 t => cases t with
    | cons h2 t2 => cases t2; exact h _ _ h1 h2
theorem ope1 {o : Op} {e a : Expr} {r : V → Hp → VK → Prop} (ok : Ok1 M.K (opF M.T.sub o) r) (one : ∀ ds d, opF M.T.sub o ds = some d → ds.length = 1) (h : ∀ ta, PE X a ta → PE X e (tUn r ta)) : OpE M X o e [a] := by
  refine ⟨L1r r, ok.c one, fun ts all => ?_⟩
  cases all with
  | cons h1 t => cases t; exact h _ h1
theorem opec {o : Op} {x : Str} {p pos : Pos} {a : Expr} {as : List Expr} {id : String} {r : List V → Hp → VK → Prop} (ok : OkC M.K (opF M.T.sub o) r) (hc : CallR X (.builtin id) r) (hg : Gl X x) (hm : X.mg x = none) (hv : bootBuiltins x = some (.builtin id)) (hn : x ≠ "__name__") (hdb : (x == ("__debug__" : Str)) = false)
    (pl : ∀ e ∈ a :: as, plainX e = true) : OpE M X o (.Call (.Name x p) (a :: as) [] pos) (a :: as) := by
  refine ⟨r, ok, fun ts all => ?_⟩
  exact pe_callB hc hg hm hv (pa_all pl all) hn hdb (star_plain (pl a List.mem_cons_self) _ _) (stars_none (fun e he => pl e (List.mem_cons_of_mem _ he)) _ _)
theorem opety {o : Op} {x : Str} {p pos : Pos} {a : Expr} {as : List Expr} {id : String} {r : List V → Hp → VK → Prop} (ok : OkC M.K (opF M.T.sub o) r) (hc : CallR X (.type id) r) (hg : Gl X x) (hm : X.mg x = none) (hv : bootBuiltins x = some (.type id)) (hn : x ≠ "__name__") (hdb : (x == ("__debug__" : Str)) = false)
    (pl : ∀ e ∈ a :: as, plainX e = true) : OpE M X o (.Call (.Name x p) (a :: as) [] pos) (a :: as) := by
  refine ⟨r, ok, fun ts all => ?_⟩
  exact pe_callTy hc hg hm hv (pa_all pl all) hn hdb (star_plain (pl a List.mem_cons_self) _ _) (stars_none (fun e he => pl e (List.mem_cons_of_mem _ he)) _ _)

theorem len2_add {ds : List D} {d : D} (h : o_add ds = some d) : ds.length = 2 := by unfold o_add at h; split at h <;> first | rfl | cases h
theorem len2_sub {ds : List D} {d : D} (h : o_sub ds = some d) : ds.length = 2 := by unfold o_sub at h; split at h <;> first | rfl | cases h
theorem len2_mul {ds : List D} {d : D} (h : o_mul ds = some d) : ds.length = 2 := by unfold o_mul at h; split at h <;> first | rfl | cases h
theorem len2_fdiv {ds : List D} {d : D} (h : o_fdiv ds = some d) : ds.length = 2 := by unfold o_fdiv at h; split at h <;> first | rfl | cases h
theorem len2_mod {ds : List D} {d : D} (h : o_mod ds = some d) : ds.length = 2 := by unfold o_mod at h; split at h <;> first | rfl | cases h
theorem len2_pow {ds : List D} {d : D} (h : o_pow ds = some d) : ds.length = 2 := by unfold o_pow at h; split at h <;> first | rfl | cases h
theorem len1_neg {ds : List D} {d : D} (h : o_neg ds = some d) : ds.length = 1 := by unfold o_neg at h; split at h <;> first | rfl | cases h
theorem len2_eq {ds : List D} {d : D} (h : o_eq ds = some d) : ds.length = 2 := by unfold o_eq at h; split at h <;> first | rfl | cases h
theorem len2_ne {ds : List D} {d : D} (h : o_ne ds = some d) : ds.length = 2 := by unfold o_ne at h; split at h <;> first | rfl | cases h
theorem len2_lt {ds : List D} {d : D} (h : o_lt ds = some d) : ds.length = 2 := by unfold o_lt at h; split at h <;> first | rfl | cases h
theorem len2_le {ds : List D} {d : D} (h : o_le ds = some d) : ds.length = 2 := by unfold o_le at h; split at h <;> first | rfl | cases h
theorem len2_gt {ds : List D} {d : D} (h : o_gt ds = some d) : ds.length = 2 := by unfold o_gt at h; split at h <;> first | rfl | cases h
theorem len2_ge {ds : List D} {d : D} (h : o_ge ds = some d) : ds.length = 2 := by unfold o_ge at h; split at h <;> first | rfl | cases h
theorem len2_mem {ds : List D} {d : D} (h : o_mem ds = some d) : ds.length = 2 := by unfold o_mem at h; split at h <;> first | rfl | cases h
theorem len2_nmem {ds : List D} {d : D} (h : o_nmem ds = some d) : ds.length = 2 := by unfold o_nmem at h; split at h <;> first | rfl | cases h
theorem len1_isN {ds : List D} {d : D} (h : o_isN ds = some d) : ds.length = 1 := by unfold o_isN at h; split at h <;> first | rfl | cases h
theorem len1_notN {ds : List D} {d : D} (h : o_notN ds = some d) : ds.length = 1 := by unfold o_notN at h; split at h <;> first | rfl | cases h
theorem len2_ix {ds : List D} {d : D} (h : o_ix ds = some d) : ds.length = 2 := by unfold o_ix at h; split at h <;> first | rfl | cases h

theorem len1_isF {ds : List D} {d : D} (h : o_isF ds = some d) : ds.length = 1 := by unfold o_isF at h; split at h <;> first | rfl | cases h
theorem len1_notF {ds : List D} {d : D} (h : o_notF ds = some d) : ds.length = 1 := by unfold o_notF at h; split at h <;> first | rfl | cases h
theorem len1_rev {ds : List D} {d : D} (h : o_rev ds = some d) : ds.length = 1 := by unfold o_rev at h; split at h <;> first | rfl | cases h
theorem rep_int {K : PySem.W.Frag} {S H : Hp} {i : Int} {x : V} (h : Rep K S H (.int i) x) : x = .int i := h.int
theorem okc_sl2 {r : V → Option Int → Option Int → Hp → VK → Prop} (ok : OkSl M.K r) : OkC M.K (o_sl true true) (rSl2 r) := by
  intro ds d xs S H Q e reps sub post
  unfold o_sl at e
  split at e
  · rename_i d0 as
    split at e
    · rename_i i j h1 h2
      cases reps with
      | cons ra t =>
        obtain ⟨y, z, rfl, rb, rc⟩ := all2_inv2 t
        rw [rb.int, rc.int]
        exact ok d0 d (some i) (some j) _ S H Q e ra sub post
    all_goals first | contradiction | cases e
  · cases e
theorem okc_slLo {r : V → Option Int → Option Int → Hp → VK → Prop} (ok : OkSl M.K r) : OkC M.K (o_sl true false) (rSlLo r) := by
  intro ds d xs S H Q e reps sub post
  unfold o_sl at e
  split at e
  · rename_i d0 as
    split at e
    all_goals first | contradiction | skip
    · rename_i i h1 h2
      cases reps with
      | cons ra t =>
        obtain ⟨y, rfl, rb⟩ := all2_inv1 t
        rw [rb.int]
        exact ok d0 d (some i) none _ S H Q e ra sub post
    all_goals cases e
  · cases e
theorem okc_slHi {r : V → Option Int → Option Int → Hp → VK → Prop} (ok : OkSl M.K r) : OkC M.K (o_sl false true) (rSlHi r) := by
  intro ds d xs S H Q e reps sub post
  unfold o_sl at e
  split at e
  · rename_i d0 as
    split at e
    all_goals first | contradiction | skip
    · rename_i i h1 h2
      cases reps with
      | cons ra t =>
        obtain ⟨y, rfl, rb⟩ := all2_inv1 t
        rw [rb.int]
        exact ok d0 d none (some i) _ S H Q e ra sub post
    all_goals cases e
  · cases e
theorem okc_slNo {r : V → Option Int → Option Int → Hp → VK → Prop} (ok : OkSl M.K r) : OkC M.K (o_sl false false) (rSlNo r) := by
  intro ds d xs S H Q e reps sub post
  unfold o_sl at e
  split at e
  · rename_i d0 as
    split at e
    all_goals first | contradiction | skip
    · obtain ⟨y, rfl, rb⟩ := all2_inv1 reps
      exact ok d0 d none none _ S H Q e rb sub post
    all_goals cases e
  · cases e

theorem bb_len : bootBuiltins ("len" : Str) = some (.builtin "len") := by decide +kernel
theorem bb_abs : bootBuiltins ("abs" : Str) = some (.builtin "abs") := by decide +kernel
theorem bb_min : bootBuiltins ("min" : Str) = some (.builtin "min") := by decide +kernel
theorem bb_max : bootBuiltins ("max" : Str) = some (.builtin "max") := by decide +kernel
theorem bb_sum : bootBuiltins ("sum" : Str) = some (.builtin "sum") := by decide +kernel
theorem bb_any : bootBuiltins ("any" : Str) = some (.builtin "any") := by decide +kernel
theorem bb_all : bootBuiltins ("all" : Str) = some (.builtin "all") := by decide +kernel
theorem bb_sorted : bootBuiltins ("sorted" : Str) = some (.builtin "sorted") := by decide +kernel
theorem bb_list : bootBuiltins ("list" : Str) = some (.type "list") := by decide +kernel
theorem bb_tuple : bootBuiltins ("tuple" : Str) = some (.type "tuple") := by decide +kernel
theorem bb_int : bootBuiltins ("int" : Str) = some (.type "int") := by decide +kernel
theorem in_len : ("len" : Str) ∈ MP.blt := by decide +kernel
theorem in_abs : ("abs" : Str) ∈ MP.blt := by decide +kernel
theorem in_min : ("min" : Str) ∈ MP.blt := by decide +kernel
theorem in_max : ("max" : Str) ∈ MP.blt := by decide +kernel
theorem in_sum : ("sum" : Str) ∈ MP.blt := by decide +kernel
theorem in_any : ("any" : Str) ∈ MP.blt := by decide +kernel
theorem in_all : ("all" : Str) ∈ MP.blt := by decide +kernel
theorem in_sorted : ("sorted" : Str) ∈ MP.blt := by decide +kernel
theorem in_list : ("list" : Str) ∈ MP.blt := by decide +kernel
theorem in_tuple : ("tuple" : Str) ∈ MP.blt := by decide +kernel
theorem in_int : ("int" : Str) ∈ MP.blt := by decide +kernel

theorem bb_isi : bootBuiltins ("isinstance" : Str) = some (.builtin "isinstance") := by decide +kernel
theorem bb_bool : bootBuiltins ("bool" : Str) = some (.type "bool") := by decide +kernel
theorem bb_str : bootBuiltins ("str" : Str) = some (.type "str") := by decide +kernel
theorem in_isi : ("isinstance" : Str) ∈ MP.blt := by decide +kernel
theorem in_bool : ("bool" : Str) ∈ MP.blt := by decide +kernel
theorem in_str : ("str" : Str) ∈ MP.blt := by decide +kernel
def tyName : D → String
  | .non => "NoneType" | .bl _ => "bool" | .int _ => "int" | .str _ => "str" | .tup _ _ => "tuple" | .lst _ _ => "list" | .dic _ _ _ _ => "dict" | _ => ""
theorem ty_rep {K : PySem.W.Frag} {S H : Hp} {d : D} {x : V} (h : Rep K S H d x) (sub : MP.Same S H) : TyX K H x (.type (tyName d)) ∧ tyName d ≠ "" := by
  obtain ⟨r, h⟩ := h
  cases d with
  | non => rw [RepV] at h; subst h; exact ⟨.base .non, by decide⟩
  | bl b => rw [RepV] at h; subst h; exact ⟨.base (.bl b), by show "bool" ≠ ""; decide⟩
  | int i => rw [RepV] at h; subst h; exact ⟨.base (.int i), by show "int" ≠ ""; decide⟩
  | str z => rw [RepV] at h; rw [h.1]; exact ⟨.base (.str _), by show "str" ≠ ""; decide⟩
  | tup o xs =>
    rw [RepV] at h
    obtain ⟨a, vs, rfl, q, _⟩ := h
    refine ⟨?_, by show "tuple" ≠ ""; decide⟩
    exact .base (.tup (sub _ _ q))
  | lst o xs =>
    refine ⟨?_, by show "list" ≠ ""; decide⟩
    cases o with
    | false =>
      rw [RepV] at h
      obtain ⟨a, vs, rfl, q, _⟩ := h
      rcases SqL.mono q sub with (e | ⟨o, e⟩) | ⟨o, its, n, e, c, _⟩
      · exact .base (.lst e)
      · exact .base (.frz e)
      · exact .kList e c
    | true =>
      rw [RepV] at h
      obtain ⟨a, vs, r', rfl, e, _⟩ := h
      exact .base (.lst e)
  | dic o kd ks vs =>
    refine ⟨?_, by show "dict" ≠ ""; decide⟩
    obtain ⟨a, ws, ho, r', rfl, q, q2, z, l, t⟩ := Rep.dic sub ⟨r, h⟩
    have hd : kd = 0 ∨ kd = 1 := by
      unfold dicHO at q
      split at q
      · exact .inl (by assumption)
      · split at q
        · exact .inr (by assumption)
        · cases q
    rcases hd with rfl | rfl
    · obtain ⟨kk, e1, nd, rfl⟩ := dicHO_0 q
      exact .base (.dK q2)
    · obtain ⟨kk, e1, nd, rfl⟩ := dicHO_1 q
      exact .base (.dT q2)
  | set _ => rw [RepV] at h; exact h.elim
  | ins _ _ _ _ => rw [RepV] at h; exact h.elim
  | exn _ => rw [RepV] at h; exact h.elim
theorem kit_tab {sub : Nat → Nat → Bool} {d : D} {t : Ty} {n : String} (hd : tyName d ≠ "") (ht : tyNm t = some n) : kitB (tyName d) n = some (tyOf sub d t) := by
  cases t <;> cases ht <;> cases d <;> first | exact absurd rfl hd | (simp only [tyName, tyOf]; decide +kernel)
def rIs1 (K : PySem.W.Frag) (n : String) : List V → Hp → VK → Prop := fun xs H Q => match xs with
  | [x] => rIsi K [x, .ty n] H Q
  | _ => False
theorem ok_isi {K : PySem.W.Frag} {sub : Nat → Nat → Bool} {t : Ty} {n : String} (ht : tyNm t = some n) : OkC K (opF sub (.isi [t])) (rIs1 K n) := by
  intro ds d xs S H Q e reps sb post
  have e : o_isi sub [t] ds = some d := e
  unfold o_isi at e
  split at e
  · rename_i d0
    cases e
    obtain ⟨x, rfl, rx⟩ := all2_inv1 reps
    obtain ⟨ty, nd⟩ := ty_rep rx sb
    refine ⟨x, .ty n, _, .type n, _, rfl, .ty n, ty, kit_ty (kit_tab (sub := sub) nd ht), ?_⟩
    have p := post.bl sb
    simpa using p
  · cases e
theorem isi_tie (s : Sit M n g X W) {o : Op} {x : Str} {p pos : Pos} {a : Expr} {as es : List Expr} (h : isiArgs g.sc o x a as = some es) (pl : ∀ e ∈ es, plainX e = true) : OpE M X o (.Call (.Name x p) (a :: as) [] pos) es := by
  unfold isiArgs at h
  split at h
  · rename_i t y py
    split at h
    · rename_i nm ht
      split at h
      · rename_i hx
        cases h
        rw [Bool.and_eq_true] at hx
        obtain ⟨h1, h2⟩ := hx
        unfold isN at h1 h2
        simp only [Bool.and_eq_true, decide_eq_true_eq] at h1 h2
        obtain ⟨rfl, g1⟩ := h1
        obtain ⟨rfl, g2⟩ := h2
        have pa := pl a List.mem_cons_self
        have ty : PE X (.Name (Str.ofString nm) py) (tC (.ty nm)) := by
          cases t <;> cases ht
          · exact pe_bltn (s.gl g2) (s.free in_int) bb_int rfl (by decide) (by decide)
          · exact pe_bltn (s.gl g2) (s.free in_bool) bb_bool rfl (by decide) (by decide)
          · exact pe_bltn (s.gl g2) (s.free in_str) bb_str rfl (by decide) (by decide)
          · exact pe_bltn (s.gl g2) (s.free in_tuple) bb_tuple rfl (by decide) (by decide)
          · exact pe_bltn (s.gl g2) (s.free in_list) bb_list rfl (by decide) (by decide)
        refine ⟨rIs1 M.K nm, ok_isi ht, fun ts all => ?_⟩
        cases all with
        | cons ha t =>
          cases t
          have pl2 : ∀ e ∈ [a, .Name (Str.ofString nm) py], plainX e = true := fun e he => by
            rcases List.mem_cons.mp he with q | q
            · rw [q]; exact pa
            · rw [List.mem_singleton] at q; rw [q]; rfl
          have k := pe_callB (pos := pos) (p := p) call_isi (s.gl g1) (s.free in_isi) bb_isi (pa_all pl2 (.cons ha (.cons ty .nil))) (by decide) (by decide) (star_plain pa _ _) (stars_none (fun e he => pl2 e (List.mem_cons_of_mem _ he)) _ _)
          rw [s.K] at k
          exact k
      · cases h
    · cases h
  · cases h
theorem in_set : ("set" : Str) ∈ MP.blt := by decide +kernel
theorem in_reversed : ("reversed" : Str) ∈ MP.blt := by decide +kernel
theorem ok_lrev {K : PySem.W.Frag} : OkC K o_lrev (MPR.rRevL K) := by
  intro ds d xs S H Q e reps sub post
  unfold o_lrev at e
  split at e
  · split at e
    · rename_i hm
      cases e
      obtain ⟨x, rfl, ra⟩ := all2_inv1 reps
      obtain ⟨p, vs, r, rfl, q1, z, t⟩ := ra.lst sub
      exact ⟨p, vs, rfl, q1, fun q nq => post.list sub (unfl_iff.mpr fun d hd => unfl_iff.mp hm d (List.mem_reverse.mp hd)) (RepVs.rev t hm) (by rw [List.length_reverse]; exact z) nq⟩
    · cases e
  · cases e
theorem set_tie (s : Sit M n g X W) {o : Op} {x : Str} {p pos : Pos} {a : Expr} {as es : List Expr} (h : setArgs g.sc o x a as = some es) (pl : ∀ e ∈ es, plainX e = true) : OpE M X o (.Call (.Name x p) (a :: as) [] pos) es := by
  have eK := s.K
  have hun := s.room.un
  unfold setArgs at h
  split at h
  · rename_i y py e q
    split at h
    · rename_i hx
      cases h
      unfold isN at hx
      simp only [Bool.and_eq_true, decide_eq_true_eq] at hx
      obtain ⟨⟨rfl, g1⟩, rfl, g2⟩ := hx
      refine ⟨_, by rw [← eK]; exact ok_sortset, fun ts all => ?_⟩
      cases all with
      | cons ha t =>
        cases t
        exact pe_sortSet s.calm (by omega) (s.gl g1) (s.free in_sorted) (s.gl g2) (s.free in_set) ha (star_plain (pl e List.mem_cons_self) _ _)
    · cases h
  · rename_i y py e q
    split at h
    · rename_i hx
      cases h
      unfold isN at hx
      simp only [Bool.and_eq_true, decide_eq_true_eq] at hx
      obtain ⟨⟨rfl, g1⟩, rfl, g2⟩ := hx
      refine ⟨_, by rw [← eK]; exact ok_lenset, fun ts all => ?_⟩
      cases all with
      | cons ha t =>
        cases t
        exact pe_lenSetN s.calm (by omega) (s.gl g1) (s.free in_len) (s.gl g2) (s.free in_set) ha (star_plain (pl e List.mem_cons_self) _ _)
    · cases h
  · rename_i y py e q
    split at h
    · rename_i hx
      cases h
      unfold isN at hx
      simp only [Bool.and_eq_true, decide_eq_true_eq] at hx
      obtain ⟨⟨rfl, g1⟩, rfl, g2⟩ := hx
      refine ⟨_, by rw [← eK]; exact ok_lrev, fun ts all => ?_⟩
      cases all with
      | cons ha t =>
        cases t
        exact MPR.pe_listRev s.calm (s.gl g1) (s.free in_list) (s.gl g2) (s.free in_reversed) ha (star_plain (pl e List.mem_cons_self) _ _)
    · cases h
  · cases h
theorem op_tie (s : Sit M n g X W) {o : Op} {e : Expr} {es : List Expr} (h : opArgs g.sc o e = some es) (pl : ∀ e ∈ es, plainX e = true) : OpE M X o e es := by
  have eK := s.K
  unfold opArgs at h
  split at h
  · -- BinOp
    split at h
    · cases h; exact ope2 (by rw [← eK]; exact ok_add) (fun _ _ => len2_add) fun ta tb ha hb => pe_op op_addAll ha hb
    · cases h; exact ope2 (by rw [← eK]; exact ok_sub) (fun _ _ => len2_sub) fun ta tb ha hb => pe_op op_sub ha hb
    · cases h; exact ope2 (by rw [← eK]; exact ok_mul) (fun _ _ => len2_mul) fun ta tb ha hb => pe_op op_mulA ha hb
    · cases h; exact ope2 (by rw [← eK]; exact ok_fdiv) (fun _ _ => len2_fdiv) fun ta tb ha hb => pe_op op_fdivW ha hb
    · cases h; exact ope2 (by rw [← eK]; exact ok_mod) (fun _ _ => len2_mod) fun ta tb ha hb => pe_op op_mod ha hb
    · cases h; exact ope2 (by rw [← eK]; exact ok_pow) (fun _ _ => len2_pow) fun ta tb ha hb => pe_op op_pow ha hb
    · cases h
  · -- UnaryOp
    split at h
    · cases h; exact ope1 (by rw [← eK]; exact ok_neg) (fun _ _ => len1_neg) fun ta ha => pe_un un_neg ha
    · cases h
  · -- Compare
    rename_i a c b pos
    split at h
    · cases h; exact ope2 (by rw [← eK]; exact ok_eq) (fun _ _ => len2_eq) fun ta tb ha hb => pe_cmpR (op_eqX (by have := s.hu; omega)) ha hb (marks_plain (pl _ (by simp)))
    · cases h; exact ope2 (by rw [← eK]; exact ok_ne) (fun _ _ => len2_ne) fun ta tb ha hb => pe_cmpR (op_neX (by have := s.hu; omega)) ha hb (marks_plain (pl _ (by simp)))
    · cases h; exact ope2 (by rw [← eK]; exact ok_lt) (fun _ _ => len2_lt) fun ta tb ha hb => pe_cmpR (op_ltA (by have := s.hu; omega)) ha hb (marks_plain (pl _ (by simp)))
    · cases h; exact ope2 (by rw [← eK]; exact ok_le) (fun _ _ => len2_le) fun ta tb ha hb => pe_cmpR op_leA ha hb (marks_plain (pl _ (by simp)))
    · cases h; exact ope2 (by rw [← eK]; exact ok_gt) (fun _ _ => len2_gt) fun ta tb ha hb => pe_cmpR op_gt ha hb (marks_plain (pl _ (by simp)))
    · cases h; exact ope2 (by rw [← eK]; exact ok_ge) (fun _ _ => len2_ge) fun ta tb ha hb => pe_cmpR op_ge ha hb (marks_plain (pl _ (by simp)))
    · cases h; exact ope2 (by rw [← eK]; exact ok_mem) (fun _ _ => len2_mem) fun ta tb ha hb => pe_cmpR (op_memA s.hu) ha hb (marks_plain (pl _ (by simp)))
    · cases h; exact ope2 (by rw [← eK]; exact ok_nmem) (fun _ _ => len2_nmem) fun ta tb ha hb => pe_cmpR (op_nmemA s.hu) ha hb (marks_plain (pl _ (by simp)))
    · split at h
      · cases h; exact ope1 (by rw [← eK]; exact ok_isN) (fun _ _ => len1_isN) fun ta ha => pe_cmp (pc_isN ha) rfl
      · cases h
    · split at h
      · cases h; exact ope1 (by rw [← eK]; exact ok_notN) (fun _ _ => len1_notN) fun ta ha => pe_cmp (pc_notN ha) rfl
      · cases h
    · split at h
      · cases h; exact ope1 (r := rIsF) (by rw [← eK]; exact ok_isF) (fun _ _ => len1_isF) fun ta ha => pe_cmpR (r := rIsB) (tb := tC (.bl false)) op_isBl ha pe_bl (marks_plain rfl)
      · cases h
    · split at h
      · cases h; exact ope1 (r := rNotF) (by rw [← eK]; exact ok_notF) (fun _ _ => len1_notF) fun ta ha => pe_cmpR (r := rNotB) (tb := tC (.bl false)) op_notBl ha pe_bl (marks_plain rfl)
      · cases h
    · cases h
  · -- Subscript
    rename_i a b pos
    split at h
    · split at h
      · rename_i hi
        cases h
        exact ope2 (by rw [← eK]; exact ok_ix) (fun _ _ => len2_ix) fun ta tb ha hb => pe_ix (ix_all (by have := s.hu; omega)) ha hb (plain_ix hi)
      · cases h
    · rename_i lo hi
      split at h
      · rename_i l h2 p2
        have okS : OkSl M.K (MP.rSlA X.K) := by rw [eK]; exact ok_sl
        unfold slArgs at h
        split at h
        · cases h
          refine ⟨_, okc_sl2 okS, fun ts all => ?_⟩
          cases all with
          | cons h1 t => cases t with
            | cons h2 t2 => cases t2 with
              | cons h3 t3 => cases t3; exact pe_sl2 sl_all h1 h2 h3
        · cases h
          refine ⟨_, okc_slLo okS, fun ts all => ?_⟩
          cases all with
          | cons h1 t => cases t with
            | cons h2 t2 => cases t2; exact pe_slLo sl_all h1 h2
        · cases h
          refine ⟨_, okc_slHi okS, fun ts all => ?_⟩
          cases all with
          | cons h1 t => cases t with
            | cons h2 t2 => cases t2; exact pe_slHi sl_all h1 h2
        · cases h
          refine ⟨_, okc_slNo okS, fun ts all => ?_⟩
          cases all with
          | cons h1 t => cases t; exact pe_slNo sl_all h1
        · cases h
      · cases h
    · split at h
      · cases h; exact ope1 (by rw [← eK]; exact ok_rev) (fun _ _ => len1_rev) fun ta ha => pe_revA ha
      · cases h
    · cases h
  · -- calls
    rename_i x p a as pos
    split at h
    · rename_i nm hb
      split at h
      · rename_i hx
        cases h
        unfold isN at hx
        simp only [Bool.and_eq_true, decide_eq_true_eq] at hx
        obtain ⟨rfl, hg⟩ := hx
        have hgl := s.gl hg
        unfold blts at hb
        split at hb
        · cases hb; exact opec (by rw [← eK]; exact ok_len) call_lenA hgl (s.free in_len) bb_len (by decide) (by decide) pl
        · cases hb; exact opec (by rw [← eK]; exact ok_abs) call_abs hgl (s.free in_abs) bb_abs (by decide) (by decide) pl
        · cases hb; exact opec (by rw [← eK]; exact ok_min1) (cr_minA s.calm (by have := s.hu; omega)) hgl (s.free in_min) bb_min (by decide) (by decide) pl
        · cases hb; exact opec (by rw [← eK]; exact ok_max1) (cr_maxA s.calm (by have := s.hu; omega)) hgl (s.free in_max) bb_max (by decide) (by decide) pl
        · cases hb; exact opec (by rw [← eK]; exact ok_min2) (call_min2 s.calm) hgl (s.free in_min) bb_min (by decide) (by decide) pl
        · cases hb; exact opec (by rw [← eK]; exact ok_max2) (call_max2 s.calm) hgl (s.free in_max) bb_max (by decide) (by decide) pl
        · cases hb; exact opec (by rw [← eK]; exact ok_sum) (cr_sum s.calm) hgl (s.free in_sum) bb_sum (by decide) (by decide) pl
        · cases hb; exact opec (by rw [← eK]; exact ok_any) (cr_any s.calm) hgl (s.free in_any) bb_any (by decide) (by decide) pl
        · cases hb; exact opec (by rw [← eK]; exact ok_all) (cr_all s.calm) hgl (s.free in_all) bb_all (by decide) (by decide) pl
        · cases hb; exact opec (by rw [← eK]; exact ok_sorted) (cr_sortD s.calm (by have := s.hu; omega)) hgl (s.free in_sorted) bb_sorted (by decide) (by decide) pl
        · cases hb; exact opety (by rw [← eK]; exact ok_list) (call_listA s.calm) hgl (s.free in_list) bb_list (by decide) (by decide) pl
        · cases hb; exact opety (by rw [← eK]; exact ok_tuple) call_tuple_of hgl (s.free in_tuple) bb_tuple (by decide) (by decide) pl
        · cases hb; exact opety (by rw [← eK]; exact ok_int) call_int1 hgl (s.free in_int) bb_int (by decide) (by decide) pl
        · cases hb; exact opety (by rw [← eK]; exact ok_str) call_str_int hgl (s.free in_str) bb_str (by decide) (by decide) pl
        · cases hb
      · cases h
    · split at h
      · rename_i es' he
        cases h
        exact set_tie s he pl
      · exact isi_tie s h pl
  · cases h
end
end MP

set_option autoImplicit false
set_option linter.all false
set_option maxRecDepth 100000
/-! MP: calls of defs. -/
namespace MP
open PySem L2
section
variable {M : Md} {W : WX} {Φ : Nat → List D → FR} {σ : L2.St} {S H : Hp} {R : Own}

/-- what a call hands over: values, and slots left open -/
def ArgR (K : PySem.W.Frag) (S H : Hp) (σ : L2.St) : CL → List (Option D) → List V → Own → Prop
  | .nil, [], [], _ => True
  | .cons a as, some d :: os, v :: vs, r => ∃ r1 r2 : Own, (∀ a, r1 a → r a) ∧ (∀ a, r2 a → r a) ∧ (∀ a, r1 a → r2 a → False) ∧ RepV K S H d v r1 ∧ ArgR K S H σ as os vs r2
  | .cons a as, none :: os, v :: vs, r => (∃ i, a = .rd i [] ∧ σ[i]? = some (some v)) ∧ ArgR K S H σ as os vs r
  | _, _, _, _ => False
def BackR (σ : L2.St) : List Bool → CL → List V → Prop
  | b :: bs, .cons a as, v :: vs => (∀ i, b = true → a = .rd i [] → σ[i]? = some (some v)) ∧ BackR σ bs as vs
  | _, _, _ => True
def PostA (M : Md) (S H : Hp) (σ : L2.St) (R : Own) (bs : List Bool) (as : CL) (Q : List V → Hp → Prop) (os : List (Option D)) (ρ' : Rho) : Prop := ∀ (vs : List V) (H' S' : Hp) (R' r : Own), Fr S H R S' H' (fun a => R' a ∨ r a) → Rel M.K S' H' σ ρ' R' → ArgR M.K S' H' σ as os vs r → BackR σ bs as vs → Live S' H' r → (∀ a, R' a → ¬ r a) → Q vs H'
def CE.isBw : CE → Bool
  | .bw _ => true
  | _ => false
def noBw : CL → Bool
  | .nil => true
  | .cons a as => !a.isBw && noBw as
def tsR (M : Md) (W : WX) (Φ : Nat → List D → FR) : List Bool → CL → List TE
  | _, .nil => []
  | true :: bs, .cons (.rd i []) as => tVar i :: tsR M W Φ bs as
  | [], .cons a as => tE M W Φ a :: tsR M W Φ [] as
  | _ :: bs, .cons a as => tE M W Φ a :: tsR M W Φ bs as
theorem evr_ent : ∀ (as : CL) (bs : List Bool) {S H : Hp} {R : Own} {ρ : Rho} {Q : List V → Hp → Prop}, noBw as = true → Rel M.K S H σ ρ R → OutR M W S H σ R (PostA M S H σ R bs as Q) (evr M.T Φ bs as ρ) → tL (tsR M W Φ bs as) σ H Q
  | .nil, bs, S, H, R, ρ, Q, nb, rel, h => by
    have e1 : evr M.T Φ bs .nil ρ = .ok [] ρ := by cases bs <;> rfl
    have e2 : tsR M W Φ bs .nil = [] := by cases bs <;> rfl
    rw [e1] at h
    rw [e2]
    exact h [] H S R none_ (Fr.refl.less fun a x => x.elim id False.elim) rel trivial (by cases bs <;> trivial) (fun a x => x.elim) fun a _ x => x
  | .cons a as, [], S, H, R, ρ, Q, nb, rel, h => by
    rw [evr] at h
    exact h.elim
  | .cons a as, b :: bs, S, H, R, ρ, Q, nb, rel, h => by
    unfold noBw at nb
    rw [Bool.and_eq_true] at nb
    by_cases hb : b = true ∧ ∃ i, a = .rd i []
    · obtain ⟨rfl, i, rfl⟩ := hb
      rw [evr] at h
      rw [tsR]
      cases q : ρ.get i with
      | none =>
        rw [q] at h
        exact h.elim
      | some d0 =>
        rw [q] at h
        obtain ⟨v, e, _⟩ := rel.get q
        refine ⟨v, e, evr_ent as bs nb.2 rel (h.bind.mono fun ds ρ2 h2 => ?_)⟩
        intro vs H2 S2 R2 r f2 rel2 arg2 bk2 live2 dj2
        exact h2 (v :: vs) H2 S2 R2 r f2 rel2 ⟨⟨i, rfl, e⟩, arg2⟩ ⟨fun j _ ej => by cases ej; exact e, bk2⟩ live2 dj2
    · have e1 : evr M.T Φ (b :: bs) (.cons a as) ρ = (ev M.T Φ a ρ).bind fun d ρ => (evr M.T Φ bs as ρ).bind fun ds ρ => .ok (some d :: ds) ρ := by
        rw [evr]
        · intro i e1 e2
          exact hb ⟨e1, i, e2⟩
        · intro i e1
          rw [e1] at nb
          simp [CE.isBw] at nb
      have e2 : tsR M W Φ (b :: bs) (.cons a as) = tE M W Φ a :: tsR M W Φ bs as := by
        rw [tsR]
        intro i e1 e2
        exact hb ⟨e1, i, e2⟩
      rw [e1] at h
      rw [e2]
      refine ⟨S, R, ρ, rel, h.bind.mono fun d ρ1 h1 => ?_⟩
      intro v H1 S1 R1 r f1 rel1 rep1 live1 dj1
      refine evr_ent as bs (S := S1) (R := R1) nb.2 rel1 (OutR.from h1.bind f1 (fun a x => .inl x) fun ds ρ2 h2 => ?_)
      intro vs H2 S2 R2 rs f2 rel2 rep2 bk2 live2 dj2
      obtain ⟨c1, c2, c3⟩ := f2.aside live1 dj1
      refine h2 (v :: vs) H2 S2 R2 (fun a => r a ∨ rs a) ((f1.trans f2 fun a x => .inl x).less fun a x => ?_) rel2 ?_ ⟨fun i e1 e2 => (hb ⟨e1, i, e2⟩).elim, bk2⟩ (fun a x => ?_) fun a x y => ?_
      · rcases x with x | x | x
        · exact .inl (.inl x)
        · exact .inr (.inr x)
        · exact .inl (.inr x)
      · exact ⟨r, rs, fun a x => .inl x, fun a x => .inr x, fun a x y => c3 a (.inr y) x, f2.carry live1 dj1 rep1, rep2⟩
      · rcases x with x | x
        · exact c2 a x
        · exact live2 a x
      · rcases y with y | y
        · exact c3 a (.inl x) y
        · exact dj2 a x y

/-- taking the open ones out of their slots -/
theorem take_ok : ∀ (as : CL) (bs : List Bool) {os : List (Option D)} {vs : List V} {ds : List D} {ρ ρ2 : Rho} {S H : Hp} {R r : Own}, takeR bs as os ρ = .ok ds ρ2 → Rel M.K S H σ ρ R → ArgR M.K S H σ as os vs r → Live S H r → (∀ a, R a → ¬ r a) →
    ∃ R2 r2 : Own, Rel M.K S H σ ρ2 R2 ∧ RepVs M.K S H ds vs r2 ∧ Live S H r2 ∧ (∀ a, R2 a → ¬ r2 a) ∧ (∀ a, R2 a → R a) ∧ ∀ a, r2 a → R a ∨ r a
  | .nil, bs, [], [], ds, ρ, ρ2, S, H, R, r, e, rel, arg, live, dj => by
    have e1 : takeR bs .nil [] ρ = .ok [] ρ := by cases bs <;> rfl
    rw [e1] at e
    cases e
    exact ⟨R, none_, rel, by rw [RepVs]; trivial, fun a x => x.elim, fun a _ x => x, fun a x => x, fun a x => x.elim⟩
  | .nil, bs, [], _ :: _, _, _, _, _, _, _, _, _, _, arg, _, _ => arg.elim
  | .nil, bs, some _ :: _, _, _, _, _, _, _, _, _, _, _, arg, _, _ => by cases arg
  | .nil, bs, none :: _, _, _, _, _, _, _, _, _, _, _, arg, _, _ => by cases arg
  | .cons a as, bs, [], vs, _, _, _, _, _, _, _, _, _, arg, _, _ => by cases vs <;> cases arg
  | .cons a as, bs, some d :: os, [], _, _, _, _, _, _, _, _, _, arg, _, _ => by cases arg
  | .cons a as, bs, none :: os, [], _, _, _, _, _, _, _, _, _, arg, _, _ => by cases arg
  | .cons a as, [], some d :: os, v :: vs, ds, ρ, ρ2, S, H, R, r, e, rel, arg, live, dj => by
    rw [takeR] at e
    cases e
    all_goals simp
  | .cons a as, [], none :: os, v :: vs, ds, ρ, ρ2, S, H, R, r, e, rel, arg, live, dj => by
    rw [takeR] at e
    cases e
    all_goals simp
  | .cons a as, b :: bs, some d :: os, v :: vs, ds, ρ, ρ2, S, H, R, r, e, rel, arg, live, dj => by
    obtain ⟨r1, r2, k1, k2, dj12, rep, arg2⟩ := arg
    rw [takeR] at e
    cases q : takeR bs as os ρ with
    | ex k ρ' => rw [q] at e; cases e
    | bad => rw [q] at e; cases e
    | ok ds' ρ' =>
      rw [q] at e
      cases e
      obtain ⟨R2, r3, rel2, rep2, live2, dj2, s1, s2⟩ := take_ok as bs q rel arg2 (fun a x => live a (k2 a x)) fun a x y => dj a x (k2 a y)
      refine ⟨R2, fun a => r1 a ∨ r3 a, rel2, ?_, fun a x => ?_, fun a x y => ?_, s1, fun a x => ?_⟩
      · rw [RepVs]
        refine ⟨r1, r3, fun a x => .inl x, fun a x => .inr x, fun a x y => ?_, rep, rep2⟩
        rcases s2 a y with z | z
        · exact dj a z (k1 a x)
        · exact dj12 a x z
      · rcases x with x | x
        · exact live a (k1 a x)
        · exact live2 a x
      · rcases y with y | y
        · exact dj a (s1 a x) (k1 a y)
        · exact dj2 a x y
      · rcases x with x | x
        · exact .inr (k1 a x)
        · rcases s2 a x with z | z
          · exact .inl z
          · exact .inr (k2 a z)
  | .cons a as, b :: bs, none :: os, v :: vs, ds, ρ, ρ2, S, H, R, r, e, rel, arg, live, dj => by
    obtain ⟨⟨i, rfl, hv⟩, arg2⟩ := arg
    rw [takeR] at e
    cases q0 : ρ.get i with
    | none => rw [q0] at e; cases e
    | some d =>
      rw [q0] at e
      dsimp only at e
      obtain ⟨v', R1, r1, e1, rel1, rep1, live1, dj1, s1, s1'⟩ := rel.take q0
      rw [hv] at e1
      cases e1
      cases q : takeR bs as os (ρ.set i none) with
      | ex k ρ' => rw [q] at e; cases e
      | bad => rw [q] at e; cases e
      | ok ds' ρ' =>
        rw [q] at e
        cases e
        obtain ⟨R2, r3, rel2, rep2, live2, dj2, s2, s3⟩ := take_ok as bs q rel1 arg2 live fun a x y => dj a (s1 a x) y
        refine ⟨R2, fun a => r1 a ∨ r3 a, rel2, ?_, fun a x => ?_, fun a x y => ?_, fun a x => s1 a (s2 a x), fun a x => ?_⟩
        · rw [RepVs]
          refine ⟨r1, r3, fun a x => .inl x, fun a x => .inr x, fun a x y => ?_, rep1, rep2⟩
          rcases s3 a y with z | z
          · exact dj1 a z x
          · exact dj a (s1' a x) z
        · rcases x with x | x
          · exact live1 a x
          · exact live2 a x
        · rcases y with y | y
          · exact dj1 a (s2 a x) y
          · exact dj2 a x y
        · rcases x with x | x
          · exact .inl (s1' a x)
          · rcases s3 a x with z | z
            · exact .inl (s1 a z)
            · exact .inr z
/-- a def's parameters as slots -/
theorem RepVs.rel : ∀ {ds : List D} {vs : List V} {S H : Hp} {r : Own}, MP.Same S H → RepVs M.K S H ds vs r → Live S H r → Rel M.K S H (vs.map some) (ds.map some) r
  | [], [], S, H, r, sub, _, live => ⟨sub, live, rfl, fun _ => none_, fun i d e => by simp at e, fun i a x => x.elim, fun i j a x => x.elim⟩
  | [], _ :: _, _, _, _, _, h, _ => by rw [RepVs] at h; exact h.elim
  | _ :: _, [], _, _, _, _, h, _ => by rw [RepVs] at h; exact h.elim
  | d :: ds, v :: vs, S, H, r, sub, h, live => by
    rw [RepVs] at h
    obtain ⟨r1, r2, k1, k2, dj, a, b⟩ := h
    obtain ⟨own, h1, h2, h3⟩ := (RepVs.rel sub b fun a x => live a (k2 a x)).slots
    refine ⟨sub, live, by simp [b.len], fun i => match i with | 0 => r1 | j + 1 => own j, fun i d' e => ?_, fun i a x => ?_, fun i j a x y => ?_⟩
    · cases i with
      | zero =>
        simp at e
        subst e
        exact ⟨v, by simp, a⟩
      | succ j =>
        obtain ⟨w, e1, e2⟩ := h1 j d' (by simpa using e)
        exact ⟨w, by simpa using e1, e2⟩
    · cases i with
      | zero => exact k1 a x
      | succ j => exact k2 a (h2 j a x)
    · cases i with
      | zero => cases j with
        | zero => rfl
        | succ j => exact (dj a x (h2 j a y)).elim
      | succ i => cases j with
        | zero => exact (dj a y (h2 i a x)).elim
        | succ j => rw [h3 i j a x y]
/-- what comes back -/
def OutsR (K : PySem.W.Frag) (S H : Hp) : Rho → List V → Own → Prop
  | [], _, _ => True
  | none :: os, v :: vs, r => OutsR K S H os vs r
  | some d :: os, v :: vs, r => ∃ r1 r2 : Own, (∀ a, r1 a → r a) ∧ (∀ a, r2 a → r a) ∧ (∀ a, r1 a → r2 a → False) ∧ RepV K S H d v r1 ∧ OutsR K S H os vs r2
  | _ :: _, [], _ => True
theorem Rel.outs : ∀ {os : Rho} {vs : List V} {S H : Hp} {own : Nat → Own}, (∀ i d, os[i]? = some (some d) → ∃ v, (vs.map some)[i]? = some (some v) ∧ RepV M.K S H d v (own i)) → (∀ i j a, own i a → own j a → i = j) → OutsR M.K S H os vs fun a => ∃ i, own i a
  | [], _, _, _, _, _, _ => trivial
  | none :: os, [], _, _, _, _, _ => trivial
  | some _ :: os, [], _, _, _, _, _ => trivial
  | none :: os, v :: vs, S, H, own, h1, h3 => by
    have k := Rel.outs (os := os) (vs := vs) (own := fun i => own (i + 1)) (fun i d e => by
      obtain ⟨w, e1, e2⟩ := h1 (i + 1) d (by simpa using e)
      exact ⟨w, by simpa using e1, e2⟩) fun i j a x y => Nat.succ.inj (h3 (i + 1) (j + 1) a x y)
    exact OutsR.mono k fun a ⟨i, x⟩ => ⟨i + 1, x⟩
  | some d :: os, v :: vs, S, H, own, h1, h3 => by
    have k := Rel.outs (os := os) (vs := vs) (own := fun i => own (i + 1)) (fun i d e => by
      obtain ⟨w, e1, e2⟩ := h1 (i + 1) d (by simpa using e)
      exact ⟨w, by simpa using e1, e2⟩) fun i j a x y => Nat.succ.inj (h3 (i + 1) (j + 1) a x y)
    obtain ⟨w, e1, e2⟩ := h1 0 d rfl
    simp at e1
    subst e1
    exact ⟨own 0, _, fun a x => ⟨0, x⟩, fun a ⟨i, x⟩ => ⟨i + 1, x⟩, fun a x ⟨i, y⟩ => Nat.noConfusion (h3 0 (i + 1) a x y), e2, k⟩
where
  OutsR.mono : ∀ {os : Rho} {vs : List V} {S H : Hp} {r r' : Own}, OutsR M.K S H os vs r → (∀ a, r a → r' a) → OutsR M.K S H os vs r'
  | [], _, _, _, _, _, _, _ => trivial
  | none :: os, [], _, _, _, _, _, _ => trivial
  | some _ :: os, [], _, _, _, _, _, _ => trivial
  | none :: os, v :: vs, _, _, _, _, h, k => OutsR.mono (os := os) (vs := vs) h k
  | some d :: os, v :: vs, _, _, _, _, h, k => by
    obtain ⟨r1, r2, k1, k2, dj, a, b⟩ := h
    exact ⟨r1, r2, fun a x => k a (k1 a x), fun a x => k a (k2 a x), dj, a, b⟩
theorem back_ok : ∀ (as : CL) (bs : List Bool) {outs : Rho} {vs : List V} {ρ : Rho} {S H : Hp} {R r : Own}, BackR σ bs as vs → outs.length ≤ vs.length → Rel M.K S H σ ρ R → OutsR M.K S H outs vs r → Live S H r → (∀ a, R a → ¬ r a) → ∃ R2 : Own, Rel M.K S H σ (backR bs as outs ρ) R2 ∧ ∀ a, R2 a → R a ∨ r a
  | .nil, bs, outs, vs, ρ, S, H, R, r, bk, hl, rel, out, live, dj => by
    have e : backR bs .nil outs ρ = ρ := by cases bs <;> cases outs <;> rfl
    rw [e]
    exact ⟨R, rel, fun a x => .inl x⟩
  | .cons a as, [], outs, vs, ρ, S, H, R, r, bk, hl, rel, out, live, dj => by
    have e : backR [] (.cons a as) outs ρ = ρ := by cases outs <;> rfl
    rw [e]
    exact ⟨R, rel, fun a x => .inl x⟩
  | .cons a as, b :: bs, [], vs, ρ, S, H, R, r, bk, hl, rel, out, live, dj => by
    have e : backR (b :: bs) (.cons a as) [] ρ = ρ := rfl
    rw [e]
    exact ⟨R, rel, fun a x => .inl x⟩
  | .cons a as, b :: bs, o :: outs, [], ρ, S, H, R, r, bk, hl, rel, out, live, dj => by simp at hl
  | .cons a as, b :: bs, o :: outs, v :: vs, ρ, S, H, R, r, bk, hl, rel, out, live, dj => by
    by_cases hb : b = true ∧ ∃ i, a = .rd i []
    · obtain ⟨rfl, i, rfl⟩ := hb
      have e : backR (true :: bs) (.cons (.rd i []) as) (o :: outs) ρ = backR bs as outs (ρ.set i o) := rfl
      rw [e]
      have hv := bk.1 i rfl rfl
      have hi : i < ρ.length := by
        rw [rel.len]
        exact (List.getElem?_eq_some_iff.mp hv).1
      cases o with
      | none => exact back_ok as bs bk.2 (Nat.le_of_succ_le_succ hl) (rel.drop i) out live dj
      | some d =>
        obtain ⟨r1, r2, k1, k2, dj12, rep, out2⟩ := out
        have rel1 := rel.put' hi hv rep (fun a x => live a (k1 a x)) fun a x y => dj a x (k1 a y)
        obtain ⟨R2, rel2, s2⟩ := back_ok as bs bk.2 (Nat.le_of_succ_le_succ hl) rel1 out2 (fun a x => live a (k2 a x)) fun a x y => by
          rcases x with x | x
          · exact dj a x (k2 a y)
          · exact dj12 a x y
        refine ⟨R2, rel2, fun a x => ?_⟩
        rcases s2 a x with z | z
        · rcases z with z | z
          · exact .inl z
          · exact .inr (k1 a z)
        · exact .inr (k2 a z)
    · have e : backR (b :: bs) (.cons a as) (o :: outs) ρ = backR bs as outs ρ := by
        rw [backR]
        exact fun i e1 e2 => (hb ⟨e1, i, e2⟩).elim
      rw [e]
      have out2 : ∃ r2 : Own, (∀ a, r2 a → r a) ∧ OutsR M.K S H outs vs r2 := by
        cases o with
        | none => exact ⟨r, fun _ x => x, out⟩
        | some d =>
          obtain ⟨r1, r2, k1, k2, _, _, out2⟩ := out
          exact ⟨r2, k2, out2⟩
      obtain ⟨r2, k2, out2⟩ := out2
      obtain ⟨R2, rel2, s2⟩ := back_ok as bs bk.2 (Nat.le_of_succ_le_succ hl) rel out2 (fun a x => live a (k2 a x)) fun a x y => dj a x (k2 a y)
      refine ⟨R2, rel2, fun a x => ?_⟩
      rcases s2 a x with z | z
      · exact .inl z
      · exact .inr (k2 a z)
end
end MP

set_option autoImplicit false
set_option linter.all false
set_option maxRecDepth 100000
/-! MP: what is walked. -/
namespace MP
open PySem L2

/-- J walks xs, from (S, H) on, as long as what stands at rh stays -/
def Walk (K : PySem.W.Frag) (J : It) (xs : List D) (S H : Hp) (rh : Own) : Prop := ∀ S' H' : Hp, MP.Same S S' → MP.Same S' H' → (∀ a, rh a → H' a = H a) →
  (∀ (i : Nat) (d : D), xs[i]? = some d → J.go i H' ∧ ∀ (x : V) (H2 : Hp), J.yld i H' x H2 → ∃ S2, MP.Same S' S2 ∧ MP.Same S2 H2 ∧ MP.Same H' H2 ∧ (∀ a o, S2 a = some o → S' a = some o ∨ H' a = none ∨ (Tp o ∧ H' a = some o)) ∧ RepV K S2 H2 d x none_) ∧ J.stop xs.length H'

def iAny (K : PySem.W.Frag) (tl : TE) : TI := fun σ H R => tl σ H fun x H1 => (∃ a, x = .ref a ∧ (∃ xs, SqL K H1 a xs) ∧ R (Itl K a) H1) ∨ (∃ a, x = .ref a ∧ (∃ xs, SqT K H1 a xs) ∧ R (Itt K a) H1) ∨ ∃ z, x = .str z ∧ R (Its z) H1
section
variable {X : Cx} {tg : Expr}
theorem pi_any {l : Expr} {tl : TE} (hl : PE X l tl) : PI X tg l (iAny X.K tl) := by
  refine ⟨fun pins s σ H R I h => ?_⟩
  refine thn (hl.run pins s σ H _ I h) fun v s1 ⟨x, H1, I1, r1, q1⟩ => ?_
  have none1 : ∀ b ∈ [s1.heap.objs.size], FpOk X pins H1 b := fun b hb => by
    have e : b = s1.heap.objs.size := by simpa using hb
    rw [e]
    exact I1.fpOk (Nat.le_refl _) (I1.hok.fresh (Nat.le_refl _))
  rcases q1 with ⟨a, e, ⟨xs, hq⟩, q⟩ | ⟨a, e, ⟨xs, hq⟩, q⟩ | ⟨z, e, q⟩
  · subst e
    cases r1
    obtain ⟨its, rv, p, hz⟩ := I1.list hq
    exact wpAny_pyIter_list p.isList ⟨_, _, _, _, H1, rfl, I1.kept (t' := s1.toks) fun b o e => Heap.get?_push_of_some _ e, turn_list a _, ⟨_, Heap.get?_push_size _ rfl, rfl, rfl⟩, none1, q⟩
  · subst e
    cases r1
    obtain ⟨its, rv, p, hz⟩ := I1.tuple hq
    exact wpAny_pyIter_tuple (show s1.heap.IsTuple a its.toArray from p) ⟨_, _, _, _, H1, rfl, I1.kept (t' := s1.toks) fun b o e => Heap.get?_push_of_some _ e, turn_tuple a _, ⟨_, Heap.get?_push_size _ rfl, rfl, rfl⟩, none1, q⟩
  · subst e
    obtain ⟨t, rfl⟩ := r1
    cases ha : z.cps.all (· < 128)
    · exact wpAny_pyIter_wide ha (pi_one (tk := s1.toks) I1 _ (turn_str _ z t "str_iterator" (.inr rfl)) ⟨_, Heap.get?_push_size _ rfl, rfl, rfl⟩ q)
    · exact wpAny_pyIter_ascii ha (pi_one (tk := s1.toks) I1 _ (turn_str _ z t "str_ascii_iterator" (.inl rfl)) ⟨_, Heap.get?_push_size _ rfl, rfl, rfl⟩ q)
end

section
variable {K : PySem.W.Frag} {S H : Hp} {r : Own}
/-- a list, tuple or text of known items, walked; its reading's way out -/
theorem walk_any {d : D} {v : V} {xs : List D} (sub : MP.Same S H) (h : RepV K S H d v r) (e : itemsOf false d = some xs) {R : It → Hp → Prop} (k : ∀ J, Walk K J xs S H r → R J H) :
    (∃ a, v = .ref a ∧ (∃ xs, SqL K H a xs) ∧ R (Itl K a) H) ∨ (∃ a, v = .ref a ∧ (∃ xs, SqT K H a xs) ∧ R (Itt K a) H) ∨ ∃ z, v = .str z ∧ R (Its z) H := by
  unfold itemsOf at e
  split at e
  · rename_i o ys
    split at e
    · rename_i hu
      simp only [if_neg (Bool.false_ne_true), Bool.false_eq_true, if_false, Option.some.injEq] at e
      subst e
      refine .inl ?_
      -- at any later heap the list stands
      have core : ∃ a vs, v = .ref a ∧ RepVs K S H ys vs none_ ∧ ∀ S' H' : Hp, MP.Same S S' → MP.Same S' H' → (∀ b, r b → H' b = H b) → SqL K H' a vs := by
        cases o with
        | false =>
          rw [RepV] at h
          obtain ⟨a, vs, e, q, z, u, t⟩ := h
          exact ⟨a, vs, e, RepVs.sh_to t hu (Same.refl S), fun S' H' k1 k2 _ => SqL.mono q (Same.trans k1 k2)⟩
        | true =>
          rw [RepV] at h
          obtain ⟨a, vs, r', e, q, z, ra, kk, t⟩ := h
          exact ⟨a, vs, e, RepVs.sh_to t hu (Same.refl S), fun S' H' k1 k2 k3 => SqL.of ((k3 a ra).trans q)⟩
      obtain ⟨a, vs, ev, t, st⟩ := core
      refine ⟨a, ev, ⟨vs, st S H (Same.refl S) sub fun _ _ => rfl⟩, k _ fun S' H' k1 k2 k3 => ⟨fun i d hd => ?_, ⟨vs, st S' H' k1 k2 k3, by rw [t.len]; exact Nat.le_refl _⟩⟩⟩
      obtain ⟨x, r', hx, rep⟩ := t.at hd
      refine ⟨⟨vs, x, st S' H' k1 k2 k3, hx⟩, fun y H2 hy => ?_⟩
      obtain ⟨rfl, hy⟩ := hy
      have ex := hy vs (st S' H2 k1 k2 k3)
      rw [hx] at ex
      cases ex
      exact ⟨S', Same.refl S', k2, Same.refl H2, fun _ _ e => .inl e, RepV.sh_to rep (unfl_iff.mp hu d (List.mem_of_getElem? hd)) k1⟩
    · cases e
  · rename_i o ys
    split at e
    · rename_i hu
      simp only [if_neg (Bool.false_ne_true), Bool.false_eq_true, if_false, Option.some.injEq] at e
      subst e
      refine .inr (.inl ?_)
      rw [RepV] at h
      obtain ⟨a, vs, ev, q, z, u, t0⟩ := h
      have t := RepVs.sh_to (r' := none_) (H' := H) t0 hu (Same.refl S)
      have st : ∀ S' H' : Hp, MP.Same S S' → MP.Same S' H' → SqT K H' a vs := fun S' H' k1 k2 => .inl (.inl (Same.trans k1 k2 _ _ q))
      refine ⟨a, ev, ⟨vs, st S H (Same.refl S) sub⟩, k _ fun S' H' k1 k2 k3 => ⟨fun i d hd => ?_, ⟨vs, st S' H' k1 k2, by rw [t.len]; exact Nat.le_refl _⟩⟩⟩
      obtain ⟨x, r', hx, rep⟩ := t.at hd
      refine ⟨⟨vs, x, st S' H' k1 k2, hx⟩, fun y H2 hy => ?_⟩
      obtain ⟨rfl, hy⟩ := hy
      have ex := hy vs (st S' H2 k1 k2)
      rw [hx] at ex
      cases ex
      exact ⟨S', Same.refl S', k2, Same.refl H2, fun _ _ e => .inl e, RepV.sh_to rep (unfl_iff.mp hu d (List.mem_of_getElem? hd)) k1⟩
    · cases e
  · rename_i s
    simp only [if_neg (Bool.false_ne_true), Bool.false_eq_true, if_false, Option.some.injEq] at e
    subst e
    rw [RepV] at h
    refine .inr (.inr ⟨_, h.1, k _ fun S' H' k1 k2 k3 => ⟨fun i d hd => ?_, ?_⟩⟩)
    · rw [List.getElem?_map] at hd
      cases q : s[i]? with
      | none => rw [q] at hd; cases hd
      | some c =>
        rw [q] at hd
        cases hd
        have hi : i < s.length := (List.getElem?_eq_some_iff.mp q).1
        refine ⟨by show i < s.toArray.size; rw [List.size_toArray]; exact hi, fun y H2 hy => ?_⟩
        obtain ⟨rfl, c', hc', ey⟩ := hy
        have ec : c' = c := by
          have : s.toArray[i]? = some c' := hc'
          rw [List.getElem?_toArray, q] at this
          exact (Option.some.inj this).symm
        subst ec
        refine ⟨S', Same.refl S', k2, Same.refl H2, fun _ _ e => .inl e, ?_⟩
        rw [RepV]
        exact ⟨ey, by rw [List.length_singleton, sizeLine_eq]; decide⟩
    · show s.toArray.size ≤ (s.map fun c => D.str [c]).length
      rw [List.size_toArray, List.length_map]
      exact Nat.le_refl _
  · cases e
/-- a list stands as it is while nothing of it is changed -/
theorem lst_stays {o : Bool} {xs : List D} {v : V} (h : RepV K S H (.lst o xs) v r) (hu : unfl xs = true) : ∃ a vs, v = .ref a ∧ RepVs K S H xs vs none_ ∧ ∀ S' H' : Hp, MP.Same S S' → MP.Same S' H' → (∀ b, r b → H' b = H b) → SqL K H' a vs := by
  cases o with
  | false =>
    rw [RepV] at h
    obtain ⟨a, vs, e, q, z, u, t⟩ := h
    exact ⟨a, vs, e, RepVs.sh_to t hu (Same.refl S), fun S' H' k1 k2 _ => SqL.mono q (Same.trans k1 k2)⟩
  | true =>
    rw [RepV] at h
    obtain ⟨a, vs, r', e, q, z, ra, kk, t⟩ := h
    exact ⟨a, vs, e, RepVs.sh_to t hu (Same.refl S), fun S' H' k1 k2 k3 => SqL.of ((k3 a ra).trans q)⟩
/-- a new pair of shared things -/
theorem new_pair {S' H' : Hp} {x y : D} {v w : V} {T : Addr} {r1 r2 : Own} (k2 : MP.Same S' H') (nT : H' T = none) (hx : RepV K S' H' x v r1) (hy : RepV K S' H' y w r2) (fx : x.fl = false) (fy : y.fl = false) :
    ∃ S2, MP.Same S' S2 ∧ MP.Same S2 (upd H' T (.tup [v, w])) ∧ MP.Same H' (upd H' T (.tup [v, w])) ∧ (∀ a o, S2 a = some o → S' a = some o ∨ H' a = none ∨ (Tp o ∧ H' a = some o)) ∧ RepV K S2 (upd H' T (.tup [v, w])) (.tup false [x, y]) (.ref T) none_ := by
  have sT : S' T = none := by
    cases e : S' T with
    | none => rfl
    | some o => have := k2 T o e; rw [nT] at this; cases this
  have up : ∀ {G : Hp}, G T = none → MP.Same G (upd G T (.tup [v, w])) := fun g c o e => by
    rw [upd_ne]
    · exact e
    · intro z; rw [z, g] at e; cases e
  refine ⟨upd S' T (.tup [v, w]), up sT, fun c o e => ?_, up nT, fun c o e => ?_, ?_⟩
  · by_cases z : c = T
    · subst z; rw [upd_same] at e ⊢; exact e
    · rw [upd_ne z] at e ⊢; exact k2 c o e
  · by_cases z : c = T
    · subst z; exact .inr (.inl nT)
    · rw [upd_ne z] at e; exact .inl e
  · rw [RepV]
    refine ⟨T, [v, w], rfl, upd_same, by rw [sizeLine_eq]; simp, fun _ => unfl_cons.mpr ⟨fx, unfl_cons.mpr ⟨fy, rfl⟩⟩, ?_⟩
    rw [RepVs]
    refine ⟨none_, none_, fun _ z => z, fun _ z => z, fun _ z _ => z, RepV.sh_to hx fx (up sT), ?_⟩
    rw [RepVs]
    exact ⟨none_, none_, fun _ z => z, fun _ z => z, fun _ z _ => z, RepV.sh_to hy fy (up sT), by rw [RepVs]; trivial⟩
theorem walk_zip {a b : Addr} {xs ys : List D} {vs ws : List V} {rh : Own} (ux : unfl xs = true) (uy : unfl ys = true) (tx : RepVs K S H xs vs none_) (ty : RepVs K S H ys ws none_) (sx : ∀ S' H' : Hp, MP.Same S S' → MP.Same S' H' → (∀ c, rh c → H' c = H c) → SqL K H' a vs) (sy : ∀ S' H' : Hp, MP.Same S S' → MP.Same S' H' → (∀ c, rh c → H' c = H c) → SqL K H' b ws) :
    Walk K (Itz K a b) (xs.zipWith (fun x y => D.tup false [x, y]) ys) S H rh := by
  intro S' H' k1 k2 k3
  have qa := sx S' H' k1 k2 k3
  have qb := sy S' H' k1 k2 k3
  refine ⟨fun i d hd => ?_, ⟨vs, ws, qa, qb, ?_⟩⟩
  · rw [List.getElem?_zipWith] at hd
    cases ex : xs[i]? with
    | none => rw [ex] at hd; cases hd
    | some x =>
      cases ey : ys[i]? with
      | none => rw [ex, ey] at hd; cases hd
      | some y =>
        rw [ex, ey] at hd
        cases hd
        obtain ⟨v, r1, hv, rv⟩ := tx.at ex
        obtain ⟨w, r2, hw, rw_⟩ := ty.at ey
        refine ⟨⟨vs, ws, v, w, qa, qb, hv, hw⟩, fun z H2 hz => ?_⟩
        obtain ⟨T, v', w', rfl, nT, rfl, e1, e2⟩ := hz
        have e1 := e1 vs qa
        have e2 := e2 ws qb
        rw [hv] at e1
        rw [hw] at e2
        cases e1
        cases e2
        have fx := unfl_iff.mp ux x (List.mem_of_getElem? ex)
        have fy := unfl_iff.mp uy y (List.mem_of_getElem? ey)
        exact new_pair (r1 := none_) (r2 := none_) k2 nT (RepV.sh_to rv fx k1) (RepV.sh_to rw_ fy k1) fx fy
  · rw [List.length_zipWith, ← tx.len, ← ty.len]
    omega
theorem walk_enu {a : Addr} {xs : List D} {vs : List V} {rh : Own} (ux : unfl xs = true) (tx : RepVs K S H xs vs none_) (sx : ∀ S' H' : Hp, MP.Same S S' → MP.Same S' H' → (∀ c, rh c → H' c = H c) → SqL K H' a vs) :
    Walk K (Ite K a) (itemsOf.numb xs) S H rh := by
  intro S' H' k1 k2 k3
  have qa := sx S' H' k1 k2 k3
  unfold itemsOf.numb
  refine ⟨fun i d hd => ?_, ⟨vs, qa, ?_⟩⟩
  · rw [List.getElem?_zipWith] at hd
    cases ex : xs[i]? with
    | none => rw [ex] at hd; cases q : (List.range xs.length)[i]? <;> rw [q] at hd <;> cases hd
    | some x =>
      have hi : i < xs.length := (List.getElem?_eq_some_iff.mp ex).1
      rw [ex, List.getElem?_range hi] at hd
      cases hd
      obtain ⟨v, r1, hv, rv⟩ := tx.at ex
      refine ⟨⟨vs, v, qa, hv⟩, fun z H2 hz => ?_⟩
      obtain ⟨T, v', rfl, nT, rfl, e1⟩ := hz
      have e1 := e1 vs qa
      rw [hv] at e1
      cases e1
      have fx := unfl_iff.mp ux x (List.mem_of_getElem? ex)
      exact new_pair (x := .int (i : Int)) (r1 := none_) (r2 := none_) k2 nT (by rw [RepV]) (RepV.sh_to rv fx k1) rfl fx
  · rw [List.length_zipWith, List.length_range, ← tx.len]
    omega
theorem walk_range (lo : Int) (n : Nat) (rh : Own) : Walk K (Itr lo n) ((List.range n).map fun (k : Nat) => .int (lo + (k : Int))) S H rh := by
  intro S' H' k1 k2 k3
  refine ⟨fun i d hd => ?_, ?_⟩
  · rw [List.getElem?_map] at hd
    by_cases hi : i < n
    · rw [List.getElem?_range hi] at hd
      cases hd
      refine ⟨hi, fun y H2 hy => ?_⟩
      obtain ⟨rfl, rfl⟩ := hy
      exact ⟨S', Same.refl S', k2, Same.refl H2, fun _ _ e => .inl e, by rw [RepV]⟩
    · rw [List.getElem?_eq_none (by rw [List.length_range]; omega)] at hd
      cases hd
  · show n ≤ _
    rw [List.length_map, List.length_range]
    exact Nat.le_refl _
end
end MP

set_option autoImplicit false
set_option linter.all false
set_option maxRecDepth 100000
/-! MP: enumerate over lists, tuples, texts. -/
namespace PySem
open Sem (wp)
section
variable {prog : Program} {w : World} {A : Around} {E : Value → Shared → Prop} {s : Shared}
theorem mp_enum_endG {e it : Addr} {c : Int} {old : Value} {Q : Option Value → Shared → Prop} (he : IsEnum s.heap e it c old)
    (hd : ∀ (Q : Value → Shared → Prop) (E : Value → Shared → Prop), (∀ h' e, Heap.ExtBut it s.heap h' → (∃ o, h'.get? e = some o ∧ o.cls = .type "StopIteration") → E (.ref e) { s with heap := h' }) → wpAny (model prog w) A.in1 (Builtin.SmallTypes.nextOf (.ref it)) Q E s)
    (hQ : ∀ h', Heap.ExtBut it s.heap h' → Q none { s with heap := h' }) : wpAny (model prog w) A (pyNext (.ref e)) Q E s := by
  have hT : s.TypeIs (.ref e) "enumerate" := ⟨_, he, rfl⟩
  unfold pyNext
  refine wpAny_bind (wpAny_attempt (wpAny_callSpecial?_slot (name := Str.ofString "__next__") hT F.slot_enumerate_next
    (wpAny_call_entry F.slot_enumerate_next hT F.entry_enumerate_next ?_ (F.args_enumerate_next_1 _))))
  show wpAny _ _ (field (.ref e) 2 >>= _) _ _ _
  refine wpAny_bind (wpAny_field he rfl (x := .ref it) rfl ?_)
  refine wpAny_bind (hd _ _ fun h' x he' hx' => ?_)
  obtain ⟨o, ho, hc⟩ := hx'
  refine wpAny_bind (wpAny_isInstance (T := "StopIteration") (b := true) ⟨o, ho, hc⟩ isSubtype_stop ?_)
  exact wpAny_pure (hQ _ he')
set_option maxHeartbeats 1000000 in
theorem mp_enumerate_new {v : Value} {o : Obj} {H : Heap → Prop} (B : Begins v o H) :
    Meets (Builtin.«enumerate.__new__» ⟨[.type "enumerate", v], []⟩) (fun _ R s => H s.heap ∧
      R (.ok (.ret (.ref (s.heap.push o).objs.size))) { s with heap := (s.heap.push o).push { cls := .type "enumerate", data := .fields #[.none, .bool false, .ref s.heap.objs.size, rawInt 0, .none, .none] } }) :=
  .of_wp fun prog w A R s h => by
    obtain ⟨hp, g, d, tk, os⟩ := s; obtain ⟨h1, h⟩ := h
    have hsub := sub_enumerate
    have q1 : ∀ {A' : Around} {E : Value → Shared → Prop} {Q : Value → Shared → Prop}, Q (.ref hp.objs.size) ⟨hp.push o, g, d, tk, os⟩ → wpAny (model prog w) A' (pyIter v) Q E ⟨hp, g, d, tk, os⟩ :=
      fun q => B.iter prog w _ _ ⟨hp, g, d, tk, os⟩ _ h1 q
    wp_walk using q1
    refine wpAny_stack_any fun st => wpAny_pure ?_
    split
    · rename_i c _ _ _ _ _
      cases (c == Value.type "enumerate")
      · wp_walk using q1
        exact ⟨_, rfl, h⟩
      · wp_walk using q1
        exact ⟨_, rfl, h⟩
    · wp_walk using q1
      exact ⟨_, rfl, h⟩
theorem mp_enum_begins {v : Value} {o : Obj} {H : Heap → Prop} {Q : Value → Shared → Prop} (B : Begins v o H) (h1 : H s.heap)
    (h : ∀ h', IsEnum h' (s.heap.objs.size + 1) s.heap.objs.size 0 .none → h'.get? s.heap.objs.size = some o → h'.objs.size = s.heap.objs.size + 2 →
      (∀ b o, s.heap.get? b = some o → h'.get? b = some o) → Q (.ref (s.heap.objs.size + 1)) { s with heap := h' }) :
    wpAny (model prog w) A (call (.type "enumerate") [v]) Q E s := by
  refine callType_new F.called_enumerate (by decide) (F.typeCall_enumerate_1 _) (F.newCall_enumerate_1 _) (fun obj => F.args_object_init_2 obj _) F.entry_enumerate_new
    (mp_enumerate_new B) ⟨h1, ?_⟩
  have hz : (s.heap.push o).objs.size = s.heap.objs.size + 1 := Heap.size_push ..
  show _ ∧ _
  rw [hz]
  have he : IsEnum ((s.heap.push o).push { cls := .type "enumerate", data := .fields #[.none, .bool false, .ref s.heap.objs.size, rawInt 0, .none, .none] }) (s.heap.objs.size + 1) s.heap.objs.size 0 .none := by
    have := Heap.get?_push_size (s.heap.push o) (o := { cls := .type "enumerate", data := .fields #[.none, .bool false, .ref s.heap.objs.size, rawInt 0, .none, .none] }) rfl
    rw [hz] at this; exact this
  refine ⟨⟨_, he, rfl⟩, h _ he (Heap.get?_push_of_some _ (Heap.get?_push_size _ B.free)) (by rw [Heap.size_push, hz]) fun b o x => Heap.get?_push_of_some _ (Heap.get?_push_of_some _ x)⟩
end
end PySem
namespace MP
open PySem L2
/-- pairs of a count and an item, each new -/
def Itg (G : Hp → Prop) (n : Nat) (item : Nat → Option V) : It :=
  ⟨fun i H => G H ∧ i < n, fun i H v H' => ∃ T x, v = .ref T ∧ H T = none ∧ H' = upd H T (.tup [.int (i : Nat), x]) ∧ item i = some x, fun i H => G H ∧ n ≤ i⟩
/-- what an enumeration steps over: while G stands, the iterator at `it` (state tn) draws the items -/
structure Src (X : Cx) (G : Hp → Prop) (n : Nat) (item : Nat → Option V) (it : Addr) (tn : Nat → Heap → Prop) : Prop where
  obj : ∀ i h, tn i h → ∃ o, h.get? it = some o ∧ ∀ v, o.data ≠ .cell v
  keep : ∀ i h h', tn i h → (∀ o, h.get? it = some o → h'.get? it = some o) → tn i h'
  draw : ∀ (Y : Cx), Y.prog = X.prog → Y.w = X.w → Y.K = X.K → Y.calm = true → ∀ (pins : List (Addr × Obj)) (s : Shared) (σ : L2.St) (H : Hp) (i : Nat), Inv Y pins σ H s → tn i s.heap → G H → i < n → FpOk Y pins H it → ∀ (e : Addr), (∃ old, IsEnum s.heap e it (i : Nat) old) → e ≠ it → FpOk Y pins H e → ∃ (fp : List Addr) (m : Nat) (P : Nat → Value → Prop) (St : Nat → Heap → Prop), Draws X.prog X.w Y.A.in1 it fp m P St ∧ St i s.heap ∧ i < m ∧ e ∉ fp ∧ (∀ u, P i u → ∃ x, item i = some x ∧ RelV x u) ∧ ∀ h, St (i + 1) h → tn (i + 1) h
  stop : ∀ (Y : Cx), Y.prog = X.prog → Y.w = X.w → Y.K = X.K → Y.calm = true → ∀ (pins : List (Addr × Obj)) (s : Shared) (σ : L2.St) (H : Hp) (i : Nat), Inv Y pins σ H s → tn i s.heap → G H → n ≤ i → ∀ (Q : Value → Shared → Prop) (E : Value → Shared → Prop), (∀ h' e, Heap.ExtBut it s.heap h' → (∃ o, h'.get? e = some o ∧ o.cls = .type "StopIteration") → E (.ref e) { s with heap := h' }) → wpAny (model X.prog X.w) Y.A.in1 (Builtin.SmallTypes.nextOf (.ref it)) Q E s
theorem turn_g {X : Cx} {G : Hp → Prop} {n : Nat} {item : Nat → Option V} {it e : Addr} {tn : Nat → Heap → Prop} {elts : List Expr} {kk : Nat} {tpos : Pos} (S : Src X G n item it tn) :
    Turn X.prog X.w X.K (.Tuple elts kk tpos) (Itg G n item) [e, it] e (fun i h => (∃ old, IsEnum h e it ((i : Nat) : Int) old) ∧ tn i h ∧ e ≠ it) where
  mem := by simp
  obj := fun i h st b hb => by
    obtain ⟨⟨old, he⟩, st2, _⟩ := st
    have e' : b = e ∨ b = it := by simpa using hb
    rcases e' with z | z
    · rw [z]; exact ⟨_, he, fun v q => nomatch q⟩
    · rw [z]; exact S.obj i h st2
  keep := fun i h h' st k => let ⟨⟨old, he⟩, hi, hne⟩ := st; ⟨⟨old, k e (by simp) _ he⟩, S.keep i h h' hi fun o q => k it (by simp) o q, hne⟩
  item := by
    intro Y hP hw hK hc i pins s σ H E I hf st hg
    obtain ⟨⟨old, he⟩, hit, hne⟩ := st
    have hel : e < s.heap.objs.size := Heap.lt_size he
    have hil : it < s.heap.objs.size := by obtain ⟨o, q, _⟩ := S.obj i _ hit; exact Heap.lt_size q
    obtain ⟨fp, m, P, St, D, hst, hlt, hef, hPi, hSt⟩ := S.draw Y hP hw hK hc pins s σ H i I hit hg.1 hg.2 (hf it (by simp)) e ⟨old, he⟩ hne (hf e (by simp))
    refine wpAny_pyNext_enum_itemD D he hst hlt hne hef fun u h' tk hu ho hit' hT hsz hk => ?_
    obtain ⟨x, hx, ru⟩ := hPi u hu
    refine ⟨_, rfl, wpAny_letOwnedTupleGo_enum (s := { s with heap := h', toks := tk + 1 }) ho fun h'' he' sb => ?_⟩
    have hT2 : h''.get? s.heap.objs.size = some { cls := .type "tuple", data := .seq #[.int i tk, u] } := (sb.2 _ (Nat.ne_of_gt hel)).trans hT
    have new : ObjOk Y.prog Y.w (upd H s.heap.objs.size (.tup [.int (i : Nat), x])) h'' s.heap.objs.size (.tup [.int (i : Nat), x]) :=
      ⟨by show 2 ≤ sizeLine; decide, [.int i tk, u], .cons ⟨_, rfl⟩ (.cons ru .nil), ⟨_, hT2, rfl, _, rfl⟩⟩
    have I1 : Inv Y pins σ (upd H s.heap.objs.size (.tup [.int (i : Nat), x])) { s with heap := h'', toks := tk + 1 } :=
      I.turnedNew (ch := [e, it]) (fun b ob hb q => (sb.2 b (fun z => hb (by simp [z]))).trans (hk b ob (fun z => hb (by simp [z])) (fun z => hb (by simp [z])) q)) hf (Nat.le_refl _) new
    refine ⟨.ref s.heap.objs.size, _, I1, rfl, ⟨_, x, rfl, I.hok.fresh (Nat.le_refl _), rfl, hx⟩, ⟨⟨u, ?_⟩, S.keep _ _ _ (hSt _ hit') fun o q => (sb.2 it (Ne.symm hne)).trans q, hne⟩, fun b hb => ?_⟩
    · have e1 : ((i + 1 : Nat) : Int) = (i : Int) + 1 := by omega
      rw [e1]; exact he'
    · have hb' : b < s.heap.objs.size := by
        have e' : b = e ∨ b = it := by simpa using hb
        rcases e' with z | z
        · rw [z]; exact hel
        · rw [z]; exact hil
      rw [upd_ne (Nat.ne_of_lt hb')]
      exact (hf b hb).1
  done := by
    intro Y hP hw hK hc i pins s σ H E I hf st hg
    obtain ⟨⟨old, he⟩, hit, hne⟩ := st
    obtain ⟨f0, f1, f2, f3, f4, f5⟩ := hf it (by simp)
    exact mp_enum_endG he (S.stop Y hP hw hK hc pins s σ H i I hit hg.1 hg.2) fun h' eb => ⟨rfl, I.turned (t' := s.toks) (fun b o hb q => eb b o hb q) f0 f1 f3 f4 f5⟩
  self := fun A i s Q E st h => let ⟨⟨_, he⟩, _⟩ := st; wpAny_pyIter_enum he h
/-- a list, while it stands -/
theorem src_list {X : Cx} {a it : Addr} {vs : List V} (hne : a ≠ it) : Src X (fun H => SqL X.K H a vs) vs.length (fun i => vs[i]?) it (fun i h => h.IsListIter it a i) where
  obj := fun i h st => by obtain ⟨o, ho, hc, hd⟩ := st; exact ⟨o, ho, fun v q => by rw [hd] at q; cases q⟩
  keep := fun i h h' st k => st.at fun o q => k o q
  draw := by
    intro Y hP hw hK hc pins s σ H i I hit hg hi hf e he hne2 hfe
    rw [← hK] at hg
    obtain ⟨its, rv, p, hz⟩ := I.list hg
    refine ⟨[it, a], its.toArray.size, _, _, Draws.list (prog := X.prog) (w := X.w) (A := Y.A.in1) (I.ok.hd hc) it a hne its.toArray, ⟨hit, p.isList⟩, by rw [List.size_toArray, ← rv.length]; exact hi, fun hm => ?_, fun u hu => ?_, fun h st => st.1⟩
    · rcases List.mem_cons.mp hm with z | hm
      · exact hne2 z
      · rw [List.mem_singleton] at hm
        obtain ⟨old, he⟩ := he
        obtain ⟨o, ho, ec, _⟩ := p.isList
        rw [← hm] at ho
        rw [he] at ho
        cases ho
        injection ec with ec
        exact absurd ec (by decide)
    · obtain ⟨x, hx, rx⟩ := vals_at rv (i := i) (u := u) (by simpa using hu)
      exact ⟨x, hx, rx⟩
  stop := by
    intro Y hP hw hK hc pins s σ H i I hit hg hi Q E hE
    rw [← hK] at hg
    obtain ⟨its, rv, p, hz⟩ := I.list hg
    exact wpAny_nextOf_list_end (I.ok.hd hc) hit p.isList (by have := rv.length; simp; omega) hE
theorem src_tuple {X : Cx} {a it : Addr} {vs : List V} (hne : a ≠ it) : Src X (fun H => SqT X.K H a vs) vs.length (fun i => vs[i]?) it (fun i h => h.IsTupleIter it a i) where
  obj := fun i h st => by obtain ⟨o, ho, hc, hd⟩ := st; exact ⟨o, ho, fun v q => by rw [hd] at q; cases q⟩
  keep := fun i h h' st k => st.at fun o q => k o q
  draw := by
    intro Y hP hw hK hc pins s σ H i I hit hg hi hf e he hne2 hfe
    rw [← hK] at hg
    obtain ⟨its, rv, p, hz⟩ := I.tuple hg
    have p : s.heap.IsTuple a its.toArray := p
    refine ⟨[it, a], its.toArray.size, _, _, Draws.tuple (prog := X.prog) (w := X.w) (A := Y.A.in1) (I.ok.hd hc) it a hne its.toArray, ⟨hit, p⟩, by rw [List.size_toArray, ← rv.length]; exact hi, fun hm => ?_, fun u hu => ?_, fun h st => st.1⟩
    · rcases List.mem_cons.mp hm with z | hm
      · exact hne2 z
      · rw [List.mem_singleton] at hm
        obtain ⟨old, he⟩ := he
        obtain ⟨o, ho, ec, _⟩ := p
        rw [← hm] at ho
        rw [he] at ho
        cases ho
        injection ec with ec
        exact absurd ec (by decide)
    · obtain ⟨x, hx, rx⟩ := vals_at rv (i := i) (u := u) (by simpa using hu)
      exact ⟨x, hx, rx⟩
  stop := by
    intro Y hP hw hK hc pins s σ H i I hit hg hi Q E hE
    rw [← hK] at hg
    obtain ⟨its, rv, p, hz⟩ := I.tuple hg
    have p : s.heap.IsTuple a its.toArray := p
    exact wpAny_nextOf_tuple_end (I.ok.hd hc) hit p (by have := rv.length; simp; omega) hE
theorem src_text {X : Cx} {it : Addr} {z : Str} {t : Tok} : Src X (fun _ => True) z.cps.size (fun i => z.cps[i]?.map fun c => .str ⟨#[c]⟩) it (fun i h => h.IsStrIter it (strIterType z) z t i) where
  obj := fun i h st => by obtain ⟨o, ho, hc, hd⟩ := st; exact ⟨o, ho, fun v q => by rw [hd] at q; cases q⟩
  keep := fun i h h' st k => let ⟨o, ho, r⟩ := st; ⟨o, k o ho, r⟩
  draw := by
    intro Y hP hw hK hc pins s σ H i I hit hg hi hf e he hne2 hfe
    refine ⟨[it], z.cps.size, _, _, Draws.text (prog := X.prog) (w := X.w) (A := Y.A.in1) (I.ok.hd hc) it z t, hit, hi, fun hm => ?_, fun u hu => ?_, fun h st => st⟩
    · rw [List.mem_singleton] at hm; exact hne2 hm
    · obtain ⟨c, u', hc', rfl⟩ := hu
      exact ⟨.str ⟨#[c]⟩, by rw [hc']; rfl, ⟨u', rfl⟩⟩
  stop := by
    intro Y hP hw hK hc pins s σ H i I hit hg hi Q E hE
    have hx : z.cps[i]? = none := by simp; omega
    have hh := I.ok.hd hc
    have hit : s.heap.IsStrIter it (strIterType z) z t i := hit
    cases ha : z.cps.all (· < 128)
    · simp only [strIterType, ha, Bool.false_eq_true, if_false] at hit
      exact wpAny_nextOf_wide_end hh hit hx hE
    · simp only [strIterType, ha, if_true] at hit
      exact wpAny_nextOf_ascii_end hh hit hx hE
def iEnuA (K : PySem.W.Frag) (tl : TE) : TI := fun σ H R => tL [tl] σ H fun vs H1 => ∃ x, vs = [x] ∧ ((∃ a xs, x = .ref a ∧ SqL K H1 a xs ∧ R (Itg (fun H => SqL K H a xs) xs.length fun i => xs[i]?) H1) ∨ (∃ a xs, x = .ref a ∧ SqT K H1 a xs ∧ R (Itg (fun H => SqT K H a xs) xs.length fun i => xs[i]?) H1) ∨ ∃ z : Str, x = .str z ∧ R (Itg (fun _ => True) z.cps.size fun i => z.cps[i]?.map fun c => .str ⟨#[c]⟩) H1)
theorem pi_enuA {X : Cx} {e : Expr} {tl : TE} {p pos tpos : Pos} {elts : List Expr} {kk : Nat} (hg : Gl X "enumerate") (hm : X.mg "enumerate" = none) (he : PE X e tl) (hs : starEach [e] X.env = [(false, eval e X.env)]) :
    PI X (.Tuple elts kk tpos) (.Call (.Name "enumerate" p) [e] [] pos) (iEnuA X.K tl) := by
  refine ⟨fun pins s σ H R I h => ?_⟩
  have ha : PA X [e] (tL [tl]) := pa_cons he pa_nil hs
  refine PyProof.Rows.Call_ (ld_blt I hg hm PyProof.Rows.boot_enumerate (PyProof.Rows.callWith_type1 (thn (ha.run pos pins s σ H _ I h) fun us s1 ⟨vs, H1, I1, r1, q1⟩ => ?_) hs rfl))
  have fin : ∀ {G : Hp → Prop} {n : Nat} {item : Nat → Option V} {tn : Nat → Heap → Prop} {v : Value} {o : Obj} {Hh : Heap → Prop}, Begins v o Hh → Hh s1.heap → Src X G n item s1.heap.objs.size tn → (∀ h', h'.get? s1.heap.objs.size = some o → tn 0 h') → R (Itg G n item) H1 →
      wpAny (model X.prog X.w) X.A (call (.type "enumerate") [v]) (fun v s1 => wpAny (model X.prog X.w) X.A (pyIter v) (PIE X pins σ (.Tuple elts kk tpos) R) X.xe s1) X.xe s1 := by
    intro G n item tn v o Hh B h1 S st q
    refine mp_enum_begins B h1 fun h' he hit hsz hk => wpAny_pyIter_enum he ?_
    have I2 : Inv X pins σ H1 { s1 with heap := h' } := I1.kept (t' := s1.toks) hk
    refine ⟨s1.heap.objs.size + 1, [s1.heap.objs.size + 1, s1.heap.objs.size], _, _, H1, rfl, I2, turn_g S, ⟨⟨.none, he⟩, st _ hit, Nat.succ_ne_self _⟩, fun b hb => ?_, q⟩
    have e' : b = s1.heap.objs.size + 1 ∨ b = s1.heap.objs.size := by simpa using hb
    have hle : s1.heap.objs.size ≤ b := by
      rcases e' with z | z
      · rw [z]; exact Nat.le_add_right _ _
      · rw [z]; exact Nat.le_refl _
    exact I1.fpOk hle (I1.hok.fresh hle)
  have lt_of : ∀ {a : Addr} {o : Obj}, s1.heap.get? a = some o → a ≠ s1.heap.objs.size := fun e => Nat.ne_of_lt (Heap.lt_size e)
  obtain ⟨x, hx, q1⟩ : ∃ x, vs = [x] ∧ ((∃ a xs, x = .ref a ∧ SqL X.K H1 a xs ∧ R (Itg (fun H => SqL X.K H a xs) xs.length fun i => xs[i]?) H1) ∨ (∃ a xs, x = .ref a ∧ SqT X.K H1 a xs ∧ R (Itg (fun H => SqT X.K H a xs) xs.length fun i => xs[i]?) H1) ∨ ∃ z : Str, x = .str z ∧ R (Itg (fun _ => True) z.cps.size fun i => z.cps[i]?.map fun c => .str ⟨#[c]⟩) H1) := q1
  subst hx
  cases r1 with
  | cons r rr =>
    cases rr
    rcases q1 with ⟨a, xs, e, hq, q⟩ | ⟨a, xs, e, hq, q⟩ | ⟨z, e, q⟩
    · subst e
      cases r
      obtain ⟨its, rv, p', hz⟩ := I1.list hq
      have hl := p'.isList
      obtain ⟨o, ho, _⟩ := id hl
      exact fin (begins_list a its.toArray) hl (src_list (lt_of ho)) (fun h' hg => ⟨_, hg, rfl, rfl⟩) q
    · subst e
      cases r
      obtain ⟨its, rv, p', hz⟩ := I1.tuple hq
      have hl : s1.heap.IsTuple a its.toArray := p'
      obtain ⟨o, ho, _⟩ := id hl
      exact fin (begins_tuple a its.toArray) hl (src_tuple (lt_of ho)) (fun h' hg => ⟨_, hg, rfl, rfl⟩) q
    · subst e
      obtain ⟨t, rfl⟩ := r
      exact fin (begins_text z t) trivial (src_text (z := z) (t := t)) (fun h' hg => ⟨_, hg, rfl, rfl⟩) q
section
variable {K : PySem.W.Frag} {S H : Hp} {r : Own}
theorem walk_itg {G : Hp → Prop} {item : Nat → Option V} {ys : List D} {n : Nat} (hn : n = ys.length) (st : ∀ S' H' : Hp, MP.Same S S' → MP.Same S' H' → (∀ b, r b → H' b = H b) → G H') (u : unfl ys = true) (hi : ∀ (i : Nat) (d : D), ys[i]? = some d → ∃ x r', item i = some x ∧ RepV K S H d x r') : Walk K (Itg G n item) (itemsOf.numb ys) S H r := by
  subst hn
  intro S' H' k1 k2 k3
  have g := st S' H' k1 k2 k3
  unfold itemsOf.numb
  refine ⟨fun i d hd => ?_, ⟨g, ?_⟩⟩
  · rw [List.getElem?_zipWith] at hd
    cases ex : ys[i]? with
    | none => rw [ex] at hd; cases q : (List.range ys.length)[i]? <;> rw [q] at hd <;> cases hd
    | some x =>
      have hlt : i < ys.length := (List.getElem?_eq_some_iff.mp ex).1
      rw [ex, List.getElem?_range hlt] at hd
      cases hd
      obtain ⟨v, r1, hv, rv⟩ := hi i x ex
      refine ⟨⟨g, hlt⟩, fun z H2 hz => ?_⟩
      obtain ⟨T, v', rfl, nT, rfl, e1⟩ := hz
      rw [hv] at e1
      cases e1
      have fx := unfl_iff.mp u x (List.mem_of_getElem? ex)
      exact new_pair (x := .int (i : Int)) (r1 := none_) (r2 := none_) k2 nT (by rw [RepV]) (RepV.sh_to rv fx k1) rfl fx
  · rw [List.length_zipWith, List.length_range]
    omega
theorem walk_enuA {d : D} {v : V} {xs : List D} (sub : MP.Same S H) (h : RepV K S H d v r) (e : itemsOf true d = some xs) {R : It → Hp → Prop} (k : ∀ J, Walk K J xs S H r → R J H) :
    (∃ a xs, v = .ref a ∧ SqL K H a xs ∧ R (Itg (fun H => SqL K H a xs) xs.length fun i => xs[i]?) H) ∨ (∃ a xs, v = .ref a ∧ SqT K H a xs ∧ R (Itg (fun H => SqT K H a xs) xs.length fun i => xs[i]?) H) ∨ ∃ z : Str, v = .str z ∧ R (Itg (fun _ => True) z.cps.size fun i => z.cps[i]?.map fun c => .str ⟨#[c]⟩) H := by
  unfold itemsOf at e
  split at e
  · rename_i o ys
    split at e
    · rename_i hu
      simp only [if_true, Option.some.injEq] at e
      subst e
      obtain ⟨a, vs, rfl, tx, sx⟩ := lst_stays h hu
      exact .inl ⟨a, vs, rfl, sx S H (Same.refl S) sub fun _ _ => rfl, k _ (walk_itg tx.len.symm sx hu fun i d hd => by
        obtain ⟨x, r', hx, rx⟩ := tx.at hd
        exact ⟨x, r', hx, rx⟩)⟩
    · cases e
  · rename_i o ys
    split at e
    · rename_i hu
      simp only [if_true, Option.some.injEq] at e
      subst e
      rw [RepV] at h
      obtain ⟨a, vs, ev, q, z, u, t0⟩ := h
      have t := RepVs.sh_to (r' := none_) (H' := H) t0 hu (Same.refl S)
      have st : ∀ S' H' : Hp, MP.Same S S' → MP.Same S' H' → (∀ b, r b → H' b = H b) → SqT K H' a vs := fun S' H' k1 k2 _ => .inl (.inl (Same.trans k1 k2 _ _ q))
      exact .inr (.inl ⟨a, vs, ev, st S H (Same.refl S) sub fun _ _ => rfl, k _ (walk_itg t.len.symm st hu fun i d hd => by
        obtain ⟨x, r', hx, rx⟩ := t.at hd
        exact ⟨x, r', hx, rx⟩)⟩)
    · cases e
  · rename_i s
    simp only [if_true, Option.some.injEq] at e
    subst e
    rw [RepV] at h
    have hu : unfl (s.map fun c => D.str [c]) = true := unfl_iff.mpr fun d hd => by obtain ⟨c, _, rfl⟩ := List.mem_map.mp hd; rfl
    refine .inr (.inr ⟨_, h.1, k _ (walk_itg (by rw [List.length_map, List.size_toArray]) (fun _ _ _ _ _ => trivial) hu fun i d hd => ?_)⟩)
    rw [List.getElem?_map] at hd
    cases q : s[i]? with
    | none => rw [q] at hd; cases hd
    | some c =>
      rw [q] at hd
      cases hd
      refine ⟨.str ⟨#[c]⟩, none_, by rw [List.getElem?_toArray, q]; rfl, ?_⟩
      rw [RepV]
      exact ⟨rfl, by rw [List.length_singleton, sizeLine_eq]; decide⟩
  · cases e
end
end MP

set_option autoImplicit false
set_option linter.all false
set_option maxRecDepth 100000
/-! MP: targets. -/
namespace MP
open PySem L2

/-- the slots of a target -/
def CG.slots : CG → List Nat
  | .nm i => [i]
  | .fl _ _ => []
  | .nil => []
  | .cons t ts => t.slots ++ ts.slots
mutual
def chkG (g : Gx) : CG → Expr → Bool
  | .nm i, .Name x _ => decide (g.N[i]? = some x) && decide (x ∈ g.asn)
  | .nil, .Tuple es _ _ => es.isEmpty
  | .cons t ts, .Tuple (e :: es) _ _ => plainX e && chkG g t e && chkGs g ts es
  | _, _ => false
def chkGs (g : Gx) : CG → List Expr → Bool
  | .nil, [] => true
  | .cons t ts, e :: es => plainX e && chkG g t e && chkGs g ts es
  | _, _ => false
end
section
variable (M : Md)
/-- σ' is σ but at the slots is -/
def Agree (is : List Nat) (σ σ' : L2.St) : Prop := σ'.length = σ.length ∧ ∀ i, i ∉ is → σ'[i]? = σ[i]?
def tG (t : CG) : TG := fun v σ H Q => ∃ (S : Hp) (R : Own) (ρ : Rho) (d : D) (r : Own) (ρ' : Rho), Rel M.K S H σ ρ R ∧ RepV M.K S H d v r ∧ Live S H r ∧ (∀ a, R a → ¬ r a) ∧ putG t d ρ = some ρ' ∧
  ∀ σ' R', Rel M.K S H σ' ρ' R' → (∀ a, R' a → R a ∨ r a) → Agree t.slots σ σ' → Q σ' H
def tGs (t : CG) : TGs := fun vs σ H Q => ∃ (S : Hp) (R : Own) (ρ : Rho) (o : Bool) (ds : List D) (r : Own) (ρ' : Rho), Rel M.K S H σ ρ R ∧ RepVs M.K S H ds vs r ∧ Live S H r ∧ (∀ a, R a → ¬ r a) ∧ putG t (.tup o ds) ρ = some ρ' ∧
  ∀ σ' R', Rel M.K S H σ' ρ' R' → (∀ a, R' a → R a ∨ r a) → Agree t.slots σ σ' → Q σ' H
end
section
variable {M : Md} {n : Nat} {g : Gx} {X : Cx} {W : WX}
theorem PGs.imp {X : Cx} {e : List Expr} {t t' : TGs} (h : PGs X e t) (k : ∀ v σ H Q, t' v σ H Q → t v σ H Q) : PGs X e t' := ⟨fun pins s σ H v u Q I r q => h.run pins s σ H v u Q I r (k v σ H Q q)⟩
theorem Agree.refl {is : List Nat} {σ : L2.St} : Agree is σ σ := ⟨rfl, fun _ _ => rfl⟩
theorem Agree.trans {is js : List Nat} {σ σ1 σ2 : L2.St} (a : Agree is σ σ1) (b : Agree js σ1 σ2) : Agree (is ++ js) σ σ2 :=
  ⟨b.1.trans a.1, fun i h => (b.2 i fun z => h (List.mem_append_right _ z)).trans (a.2 i fun z => h (List.mem_append_left _ z))⟩
theorem assign_plain {e : Expr} (h : plainX e = true) (es : List Expr) (env : Env) : assignEach (e :: es) env = (false, assign e env) :: assignEach es env := by
  cases e <;> first | rfl | cases h
theorem assign_stars {env : Env} : ∀ {es : List Expr}, (∀ e ∈ es, plainX e = true) → (assignEach es env).length = es.length ∧ (assignEach es env).findIdx? (·.1) = none
  | [], _ => ⟨rfl, rfl⟩
  | e :: es, h => by
    rw [assign_plain (h e List.mem_cons_self)]
    obtain ⟨a, b⟩ := assign_stars (env := env) (es := es) fun x hx => h x (List.mem_cons_of_mem _ hx)
    refine ⟨by rw [List.length_cons, List.length_cons, a], ?_⟩
    rw [List.findIdx?_cons]
    simp [b]
theorem chkGs_plain : ∀ (ts : CG) (es : List Expr), chkGs g ts es = true → ∀ e ∈ es, plainX e = true
  | .nil, [], _, _, m => by cases m
  | .nil, _ :: _, h, _, _ => by cases h
  | .cons t ts, [], h, _, _ => by cases h
  | .cons t ts, e :: es, h, x, m => by
    rw [chkGs] at h
    simp only [Bool.and_eq_true] at h
    rcases List.mem_cons.mp m with q | m
    · rw [q]; exact h.1.1
    · exact chkGs_plain ts es h.2 x m
  | .nm _, es, h, _, _ => by cases es <;> cases h
  | .fl _ _, es, h, _, _ => by cases es <;> cases h
theorem chkGs_len : ∀ (ts : CG) (es : List Expr), chkGs g ts es = true → ∀ (o : Bool) (ds : List D) (ρ ρ' : Rho), putG ts (.tup o ds) ρ = some ρ' → ds.length = es.length
  | .nil, [], _, o, ds, ρ, ρ', h => by
    cases ds with
    | nil => rfl
    | cons _ _ => cases h
  | .nil, _ :: _, h, _, _, _, _, _ => by cases h
  | .cons t ts, [], h, _, _, _, _, _ => by cases h
  | .cons t ts, e :: es, h, o, ds, ρ, ρ', q => by
    rw [chkGs] at h
    simp only [Bool.and_eq_true] at h
    cases ds with
    | nil => cases q
    | cons d ds =>
      rw [putG] at q
      cases q1 : putG t d ρ with
      | none => rw [q1] at q; cases q
      | some ρ1 =>
        rw [q1] at q
        rw [List.length_cons, List.length_cons, chkGs_len ts es h.2 o ds ρ1 ρ' q]
  | .nm _, es, h, _, _, _, _, _ => by cases es <;> cases h
  | .fl _ _, es, h, _, _, _, _, _ => by cases es <;> cases h
mutual
theorem snd_G (s : Sit M n g X W) : ∀ (t : CG) (e : Expr), chkG g t e = true → PG X e (tG M t)
  | .nm i, .Name x pos, h => by
    rw [chkG] at h
    simp only [Bool.and_eq_true, decide_eq_true_eq] at h
    obtain ⟨l1, l2⟩ := s.fn x h.2
    refine PG.imp (pg_name (by rw [s.N]; exact s.nd) (by rw [s.N]; exact h.1) l1 l2) fun v σ H Q q => ?_
    obtain ⟨S, R, ρ, d, r, ρ', rel, rep, live, dj, e, k⟩ := q
    rw [putG] at e
    split at e
    · rename_i hi
      cases e
      refine k _ _ (rel.put hi rep live dj) (fun a x => x) ⟨List.length_set, fun j hj => List.getElem?_set_ne fun z => hj (by rw [← z]; exact List.mem_singleton_self _)⟩
    · cases e
  | .nil, .Tuple es kk pos, h => by
    rw [chkG] at h
    have e : es = [] := List.isEmpty_iff.mp h
    subst e
    refine PG.imp (pg_tup s.calm pgs_nil rfl rfl) fun v σ H Q q => ?_
    obtain ⟨S, R, ρ, d, r, ρ', rel, rep, live, dj, e, k⟩ := q
    cases d with
    | tup o ds =>
      cases ds with
      | nil =>
        cases e
        rw [RepV] at rep
        obtain ⟨a, vs, ev, q, z, u, t⟩ := rep
        have hv : vs = [] := by
          have := t.len
          cases vs with
          | nil => rfl
          | cons _ _ => simp at this
        subst hv
        rw [s.K]
        exact ⟨a, [], ev, (.inl (.inl (rel.sub _ _ q))), rfl, rfl, k σ R rel (fun a x => .inl x) Agree.refl⟩
      | cons _ _ => cases e
    | _ => cases e
  | .cons t ts, .Tuple (e :: es) kk pos, h => by
    rw [chkG] at h
    have hg : chkGs g (.cons t ts) (e :: es) = true := by rw [chkGs]; exact h
    simp only [Bool.and_eq_true] at h
    have pl := chkGs_plain _ _ hg
    obtain ⟨a1, a2⟩ := assign_stars (env := X.env) pl
    refine PG.imp (pg_tup s.calm (pgs_cons (snd_G s t e h.1.2) (snd_Gs s ts es h.2) (by rw [assign_plain h.1.1]; rfl)) a1 a2) fun v σ H Q q => ?_
    obtain ⟨S, R, ρ, d, r, ρ', rel, rep, live, dj, eq, k⟩ := q
    cases d with
    | tup o ds =>
      have hl := chkGs_len _ _ hg o ds ρ ρ' eq
      rw [RepV] at rep
      obtain ⟨a, vs, ev, q, z, u, tt⟩ := rep
      rw [s.K]
      refine ⟨a, vs, ev, (.inl (.inl (rel.sub _ _ q))), by rw [← tt.len]; exact hl, ?_⟩
      cases ds with
      | nil => cases eq
      | cons d ds =>
        cases vs with
        | nil => rw [RepVs] at tt; exact tt.elim
        | cons v1 vs =>
          rw [RepVs] at tt
          obtain ⟨r1, r2, k1, k2, dj12, rep1, rep2⟩ := tt
          rw [putG] at eq
          cases q1 : putG t d ρ with
          | none => rw [q1] at eq; cases eq
          | some ρ1 =>
            rw [q1] at eq
            refine ⟨v1, vs, rfl, S, R, ρ, d, r1, ρ1, rel, rep1, fun a x => live a (k1 a x), fun a x y => dj a x (k1 a y), q1, fun σ1 R1 rel1 s1 ag1 => ?_⟩
            refine ⟨S, R1, ρ1, o, ds, r2, ρ', rel1, rep2, fun a x => live a (k2 a x), fun a x y => ?_, eq, fun σ2 R2 rel2 s2 ag2 => k σ2 R2 rel2 (fun a x => ?_) (ag1.trans ag2)⟩
            · rcases s1 a x with z | z
              · exact dj a z (k2 a y)
              · exact dj12 a z y
            · rcases s2 a x with z | z
              · rcases s1 a z with z | z
                · exact .inl z
                · exact .inr (k1 a z)
              · exact .inr (k2 a z)
    | _ => cases eq
  | .nm _, .Tuple _ _ _, h => by cases h
  | .fl _ _, _, h => by cases h
theorem snd_Gs (s : Sit M n g X W) : ∀ (t : CG) (es : List Expr), chkGs g t es = true → PGs X es (tGs M t)
  | .nil, [], h => by
    refine PGs.imp pgs_nil fun vs σ H Q q => ?_
    obtain ⟨S, R, ρ, o, ds, r, ρ', rel, rep, live, dj, e, k⟩ := q
    cases ds with
    | nil =>
      cases e
      cases vs with
      | nil => exact ⟨rfl, k σ R rel (fun a x => .inl x) Agree.refl⟩
      | cons _ _ => rw [RepVs] at rep; exact rep.elim
    | cons _ _ => cases e
  | .nil, _ :: _, h => by cases h
  | .cons t ts, [], h => by cases h
  | .cons t ts, e :: es, h => by
    rw [chkGs] at h
    simp only [Bool.and_eq_true] at h
    refine PGs.imp (pgs_cons (snd_G s t e h.1.2) (snd_Gs s ts es h.2) (by rw [assign_plain h.1.1]; rfl)) fun vs σ H Q q => ?_
    obtain ⟨S, R, ρ, o, ds, r, ρ', rel, rep, live, dj, eq, k⟩ := q
    cases ds with
    | nil => cases eq
    | cons d ds =>
      cases vs with
      | nil => rw [RepVs] at rep; exact rep.elim
      | cons v1 vs =>
        rw [RepVs] at rep
        obtain ⟨r1, r2, k1, k2, dj12, rep1, rep2⟩ := rep
        rw [putG] at eq
        cases q1 : putG t d ρ with
        | none => rw [q1] at eq; cases eq
        | some ρ1 =>
          rw [q1] at eq
          refine ⟨v1, vs, rfl, S, R, ρ, d, r1, ρ1, rel, rep1, fun a x => live a (k1 a x), fun a x y => dj a x (k1 a y), q1, fun σ1 R1 rel1 s1 ag1 => ?_⟩
          refine ⟨S, R1, ρ1, o, ds, r2, ρ', rel1, rep2, fun a x => live a (k2 a x), fun a x y => ?_, eq, fun σ2 R2 rel2 s2 ag2 => k σ2 R2 rel2 (fun a x => ?_) (ag1.trans ag2)⟩
          · rcases s1 a x with z | z
            · exact dj a z (k2 a y)
            · exact dj12 a z y
          · rcases s2 a x with z | z
            · rcases s1 a z with z | z
              · exact .inl z
              · exact .inr (k1 a z)
            · exact .inr (k2 a z)
  | .nm _, es, h => by cases es <;> cases h
  | .fl _ _, es, h => by cases es <;> cases h
end
end
end MP

set_option autoImplicit false
set_option linter.all false
set_option maxRecDepth 100000
/-! MP: comprehensions, read. -/
namespace MP
open PySem L2

def wF : WX := fun _ _ _ _ => False
section
variable (M : Md) (W : WX) (Φ : Nat → List D → FR)
def PostT (S H : Hp) (σ : L2.St) (R : Own) (Q : Bool → Hp → Prop) (d : D) (ρ' : Rho) : Prop := ∃ b, d = .bl b ∧ ∀ (H' S' : Hp) (R' : Own), Fr S H R S' H' R' → Rel M.K S' H' σ ρ' R' → Q b H'
def tT (c : CE) : TT := fun σ H Q => ∃ S R ρ, Rel M.K S H σ ρ R ∧ OutR M W S H σ R (PostT M S H σ R Q) (ev M.T Φ c ρ)
def tO : CO → TT
  | .none => tYes
  | .some c => tT M W Φ c
def bodyF (t : CG) (c : CO) (elt : CE) (own : List Nat) : D → Rho → MP.R (Option D) := fun x ρ₁ => match putG t x (clr own ρ₁) with
  | none => .bad
  | some ρ₂ => (evo M.T Φ c ρ₂).bind fun b ρ₃ => if b then (ev M.T Φ elt ρ₃).bind fun y ρ₄ => .ok (some y) ρ₄ else .ok none ρ₃
end
section
variable {M : Md} {Φ : Nat → List D → FR} {K : PySem.W.Frag}
theorem seq_cons {f : D → Rho → MP.R (Option D)} {d : D} {ds ys : List D} {ρ ρ' : Rho} (h : seqF f (d :: ds) ρ = .ok ys ρ') : ∃ o ρ1 zs, f d ρ = .ok o ρ1 ∧ seqF f ds ρ1 = .ok zs ρ' ∧ ys = consO o zs := by
  rw [seqF] at h
  cases q : f d ρ with
  | ex k r => rw [q] at h; cases h
  | bad => rw [q] at h; cases h
  | ok o ρ1 =>
    rw [q] at h
    have h : (seqF f ds ρ1).bind (fun es ρ => .ok (consO o es) ρ) = .ok ys ρ' := h
    cases q2 : seqF f ds ρ1 with
    | ex k r => rw [q2] at h; cases h
    | bad => rw [q2] at h; cases h
    | ok zs ρ2 =>
      rw [q2] at h
      cases h
      exact ⟨o, ρ1, zs, rfl, q2, rfl⟩
theorem clr_len (own : List Nat) (ρ : Rho) : (clr own ρ).length = ρ.length := by
  induction own with
  | nil => rfl
  | cons i is ih => rw [clr, List.length_set, ih]
theorem clr_get : ∀ (own : List Nat) (ρ : Rho) (j : Nat), (clr own ρ)[j]? = if j ∈ own then (ρ[j]?).map (fun _ => none) else ρ[j]?
  | [], ρ, j => by simp [clr]
  | i :: is, ρ, j => by
    rw [clr]
    by_cases h : i = j
    · subst h
      rw [if_pos List.mem_cons_self]
      by_cases hl : i < ρ.length
      · rw [List.getElem?_set_self (by rw [clr_len]; exact hl), List.getElem?_eq_getElem hl]
        rfl
      · rw [List.getElem?_eq_none (by rw [List.length_set, clr_len]; omega), List.getElem?_eq_none (by omega)]
        rfl
    · rw [List.getElem?_set_ne h, clr_get is ρ j]
      have : (j ∈ i :: is) ↔ j ∈ is := by
        rw [List.mem_cons]
        exact ⟨fun z => z.resolve_left fun e => h e.symm, .inr⟩
      by_cases hj : j ∈ is
      · rw [if_pos hj, if_pos (this.mpr hj)]
      · rw [if_neg hj, if_neg fun z => hj (this.mp z)]
theorem wipe_get : ∀ (own : List Nat) (σ : L2.St) (j : Nat), (wipe σ own)[j]? = if j ∈ own then (σ[j]?).map (fun _ => none) else σ[j]?
  | [], σ, j => by simp [wipe]
  | i :: is, σ, j => by
    rw [wipe]
    by_cases h : i = j
    · subst h
      rw [if_pos List.mem_cons_self]
      by_cases hl : i < σ.length
      · rw [List.getElem?_set_self (by rw [wipe_length]; exact hl), List.getElem?_eq_getElem hl]
        rfl
      · rw [List.getElem?_eq_none (by rw [List.length_set, wipe_length]; omega), List.getElem?_eq_none (by omega)]
        rfl
    · rw [List.getElem?_set_ne h, wipe_get is σ j]
      have : (j ∈ i :: is) ↔ j ∈ is := by
        rw [List.mem_cons]
        exact ⟨fun z => z.resolve_left fun e => h e.symm, .inr⟩
      by_cases hj : j ∈ is
      · rw [if_pos hj, if_pos (this.mpr hj)]
      · rw [if_neg hj, if_neg fun z => hj (this.mp z)]
theorem wipe_agree {own : List Nat} {σ σ2 : L2.St} {js : List Nat} (sub : ∀ j ∈ js, j ∈ own) (h : Agree js (wipe σ own) σ2) : wipe σ2 own = wipe σ own := by
  apply List.ext_getElem?
  intro j
  rw [wipe_get, wipe_get]
  by_cases hj : j ∈ own
  · rw [if_pos hj, if_pos hj]
    have hl : σ2.length = σ.length := by rw [h.1, wipe_length]
    by_cases hb : j < σ.length
    · rw [List.getElem?_eq_getElem hb, List.getElem?_eq_getElem (by rw [hl]; exact hb)]
      rfl
    · rw [List.getElem?_eq_none (by omega), List.getElem?_eq_none (by omega)]
  · rw [if_neg hj, if_neg hj, h.2 j fun z => hj (sub j z), wipe_get, if_neg hj]
variable {S H : Hp} {σ : L2.St} {ρ : Rho} {R : Own}
/-- forgetting a comprehension's own slots -/
theorem Rel.clr (h : Rel K S H σ ρ R) (own : List Nat) : Rel K S H (wipe σ own) (MP.clr own ρ) R := by
  obtain ⟨o, h1, h2, h3⟩ := h.slots
  refine ⟨h.sub, h.live, by rw [clr_len, wipe_length]; exact h.len, o, fun i d e => ?_, h2, h3⟩
  rw [clr_get] at e
  by_cases hi : i ∈ own
  · rw [if_pos hi] at e
    cases q : ρ[i]? with
    | none => rw [q] at e; cases e
    | some _ => rw [q] at e; cases e
  · rw [if_neg hi] at e
    obtain ⟨v, e1, e2⟩ := h1 i d e
    exact ⟨v, by rw [wipe_get, if_neg hi]; exact e1, e2⟩
/-- from a turn's end back to the emptied slots -/
theorem Rel.again {σ0 : L2.St} (h : Rel K S H σ ρ R) {own js : List Nat} (sub : ∀ j ∈ js, j ∈ own) (ag : Agree js (wipe σ0 own) σ) : Rel K S H (wipe σ0 own) (MP.clr own ρ) R := by
  have k := h.clr own
  rw [wipe_agree sub ag] at k
  exact k
theorem unclr_len (ρ0 : Rho) (own : List Nat) (ρ : Rho) : (unclr ρ0 own ρ).length = ρ.length := by
  induction own with
  | nil => rfl
  | cons i is ih => rw [unclr, List.length_set, ih]
theorem unclr_get (ρ0 : Rho) : ∀ (own : List Nat) (ρ : Rho) (j : Nat), j < ρ.length → (unclr ρ0 own ρ)[j]? = if j ∈ own then some (ρ0.get j) else ρ[j]?
  | [], ρ, j, _ => by simp [unclr]
  | i :: is, ρ, j, hl => by
    rw [unclr]
    by_cases h : i = j
    · subst h
      rw [if_pos List.mem_cons_self, List.getElem?_set_self (by rw [unclr_len]; exact hl)]
    · rw [List.getElem?_set_ne h, unclr_get ρ0 is ρ j hl]
      have : (j ∈ i :: is) ↔ j ∈ is := by
        rw [List.mem_cons]
        exact ⟨fun z => z.resolve_left fun e => h e.symm, .inr⟩
      by_cases hj : j ∈ is
      · rw [if_pos hj, if_pos (this.mpr hj)]
      · rw [if_neg hj, if_neg fun z => hj (this.mp z)]
/-- .. and laid back at the end: what stood there is unflagged -/
theorem Rel.unclr {S0 H0 : Hp} {ρ0 : Rho} {R0 : Own} (h0 : Rel K S0 H0 σ ρ0 R0) (kS : MP.Same S0 S) {own : List Nat} (nf : ownFl own ρ0 = false) (h : Rel K S H (wipe σ own) (MP.clr own ρ) R) : Rel K S H σ (MP.unclr ρ0 own ρ) R := by
  obtain ⟨o, h1, h2, h3⟩ := h.slots
  have hl : ρ.length = σ.length := by have := h.len; rw [clr_len, wipe_length] at this; exact this
  refine ⟨h.sub, h.live, by rw [unclr_len]; exact hl, fun i => if i ∈ own then none_ else o i, fun i d e => ?_, fun i a x => ?_, fun i j a x y => ?_⟩
  · have hi : i < ρ.length := by
      have := (List.getElem?_eq_some_iff.mp e).1
      rw [unclr_len] at this
      exact this
    rw [unclr_get ρ0 own ρ i hi] at e
    by_cases q : i ∈ own
    · rw [if_pos q] at e
      have e' : ρ0.get i = some d := Option.some.inj e
      obtain ⟨v, e1, r, _, rep⟩ := h0.get e'
      refine ⟨v, e1, ?_⟩
      simp only [q, if_true]
      have f : d.fl = false := by
        unfold ownFl at nf
        have k := List.any_eq_false.mp nf i q
        rw [e'] at k
        simpa using k
      exact RepV.sh_to rep f kS
    · rw [if_neg q] at e
      obtain ⟨v, e1, e2⟩ := h1 i d (by rw [clr_get, if_neg q]; exact e)
      refine ⟨v, by rw [wipe_get, if_neg q] at e1; exact e1, ?_⟩
      simp only [q, if_false]
      exact e2
  · by_cases q : i ∈ own
    · simp only [q, if_true] at x; exact x.elim
    · simp only [q, if_false] at x; exact h2 i a x
  · by_cases q : i ∈ own
    · simp only [q, if_true] at x; exact x.elim
    · by_cases q' : j ∈ own
      · simp only [q', if_true] at y; exact y.elim
      · simp only [q, q', if_false] at x y; exact h3 i j a x y
end

section
variable {M : Md} {Φ : Nat → List D → FR} {σ : L2.St}
/-- a new list with one more at its end -/
theorem RepVs.snoc {K : PySem.W.Frag} {S H : Hp} : ∀ {ds : List D} {vs : List V} {d : D} {v : V} {r1 r2 : Own}, RepVs K S H ds vs r1 → RepV K S H d v r2 → (∀ a, r1 a → r2 a → False) → RepVs K S H (ds ++ [d]) (vs ++ [v]) fun a => r1 a ∨ r2 a
  | [], [], d, v, r1, r2, _, h2, dj => by
    show RepVs K S H [d] [v] _
    rw [RepVs]
    refine ⟨r2, none_, fun a x => .inr x, fun a x => x.elim, fun a _ x => x, h2, by rw [RepVs]; trivial⟩
  | [], _ :: _, _, _, _, _, h1, _, _ => by rw [RepVs] at h1; exact h1.elim
  | _ :: _, [], _, _, _, _, h1, _, _ => by rw [RepVs] at h1; exact h1.elim
  | x :: ds, w :: vs, d, v, r1, r2, h1, h2, dj => by
    rw [RepVs] at h1
    obtain ⟨s1, s2, k1, k2, dj12, a, b⟩ := h1
    show RepVs K S H (x :: (ds ++ [d])) (w :: (vs ++ [v])) _
    rw [RepVs]
    exact ⟨s1, fun a => s2 a ∨ r2 a, fun a z => .inl (k1 a z), fun a z => z.elim (fun z => .inl (k2 a z)) .inr, fun a z y => y.elim (fun y => dj12 a z y) fun y => dj a (k1 a z) y, a, RepVs.snoc b h2 fun a z y => dj a (k2 a z) y⟩

/-- the state at a turn: Dl the new list, rh what is walked and held -/
structure CT (M : Md) (σ : L2.St) (own : List Nat) (Dl : Addr) (S1 H1 : Hp) (R1 rh : Own) (S H : Hp) (ρ : Rho) (R racc : Own) (ys : List D) (vs : List V) : Prop where
  fr : Fr S1 H1 (fun a => R1 a ∨ rh a) S H fun a => R a ∨ racc a ∨ rh a ∨ a = Dl
  rel : Rel M.K S H (wipe σ own) (clr own ρ) R
  live : Live S H fun a => racc a ∨ rh a ∨ a = Dl
  dj : ∀ a, R a → ¬ (racc a ∨ rh a ∨ a = Dl)
  rep : RepVs M.K S H ys vs racc
  nD : ¬ racc Dl
  nh : ∀ a, racc a → ¬ rh a
  nhD : ¬ rh Dl
  at_ : H Dl = some (.lst vs)
  hk : ∀ a, rh a → H a = H1 a
/-- carried over a step of the block -/
theorem CT.move {own : List Nat} {Dl : Addr} {S1 H1 S H S' H' : Hp} {R1 rh R racc T R' : Own} {ρ ρ' : Rho} {ys : List D} {vs : List V} (c : CT M σ own Dl S1 H1 R1 rh S H ρ R racc ys vs) (f : Fr S H R S' H' T) (rel : Rel M.K S' H' (wipe σ own) (clr own ρ') R') (k : ∀ a, R' a → T a) :
    CT M σ own Dl S1 H1 R1 rh S' H' ρ' R' racc ys vs ∧ (∀ a, T a → ¬ (racc a ∨ rh a ∨ a = Dl)) ∧ Fr S1 H1 (fun a => R1 a ∨ rh a) S' H' fun a => T a ∨ racc a ∨ rh a ∨ a = Dl := by
  obtain ⟨a1, a2, a3⟩ := f.aside c.live c.dj
  have fr : Fr S1 H1 (fun a => R1 a ∨ rh a) S' H' fun a => T a ∨ racc a ∨ rh a ∨ a = Dl := (c.fr.trans f fun a x => .inl x).less fun a x => by
    rcases x with x | x
    · exact .inl x
    · exact .inr (.inr x)
  refine ⟨⟨fr.less fun a x => x.elim (fun x => .inl (k a x)) .inr, rel, a2, fun a x => a3 a (k a x), ?_, c.nD, c.nh, c.nhD, (a1 Dl (.inr (.inr rfl))).trans c.at_, fun a x => (a1 a (.inr (.inl x))).trans (c.hk a x)⟩, a3, fr⟩
  exact RepVs.to f.ss ys vs racc racc c.rep (fun _ x => x) fun b x => a1 b (.inl x)
/-- one more -/
theorem CT.app {own : List Nat} {Dl : Addr} {S1 H1 S H : Hp} {R1 rh R racc r T : Own} {ρ : Rho} {ys : List D} {vs : List V} {y : D} {v : V} (c : CT M σ own Dl S1 H1 R1 rh S H ρ R racc ys vs) (h1 : H1 Dl = none)
    (fr : Fr S1 H1 (fun a => R1 a ∨ rh a) S H fun a => T a ∨ racc a ∨ rh a ∨ a = Dl) (tr : ∀ a, r a → T a) (dT : ∀ a, T a → ¬ (racc a ∨ rh a ∨ a = Dl)) (rep : RepV M.K S H y v r) (live : Live S H r) (dR : ∀ a, R a → ¬ r a) (tR : ∀ a, R a → T a) :
    CT M σ own Dl S1 H1 R1 rh S (upd H Dl (.lst (vs ++ [v]))) ρ R (fun a => racc a ∨ r a) (ys ++ [y]) (vs ++ [v]) := by
  have ne : ∀ a, (R a ∨ racc a ∨ rh a ∨ r a) → a ≠ Dl := fun a x e => by
    subst e
    rcases x with x | x | x | x
    · exact c.dj _ x (.inr (.inr rfl))
    · exact c.nD x
    · exact c.nhD x
    · exact dT _ (tr _ x) (.inr (.inr rfl))
  have sD : S Dl = none := (c.live Dl (.inr (.inr rfl))).1
  have sub : MP.Same S (upd H Dl (.lst (vs ++ [v]))) := fun a o e => by
    rw [upd_ne]
    · exact c.rel.sub a o e
    · intro z
      rw [z, sD] at e
      cases e
  refine ⟨⟨fr.ss, fun a o e n => ?_, fun a x => ?_, fr.shr⟩, c.rel.grow (Same.refl S) sub fun a x => ⟨(c.rel.live a x).1, upd_ne (ne a (.inl x))⟩, fun a x => ?_, fun a x y => ?_, ?_, fun x => ?_, fun a x y => ?_, c.nhD, upd_same, fun a x => ?_⟩
  · rw [upd_ne]
    · exact fr.keep a o e n
    · intro z
      rw [z, h1] at e
      cases e
  · refine fr.res a ?_
    rcases x with x | (x | x) | x | x
    · exact .inl (tR a x)
    · exact .inr (.inl x)
    · exact .inl (tr a x)
    · exact .inr (.inr (.inl x))
    · exact .inr (.inr (.inr x))
  · by_cases z : a = Dl
    · subst z
      exact ⟨sD, _, upd_same, Tp.lst⟩
    · rw [upd_ne z]
      rcases x with (x | x) | x | x
      · exact c.live a (.inl x)
      · exact live a x
      · exact c.live a (.inr (.inl x))
      · exact absurd x z
  · rcases y with (y | y) | y
    · exact c.dj a x (.inl y)
    · exact dR a x y
    · exact c.dj a x (.inr y)
  · refine RepVs.to (Same.refl S) (ys ++ [y]) (vs ++ [v]) _ _ (RepVs.snoc c.rep rep fun a x y => dT a (tr a y) (.inl x)) (fun _ x => x) fun b x => upd_ne (ne b ?_)
    rcases x with x | x
    · exact .inr (.inl x)
    · exact .inr (.inr (.inr x))
  · rcases x with x | x
    · exact c.nD x
    · exact dT _ (tr _ x) (.inr (.inr rfl))
  · rcases x with x | x
    · exact c.nh a x y
    · exact dT a (tr a x) (.inr (.inl y))
  · rw [upd_ne (ne a (.inr (.inr (.inl x))))]
    exact c.hk a x

theorem tO_ent {W : WX} {c : CO} {b : Bool} {ρ ρ' : Rho} {S H : Hp} {R : Own} {Q : Bool → Hp → Prop} (rel : Rel M.K S H σ ρ R) (e : evo M.T Φ c ρ = .ok b ρ') (k : ∀ (H' S' : Hp) (R' : Own), Fr S H R S' H' R' → Rel M.K S' H' σ ρ' R' → Q b H') : tO M W Φ c σ H Q := by
  cases c with
  | none =>
    rw [evo] at e
    cases e
    exact k H S R Fr.refl rel
  | some c =>
    rw [evo] at e
    refine ⟨S, R, ρ, rel, ?_⟩
    cases q : ev M.T Φ c ρ with
    | ex _ _ => rw [q] at e; cases e
    | bad => rw [q] at e; cases e
    | ok d ρ1 =>
      rw [q] at e
      cases d with
      | bl b' =>
        cases e
        exact ⟨_, rfl, k⟩
      | _ => cases e
theorem body_ok {t : CG} {c : CO} {elt : CE} {own : List Nat} {d : D} {o : Option D} {ρ ρ1 : Rho} (e : bodyF M Φ t c elt own d ρ = .ok o ρ1) :
    ∃ ρ2 ρ3 b, putG t d (clr own ρ) = some ρ2 ∧ evo M.T Φ c ρ2 = .ok b ρ3 ∧ ((b = true ∧ ∃ y, o = some y ∧ ev M.T Φ elt ρ3 = .ok y ρ1) ∨ (b = false ∧ o = none ∧ ρ1 = ρ3)) := by
  unfold bodyF at e
  cases q : putG t d (clr own ρ) with
  | none => rw [q] at e; cases e
  | some ρ2 =>
    rw [q] at e
    dsimp only at e
    cases q2 : evo M.T Φ c ρ2 with
    | ex _ _ => rw [q2] at e; cases e
    | bad => rw [q2] at e; cases e
    | ok b ρ3 =>
      rw [q2] at e
      cases b with
      | false =>
        cases e
        exact ⟨_, _, _, rfl, q2, .inr ⟨rfl, rfl, rfl⟩⟩
      | true =>
        have e : ((ev M.T Φ elt ρ3).bind fun y ρ₄ => MP.R.ok (some y) ρ₄) = .ok o ρ1 := e
        cases q3 : ev M.T Φ elt ρ3 with
        | ex _ _ => rw [q3] at e; cases e
        | bad => rw [q3] at e; cases e
        | ok y ρ4 =>
          rw [q3] at e
          cases e
          exact ⟨_, _, _, rfl, q2, .inl ⟨rfl, _, rfl, q3⟩⟩

theorem comp_ent {J : It} {xs : List D} {S1 H1 S0 H0 : Hp} {R1 rh R0 : Own} {ρ0 ρ1 ρ' : Rho} {t : CG} {c : CO} {elt : CE} {own : List Nat} {ys : List D} {Q : VK}
    (wk : Walk M.K J xs S1 H1 rh) (rel : Rel M.K S1 H1 σ ρ1 R1) (lh : Live S1 H1 rh) (dj : ∀ a, R1 a → ¬ rh a) (sl : ∀ j ∈ t.slots, j ∈ own)
    (e : seqF (bodyF M Φ t c elt own) xs ρ1 = .ok ys ρ') (hl : ys.length ≤ lim) (rel0 : Rel M.K S0 H0 σ ρ0 R0) (kS : MP.Same S0 S1) (nf : ownFl own ρ0 = false)
    (q : ∀ (v : V) (H' S' : Hp) (R' r : Own), Fr S1 H1 (fun a => R1 a ∨ rh a) S' H' (fun a => (R' a ∨ r a) ∨ rh a) → Rel M.K S' H' σ (unclr ρ0 own ρ') R' → RepV M.K S' H' (.lst true ys) v r → Live S' H' (fun a => r a ∨ rh a) → (∀ a, R' a → ¬ (r a ∨ rh a)) → (∀ a, r a → ¬ rh a) → (∀ a, rh a → H' a = H1 a) → Q v H') :
    ∀ D, H1 D = none → ∃ Wt : Nat → Nat → Hp → Prop, (∃ m, Wt 0 m (upd H1 D (.lst []))) ∧ ∀ i m H, Wt i m H →
      (J.stop i H ∧ Q (.ref D) H) ∨ (J.go i H ∧ ∃ Nx : Hp → Prop, (∀ H', Nx H' → ∃ m', m' < m ∧ Wt (i + 1) m' H') ∧ ∀ x H', J.yld i H x H' → tG M t x (wipe σ own) H' fun σ2 H2 => wipe σ2 own = wipe σ own ∧ tO M wF Φ c σ2 H2 fun b H3 =>
        if b = true then tE M wF Φ elt σ2 H3 fun y H4 => ∃ acc, H4 D = some (.lst acc) ∧ acc.length < sizeLine ∧ Nx (upd H4 D (.lst (acc ++ [y]))) else Nx H3) := by
  intro Dl hD
  have s1D : S1 Dl = none := by
    cases z : S1 Dl with
    | none => rfl
    | some o =>
      have := rel.sub Dl o z
      rw [hD] at this
      cases this
  have nR : ∀ {r : Own}, Live S1 H1 r → ¬ r Dl := fun l x => by
    obtain ⟨_, o, z, _⟩ := l Dl x
    rw [hD] at z
    cases z
  refine ⟨fun i m H => m = xs.length - i ∧ i ≤ xs.length ∧ ∃ (S : Hp) (ρ : Rho) (R racc : Own) (acc : List MP.D) (vs : List V) (zs : List MP.D), CT M σ own Dl S1 H1 R1 rh S H ρ R racc acc vs ∧ seqF (bodyF M Φ t c elt own) (xs.drop i) ρ = .ok zs ρ' ∧ ys = acc ++ zs, ⟨_, rfl, Nat.zero_le _, S1, ρ1, R1, none_, [], [], ys, ?_, e, rfl⟩, ?_⟩
  · -- the start
    have sub : MP.Same S1 (upd H1 Dl (.lst [])) := fun a o z => by
      rw [upd_ne]
      · exact rel.sub a o z
      · intro q
        rw [q, s1D] at z
        cases z
    refine ⟨⟨Same.refl S1, fun a o z _ => ?_, fun a x => ?_, fun a o z => .inl z⟩, (rel.clr own).grow (Same.refl S1) sub fun a x => ⟨(rel.live a x).1, upd_ne fun z => nR rel.live (by rw [← z]; exact x)⟩, fun a x => ?_, fun a x y => ?_, by rw [RepVs]; trivial, fun x => x, fun a x => x.elim, nR lh, upd_same, fun a x => upd_ne fun z => nR lh (by rw [← z]; exact x)⟩
    · rw [upd_ne]
      · exact z
      · intro q
        rw [q, hD] at z
        cases z
    · rcases x with x | x | x | x
      · exact .inl (.inl x)
      · exact x.elim
      · exact .inl (.inr x)
      · exact .inr (by rw [x]; exact hD)
    · rcases x with x | x | x
      · exact x.elim
      · refine ⟨(lh a x).1, ?_⟩
        rw [upd_ne fun z => nR lh (by rw [← z]; exact x)]
        exact (lh a x).2
      · subst x
        exact ⟨s1D, _, upd_same, Tp.lst⟩
    · rcases y with y | y | y
      · exact y
      · exact dj a x y
      · exact nR rel.live (by rw [← y]; exact x)
  rintro i m H ⟨rfl, hi, S, ρ, R, racc, acc, vs, zs, ct, ez, ey⟩
  have wkH := wk S H ct.fr.ss ct.rel.sub ct.hk
  by_cases hlt : i < xs.length
  · -- a turn
    obtain ⟨d, hd⟩ : ∃ d, xs[i]? = some d := ⟨_, List.getElem?_eq_getElem hlt⟩
    have edrop : xs.drop i = d :: xs.drop (i + 1) := by
      rw [List.drop_eq_getElem_cons hlt]
      rw [List.getElem?_eq_getElem hlt] at hd
      rw [Option.some.inj hd]
    rw [edrop] at ez
    obtain ⟨o, ρa, zs', eb, er, eo⟩ := seq_cons ez
    obtain ⟨ρ2, ρ3, b, e1, e2, e3⟩ := body_ok eb
    refine .inr ⟨(wkH.1 i d hd).1, fun H' => xs.length - (i + 1) = xs.length - (i + 1) ∧ i + 1 ≤ xs.length ∧ ∃ (S : Hp) (ρ : Rho) (R racc : Own) (acc : List MP.D) (vs : List V) (zs : List MP.D), CT M σ own Dl S1 H1 R1 rh S H' ρ R racc acc vs ∧ seqF (bodyF M Φ t c elt own) (xs.drop (i + 1)) ρ = .ok zs ρ' ∧ ys = acc ++ zs, fun H' p => ⟨_, by omega, p⟩, fun x H2 hy => ?_⟩
    obtain ⟨S2, k1, k2, k3, k4, rep⟩ := (wkH.1 i d hd).2 x H2 hy
    have f2 : Fr S H R S2 H2 R := ⟨k1, fun a o z _ => k3 a o z, fun a x => .inl x, fun a o z => (k4 a o z).elim .inl fun z => .inr (.inr z)⟩
    have rel2 : Rel M.K S2 H2 (wipe σ own) (clr own ρ) R := ct.rel.grow k1 k2 fun a x => by
      obtain ⟨l1, o, l2, nt⟩ := ct.rel.live a x
      refine ⟨?_, by rw [l2]; exact k3 a o l2⟩
      cases z : S2 a with
      | none => rfl
      | some o' =>
        rcases k4 a o' z with y | y | ⟨y, y2⟩
        · rw [l1] at y; cases y
        · rw [l2] at y; cases y
        · rw [y2] at l2; cases l2; exact absurd y nt
    obtain ⟨ct2, _, _⟩ := ct.move f2 rel2 fun a x => x
    refine ⟨S2, R, clr own ρ, d, none_, ρ2, rel2, rep, fun a x => x.elim, fun a _ x => x, e1, fun σ2 R2 rel3 s2 ag => ?_⟩
    have s2' : ∀ a, R2 a → R a := fun a x => (s2 a x).elim id False.elim
    refine ⟨wipe_agree sl ag, tO_ent rel3 e2 fun H3 S3 R3 f3 rel4 => ?_⟩
    have back : ∀ {S H : Hp} {ρ : Rho} {R : Own}, Rel M.K S H σ2 ρ R → Rel M.K S H (wipe σ own) (clr own ρ) R := fun rel => rel.again sl ag
    have f3' : Fr S2 H2 R S3 H3 fun a => R3 a ∨ R a := ((Fr.refl (S := S2) (H := H2) (R := R)).trans f3 s2')
    obtain ⟨ct3, _, _⟩ := ct2.move f3' (back rel4) fun a x => .inl x
    rcases e3 with ⟨rfl, y, rfl, e4⟩ | ⟨rfl, rfl, rfl⟩
    · rw [if_pos rfl]
      refine ⟨S3, R3, ρ3, rel4, ?_⟩
      rw [e4]
      intro v H4 S4 R4 r f4 rel5 rep4 live4 dj4
      obtain ⟨ct4, dT, frT⟩ := ct3.move f4 (back rel5) fun a x => .inl x
      have hlen : vs.length < sizeLine := by
        rw [← lim_eq, ← ct4.rep.len]
        have : ys.length = acc.length + (zs'.length + 1) := by rw [ey, eo, List.length_append]; rfl
        omega
      refine ⟨vs, ct4.at_, hlen, rfl, hlt, S4, ρa, R4, _, acc ++ [y], vs ++ [v], zs', ct4.app hD frT (fun a x => .inr x) dT rep4 live4 dj4 fun a x => .inl x, er, ?_⟩
      rw [ey, eo, List.append_assoc]
      rfl
    · rw [if_neg Bool.false_ne_true]
      exact ⟨rfl, hlt, S3, ρa, R3, racc, acc, vs, zs', ct3, er, by rw [ey, eo]; rfl⟩
  · -- the end
    have ei : i = xs.length := by omega
    subst ei
    rw [List.drop_eq_nil_of_le (Nat.le_refl _)] at ez
    cases ez
    rw [List.append_nil] at ey
    subst ey
    refine .inl ⟨wkH.2, q (.ref Dl) H S R (fun a => racc a ∨ a = Dl) (ct.fr.less fun a x => ?_) (rel0.unclr (fun a o z => ct.fr.ss a o (kS a o z)) nf ct.rel) ?_ (fun a x => ct.live a ?_) (fun a x y => ct.dj a x ?_) (fun a x y => ?_) ct.hk⟩
    · rcases x with (x | x | x) | x
      · exact .inl x
      · exact .inr (.inl x)
      · exact .inr (.inr (.inr x))
      · exact .inr (.inr (.inl x))
    · rw [RepV]
      exact ⟨Dl, vs, racc, rfl, ct.at_, by rw [← lim_eq, ← ct.rep.len]; exact hl, .inr rfl, fun b x => ⟨.inl x, fun z => ct.nD (by rw [← z]; exact x)⟩, ct.rep⟩
    · rcases x with (x | x) | x
      · exact .inl x
      · exact .inr (.inr x)
      · exact .inr (.inl x)
    · rcases y with (y | y) | y
      · exact .inl y
      · exact .inr (.inr y)
      · exact .inr (.inl y)
    · rcases x with x | x
      · exact ct.nh a x y
      · exact ct.nhD (by rw [← x]; exact y)
end
end MP

set_option autoImplicit false
set_option linter.all false
set_option maxRecDepth 100000
/-! MP: from the evaluator's reading to the library's, form by form. -/
namespace MP
open PySem L2

theorem PE.or {X : Cx} {e : Expr} {t u : TE} (h : PE X e t) (h' : PE X e u) : PE X e fun σ H Q => t σ H Q ∨ u σ H Q :=
  ⟨fun pins s σ H Q I q => q.elim (h.run pins s σ H Q I) (h'.run pins s σ H Q I)⟩

section
variable {M : Md} {W : WX} {Φ : Nat → List D → FR} {S H S' H' : Hp} {σ : L2.St} {R R' T : Own}
theorem OutR.monoE {α : Type} {x : MP.R α} {post post' : α → Rho → Prop} (h : OutR M W S H σ R post x) (k : ∀ a ρ, x = .ok a ρ → post a ρ → post' a ρ) : OutR M W S H σ R post' x := by
  cases x with
  | ok a ρ => exact k _ _ rfl h
  | ex k ρ => exact h
  | bad => exact h
/-- what is aside stays in its slots -/
theorem Rel.aside {K : PySem.W.Frag} {ρ : Rho} (h : Rel K S H σ ρ R') (f : Fr S H R S' H' T) (sub : MP.Same S' H') (dj : ∀ a, R a → ¬ R' a) : Rel K S' H' σ ρ R' := by
  obtain ⟨a1, a2, a3⟩ := f.aside h.live dj
  exact h.grow f.ss sub fun a x => ⟨(a2 a x).1, a1 a x⟩

theorem op_ent {o : Op} {as : CL} {r : List V → Hp → VK → Prop} {ρ : Rho} {Q : VK} (ok : OkC M.K (opF M.T.sub o) r) (rel : Rel M.K S H σ ρ R) (h : OutR M W S H σ R (PostE M S H σ R Q) (ev M.T Φ (.op o as) ρ)) : tCB r (tL (tsP M W Φ as)) σ H Q := by
  rw [ev] at h
  refine evp_ent as rel (h.bind.mono fun ds ρ1 h1 => ?_)
  intro vs H1 S1 R1 f1 rel1 reps
  obtain ⟨d, ed, post⟩ := OutR.of h1
  refine ok ds d vs S1 H1 Q ed reps rel1.sub ?_
  intro v H2 S2 r k1 k2 k3 k4 k5 rep live
  have f2 : Fr S1 H1 R1 S2 H2 fun a => R1 a ∨ r a := ⟨k1, fun a o e _ => k3 a o e, fun a x => x.imp id (k4 a), fun a o e => (k5 a o e).imp id .inr⟩
  refine post v H2 S2 R1 r ((f1.trans f2 fun a x => x).less fun a x => .inl x) (rel1.grow k1 k2 fun a x => ?_) rep live fun a x y => ?_
  · obtain ⟨l1, o, l2, nt⟩ := rel1.live a x
    refine ⟨?_, by rw [l2]; exact k3 a o l2⟩
    cases z : S2 a with
    | none => rfl
    | some o' =>
      rcases k5 a o' z with y | y | ⟨y, y2⟩
      · rw [l1] at y; cases y
      · rw [l2] at y; cases y
      · rw [y2] at l2; cases l2; exact absurd y nt
  · obtain ⟨l1, o, l2, nt⟩ := rel1.live a x
    rw [k4 a y] at l2
    cases l2

def CL.len : CL → Nat
  | .nil => 0
  | .cons _ as => as.len + 1
theorem evs_len : ∀ (as : CL) (ρ ρ' : Rho) (ds : List D), evs M.T Φ as ρ = .ok ds ρ' → ds.length = as.len
  | .nil, ρ, ρ', ds, h => by rw [evs] at h; cases h; rfl
  | .cons a as, ρ, ρ', ds, h => by
    rw [evs] at h
    cases q : ev M.T Φ a ρ with
    | ex k r => rw [q] at h; cases h
    | bad => rw [q] at h; cases h
    | ok d ρ1 =>
      rw [q] at h
      have h : ((evs M.T Φ as ρ1).bind fun ds ρ => .ok (d :: ds) ρ) = .ok ds ρ' := h
      cases q2 : evs M.T Φ as ρ1 with
      | ex k r => rw [q2] at h; cases h
      | bad => rw [q2] at h; cases h
      | ok es ρ2 =>
        rw [q2] at h
        cases h
        rw [List.length_cons, evs_len as ρ1 _ es q2]
        rfl
theorem unfl_any {ds : List D} (h : ds.any D.fl = false) : unfl ds = true := by
  unfold unfl
  rw [List.all_eq_true]
  intro d hd
  have := List.any_eq_false.mp h d hd
  simpa using this

theorem tup_ent {as : CL} {ρ : Rho} {Q : VK} (few : as.len ≤ lim) (rel : Rel M.K S H σ ρ R) (h : OutR M W S H σ R (PostE M S H σ R Q) (ev M.T Φ (.tup as) ρ)) : tTup (tL (tsE M W Φ as)) σ H Q := by
  rw [ev] at h
  refine evs_ent as rel (h.bind.monoE fun ds ρ1 e1 h1 => ?_)
  intro vs H1 S1 R1 r f1 rel1 reps live1 dj1
  have hl : vs.length ≤ sizeLine := by rw [← reps.len, evs_len as _ _ _ e1, ← lim_eq]; exact few
  refine ⟨hl, fun p np => ?_⟩
  have sp := none_up rel1.sub np
  have ne : ∀ {r : Own}, Live S1 H1 r → ∀ a, r a → a ≠ p := fun l a x e => by
    obtain ⟨_, o, z, _⟩ := l a x
    rw [e, np] at z
    cases z
  have kS : MP.Same S1 (upd S1 p (.tup vs)) := same_upd sp
  have sub : MP.Same (upd S1 p (.tup vs)) (upd H1 p (.tup vs)) := fun b o e => by
    by_cases hb : b = p
    · subst hb
      rw [upd_same] at e ⊢
      exact e
    · rw [upd_ne hb] at e ⊢
      exact rel1.sub b o e
  refine h1 (.ref p) (upd H1 p (.tup vs)) (upd S1 p (.tup vs)) R1 r ⟨f1.ss.trans kS, fun a o e n => ?_, f1.res, fun a o e => ?_⟩ (rel1.grow kS sub fun a x => ?_) ?_ (fun a x => ?_) dj1
  · have := f1.keep a o e n
    rw [upd_ne]
    · exact this
    · intro z; rw [z, np] at this; cases this
  · by_cases hb : a = p
    · subst hb
      right
      by_cases z : R a
      · exact .inl z
      · right
        left
        cases q : H a with
        | none => rfl
        | some o' =>
          rw [f1.keep a o' q z] at np
          cases np
    · rw [upd_ne hb] at e
      exact f1.shr a o e
  · rw [upd_ne (ne rel1.live a x), upd_ne (ne rel1.live a x)]
    exact ⟨(rel1.live a x).1, rfl⟩
  · rw [RepV]
    refine ⟨p, vs, rfl, upd_same, hl, unfl_any, RepVs.to kS ds vs r r reps (fun _ x => x) fun b x => upd_ne (ne live1 b x)⟩
  · rw [upd_ne (ne live1 a x), upd_ne (ne live1 a x)]
    exact live1 a x
theorem lst_ent {as : CL} {ρ : Rho} {Q : VK} (few : as.len ≤ lim) (rel : Rel M.K S H σ ρ R) (h : OutR M W S H σ R (PostE M S H σ R Q) (ev M.T Φ (.lst as) ρ)) : tLst (tL (tsE M W Φ as)) σ H Q := by
  rw [ev] at h
  refine evs_ent as rel (h.bind.monoE fun ds ρ1 e1 h1 => ?_)
  intro vs H1 S1 R1 r f1 rel1 reps live1 dj1
  have hl : vs.length ≤ sizeLine := by rw [← reps.len, evs_len as _ _ _ e1, ← lim_eq]; exact few
  refine ⟨hl, fun p np => ?_⟩
  have sp := none_up rel1.sub np
  have ne : ∀ {r : Own}, Live S1 H1 r → ∀ a, r a → a ≠ p := fun l a x e => by
    obtain ⟨_, o, z, _⟩ := l a x
    rw [e, np] at z
    cases z
  have sub : MP.Same S1 (upd H1 p (.lst vs)) := Same.trans rel1.sub (same_upd np)
  refine h1 (.ref p) (upd H1 p (.lst vs)) S1 R1 (fun a => r a ∨ a = p) ⟨f1.ss, fun a o e n => ?_, fun a x => ?_, f1.shr⟩ (rel1.grow (Same.refl S1) sub fun a x => ⟨(rel1.live a x).1, upd_ne (ne rel1.live a x)⟩) ?_ (fun a x => ?_) fun a x y => ?_
  · have := f1.keep a o e n
    rw [upd_ne]
    · exact this
    · intro z; rw [z, np] at this; cases this
  · rcases x with x | x | x
    · exact f1.res a (.inl x)
    · exact f1.res a (.inr x)
    · subst x
      by_cases z : R a
      · exact .inl z
      · right
        cases q : H a with
        | none => rfl
        | some o' =>
          rw [f1.keep a o' q z] at np
          cases np
  · rw [RepV]
    exact ⟨p, vs, r, rfl, upd_same, hl, .inr rfl, fun b x => ⟨.inl x, ne live1 b x⟩, RepVs.to (Same.refl S1) ds vs r r reps (fun _ x => x) fun b x => upd_ne (ne live1 b x)⟩
  · rcases x with x | x
    · rw [upd_ne (ne live1 a x)]
      exact live1 a x
    · subst x
      exact ⟨sp, _, upd_same, Tp.lst⟩
  · rcases y with y | y
    · exact dj1 a x y
    · exact ne rel1.live a x y

/-- no raise, no change: a value that stands already -/
theorem PostE.now {ρ : Rho} {Q : VK} {d : D} {v : V} {r : Own} (h : PostE M S H σ R Q d ρ) (rel : Rel M.K S H σ ρ R') (sub : ∀ a, R' a ∨ r a → R a) (rep : RepV M.K S H d v r) (live : Live S H r) (dj : ∀ a, R' a → ¬ r a) : Q v H :=
  h v H S R' r (Fr.refl.less sub) rel rep live dj
theorem rd_ent {i : Nat} {ρ : Rho} {Q : VK} (rel : Rel M.K S H σ ρ R) (h : OutR M W S H σ R (PostE M S H σ R Q) (ev M.T Φ (.rd i []) ρ)) : tVar i σ H Q := by
  rw [ev] at h
  cases q : ρ.rd i [] with
  | none => rw [q] at h; exact h.elim
  | some d =>
    rw [q] at h
    have q' : ρ.get i = some d := by
      unfold Rho.rd at q
      cases z : ρ.get i with
      | none => rw [z] at q; cases q
      | some x => rw [z] at q; exact q
    obtain ⟨v, e, r, _, rep⟩ := rel.get q'
    dsimp only at h
    split at h
    · exact h.elim
    · rename_i nf
      have f : d.fl = false := by simpa using nf
      exact ⟨v, e, PostE.now (r := none_) h rel (fun a x => x.elim id False.elim) (RepV.sh_to rep f (Same.refl S)) (fun a x => x.elim) fun a _ x => x⟩
theorem mv_ent {i : Nat} {ρ : Rho} {Q : VK} (rel : Rel M.K S H σ ρ R) (h : OutR M W S H σ R (PostE M S H σ R Q) (ev M.T Φ (.mv i) ρ)) : tVar i σ H Q := by
  rw [ev] at h
  cases q : ρ.get i with
  | none => rw [q] at h; exact h.elim
  | some d =>
    rw [q] at h
    obtain ⟨v, R1, r, e, rel1, rep, live, dj, s1, s2⟩ := rel.take q
    exact ⟨v, e, PostE.now h rel1 (fun a x => x.elim (s1 a) (s2 a)) rep live dj⟩
open Classical in
theorem fz_ent {c : CE} {ρ : Rho} {Q : VK} (rel : Rel M.K S H σ ρ R) (h : OutR M W S H σ R (PostE M S H σ R Q) (ev M.T Φ (.fz c) ρ)) : tE M W Φ c σ H Q := by
  rw [ev] at h
  refine ⟨S, R, ρ, rel, h.bind.mono fun d ρ1 h1 => ?_⟩
  intro v H1 S1 R1 r f1 rel1 rep live dj
  have k0 : ∀ a, r a → S1 a = none := fun a x => (live a x).1
  have kS := addS_same (H := H1) k0
  have sub : MP.Same (addS S1 H1 r) H1 := fun a o e => by
    unfold addS at e
    split at e
    · exact e
    · exact rel1.sub a o e
  refine h1 v H1 (addS S1 H1 r) R1 none_ ⟨f1.ss.trans kS, f1.keep, fun a x => f1.res a (x.elim .inl False.elim), fun a o e => ?_⟩ (rel1.grow kS sub fun a x => ⟨?_, rfl⟩) (RepV.frz k0 d v r rep fun _ x => x) (fun a x => x.elim) fun a _ x => x
  · unfold addS at e
    split at e
    · rename_i x
      exact .inr ((f1.res a (.inr x)).imp id .inl)
    · exact f1.shr a o e
  · unfold addS
    rw [if_neg (dj a x)]
    exact (rel1.live a x).1
theorem k_ent {d : D} {v : V} {ρ : Rho} {Q : VK} (rel : Rel M.K S H σ ρ R) (rep : RepV M.K S H d v none_) (h : PostE M S H σ R Q d ρ) : Q v H :=
  PostE.now h rel (fun a x => x.elim id False.elim) rep (fun a x => x.elim) fun a _ x => x

/-- as a test -/
theorem tT_tB {c : CE} {Q : Bool → Hp → Prop} (h : tT M W Φ c σ H Q) : tTest (tE M W Φ c) σ H Q := by
  obtain ⟨S, R, ρ, rel, h⟩ := h
  refine ⟨S, R, ρ, rel, h.mono fun d ρ' k => ?_⟩
  obtain ⟨b, rfl, k⟩ := k
  intro v H' S' R' r f rel' rep _ _
  rw [RepV] at rep
  exact ⟨b, rep, k H' S' R' (f.less fun a x => .inl x) rel'⟩
/-- a value as a bool -/
theorem tE_b {c : CE} {ρ : Rho} {Q : VK} {post : D → Rho → Prop} (rel : Rel M.K S H σ ρ R) (h : OutR M W S H σ R post (ev M.T Φ c ρ)) (k : ∀ d ρ1, post d ρ1 → ∃ b, d = .bl b ∧ ∀ (H' S' : Hp) (R' : Own), Fr S H R S' H' R' → Rel M.K S' H' σ ρ1 R' → Q (.bl b) H') : tE M W Φ c σ H Q := by
  refine ⟨S, R, ρ, rel, h.mono fun d ρ1 h1 => ?_⟩
  obtain ⟨b, rfl, k⟩ := k d ρ1 h1
  intro v H' S' R' r f rel' rep _ _
  rw [RepV] at rep
  subst rep
  exact k H' S' R' (f.less fun a x => .inl x) rel'
theorem PostE.on {S1 H1 : Hp} {R1 T1 : Own} {Q : VK} {d : D} {ρ : Rho} (h : PostE M S H σ R Q d ρ) (f : Fr S H R S1 H1 T1) (k : ∀ a, R1 a → T1 a) : PostE M S1 H1 σ R1 Q d ρ :=
  fun v H' S' R' r g rel rep live dj => h v H' S' R' r ((f.trans g k).less fun a x => .inl x) rel rep live dj
theorem PostT.on {S1 H1 : Hp} {R1 T1 : Own} {Q : Bool → Hp → Prop} {d : D} {ρ : Rho} (h : PostT M S H σ R Q d ρ) (f : Fr S H R S1 H1 T1) (k : ∀ a, R1 a → T1 a) : PostT M S1 H1 σ R1 Q d ρ := by
  obtain ⟨b, e, h⟩ := h
  exact ⟨b, e, fun H' S' R' g rel => h H' S' R' ((f.trans g k).less fun a x => .inl x) rel⟩

theorem and_ent {a b : CE} {Q : VK} (h : tE M W Φ (.and_ a b) σ H Q) : tAndV (tE M W Φ a) (tE M W Φ b) σ H Q := by
  obtain ⟨S, R, ρ, rel, h⟩ := h
  rw [ev] at h
  refine tE_b rel h.bind fun d ρ1 h1 => ?_
  cases d with
  | bl c =>
    cases c with
    | true => exact ⟨true, rfl, fun H' S' R' f rel' => ⟨true, rfl, S', R', ρ1, rel', OutR.from h1 f (fun _ x => x) fun d ρ2 h2 => h2.on f fun _ x => x⟩⟩
    | false => exact ⟨false, rfl, fun H' S' R' f rel' => ⟨false, rfl, k_ent rel' (by rw [RepV]) (PostE.on h1 f fun _ x => x)⟩⟩
  | _ => exact h1.elim
theorem or_ent {a b : CE} {Q : VK} (h : tE M W Φ (.or_ a b) σ H Q) : tOrV (tE M W Φ a) (tE M W Φ b) σ H Q := by
  obtain ⟨S, R, ρ, rel, h⟩ := h
  rw [ev] at h
  refine tE_b rel h.bind fun d ρ1 h1 => ?_
  cases d with
  | bl c =>
    cases c with
    | false => exact ⟨false, rfl, fun H' S' R' f rel' => ⟨false, rfl, S', R', ρ1, rel', OutR.from h1 f (fun _ x => x) fun d ρ2 h2 => h2.on f fun _ x => x⟩⟩
    | true => exact ⟨true, rfl, fun H' S' R' f rel' => ⟨true, rfl, k_ent rel' (by rw [RepV]) (PostE.on h1 f fun _ x => x)⟩⟩
  | _ => exact h1.elim
theorem not_ent {a : CE} {Q : VK} (h : tE M W Φ (.not_ a) σ H Q) : tNotV (tE M W Φ a) σ H Q := by
  obtain ⟨S, R, ρ, rel, h⟩ := h
  rw [ev] at h
  refine tE_b rel h.bind fun d ρ1 h1 => ?_
  cases d with
  | bl c => exact ⟨c, rfl, fun H' S' R' f rel' => ⟨c, rfl, k_ent rel' (by rw [RepV]) (PostE.on h1 f fun _ x => x)⟩⟩
  | _ => exact h1.elim
theorem tT_b {c : CE} {ρ : Rho} {Q : Bool → Hp → Prop} {post : D → Rho → Prop} (rel : Rel M.K S H σ ρ R) (h : OutR M W S H σ R post (ev M.T Φ c ρ)) (k : ∀ d ρ1, post d ρ1 → ∃ b, d = .bl b ∧ ∀ (H' S' : Hp) (R' : Own), Fr S H R S' H' R' → Rel M.K S' H' σ ρ1 R' → Q b H') : tT M W Φ c σ H Q :=
  ⟨S, R, ρ, rel, h.mono fun d ρ1 h1 => k d ρ1 h1⟩
theorem and_entT {a b : CE} {Q : Bool → Hp → Prop} (h : tT M W Φ (.and_ a b) σ H Q) : tAnd (tT M W Φ a) (tT M W Φ b) σ H Q := by
  obtain ⟨S, R, ρ, rel, h⟩ := h
  rw [ev] at h
  refine tT_b rel h.bind fun d ρ1 h1 => ?_
  cases d with
  | bl c =>
    cases c with
    | true => exact ⟨true, rfl, fun H' S' R' f rel' => ⟨S', R', ρ1, rel', OutR.from h1 f (fun _ x => x) fun d ρ2 h2 => h2.on f fun _ x => x⟩⟩
    | false =>
      obtain ⟨b, e, k⟩ := h1
      cases e
      exact ⟨false, rfl, fun H' S' R' f rel' => k H' S' R' f rel'⟩
  | _ => exact h1.elim
theorem or_entT {a b : CE} {Q : Bool → Hp → Prop} (h : tT M W Φ (.or_ a b) σ H Q) : tOr (tT M W Φ a) (tT M W Φ b) σ H Q := by
  obtain ⟨S, R, ρ, rel, h⟩ := h
  rw [ev] at h
  refine tT_b rel h.bind fun d ρ1 h1 => ?_
  cases d with
  | bl c =>
    cases c with
    | false => exact ⟨false, rfl, fun H' S' R' f rel' => ⟨S', R', ρ1, rel', OutR.from h1 f (fun _ x => x) fun d ρ2 h2 => h2.on f fun _ x => x⟩⟩
    | true =>
      obtain ⟨b, e, k⟩ := h1
      cases e
      exact ⟨true, rfl, fun H' S' R' f rel' => k H' S' R' f rel'⟩
  | _ => exact h1.elim
theorem not_entT {a : CE} {Q : Bool → Hp → Prop} (h : tT M W Φ (.not_ a) σ H Q) : tNot (tT M W Φ a) σ H Q := by
  obtain ⟨S, R, ρ, rel, h⟩ := h
  rw [ev] at h
  refine tT_b rel h.bind fun d ρ1 h1 => ?_
  cases d with
  | bl c =>
    obtain ⟨b, e, k⟩ := h1
    cases e
    exact ⟨c, rfl, fun H' S' R' f rel' => k H' S' R' f rel'⟩
  | _ => exact h1.elim
end
end MP

set_option autoImplicit false
set_option linter.all false
set_option maxRecDepth 100000
/-! MP: .. chains, calls, append, what is walked, comprehensions. -/
namespace MP
open PySem L2

section
variable (M : Md) (Φ : Nat → List D → FR)
/-- what a call of the table's def f promises -/
def spI (f : Nat) (F : Fn) : Sp := fun vs H Q E => vs.length = F.np ∧ ∃ (S : Hp) (ds : List D) (R : Own), Rel M.K S H (vs.map some) (ds.map some) R ∧ match Φ f ds with
  | .ok d outs => ∀ (v : V) (H' S' : Hp) (R' r : Own), outs.length ≤ vs.length → Fr S H R S' H' (fun a => R' a ∨ r a) → MP.Same S' H' → RepV M.K S' H' d v r → Live S' H' r → OutsR M.K S' H' outs vs R' → Live S' H' R' → (∀ a, R' a → ¬ r a) → Q v H'
  | .ex c outs => ∀ (H' S' : Hp) (R' : Own), outs.length ≤ vs.length → Fr S H R S' H' R' → MP.Same S' H' → OutsR M.K S' H' outs vs R' → Live S' H' R' → E (.ref (M.ad c)) none H'
  | .bad => False
structure FnT (n : Nat) (f : Nat) (F : Fn) : Prop where
  ok : ∃ fd ps, FnOk M.P M.w M.K M.mg M.base (L2.CX M.P M.w) n (M.fa f) fd ps (spI M Φ f F) ∧ Binds M.K fd ps []
  at_ : M.mg F.name = some (.ref (M.fa f))
  kp : PySem.W.keepIn M.K (.ref (M.fa f)) = true
/-- every def of the table, at level n -/
def Calls (n : Nat) : Prop := ∀ f F, M.T.fns[f]? = some F → F.kind = 0 → FnT M Φ n f F

def tI (W : WX) (s : CI) : TI := fun σ H K => ∃ S R ρ, Rel M.K S H σ ρ R ∧ match holdOf s ρ with
  | some (i, d, xs) => ∀ (J : It) (R1 rh : Own) (v : V), Rel M.K S H σ (ρ.set i none) R1 → Live S H rh → (∀ a, R1 a → ¬ rh a) → (∀ a, R1 a ∨ rh a → R a) → σ[i]? = some (some v) → RepV M.K S H d v rh → ρ.get i = some d → Walk M.K J xs S H rh → K J H
  | none => OutR M W S H σ R (fun xs ρ' => ∀ (J : It) (H' S' : Hp) (R' rh : Own), Fr S H R S' H' (fun a => R' a ∨ rh a) → Rel M.K S' H' σ ρ' R' → Live S' H' rh → (∀ a, R' a → ¬ rh a) → Walk M.K J xs S' H' rh → K J H') (evi M.T Φ s ρ)
end

section
variable {M : Md} {W : WX} {Φ : Nat → List D → FR} {S H S' H' : Hp} {σ : L2.St} {R R' T : Own}
theorem PostO.of {ρ : Rho} {Q : VK} {d : D} (rel : Rel M.K S H σ ρ R) (k : ∀ (v : V) (H' S' : Hp) (r : Own), Fr S H R S' H' (fun a => R a ∨ r a) → Rel M.K S' H' σ ρ R → RepV M.K S' H' d v r → Live S' H' r → (∀ a, R a → ¬ r a) → Q v H') : PostO M.K S H Q d := by
  intro v H2 S2 r k1 k2 k3 k4 k5 rep live
  have f2 : Fr S H R S2 H2 fun a => R a ∨ r a := ⟨k1, fun a o e _ => k3 a o e, fun a x => x.imp id (k4 a), fun a o e => (k5 a o e).imp id .inr⟩
  refine k v H2 S2 r f2 (rel.grow k1 k2 fun a x => ?_) rep live fun a x y => ?_
  · obtain ⟨l1, o, l2, nt⟩ := rel.live a x
    refine ⟨?_, by rw [l2]; exact k3 a o l2⟩
    cases z : S2 a with
    | none => rfl
    | some o' =>
      rcases k5 a o' z with y | y | ⟨y, y2⟩
      · rw [l1] at y; cases y
      · rw [l2] at y; cases y
      · rw [y2] at l2; cases l2; exact absurd y nt
  · obtain ⟨l1, o, l2, nt⟩ := rel.live a x
    rw [k4 a y] at l2
    cases l2

theorem chain_ent {o p : Op} {a b c : CE} {r r' : R2} {Q : VK} (ok : Ok2 M.K (opF M.T.sub o) r) (ok' : Ok2 M.K (opF M.T.sub p) r') (h : tE M W Φ (.chain o p a b c) σ H Q) : tChain r r' (tE M W Φ a) (tE M W Φ b) (tE M W Φ c) σ H Q := by
  obtain ⟨S, R, ρ, rel, h⟩ := h
  rw [ev] at h
  refine ⟨S, R, ρ, rel, h.bind.mono fun dx ρ1 h1 => ?_⟩
  intro x H1 S1 R1 r1 f1 rel1 rep1 live1 dj1
  have L : ∀ {A B : Own} (a : Addr), A a → A a ∨ B a := fun a x => .inl x
  refine ⟨S1, R1, ρ1, rel1, OutR.from h1.bind f1 (fun a x => .inl x) fun dy ρ2 h2 => ?_⟩
  intro y H2 S2 R2 r2 f2 rel2 rep2 live2 dj2
  cases q : opF M.T.sub o [dx, dy] with
  | none => rw [q] at h2; exact h2.elim
  | some d =>
    rw [q] at h2
    refine ok [dx, dy] d x y S2 H2 _ q (.cons ⟨r1, f2.carry live1 dj1 rep1⟩ (.cons ⟨r2, rep2⟩ .nil)) rel2.sub (PostO.of rel2 fun v H3 S3 r f3 rel3 rep3 live3 dj3 => ?_)
    cases d with
    | bl k =>
      rw [RepV] at rep3
      cases k with
      | false => exact ⟨false, rep3, k_ent rel3 (by rw [RepV]) (((PostE.on h2 f1 (fun a x => .inl x)).on f2 fun a x => .inl x).on f3 fun a x => .inl x)⟩
      | true =>
        refine ⟨true, rep3, S3, R2, ρ2, rel3, OutR.from (post := fun dz ρ3 => OutR M W S H σ R (PostE M S H σ R Q) (MP.R.of ρ3 (opF M.T.sub p [dy, dz]))) (OutR.from (OutR.from (OutR.bind h2) f1 (fun a x => .inl x) fun _ _ z => z) f2 (fun a x => .inl x) fun _ _ z => z) f3 (fun a x => .inl x) fun dz ρ3 h3 => ?_⟩
        intro w H4 S4 R4 r4 f4 rel4 rep4 live4 dj4
        obtain ⟨d', e', post⟩ := OutR.of h3
        have l3 := (f3.aside live2 dj2).2.1
        refine ok' [dy, dz] d' y w S4 H4 Q e' (.cons ⟨r2, f4.carry l3 dj2 (f3.carry live2 dj2 rep2)⟩ (.cons ⟨r4, rep4⟩ .nil)) rel4.sub (PostO.of rel4 fun v' H5 S5 r5 f5 rel5 rep5 live5 dj5 => ?_)
        exact ((((post.on f1 (fun a x => .inl x)).on f2 fun a x => .inl x).on f3 fun a x => .inl x).on f4 fun a x => .inl x) v' H5 S5 R4 r5 f5 rel5 rep5 live5 dj5
    | _ => exact h2.elim

theorem noBw_has : ∀ (as : CL), noBw as = true → hasBw as = false
  | .nil, _ => rfl
  | .cons a as, h => by
    unfold noBw at h
    rw [Bool.and_eq_true] at h
    cases a <;> first | exact noBw_has as h.2 | (simp [CE.isBw] at h)
theorem takeR_nex : ∀ (bs : List Bool) (as : CL) (os : List (Option D)) (ρ : Rho) (k : Nat) (ρ' : Rho), takeR bs as os ρ ≠ .ex k ρ'
  | b :: bs, .cons a as, some d :: os, ρ, k, ρ', h => by
    rw [takeR] at h
    cases q : takeR bs as os ρ with
    | ex j r => exact takeR_nex bs as os ρ j r q
    | bad => rw [q] at h; cases h
    | ok ds r => rw [q] at h; cases h
  | b :: bs, .cons (.rd i []) as, none :: os, ρ, k, ρ', h => by
    rw [takeR] at h
    cases q0 : ρ.get i with
    | none => rw [q0] at h; cases h
    | some d =>
      rw [q0] at h
      dsimp only at h
      cases q : takeR bs as os (ρ.set i none) with
      | ex j r => exact takeR_nex bs as os _ j r q
      | bad => rw [q] at h; cases h
      | ok ds r => rw [q] at h; cases h
  | b :: bs, .cons (.rd i (_ :: _)) as, none :: os, ρ, k, ρ', h => by cases h
  | b :: bs, .cons (.mv _) as, none :: os, ρ, k, ρ', h => by cases h
  | b :: bs, .cons (.fz _) as, none :: os, ρ, k, ρ', h => by cases h
  | b :: bs, .cons (.bw _) as, none :: os, ρ, k, ρ', h => by cases h
  | b :: bs, .cons (.k _) as, none :: os, ρ, k, ρ', h => by cases h
  | b :: bs, .cons (.gl _ _) as, none :: os, ρ, k, ρ', h => by cases h
  | b :: bs, .cons (.op _ _) as, none :: os, ρ, k, ρ', h => by cases h
  | b :: bs, .cons (.tup _) as, none :: os, ρ, k, ρ', h => by cases h
  | b :: bs, .cons (.lst _) as, none :: os, ρ, k, ρ', h => by cases h
  | b :: bs, .cons (.dic _ _) as, none :: os, ρ, k, ρ', h => by cases h
  | b :: bs, .cons (.call _ _) as, none :: os, ρ, k, ρ', h => by cases h
  | b :: bs, .cons (.and_ _ _) as, none :: os, ρ, k, ρ', h => by cases h
  | b :: bs, .cons (.or_ _ _) as, none :: os, ρ, k, ρ', h => by cases h
  | b :: bs, .cons (.not_ _) as, none :: os, ρ, k, ρ', h => by cases h
  | b :: bs, .cons (.chain _ _ _ _ _) as, none :: os, ρ, k, ρ', h => by cases h
  | b :: bs, .cons (.comp _ _ _ _ _) as, none :: os, ρ, k, ρ', h => by cases h
  | b :: bs, .cons (.mut _ _ _) as, none :: os, ρ, k, ρ', h => by cases h
  | b :: bs, .cons (.sortk _ _) as, none :: os, ρ, k, ρ', h => by cases h
  | b :: bs, .cons (.meth _ _ _) as, none :: os, ρ, k, ρ', h => by cases h
  | bs, .nil, [], ρ, k, ρ', h => by cases bs <;> cases h
  | bs, .nil, _ :: _, ρ, k, ρ', h => by cases bs <;> cases h
  | [], .cons _ _, _, ρ, k, ρ', h => by cases h
  | _ :: _, .cons _ _, [], ρ, k, ρ', h => by cases h

theorem arg_len : ∀ (as : CL) (os : List (Option D)) (vs : List V) (r : Own), ArgR M.K S H σ as os vs r → vs.length = as.len
  | .nil, [], [], _, _ => rfl
  | .nil, [], _ :: _, _, z => by cases z
  | .nil, some _ :: _, _, _, z => by cases z
  | .nil, none :: _, _, _, z => by cases z
  | .cons _ _, [], vs, _, z => by cases vs <;> cases z
  | .cons _ _, some _ :: _, [], _, z => by cases z
  | .cons _ _, none :: _, [], _, z => by cases z
  | .cons _ as, none :: os, v :: vs, r, z => by rw [List.length_cons, arg_len as os vs r z.2]; rfl
  | .cons _ as, some _ :: os, v :: vs, r, z => by
    obtain ⟨r1, r2, _, _, _, _, z⟩ := z
    rw [List.length_cons, arg_len as os vs r2 z]
    rfl
theorem call_ent {f : Nat} {F : Fn} {as : CL} {Q : VK} (e1 : M.T.fns[f]? = some F) (e2 : F.kind = 0) (e3 : F.dfl = []) (e4 : F.np = as.len) (nb : noBw as = true) (h : tE M W Φ (.call f as) σ H Q) : tCallS (spI M Φ f F) (WE W) (tL (tsR M W Φ F.ref as)) σ H Q := by
  obtain ⟨S, R, ρ, rel, h⟩ := h
  rw [ev, e1] at h
  have k2 : ¬ (F.kind = 2) := by rw [e2]; decide
  simp only [if_neg k2, e3, List.nil_append, List.drop_nil, List.append_nil, noBw_has as nb, Bool.false_and, Bool.false_eq_true, if_false] at h
  refine evr_ent as F.ref nb rel (h.bind.mono fun os ρ1 h1 => ?_)
  intro vs H1 S1 R1 r f1 rel1 arg bk live1 dj1
  refine ⟨?_, ?_⟩
  · -- the number of arguments
    rw [e4]
    exact arg_len as os vs r arg
  · have h1' := OutR.bind h1
    cases q : takeR F.ref as os ρ1 with
    | ex j r => exact (takeR_nex _ _ _ _ _ _ q).elim
    | bad => rw [q] at h1'; exact h1'.elim
    | ok ds ρ2 =>
      rw [q] at h1'
      obtain ⟨R2, r2, rel2, rep2, live2, dj2, s1, s2⟩ := take_ok as F.ref q rel1 arg live1 dj1
      refine ⟨S1, ds, r2, RepVs.rel rel1.sub rep2 live2, ?_⟩
      have h1' : OutR M W S H σ R (PostE M S H σ R Q) (match Φ f ds with
        | .ok d outs => .ok d (backR F.ref as outs ρ2)
        | .ex c outs => .ex c (backR F.ref as outs ρ2)
        | .bad => .bad) := h1'
      have dj2' : ∀ a, r2 a → ¬ R2 a := fun a x y => dj2 a y x
      have sub2 : ∀ a, r2 a → R1 a ∨ r a := s2
      cases qf : Φ f ds with
      | bad => rw [qf] at h1'; exact h1'.elim
      | ok d outs =>
        rw [qf] at h1'
        · intro v H3 S3 R3 r3 hl f3 sub3 rep3 live3 out3 liveR3 dj3
          have rel3 := Rel.aside rel2 f3 sub3 dj2'
          have nd : ∀ a, R2 a → ¬ (R3 a ∨ r3 a) := fun a x y => (f3.aside rel2.live dj2').2.2 a y x
          obtain ⟨R4, rel4, s4⟩ := back_ok as F.ref bk hl rel3 out3 liveR3 fun a x y => nd a x (.inl y)
          refine h1' v H3 S3 R4 r3 ((f1.trans f3 sub2).less fun a x => ?_) rel4 rep3 live3 fun a x y => ?_
          · rcases x with x | x
            · rcases s4 a x with x | x
              · exact .inr (.inl (s1 a x))
              · exact .inl (.inl x)
            · exact .inl (.inr x)
          · rcases s4 a x with x | x
            · exact nd a x (.inr y)
            · exact dj3 a x y
      | ex c outs =>
        rw [qf] at h1'
        intro H3 S3 R3 hl f3 sub3 out3 liveR3
        have rel3 := Rel.aside rel2 f3 sub3 dj2'
        have nd : ∀ a, R2 a → ¬ R3 a := fun a x y => (f3.aside rel2.live dj2').2.2 a y x
        obtain ⟨R4, rel4, s4⟩ := back_ok as F.ref bk hl rel3 out3 liveR3 nd
        refine h1' H3 S3 R4 ((f1.trans f3 sub2).less fun a x => ?_) rel4
        rcases s4 a x with x | x
        · exact .inr (.inl (s1 a x))
        · exact .inl x

theorem modD_nil {α : Type} (g : D → Option (α × D)) (d : D) : modD g [] d = if d.fl then g d else none := by rw [modD]
theorem mutF_app {ds : List D} {d1 a d2 : D} (h : mutF .app ds d1 = some (a, d2)) : ∃ e xs, ds = [e] ∧ d1 = .lst true xs ∧ xs.length < lim ∧ a = .non ∧ d2 = .lst true (xs ++ [e]) := by
  rcases ds with _ | ⟨e, _ | ⟨f, ds⟩⟩
  · cases d1 <;> simp [mutF] at h
  · cases d1 with
    | lst o xs =>
      cases o with
      | false => simp [mutF] at h
      | true =>
        simp only [mutF] at h
        split at h
        · cases h
          exact ⟨e, xs, rfl, rfl, by assumption, rfl, rfl⟩
        · cases h
    | _ => simp [mutF] at h
  · cases d1 <;> simp [mutF] at h
/-- xs.append(e) -/
theorem app_ent {i : Nat} {as : CL} {Q : VK} (h : tE M W Φ (.mut (.sl i) .app as) σ H Q) : tBM M.K "list" rAppend (tVar i) (tL (tsE M W Φ as)) σ H Q := by
  obtain ⟨S, R, ρ, rel, h⟩ := h
  rw [ev, evpath] at h
  have h : OutR M W S H σ R (PostE M S H σ R Q) (if mutAtM .app ρ i [] then (evs M.T Φ as ρ).bind fun ds ρ => ρ.mod i [] (mutF .app ds) else .bad) := h
  split at h
  · rename_i hm
    unfold mutAtM at hm
    cases q : ρ.get i with
    | none => rw [q] at hm; cases hm
    | some d =>
      rw [q] at hm
      obtain ⟨v, e, r, _, rep⟩ := rel.get q
      refine ⟨v, e, ?_, ?_⟩
      · -- it is a list
        cases d with
        | lst o xs =>
          cases o with
          | false => cases hm
          | true =>
            rw [RepV] at rep
            obtain ⟨a, vs, r', ev, q, z, ra, kk, t⟩ := rep
            subst ev
            exact .inl ⟨rfl, vs, .inl (.inl q)⟩
        | dic o kd ks vs => cases o <;> cases hm
        | _ => first | cases hm | (rename_i o _ ; cases o <;> cases hm) | (rename_i o _ _ _ ; cases o <;> cases hm)
      · refine evs_ent as rel (h.bind.mono fun ds ρ1 h1 => ?_)
        intro vs H1 S1 R1 r1 f1 rel1 reps live1 dj1
        unfold Rho.mod at h1
        cases q1 : ρ1.get i with
        | none => rw [q1] at h1; exact h1.elim
        | some d1 =>
          rw [q1] at h1
          rw [show (some d1).bind (modD (mutF .app ds) []) = modD (mutF .app ds) [] d1 from rfl, modD_nil] at h1
          split at h1
          · rename_i a d2 em
            split at em
            · obtain ⟨e', xs1, rfl, rfl, hz, rfl, rfl⟩ := mutF_app em
              obtain ⟨v2, R2, r2, e2, rel2, rep2, live2, dj2, s1, s2⟩ := rel1.take q1
              rw [e] at e2
              cases e2
              rw [RepV] at rep2
              obtain ⟨l, ws, r3, ev, hl, z, rl, kk, t⟩ := rep2
              subst ev
              cases vs with
              | nil => rw [RepVs] at reps; exact reps.elim
              | cons y vs =>
                rw [RepVs] at reps
                obtain ⟨p1, p2, k1, k2, dp, repy, rest⟩ := reps
                cases vs with
                | cons _ _ => rw [RepVs] at rest; exact rest.elim
                | nil =>
                  have zl : ws.length < sizeLine := by rw [← lim_eq, ← t.len]; exact hz
                  refine ⟨l, ws, y, rfl, rfl, hl, zl, ?_⟩
                  have sl : S1 l = none := (live2 l rl).1
                  have n2 : ∀ a, R2 a → a ≠ l := fun a x e => dj2 a x (by rw [e]; exact rl)
                  have n1 : ∀ a, r1 a → a ≠ l := fun a x e => dj1 l (s2 l rl) (by rw [← e]; exact x)
                  have sub : MP.Same S1 (upd H1 l (.lst (ws ++ [y]))) := fun b o eb => by
                    rw [upd_ne]
                    · exact rel1.sub b o eb
                    · intro z; rw [z, sl] at eb; cases eb
                  have hi : i < ρ1.length := (List.getElem?_eq_some_iff.mp (Rho.get_eq q1)).1
                  have rel3 := rel2.grow (Same.refl S1) sub fun a x => ⟨(rel2.live a x).1, upd_ne (n2 a x)⟩
                  have rep3 : RepV M.K S1 (upd H1 l (.lst (ws ++ [y]))) (.lst true (xs1 ++ [e'])) (.ref l) fun a => r2 a ∨ p1 a := by
                    rw [RepV]
                    refine ⟨l, ws ++ [y], fun a => r3 a ∨ p1 a, rfl, upd_same, by rw [List.length_append]; exact zl, .inl rl, fun b x => ?_, ?_⟩
                    · rcases x with x | x
                      · exact ⟨.inl (kk b x).1, (kk b x).2⟩
                      · exact ⟨.inr x, n1 b (k1 b x)⟩
                    · refine RepVs.to (Same.refl S1) _ _ _ _ (RepVs.snoc t repy fun a x y => dj1 a (s2 a (kk a x).1) (k1 a y)) (fun _ x => x) fun b x => upd_ne ?_
                      rcases x with x | x
                      · exact (kk b x).2
                      · exact n1 b (k1 b x)
                  have live3 : Live S1 (upd H1 l (.lst (ws ++ [y]))) fun a => r2 a ∨ p1 a := fun a x => by
                    by_cases za : a = l
                    · subst za
                      exact ⟨sl, _, upd_same, Tp.lst⟩
                    · rw [upd_ne za]
                      rcases x with x | x
                      · exact live2 a x
                      · exact live1 a (k1 a x)
                  have rel4 := rel3.put' (i := i) (by rw [List.length_set]; exact hi) e rep3 live3 fun a x y => by
                    rcases y with y | y
                    · exact dj2 a x y
                    · exact dj1 a (s1 a x) (k1 a y)
                  rw [List.set_set] at rel4
                  refine h1 .non (upd H1 l (.lst (ws ++ [y]))) S1 _ none_ ⟨f1.ss, fun a o ea n => ?_, fun a x => ?_, f1.shr⟩ rel4 (by rw [RepV]) (fun a x => x.elim) fun a _ x => x
                  · rw [upd_ne]
                    · exact f1.keep a o ea n
                    · intro za
                      subst za
                      rcases f1.res a (.inl (s2 a rl)) with x | x
                      · exact n x
                      · rw [x] at ea; cases ea
                  · refine f1.res a ?_
                    rcases x with (x | x | x) | x
                    · exact .inl (s1 a x)
                    · exact .inl (s2 a x)
                    · exact .inr (k1 a x)
                    · exact x.elim
            · cases em
          · exact h1.elim
  · exact h.elim

theorem se_ent {c : CE} {J : It → Hp → Prop} (h : tI M Φ W (.se c) σ H J) : iAny M.K (fun σ H Q => tE M W Φ c σ H Q ∨ ∃ i, c = .rd i [] ∧ tVar i σ H Q) σ H J := by
  obtain ⟨S, R, ρ, rel, h⟩ := h
  unfold iAny
  cases q : holdOf (.se c) ρ with
  | some p =>
    obtain ⟨i, d, xs⟩ := p
    rw [q] at h
    unfold holdOf at q
    split at q
    · rename_i c' j ec
      cases ec
      cases g : ρ.get j with
      | none => rw [g] at q; cases q
      | some d' =>
        rw [g] at q
        have q : (if d'.fl then (itemsOf false d').map fun xs => (j, d', xs) else none) = some (i, d, xs) := q
        split at q
        · cases z : itemsOf false d' with
          | none => rw [z] at q; cases q
          | some ys =>
            rw [z] at q
            cases q
            obtain ⟨v, R1, r, e, rel1, rep, live, dj, s1, s2⟩ := rel.take g
            refine .inr ⟨_, rfl, v, e, walk_any rel.sub rep z fun K wk => ?_⟩
            exact h K R1 r v rel1 live dj (fun a x => x.elim (s1 a) (s2 a)) e rep g wk
        · cases q
    · rename_i ec
      cases ec
    · cases q
  | none =>
    rw [q] at h
    refine .inl ⟨S, R, ρ, rel, ?_⟩
    have h : OutR M W S H σ R _ (evi M.T Φ (.se c) ρ) := h
    rw [evi] at h
    refine h.bind.mono fun d ρ1 h1 => ?_
    obtain ⟨xs, ex, k⟩ := OutR.of h1
    intro v H1 S1 R1 r f1 rel1 rep live dj
    exact walk_any rel1.sub rep ex fun K wk => k K H1 S1 R1 r f1 rel1 live dj wk
theorem enu_ent {c : CE} {J : It → Hp → Prop} (h : tI M Φ W (.enu c) σ H J) : iEnuA M.K (fun σ H Q => tE M W Φ c σ H Q ∨ ∃ i, c = .rd i [] ∧ tVar i σ H Q) σ H J := by
  obtain ⟨S, R, ρ, rel, h⟩ := h
  unfold iEnuA
  cases q : holdOf (.enu c) ρ with
  | some p =>
    obtain ⟨i, d, xs⟩ := p
    rw [q] at h
    unfold holdOf at q
    split at q
    · rename_i ec
      cases ec
    · rename_i c' j ec
      cases ec
      cases g : ρ.get j with
      | none => rw [g] at q; cases q
      | some d' =>
        rw [g] at q
        have q : (if d'.fl then (itemsOf true d').map fun xs => (j, d', xs) else none) = some (i, d, xs) := q
        split at q
        · cases z : itemsOf true d' with
          | none => rw [z] at q; cases q
          | some ys =>
            rw [z] at q
            cases q
            obtain ⟨v, R1, r, e, rel1, rep, live, dj, s1, s2⟩ := rel.take g
            refine .inr ⟨_, rfl, v, e, ⟨v, rfl, walk_enuA rel.sub rep z fun K wk => ?_⟩⟩
            exact h K R1 r v rel1 live dj (fun a x => x.elim (s1 a) (s2 a)) e rep g wk
        · cases q
    · cases q
  | none =>
    rw [q] at h
    refine .inl ⟨S, R, ρ, rel, ?_⟩
    have h : OutR M W S H σ R _ (evi M.T Φ (.enu c) ρ) := h
    rw [evi] at h
    refine h.bind.mono fun d ρ1 h1 => ?_
    obtain ⟨xs, ex, k⟩ := OutR.of h1
    intro v H1 S1 R1 r f1 rel1 rep live dj
    exact ⟨v, rfl, walk_enuA rel1.sub rep ex fun K wk => k K H1 S1 R1 r f1 rel1 live dj wk⟩
theorem rng1_ent {a : CE} {J : It → Hp → Prop} (h : tI M Φ W (.rng1 a) σ H J) : iRng1 (tL (tsE M W Φ (.cons a .nil))) σ H J := by
  obtain ⟨S, R, ρ, rel, h⟩ := h
  have h : OutR M W S H σ R _ (evi M.T Φ (.rng1 a) ρ) := h
  rw [evi] at h
  refine ⟨S, R, ρ, rel, h.bind.mono fun d ρ1 h1 => ?_⟩
  intro v H1 S1 R1 r f1 rel1 rep live dj
  cases d with
  | int j =>
    rw [RepV] at rep
    subst rep
    dsimp only at h1
    split at h1
    · rename_i hj
      simp only [Bool.and_eq_true, decide_eq_true_eq] at hj
      refine ⟨j, rfl, by omega, by omega, ?_⟩
      have wk := walk_range (K := M.K) (S := S1) (H := H1) 0 j.toNat none_
      refine h1 (Itr 0 j.toNat) H1 S1 R1 none_ (f1.less fun a x => .inl (x.elim id False.elim)) rel1 (fun a x => x.elim) (fun a _ x => x) ?_
      simpa using wk
    · exact h1.elim
  | _ => exact h1.elim
theorem rng2_ent {a b : CE} {J : It → Hp → Prop} (h : tI M Φ W (.rng2 a b) σ H J) : iRng2 (tL (tsE M W Φ (.cons a (.cons b .nil)))) σ H J := by
  obtain ⟨S, R, ρ, rel, h⟩ := h
  have h : OutR M W S H σ R _ (evi M.T Φ (.rng2 a b) ρ) := h
  rw [evi] at h
  refine ⟨S, R, ρ, rel, h.bind.mono fun d ρ1 h1 => ?_⟩
  intro v H1 S1 R1 r f1 rel1 rep live dj
  refine ⟨S1, R1, ρ1, rel1, OutR.from h1.bind f1 (fun a x => .inl x) fun e ρ2 h2 => ?_⟩
  intro w H2 S2 R2 r2 f2 rel2 rep2 live2 dj2
  cases d with
  | int i =>
    cases e with
    | int j =>
      rw [RepV] at rep rep2
      subst rep rep2
      dsimp only at h2
      split at h2
      · rename_i hj
        simp only [Bool.and_eq_true, decide_eq_true_eq] at hj
        refine ⟨i, j, rfl, ⟨by omega, by omega, by omega, by omega⟩, ?_⟩
        refine h2 (Itr i (j - i).toNat) H2 S2 R2 none_ (((f1.trans f2 fun a x => .inl x)).less fun a x => .inl (.inl (x.elim id False.elim))) rel2 (fun a x => x.elim) (fun a _ x => x) ?_
        exact walk_range (K := M.K) (S := S2) (H := H2) i (j - i).toNat none_
      · exact h2.elim
    | _ => exact h2.elim
  | _ => exact h2.elim

theorem zip_ent {a b : CE} {J : It → Hp → Prop} (h : tI M Φ W (.zip a b) σ H J) : iZip M.K (tL (tsE M W Φ (.cons a (.cons b .nil)))) σ H J := by
  obtain ⟨S, R, ρ, rel, h⟩ := h
  have h : OutR M W S H σ R _ (evi M.T Φ (.zip a b) ρ) := h
  rw [evi] at h
  refine ⟨S, R, ρ, rel, h.bind.mono fun d ρ1 h1 => ?_⟩
  intro v H1 S1 R1 r f1 rel1 rep live dj
  refine ⟨S1, R1, ρ1, rel1, OutR.from h1.bind f1 (fun a x => .inl x) fun e ρ2 h2 => ?_⟩
  intro w H2 S2 R2 r2 f2 rel2 rep2 live2 dj2
  obtain ⟨c1, c2, c3⟩ := f2.aside live dj
  have rep1 := f2.carry live dj rep
  split at h2
  · rename_i o xs p ys
    split at h2
    · rename_i hu
      rw [Bool.and_eq_true] at hu
      obtain ⟨a', vs, rfl, tx, sx⟩ := lst_stays rep1 hu.1
      obtain ⟨b', ws, rfl, ty, sy⟩ := lst_stays rep2 hu.2
      refine ⟨a', b', vs, ws, rfl, sx S2 H2 (Same.refl S2) rel2.sub fun _ _ => rfl, sy S2 H2 (Same.refl S2) rel2.sub fun _ _ => rfl, ?_⟩
      refine h2 (Itz M.K a' b') H2 S2 R2 (fun a => r a ∨ r2 a) ((f1.trans f2 fun a x => .inl x).less fun a x => ?_) rel2 (fun a x => x.elim (c2 a) (live2 a)) (fun a x y => y.elim (c3 a (.inl x)) (dj2 a x)) ?_
      · rcases x with x | x | x
        · exact .inl (.inl x)
        · exact .inr (.inr x)
        · exact .inl (.inr x)
      · exact walk_zip hu.1 hu.2 tx ty (fun S' H' k1 k2 k3 => sx S' H' k1 k2 fun b hb => k3 b (.inl hb)) fun S' H' k1 k2 k3 => sy S' H' k1 k2 fun b hb => k3 b (.inr hb)
    · exact h2.elim
  · exact h2.elim
theorem compE_ent {elt : CE} {t : CG} {s : CI} {c : CO} {own : List Nat} {Q : VK} (sl : ∀ j ∈ t.slots, j ∈ own) (h : tE M W Φ (.comp elt t s c own) σ H Q) : tLc (tI M Φ W s) (tG M t) (tO M wF Φ c) (tE M wF Φ elt) own σ H Q := by
  obtain ⟨S, R, ρ, rel, h⟩ := h
  rw [ev] at h
  split at h
  · exact h.elim
  · rename_i nf
    have nf : ownFl own ρ = false := by simpa using nf
    refine ⟨S, R, ρ, rel, ?_⟩
    cases q : holdOf s ρ with
    | some p =>
      obtain ⟨i, d, xs⟩ := p
      rw [q] at h
      dsimp only at h ⊢
      intro J R1 rh v rel1 live dj sub e rep g wk
      unfold compEnd at h
      split at h
      · rename_i ys ρ' es
        split at h
        · rename_i hl
          have kf : Fr S H (fun a => R1 a ∨ rh a) S H fun a => R1 a ∨ rh a := Fr.refl
          refine comp_ent wk rel1 live dj sl es hl rel (Same.refl S) nf fun w H' S' R' r f rel' rep' live' dj' nrh hk => ?_
          have g2 : Fr S H R S' H' fun a => (R' a ∨ r a) ∨ rh a := ⟨f.ss, fun a o ea n => f.keep a o ea fun x => n (sub a x), fun a x => (f.res a x).imp (sub a) id, fun a o ea => (f.shr a o ea).imp id fun x => x.imp (sub a) id⟩
          have hi : i < (unclr ρ own ρ').length := by
            rw [rel'.len]
            exact (List.getElem?_eq_some_iff.mp e).1
          have rel2 := rel'.put' hi e (RepV.to f.ss d v rh rh rep (fun _ x => x) hk) (fun a x => live' a (.inr x)) fun a x y => dj' a x (.inr y)
          refine h w H' S' _ r (g2.less fun a x => ?_) rel2 rep' (fun a x => live' a (.inl x)) fun a x y => ?_
          · rcases x with (x | x) | x
            · exact .inl (.inl x)
            · exact .inr x
            · exact .inl (.inr x)
          · rcases x with x | x
            · exact dj' a x (.inl y)
            · exact nrh a y x
        · exact h.elim
      · exact h.elim
    | none =>
      rw [q] at h
      dsimp only at h ⊢
      refine h.bind.mono fun xs ρ1 h1 => ?_
      intro J H1 S1 R1 rh f1 rel1 live dj wk
      split at h1
      · exact h1.elim
      · rename_i nf1
        have nf1 : ownFl own ρ1 = false := by simpa using nf1
        unfold compEnd at h1
        split at h1
        · rename_i ys ρ' es
          split at h1
          · rename_i hl
            refine comp_ent wk rel1 live dj sl es hl rel1 (Same.refl S1) nf1 fun w H' S' R' r f rel' rep' live' dj' nrh hk => ?_
            exact h1 w H' S' R' r ((f1.trans f fun a x => x).less fun a x => .inl (.inl x)) rel' rep' (fun a x => live' a (.inl x)) fun a x y => dj' a x (.inl y)
          · exact h1.elim
        · exact h1.elim
end
end MP

set_option autoImplicit false
set_option linter.all false
set_option maxRecDepth 100000
/-! MP: methods of texts. -/
namespace MP
open PySem L2

/-! ### signs below 128 -/
theorem ascii_tab : ∀ c, c < 128 → Unicode.upperOf c = [up1 c] ∧ Unicode.lowerOf c = [lo1 c] ∧ Unicode.isUpper c = isUp c ∧ Unicode.isLower c = isLo c ∧ Unicode.isTitle c = false ∧ Unicode.isAlpha c = (isUp c || isLo c) := by decide +kernel
theorem flat_one {α β : Type} (g : α → β) : ∀ s : List α, (s.map fun c => [g c]).flatten = s.map g
  | [] => rfl
  | a :: s => by rw [List.map_cons, List.flatten_cons, flat_one g s]; rfl
theorem placed_map (s : List Nat) (f : Nat → Nat → List Nat) (g : Nat → Nat) (h : ∀ i c, s[i]? = some c → f i c = [g c]) : placed ⟨s.toArray⟩ f = (s.map g).toArray := by
  have e : (s.toArray.mapIdx fun i c => (f i c).toArray) = (s.map fun c => #[g c]).toArray := by
    apply Array.ext
    · simp
    · intro i h1 h2
      have hi : i < s.length := by simpa using h1
      simp only [Array.getElem_mapIdx, List.getElem_toArray, List.getElem_map]
      rw [h i s[i] (List.getElem?_eq_getElem hi)]
  unfold placed
  show (s.toArray.mapIdx fun i c => (f i c).toArray).flatten = _
  rw [e]
  apply Array.ext'
  rw [Array.toList_flatten]
  simp only [List.map_map]
  exact flat_one g s
theorem ascii_mem {s : List Nat} (h : ascii s = true) {c : Nat} (hc : c ∈ s) : c < 128 := by
  unfold ascii at h
  simpa using List.all_eq_true.mp h c hc
theorem upper_txt {s : List Nat} (h : ascii s = true) : Txt.upper ⟨s.toArray⟩ = ⟨(s.map up1).toArray⟩ := by
  unfold Txt.upper
  rw [placed_map s _ up1 fun i c e => (ascii_tab c (ascii_mem h (List.mem_of_getElem? e))).1]
theorem lower_txt {s : List Nat} (h : ascii s = true) : Txt.lower ⟨s.toArray⟩ = ⟨(s.map lo1).toArray⟩ := by
  unfold Txt.lower
  rw [placed_map s _ lo1 fun i c e => ?_]
  have hc := ascii_mem h (List.mem_of_getElem? e)
  show Unicode.lowerAt s.toArray i = _
  unfold Unicode.lowerAt
  rw [List.getElem?_toArray, e]
  dsimp only
  rw [if_neg]
  · exact (ascii_tab c hc).2.1
  · intro z
    rw [Bool.and_eq_true, beq_iff_eq] at z
    omega
theorem isupper_txt {c : Nat} (h : c < 128) : Txt.isupper ⟨[c].toArray⟩ = isUp c := by
  obtain ⟨_, _, h3, h4, h5, _⟩ := ascii_tab c h
  show ((#[c] : Array Nat).any Unicode.isUpper && !(#[c] : Array Nat).any fun c => Unicode.isLower c || Unicode.isTitle c) = _
  simp only [List.any_toArray', List.any_cons, List.any_nil, Bool.or_false, h3, h4, h5]
  unfold isUp isLo
  by_cases k1 : c ≤ 90 <;> by_cases k2 : 65 ≤ c <;> by_cases k3 : 97 ≤ c <;> simp [k1, k2, k3] <;> omega
theorem islower_txt {c : Nat} (h : c < 128) : Txt.islower ⟨[c].toArray⟩ = isLo c := by
  obtain ⟨_, _, h3, h4, h5, _⟩ := ascii_tab c h
  show ((#[c] : Array Nat).any Unicode.isLower && !(#[c] : Array Nat).any fun c => Unicode.isUpper c || Unicode.isTitle c) = _
  simp only [List.any_toArray', List.any_cons, List.any_nil, Bool.or_false, h3, h4, h5]
  unfold isUp isLo
  by_cases k1 : c ≤ 90 <;> by_cases k2 : 65 ≤ c <;> by_cases k3 : 97 ≤ c <;> by_cases k4 : c ≤ 122 <;> simp [k1, k2, k3, k4] <;> omega
theorem isalpha_txt {c : Nat} (h : c < 128) : Txt.isalpha ⟨[c].toArray⟩ = (isUp c || isLo c) := by
  obtain ⟨_, _, _, _, _, h6⟩ := ascii_tab c h
  show (decide ((#[c] : Array Nat).size > 0) && (#[c] : Array Nat).all Unicode.isAlpha) = _
  simp [h6]
theorem join_fold (sep : List Nat) : ∀ (ts : List (List Nat)) (acc : Array Nat), ((ts.map fun t => (⟨t.toArray⟩ : Str)).foldl (fun acc p => acc ++ sep.toArray ++ p.cps) acc).toList = acc.toList ++ (ts.map fun t => sep ++ t).flatten
  | [], acc => by simp
  | t :: ts, acc => by
    rw [List.map_cons, List.foldl_cons, join_fold sep ts]
    simp
theorem joinS_eq (sep : List Nat) : ∀ (t : List Nat) (ts : List (List Nat)), joinS sep (t :: ts) = t ++ (ts.map fun t => sep ++ t).flatten
  | t, [] => by simp [joinS]
  | t, u :: ts => by
    rw [joinS, joinS_eq sep u ts, List.map_cons, List.flatten_cons]
    simp
theorem join_txt (sep : List Nat) (ts : List (List Nat)) : Txt.join ⟨sep.toArray⟩ (ts.map fun t => ⟨t.toArray⟩) = ⟨(joinS sep ts).toArray⟩ := by
  unfold Txt.join Builtin.Str.glued
  cases ts with
  | nil => rfl
  | cons t ts =>
    congr 1
    apply Array.ext'
    rw [List.map_cons, List.drop_succ_cons, List.drop_zero, join_fold, joinS_eq]
    simp
theorem join_len (sep : List Nat) : ∀ ts : List (List Nat), (ts.map List.length).sum + ts.length * sep.length ≤ (joinS sep ts).length + sep.length
  | [] => by simp
  | [t] => by simp [joinS]
  | t :: u :: ts => by
    have := join_len sep (u :: ts)
    rw [joinS]
    simp only [List.map_cons, List.sum_cons, List.length_cons, List.length_append, Nat.add_mul, Nat.one_mul] at *
    omega

/-! ### readings -/
def OkM (K : PySem.W.Frag) (f : List D → Option D) (r : V → List V → Hp → VK → Prop) : Prop := ∀ (ds : List D) (d : D) (x : V) (xs : List V) (S H : Hp) (Q : VK), f ds = some d → All2 (Rep K S H) ds (x :: xs) → MP.Same S H → PostO K S H Q d → r x xs H Q
section
variable {K : PySem.W.Frag}
theorem upper_len {s : List Nat} : (s.map up1).length = s.length := List.length_map ..
theorem okm_upper : OkM K o_upper (fun x xs H Q => ∃ a, x = .str a ∧ xs = [] ∧ a.length ≤ 5592405 ∧ Q (.str (Txt.upper a)) H) := by
  intro ds d x xs S H Q e reps sub post
  unfold o_upper at e
  split at e
  · rename_i s
    split at e
    · rename_i hm
      cases e
      rw [Bool.and_eq_true, decide_eq_true_eq] at hm
      cases reps with
      | cons ra t =>
        cases t
        refine ⟨_, ra.str, rfl, by show s.toArray.size ≤ _; rw [List.size_toArray]; exact hm.2, ?_⟩
        rw [upper_txt hm.1]
        exact post.str sub (by rw [upper_len]; exact ra.strz)
    · cases e
  · cases e
theorem okm_lower : OkM K o_lower (fun x xs H Q => ∃ a, x = .str a ∧ xs = [] ∧ a.length ≤ 5592405 ∧ Q (.str (Txt.lower a)) H) := by
  intro ds d x xs S H Q e reps sub post
  unfold o_lower at e
  split at e
  · rename_i s
    split at e
    · rename_i hm
      cases e
      rw [Bool.and_eq_true, decide_eq_true_eq] at hm
      cases reps with
      | cons ra t =>
        cases t
        refine ⟨_, ra.str, rfl, by show s.toArray.size ≤ _; rw [List.size_toArray]; exact hm.2, ?_⟩
        rw [lower_txt hm.1]
        exact post.str sub (by rw [List.length_map]; exact ra.strz)
    · cases e
  · cases e
theorem okm_isupper : OkM K o_isupper (fun x xs H Q => ∃ a, x = .str a ∧ xs = [] ∧ True ∧ Q (.bl (Txt.isupper a)) H) := by
  intro ds d x xs S H Q e reps sub post
  unfold o_isupper at e
  split at e
  · split at e
    · rename_i hm
      cases e
      cases reps with
      | cons ra t =>
        cases t
        refine ⟨_, ra.str, rfl, trivial, ?_⟩
        rw [isupper_txt hm]
        exact post.bl sub
    · cases e
  · cases e
theorem okm_islower : OkM K o_islower (fun x xs H Q => ∃ a, x = .str a ∧ xs = [] ∧ True ∧ Q (.bl (Txt.islower a)) H) := by
  intro ds d x xs S H Q e reps sub post
  unfold o_islower at e
  split at e
  · split at e
    · rename_i hm
      cases e
      cases reps with
      | cons ra t =>
        cases t
        refine ⟨_, ra.str, rfl, trivial, ?_⟩
        rw [islower_txt hm]
        exact post.bl sub
    · cases e
  · cases e
theorem okm_isalpha : OkM K o_isalpha (fun x xs H Q => ∃ a, x = .str a ∧ xs = [] ∧ True ∧ Q (.bl (Txt.isalpha a)) H) := by
  intro ds d x xs S H Q e reps sub post
  unfold o_isalpha at e
  split at e
  · split at e
    · rename_i hm
      cases e
      cases reps with
      | cons ra t =>
        cases t
        refine ⟨_, ra.str, rfl, trivial, ?_⟩
        rw [isalpha_txt hm]
        exact post.bl sub
    · cases e
  · cases e
theorem RepVs.strs {S H : Hp} : ∀ {xs : List D} {vs : List V} {r : Own} {ts : List (List Nat)}, RepVs K S H xs vs r → strs? xs = some ts → vs = (ts.map fun t => (⟨t.toArray⟩ : Str)).map V.str
  | [], [], _, _, _, e => by cases e; rfl
  | [], _ :: _, _, _, h, _ => by rw [RepVs] at h; exact h.elim
  | _ :: _, [], _, _, h, _ => by rw [RepVs] at h; exact h.elim
  | x :: xs, v :: vs, r, ts, h, e => by
    rw [RepVs] at h
    obtain ⟨r1, r2, _, _, _, a, b⟩ := h
    cases x with
    | str s =>
      rw [strs?] at e
      obtain ⟨ss, q, rfl⟩ := Option.map_eq_some_iff.mp e
      rw [RepV] at a
      rw [a.1, RepVs.strs b q]
      rfl
    | _ => simp [strs?] at e
def rJoin (K : PySem.W.Frag) : V → List V → Hp → VK → Prop := fun x xs H Q => ∃ a p, ∃ ys : List Str, x = .str a ∧ xs = [.ref p] ∧ (SqL K H p (ys.map V.str) ∨ SqT K H p (ys.map V.str)) ∧
    (ys.map (·.length)).sum + ys.length * a.length ≤ 16777216 ∧ Q (.str (Txt.join a ys)) H
theorem okm_join : OkM K o_join (rJoin K) := by
  intro ds d x xs S H Q e reps sub post
  unfold o_join at e
  split at e
  · rename_i s d0
    cases q : d0.its.bind strs? with
    | none => rw [q] at e; cases e
    | some ts =>
      rw [q] at e
      have e : (if (joinS s ts).length + s.length ≤ lim then some (D.str (joinS s ts)) else none) = some d := e
      split at e
      · rename_i hm
        cases e
        have hl : (joinS s ts).length ≤ sizeLine := by rw [← lim_eq]; omega
        have hm : (joinS s ts).length + s.length ≤ 16777216 := hm
        have hsum : ((ts.map fun t => (⟨t.toArray⟩ : Str)).map (·.length)).sum + (ts.map fun t => (⟨t.toArray⟩ : Str)).length * (⟨s.toArray⟩ : Str).length ≤ 16777216 := by
          have := join_len s ts
          have e1 : ((ts.map fun t => (⟨t.toArray⟩ : Str)).map (·.length)) = ts.map List.length := by
            rw [List.map_map]
            exact List.map_congr_left fun t _ => List.size_toArray
          have e2 : (⟨s.toArray⟩ : Str).length = s.length := List.size_toArray
          rw [e1, e2, List.length_map]
          omega
        have fin : Q (.str (Txt.join ⟨s.toArray⟩ (ts.map fun t => ⟨t.toArray⟩))) H := by
          rw [join_txt]
          exact post.str sub hl
        cases reps with
        | cons ra t =>
          cases t with
          | cons rb t2 =>
            cases t2
            cases d0 with
            | lst o ys =>
              have q : strs? ys = some ts := q
              obtain ⟨p, vs, r, rfl, q1, z, t⟩ := rb.lst sub
              rw [t.strs q] at q1
              exact ⟨_, p, _, ra.str, rfl, .inl q1, hsum, fin⟩
            | tup o ys =>
              have q : strs? ys = some ts := q
              obtain ⟨p, vs, r, rfl, q1, z, t⟩ := rb.tup sub
              rw [t.strs q] at q1
              exact ⟨_, p, _, ra.str, rfl, .inr q1, hsum, fin⟩
            | _ => cases q
      · cases e
  · cases e
end
end MP

set_option autoImplicit false
set_option linter.all false
set_option maxRecDepth 100000
/-! MP: methods, stores into what a slot holds. -/
namespace MP
open PySem L2

/-! ### methods that look -/
def recvT (o : Op) : String := if recvK o = 6 then "dict" else if recvK o = 5 then "list" else "str"
section
variable {M : Md} {W : WX} {Φ : Nat → List D → FR} {S H S' H' : Hp} {σ : L2.St} {R R' T : Own}
theorem ty_recv {K : PySem.W.Frag} {o : Op} {d : D} {x : V} (h : Rep K S H d x) (sub : MP.Same S H) (k : d.kind = recvK o) : tyV K (recvT o) x H := by
  have rk : recvK o = 3 ∨ recvK o = 5 ∨ recvK o = 6 := by cases o <;> simp [recvK]
  unfold recvT
  obtain ⟨r, h⟩ := h
  cases d with
  | str s =>
    rw [← k]
    rw [RepV] at h
    rw [h.1]
    rfl
  | lst o xs =>
    rw [← k]
    cases o with
    | false =>
      rw [RepV] at h
      obtain ⟨a, vs, rfl, q, _⟩ := h
      exact .inl ⟨rfl, vs, SqL.mono q sub⟩
    | true =>
      rw [RepV] at h
      obtain ⟨a, vs, r', rfl, e, _⟩ := h
      exact .inl ⟨rfl, vs, .inl (.inl e)⟩
  | dic o kd ks vs =>
    rw [← k]
    obtain ⟨a, ws, ho, r', rfl, q, q2, z, l, t⟩ := Rep.dic sub ⟨r, h⟩
    refine .inr (.inr (.inl ⟨rfl, ?_⟩))
    have hd : kd = 0 ∨ kd = 1 := by
      unfold dicHO at q
      split at q
      · exact .inl (by assumption)
      · split at q
        · exact .inr (by assumption)
        · cases q
    rcases hd with rfl | rfl
    · obtain ⟨kk, e1, nd, rfl⟩ := dicHO_0 q
      exact .inl ⟨_, q2⟩
    · obtain ⟨kk, e1, nd, rfl⟩ := dicHO_1 q
      exact .inr ⟨_, q2⟩
  | set _ => rw [RepV] at h; exact h.elim
  | ins _ _ _ _ => rw [RepV] at h; exact h.elim
  | exn _ => rw [RepV] at h; exact h.elim
  | _ => exact absurd k (by rcases rk with e | e | e <;> rw [e] <;> simp [D.kind])
/-- the receiver's reading -/
def tRecv (M : Md) (W : WX) (Φ : Nat → List D → FR) : CE → TE
  | .rd i [] => tVar i
  | a => tE M W Φ a
theorem meth_ent {o : Op} {a : CE} {as : CL} {r : V → List V → Hp → VK → Prop} {Q : VK} (ok : OkM M.K (opF M.T.sub o) r) (h : tE M W Φ (.meth o a as) σ H Q) :
    tBM M.K (recvT o) r (tRecv M W Φ a) (tL (tsP M W Φ as)) σ H Q := by
  obtain ⟨S, R, ρ, rel, h⟩ := h
  have fin : ∀ {ds : List D} {d : D} {x : V} {xs : List V} {ρ1 : Rho} {S1 H1 : Hp} {R1 : Own}, Fr S H R S1 H1 R1 → Rel M.K S1 H1 σ ρ1 R1 → Rep M.K S1 H1 d x → All2 (fun d v => ∃ r, RepV M.K S1 H1 d v r) ds xs →
      OutR M W S H σ R (PostE M S H σ R Q) (.of ρ1 (opF M.T.sub o (d :: ds))) → r x xs H1 Q := by
    intro ds d x xs ρ1 S1 H1 R1 f1 rel1 repd reps h1
    obtain ⟨d', ed, post⟩ := OutR.of h1
    refine ok (d :: ds) d' x xs S1 H1 Q ed (.cons repd reps) rel1.sub (PostO.of rel1 fun v H2 S2 r2 f2 rel2 rep2 live2 dj2 => ?_)
    exact post v H2 S2 R1 r2 ((f1.trans f2 fun a x => x).less fun a x => .inl x) rel2 rep2 live2 dj2
  have gen : (∀ i, a ≠ .rd i []) → tBM M.K (recvT o) r (tRecv M W Φ a) (tL (tsP M W Φ as)) σ H Q := fun na => by
    have e1 : ev M.T Φ (.meth o a as) ρ = (ev M.T Φ a ρ).bind fun d ρ => if d.kind = recvK o then (evp M.T Φ as ρ).bind fun ds ρ => .of ρ (opF M.T.sub o (d :: ds)) else .bad := by
      rw [ev]
      exact fun i e => na i e
    have e2 : tRecv M W Φ a = tE M W Φ a := by
      unfold tRecv
      split
      · exact absurd rfl (na _)
      · rfl
    rw [e1] at h
    rw [e2]
    refine ⟨S, R, ρ, rel, h.bind.mono fun d ρ1 h1 => ?_⟩
    intro v H1 S1 R1 r1 f1 rel1 rep1 live1 dj1
    split at h1
    · rename_i hk
      refine ⟨ty_recv ⟨r1, rep1⟩ rel1.sub hk, evp_ent as (S := S1) (R := R1) rel1 (OutR.from h1.bind f1 (fun a x => .inl x) fun ds ρ2 h2 => ?_)⟩
      intro vs H2 S2 R2 f2 rel2 reps2
      exact fin ((f1.trans f2 fun a x => .inl x).less fun a x => .inl x) rel2 ⟨r1, f2.carry live1 dj1 rep1⟩ reps2 h2
    · exact h1.elim
  cases a with
  | rd i fs =>
    cases fs with
    | cons f fs => exact gen fun j e => nomatch e
    | nil =>
      rw [ev] at h
      cases q : ρ.get i with
      | none => rw [q] at h; exact h.elim
      | some d0 =>
        rw [q] at h
        dsimp only at h
        split at h
        · rename_i hk
          obtain ⟨v, e, r0, _, rep0⟩ := rel.get q
          refine ⟨v, e, ty_recv ⟨r0, rep0⟩ rel.sub hk, evp_ent as rel (h.bind.mono fun ds ρ2 h2 => ?_)⟩
          intro vs H2 S2 R2 f2 rel2 reps2
          cases q2 : ρ2.get i with
          | none => rw [q2] at h2; exact h2.elim
          | some d =>
            rw [q2] at h2
            obtain ⟨v', e', r', _, rep⟩ := rel2.get q2
            rw [e] at e'
            cases e'
            dsimp only at h2
            split at h2
            · exact fin f2 rel2 ⟨r', rep⟩ reps2 h2
            · exact h2.elim
        · exact h.elim
  | _ => exact gen fun i e => nomatch e

/-! ### stores -/
/-- a slot's own node at l is laid anew -/
theorem slot_store {i : Nat} {ρ1 : Rho} {R1 r1 : Own} {d1 : D} (rel1 : Rel M.K S H σ ρ1 R1) (q1 : ρ1.get i = some d1) (live1 : Live S H r1) (dj1 : ∀ a, R1 a → ¬ r1 a) :
    ∃ (v : V) (r2 : Own), σ[i]? = some (some v) ∧ RepV M.K S H d1 v r2 ∧ Live S H r2 ∧ (∀ a, r2 a → r1 a → False) ∧ (∀ a, r2 a → R1 a) ∧
      ∀ (l : Addr) (ob : HO) (d2 : D), ¬ Tp ob → r2 l → RepV M.K S (upd H l ob) d2 v (fun a => r2 a ∨ r1 a) →
        ∃ R3 : Own, Rel M.K S (upd H l ob) σ (ρ1.set i (some d2)) R3 ∧ Fr S H (fun a => R1 a ∨ r1 a) S (upd H l ob) R3 := by
  obtain ⟨v, R2, r2, e, rel2, rep2, live2, dj2, s1, s2⟩ := rel1.take q1
  refine ⟨v, r2, e, rep2, live2, fun a x y => dj1 a (s2 a x) y, s2, fun l ob d2 nt hl rep => ?_⟩
  have sl : S l = none := (live2 l hl).1
  have n2 : ∀ a, R2 a → a ≠ l := fun a x e => dj2 a x (by rw [e]; exact hl)
  have sub : MP.Same S (upd H l ob) := fun b o eb => by
    rw [upd_ne]
    · exact rel1.sub b o eb
    · intro z; rw [z, sl] at eb; cases eb
  have hi : i < ρ1.length := (List.getElem?_eq_some_iff.mp (Rho.get_eq q1)).1
  have rel3 := rel2.grow (Same.refl S) sub fun a x => ⟨(rel2.live a x).1, upd_ne (n2 a x)⟩
  have live3 : Live S (upd H l ob) fun a => r2 a ∨ r1 a := fun a x => by
    by_cases za : a = l
    · subst za
      exact ⟨sl, _, upd_same, nt⟩
    · rw [upd_ne za]
      rcases x with x | x
      · exact live2 a x
      · exact live1 a x
  have rel4 := rel3.put' (i := i) (by rw [List.length_set]; exact hi) e rep live3 fun a x y => by
    rcases y with y | y
    · exact dj2 a x y
    · exact dj1 a (s1 a x) y
  rw [List.set_set] at rel4
  refine ⟨_, rel4, Same.refl S, fun a o ea n => ?_, fun a x => .inl ?_, fun a o ea => .inl ea⟩
  · rw [upd_ne]
    · exact ea
    · intro za
      exact n (.inl (by rw [za]; exact s2 l hl))
  · rcases x with x | x | x
    · exact .inl (s1 a x)
    · exact .inl (s2 a x)
    · exact .inr x
theorem RepV.lst_put {K : PySem.W.Frag} {l : Addr} {ys : List D} {zs : List V} {r r2 : Own} (z : zs.length ≤ sizeLine) (t : RepVs K S H ys zs r) (hl : r2 l) (k : ∀ a, r a → r2 a ∧ a ≠ l) : RepV K S (upd H l (.lst zs)) (.lst true ys) (.ref l) r2 := by
  rw [RepV]
  exact ⟨l, zs, r, rfl, upd_same, z, hl, k, RepVs.to (Same.refl S) _ _ _ _ t (fun _ x => x) fun b x => upd_ne (k b x).2⟩
theorem RepVs.appO {K : PySem.W.Frag} : ∀ {xs ys : List D} {vs ws : List V} {r1 r2 : Own}, RepVs K S H xs vs r1 → RepVs K S H ys ws r2 → (∀ a, r1 a → r2 a → False) → RepVs K S H (xs ++ ys) (vs ++ ws) fun a => r1 a ∨ r2 a
  | [], ys, [], ws, r1, r2, h1, h2, dj => h2.mono fun a x => .inr x
  | [], _, _ :: _, _, _, _, h1, _, _ => by rw [RepVs] at h1; exact h1.elim
  | _ :: _, _, [], _, _, _, h1, _, _ => by rw [RepVs] at h1; exact h1.elim
  | x :: xs, ys, v :: vs, ws, r1, r2, h1, h2, dj => by
    rw [RepVs] at h1
    obtain ⟨s1, s2, k1, k2, d12, a, b⟩ := h1
    rw [List.cons_append, List.cons_append, RepVs]
    exact ⟨s1, fun a => s2 a ∨ r2 a, fun a z => .inl (k1 a z), fun a z => z.elim (fun z => .inl (k2 a z)) .inr, fun a z y => y.elim (fun y => d12 a z y) fun y => dj a (k1 a z) y, a, RepVs.appO b h2 fun a z y => dj a (k2 a z) y⟩

/-! ### dicts -/
section
variable {κ : Type} [DecidableEq κ]
theorem putK_ne {p : κ × V} {r : List (κ × V)} {x : κ} {w : V} (h : p.1 ≠ x) : putK (p :: r) x w = p :: putK r x w := by
  unfold putK
  simp only [List.any_cons, decide_eq_false h, Bool.false_or, List.map_cons, if_neg h]
  split <;> simp
theorem putK_eq {p : κ × V} {r : List (κ × V)} {x : κ} {w : V} (h : p.1 = x) (n : x ∉ r.map (·.1)) : putK (p :: r) x w = (x, w) :: r := by
  unfold putK
  subst h
  simp only [List.any_cons, decide_true, Bool.true_or, if_true, List.map_cons, List.cons.injEq, true_and]
  refine (List.map_congr_left fun q hq => ?_).trans (List.map_id r)
  rw [if_neg]
  · rfl
  · intro e
    exact n (List.mem_map.mpr ⟨q, hq, e⟩)
theorem zip_fst : ∀ (kk : List κ) (ws : List V), kk.length = ws.length → (kk.zip ws).map (·.1) = kk
  | [], _, _ => rfl
  | _ :: _, [], h => by cases h
  | k :: kk, w :: ws, h => by rw [List.zip_cons_cons, List.map_cons, zip_fst kk ws (by simpa using h)]
theorem set_put {key : D → Option κ} (ke : ∀ {a b x y}, key a = some x → key b = some y → eqD a b = decide (x = y)) {k v : D} {x : κ} {w : V} (hk : key k = some x) {K : PySem.W.Frag} (rv : RepV K S H v w none_) :
    ∀ {ks : List D} {kk : List κ} {vs : List D} {ws : List V} {r : Own}, ks.mapM key = some kk → kk.Nodup → RepVs K S H vs ws r → ks.length = ws.length →
      ∃ kk' ws', (setD k v ks vs).1.mapM key = some kk' ∧ kk'.Nodup ∧ (∀ y ∈ kk', y = x ∨ y ∈ kk) ∧ putK (kk.zip ws) x w = kk'.zip ws' ∧ RepVs K S H (setD k v ks vs).2 ws' r ∧ (setD k v ks vs).1.length = ws'.length ∧ ws'.length ≤ ws.length + 1
  | [], kk, vs, ws, r, hm, nd, hr, hl => by
    cases hm
    cases ws with
    | cons _ _ => cases hl
    | nil =>
      refine ⟨[x], [w], ?_, by simp, by simp, rfl, ?_, rfl, by simp⟩
      · rw [setD]
        · show [k].mapM key = some [x]
          rw [List.mapM_cons, hk]
          rfl
        · intro _ _ _ _ e; cases e
      · rw [setD]
        · show RepVs K S H [v] [w] r
          rw [RepVs]
          exact ⟨none_, none_, fun _ x => x.elim, fun _ x => x.elim, fun _ x _ => x, rv, by rw [RepVs]; trivial⟩
        · intro _ _ _ _ e; cases e
  | a :: ks, kk, vs, ws, r, hm, nd, hr, hl => by
    rw [List.mapM_cons] at hm
    obtain ⟨y, hy, hm⟩ := Option.bind_eq_some_iff.mp hm
    obtain ⟨kk', hk', hm⟩ := Option.bind_eq_some_iff.mp hm
    cases hm
    cases ws with
    | nil => cases hl
    | cons w0 ws =>
      cases vs with
      | nil => rw [RepVs] at hr; exact hr.elim
      | cons v0 vs =>
        have hl' : ks.length = ws.length := by simpa using hl
        have lk : kk'.length = ws.length := by rw [mapM_len hk', hl']
        rw [RepVs] at hr
        obtain ⟨r1, r2, s1, s2, dj, h1, h2⟩ := hr
        have e := ke hy hk
        rw [List.nodup_cons] at nd
        by_cases hxy : y = x
        · rw [decide_eq_true hxy] at e
          rw [setD, e, if_pos rfl]
          refine ⟨y :: kk', w :: ws, ?_, List.nodup_cons.mpr nd, fun z hz => .inr hz, ?_, ?_, by simpa using hl', by simp⟩
          · rw [List.mapM_cons, hy, hk']
            rfl
          · rw [List.zip_cons_cons, putK_eq hxy (by rw [zip_fst kk' ws lk, ← hxy]; exact nd.1), List.zip_cons_cons, hxy]
          · rw [RepVs]
            exact ⟨none_, r2, fun _ x => x.elim, s2, fun _ x _ => x, rv, h2⟩
        · rw [decide_eq_false hxy] at e
          obtain ⟨kk2, ws2, m1, m2, m3, m4, m5, m6, m7⟩ := set_put ke hk rv hk' nd.2 h2 hl'
          rw [setD, e, if_neg Bool.false_ne_true]
          refine ⟨y :: kk2, w0 :: ws2, ?_, List.nodup_cons.mpr ⟨fun z => ?_, m2⟩, fun z hz => ?_, ?_, ?_, by simpa using m6, by simpa using m7⟩
          · show (a :: (setD k v ks vs).1).mapM key = _
            rw [List.mapM_cons, hy, m1]
            rfl
          · rcases m3 y z with q | q
            · exact hxy q
            · exact nd.1 q
          · rcases List.mem_cons.mp hz with q | q
            · exact .inr (by rw [q]; exact List.mem_cons_self)
            · exact (m3 z q).imp id fun q => List.mem_cons_of_mem _ q
          · rw [List.zip_cons_cons, putK_ne hxy, m4, List.zip_cons_cons]
          · show RepVs K S H (v0 :: (setD k v ks vs).2) (w0 :: ws2) r
            rw [RepVs]
            exact ⟨r1, r2, s1, s2, dj, h1, m5⟩
end
/-- the store into a dict -/
theorem dic_put {K : PySem.W.Frag} {kd : Nat} {ks vs : List D} {k v : D} {x y w : V} {r2 : Own} (sub : MP.Same S H) (h : RepV K S H (.dic true kd ks vs) x r2) (hk : keyOk kd k = true) (hy : Rep K S H k y) (rv : RepV K S H v w none_) (few : ks.length < lim)
    : ∃ l ob, ¬ Tp ob ∧ x = .ref l ∧ r2 l ∧ DPut H l y w (upd H l ob) ∧ RepV K S (upd H l ob) (.dic true kd (setD k v ks vs).1 (setD k v ks vs).2) x r2 := by
  rw [RepV] at h
  obtain ⟨l, ws, ho, r', rfl, q, q2, z, hl, rl, kk2, t⟩ := h
  have few' : ws.length < sizeLine := by rw [← hl, ← lim_eq]; exact few
  obtain ⟨n, f, kc⟩ := keyOk_inv hk
  rcases kc with ⟨rfl, x', hx'⟩ | ⟨rfl, x', hx'⟩
  · obtain ⟨kk, e1, nd, rfl⟩ := dicHO_0 q
    obtain ⟨kk', ws', m1, m2, m3, m4, m5, m6, m7⟩ := set_put keyK_eq hx' rv e1 nd t hl
    have lz : (kk.zip ws).length < sizeLine := by rw [List.length_zip, mapM_len e1, hl, Nat.min_self]; exact few'
    refine ⟨l, _, Tp.dK, rfl, rl, .inl ⟨_, x', q2, rep_keyK hy hx', lz, rfl⟩, ?_⟩
    rw [RepV]
    refine ⟨l, ws', _, r', rfl, ?_, upd_same, by omega, m6, rl, kk2, RepVs.to (Same.refl S) _ _ _ _ m5 (fun _ x => x) fun b x => upd_ne (kk2 b x).2⟩
    unfold dicHO
    rw [if_pos rfl, m1, m4]
    show (if kk'.Nodup then _ else _) = _
    rw [if_pos m2]
  · obtain ⟨kk, e1, nd, rfl⟩ := dicHO_1 q
    obtain ⟨kk', ws', m1, m2, m3, m4, m5, m6, m7⟩ := set_put keyT_eq hx' rv e1 nd t hl
    have lz : (kk.zip ws).length < sizeLine := by rw [List.length_zip, mapM_len e1, hl, Nat.min_self]; exact few'
    obtain ⟨b, rfl, hb⟩ := rep_keyT sub hy hx'
    refine ⟨l, _, Tp.dT, rfl, rl, .inr ⟨_, x', b, q2, rfl, hb, lz, rfl⟩, ?_⟩
    rw [RepV]
    refine ⟨l, ws', _, r', rfl, ?_, upd_same, by omega, m6, rl, kk2, RepVs.to (Same.refl S) _ _ _ _ m5 (fun _ x => x) fun b x => upd_ne (kk2 b x).2⟩
    unfold dicHO
    rw [if_neg (by decide), if_pos rfl, m1, m4]
    show (if kk'.Nodup then _ else _) = _
    rw [if_pos m2]
/-! ### methods that change a list in a slot -/
theorem mutl_ent {i : Nat} {m : MO} {as : CL} {r : V → List V → Hp → VK → Prop} {Q : VK} (hm : m ≠ .sdapp)
    (k : ∀ (S H : Hp) (ds : List D) (vs : List V) (r1 r2 : Own) (xs : List D) (v : V) (a d2 : D) (Q : VK), mutF m ds (.lst true xs) = some (a, d2) → RepVs M.K S H ds vs r1 → RepV M.K S H (.lst true xs) v r2 → (∀ a, r2 a → r1 a → False) → Live S H r2 → MP.Same S H →
      (∀ l ob w, ¬ Tp ob → r2 l → RepV M.K S (upd H l ob) d2 v (fun a => r2 a ∨ r1 a) → RepV M.K S (upd H l ob) a w none_ → Q w (upd H l ob)) → r v vs H Q)
    (h : tE M W Φ (.mut (.sl i) m as) σ H Q) : tBM M.K "list" r (tVar i) (tL (tsE M W Φ as)) σ H Q := by
  obtain ⟨S, R, ρ, rel, h⟩ := h
  rw [ev, evpath] at h
  have h : OutR M W S H σ R (PostE M S H σ R Q) (if mutAtM m ρ i [] then (evs M.T Φ as ρ).bind fun ds ρ => ρ.mod i [] (mutF m ds) else .bad) := h
  split at h
  · rename_i hmt
    unfold mutAtM at hmt
    cases q : ρ.get i with
    | none => rw [q] at hmt; cases hmt
    | some d =>
      rw [q, show (some d).bind (modD (fun d => some (d, d)) []) = modD (fun d => some (d, d)) [] d from rfl, modD_nil] at hmt
      obtain ⟨v, e, r0, _, rep⟩ := rel.get q
      have isl : ∃ xs, d = .lst true xs := by
        split at hmt
        · rename_i xs d' eq
          split at eq
          · cases eq; exact ⟨_, rfl⟩
          · cases eq
        · rename_i eq
          simp only [decide_eq_true_eq] at hmt
          exact absurd hmt hm
        · cases hmt
      obtain ⟨xs0, rfl⟩ := isl
      refine ⟨v, e, ?_, evs_ent as rel (h.bind.mono fun ds ρ1 h1 => ?_)⟩
      · rw [RepV] at rep
        obtain ⟨a, vs, r', ev, q, z, ra, kk, t⟩ := rep
        subst ev
        exact .inl ⟨rfl, vs, .inl (.inl q)⟩
      · intro vs H1 S1 R1 r1 f1 rel1 reps live1 dj1
        unfold Rho.mod at h1
        cases q1 : ρ1.get i with
        | none => rw [q1] at h1; exact h1.elim
        | some d1 =>
          rw [q1, show (some d1).bind (modD (mutF m ds) []) = modD (mutF m ds) [] d1 from rfl, modD_nil] at h1
          obtain ⟨v2, r2, e2, rep2, live2, dj2, s2, store⟩ := slot_store rel1 q1 live1 dj1
          rw [e] at e2
          cases e2
          split at h1
          · rename_i a d2 em
            split at em
            · have isl : ∃ xs, d1 = .lst true xs := by
                cases d1 with
                | lst o xs =>
                  cases o with
                  | true => exact ⟨xs, rfl⟩
                  | false => rename_i hf; cases hf
                | dic o kd ks vs =>
                  exfalso
                  cases m <;> first | exact hm rfl | (simp only [mutF] at em; cases em) | (unfold mutF at em; split at em <;> first | contradiction | cases em)
                | _ => exfalso; cases m <;> first | exact hm rfl | (simp only [mutF] at em; cases em) | (unfold mutF at em; split at em <;> first | contradiction | cases em)
              obtain ⟨xs, rfl⟩ := isl
              refine k S1 H1 ds vs r1 r2 xs v a d2 Q em reps rep2 (fun a x y => dj2 a x y) live2 rel1.sub fun l ob w nt hl rep' repa => ?_
              obtain ⟨R3, rel3, f3⟩ := store l ob d2 nt hl rep'
              exact h1 w (upd H1 l ob) S1 R3 none_ ((f1.trans f3 fun a x => x).less fun a x => .inl (x.elim id False.elim)) rel3 repa (fun a x => x.elim) fun a _ x => x
            · cases em
          · exact h1.elim
  · exact h.elim
theorem ext_ent {i : Nat} {as : CL} {Q : VK} (h : tE M W Φ (.mut (.sl i) .ext as) σ H Q) : tBM M.K "list" rExtend (tVar i) (tL (tsE M W Φ as)) σ H Q := by
  refine mutl_ent (by decide) (fun S H ds vs r1 r2 xs v a d2 Q em reps rep dj live sub fin => ?_) h
  unfold mutF at em
  split at em <;> first | contradiction | skip
  rename_i ys xs' e1 e2
  cases e2
  split at em
  · rename_i hz
    cases em
    cases vs with
    | nil => rw [RepVs] at reps; exact reps.elim
    | cons y vs =>
      rw [RepVs] at reps
      obtain ⟨p1, p2, k1, k2, dp, repy, rest⟩ := reps
      cases vs with
      | cons _ _ => rw [RepVs] at rest; exact rest.elim
      | nil =>
        rw [RepV] at rep repy
        obtain ⟨l, ws, r3, ev, hl, z, rl, kk, t⟩ := rep
        obtain ⟨b, zs, r4, ev', hb, z', rb, kk', t'⟩ := repy
        subst ev ev'
        have zl : ws.length + zs.length ≤ sizeLine := by rw [← lim_eq, ← t.len, ← t'.len]; exact hz
        refine ⟨l, b, ws, zs, rfl, rfl, hl, hb, zl, fin l _ .non Tp.lst rl ?_ (by rw [RepV])⟩
        refine RepV.lst_put (by rw [List.length_append]; exact zl) (RepVs.appO t t' fun a x y => dj a (kk a x).1 (k1 a (kk' a y).1)) (.inl rl) fun a x => ?_
        rcases x with x | x
        · exact ⟨.inl (kk a x).1, (kk a x).2⟩
        · exact ⟨.inr (k1 a (kk' a x).1), fun e => dj l rl (by rw [← e]; exact k1 a (kk' a x).1)⟩
  · cases em
/-- a list's items, parted -/
theorem RepVs.part {K : PySem.W.Frag} : ∀ {xs : List D} {vs : List V} {r : Own} (n : Nat), RepVs K S H xs vs r → ∃ r1 r2 : Own, RepVs K S H (xs.take n) (vs.take n) r1 ∧ RepVs K S H (xs.drop n) (vs.drop n) r2 ∧ (∀ a, r1 a → r a) ∧ (∀ a, r2 a → r a) ∧ ∀ a, r1 a → r2 a → False
  | xs, vs, r, 0, h => ⟨none_, r, by rw [List.take_zero, List.take_zero, RepVs]; trivial, h, fun _ x => x.elim, fun _ x => x, fun _ x _ => x⟩
  | [], [], r, n + 1, h => ⟨none_, none_, by rw [List.take_nil, List.take_nil, RepVs]; trivial, by rw [List.drop_nil, List.drop_nil, RepVs]; trivial, fun _ x => x.elim, fun _ x => x.elim, fun _ x _ => x⟩
  | [], _ :: _, _, _ + 1, h => by rw [RepVs] at h; exact h.elim
  | _ :: _, [], _, _ + 1, h => by rw [RepVs] at h; exact h.elim
  | x :: xs, v :: vs, r, n + 1, h => by
    rw [RepVs] at h
    obtain ⟨s1, s2, k1, k2, dj, a, b⟩ := h
    obtain ⟨r1, r2, h1, h2, m1, m2, dj2⟩ := RepVs.part n b
    refine ⟨fun a => s1 a ∨ r1 a, r2, ?_, h2, fun a z => z.elim (k1 a) fun z => k2 a (m1 a z), fun a z => k2 a (m2 a z), fun a z y => z.elim (fun z => dj a z (m2 a y)) fun z => dj2 a z y⟩
    rw [List.take_succ_cons, List.take_succ_cons, RepVs]
    exact ⟨s1, r1, fun a z => .inl z, fun a z => .inr z, fun a z y => dj a z (m1 a y), a, h1⟩
def rInsert : V → List V → Hp → VK → Prop := fun x vs H Q => ∃ (l : Addr) (xs : List V) (i : Int) (y : V), x = .ref l ∧ vs = [.int i, y] ∧ H l = some (.lst xs) ∧ xs.length < sizeLine ∧ 0 ≤ i ∧ i < 2 ^ 63 ∧ Q .non (upd H l (.lst (xs.take i.toNat ++ [y] ++ xs.drop i.toNat)))
theorem ins_ent {i : Nat} {as : CL} {Q : VK} (h : tE M W Φ (.mut (.sl i) .ins as) σ H Q) : tBM M.K "list" rInsert (tVar i) (tL (tsE M W Φ as)) σ H Q := by
  refine mutl_ent (by decide) (fun S H ds vs r1 r2 xs v a d2 Q em reps rep dj live sub fin => ?_) h
  unfold mutF at em
  split at em <;> first | contradiction | skip
  rename_i j e xs' e1 e2
  cases e2
  split at em
  · rename_i hz
    simp only [Bool.and_eq_true, decide_eq_true_eq] at hz
    cases em
    rcases vs with _ | ⟨vi, _ | ⟨ve, _ | ⟨_, _⟩⟩⟩
    · rw [RepVs] at reps; exact reps.elim
    · rw [RepVs] at reps; obtain ⟨_, _, _, _, _, _, t⟩ := reps; rw [RepVs] at t; exact t.elim
    · rw [RepVs] at reps
      obtain ⟨p1, p2, _, k2, _, ri, rest⟩ := reps
      rw [RepVs] at rest
      obtain ⟨p3, p4, k3, _, _, re, _⟩ := rest
      rw [RepV] at ri
      rw [RepV] at rep
      subst ri
      obtain ⟨l, ws, r3, ev, hl, z, rl, kk, t⟩ := rep
      subst ev
      obtain ⟨q1, q2, t1, t2, m1, m2, dq⟩ := RepVs.part j.toNat t
      have zl : ws.length < sizeLine := by rw [← lim_eq, ← t.len]; exact hz.2
      refine ⟨l, ws, j, ve, rfl, rfl, hl, zl, hz.1.1, by omega, fin l _ .non Tp.lst rl ?_ (by rw [RepV])⟩
      have ne : ∀ a, p3 a → r2 a → False := fun a x y => dj a y (k2 a (k3 a x))
      have t3 : RepVs M.K S H (e :: xs.drop j.toNat) (ve :: ws.drop j.toNat) fun a => p3 a ∨ q2 a := by
        rw [RepVs]
        exact ⟨p3, q2, fun a x => .inl x, fun a x => .inr x, fun a x y => ne a x (kk a (m2 a y)).1, re, t2⟩
      have t4 := RepVs.appO t1 t3 fun a x y => y.elim (fun y => ne a y (kk a (m1 a x)).1) (dq a x)
      rw [List.append_assoc]
      refine RepV.lst_put (by rw [List.length_append, List.length_append, List.length_singleton, List.length_take, List.length_drop]; omega) t4 (.inl rl) fun a x => ?_
      rcases x with x | x | x
      · exact ⟨.inl (kk a (m1 a x)).1, (kk a (m1 a x)).2⟩
      · exact ⟨.inr (k2 a (k3 a x)), fun e => ne l (by rw [← e]; exact x) rl⟩
      · exact ⟨.inl (kk a (m2 a x)).1, (kk a (m2 a x)).2⟩
    · rw [RepVs] at reps; obtain ⟨_, _, _, _, _, _, t⟩ := reps; rw [RepVs] at t; obtain ⟨_, _, _, _, _, _, t⟩ := t; rw [RepVs] at t; exact t.elim
  · cases em
theorem RepVs.erase {K : PySem.W.Frag} : ∀ {xs : List D} {vs : List V} {r : Own} (j : Nat), RepVs K S H xs vs r → RepVs K S H (xs.eraseIdx j) (vs.eraseIdx j) r
  | [], [], r, j, h => h
  | [], _ :: _, _, _, h => by rw [RepVs] at h; exact h.elim
  | _ :: _, [], _, _, h => by rw [RepVs] at h; exact h.elim
  | x :: xs, v :: vs, r, 0, h => by
    rw [RepVs] at h
    obtain ⟨s1, s2, k1, k2, dj, a, b⟩ := h
    exact b.mono k2
  | x :: xs, v :: vs, r, j + 1, h => by
    rw [RepVs] at h
    obtain ⟨s1, s2, k1, k2, dj, a, b⟩ := h
    rw [List.eraseIdx_cons_succ, List.eraseIdx_cons_succ, RepVs]
    exact ⟨s1, s2, k1, k2, dj, a, RepVs.erase j b⟩
theorem pop1_ent {i : Nat} {as : CL} {Q : VK} (h : tE M W Φ (.mut (.sl i) .pop1 as) σ H Q) : tBM M.K "list" rPopAt (tVar i) (tL (tsE M W Φ as)) σ H Q := by
  refine mutl_ent (by decide) (fun S H ds vs r1 r2 xs v a d2 Q em reps rep dj live sub fin => ?_) h
  unfold mutF at em
  split at em <;> first | contradiction | skip
  rename_i j xs' e2
  cases e2
  split at em
  · rename_i hz
    simp only [Bool.and_eq_true, decide_eq_true_eq] at hz
    obtain ⟨k, hk, em⟩ := Option.bind_eq_some_iff.mp em
    obtain ⟨e, he, em⟩ := Option.bind_eq_some_iff.mp em
    split at em
    · cases em
    · rename_i nf
      have nf : e.fl = false := by simpa using nf
      cases em
      rcases vs with _ | ⟨vi, _ | ⟨_, _⟩⟩
      · rw [RepVs] at reps; exact reps.elim
      · rw [RepVs] at reps
        obtain ⟨p1, p2, _, _, _, ri, _⟩ := reps
        rw [RepV] at ri
        rw [RepV] at rep
        subst ri
        obtain ⟨l, ws, r3, ev, hl, z, rl, kk, t⟩ := rep
        subst ev
        obtain ⟨w, r', hw, rw_⟩ := t.at he
        obtain ⟨h1, h2, h3, h4⟩ := ixN_seq hk
        refine ⟨l, ws, _, k, w, rfl, rfl, hl, by omega, by omega, ?_, hw, fin l _ w Tp.lst rl ?_ (RepV.sh_to rw_ nf (Same.refl S))⟩
        · rw [← t.len]; exact h1
        · refine RepV.lst_put (Nat.le_trans (List.length_eraseIdx_le ws k) z) (RepVs.erase k t) (.inl rl) fun a x => ⟨.inl (kk a x).1, (kk a x).2⟩
      · rw [RepVs] at reps; obtain ⟨_, _, _, _, _, _, t⟩ := reps; rw [RepVs] at t; exact t.elim
  · cases em
end
end MP

set_option autoImplicit false
set_option linter.all false
set_option maxRecDepth 100000
/-! MP: d.get, xs.count, xs.index, xs.clear, xs.reverse. -/
namespace MP
open PySem L2
section
variable {X : Cx} {K : PySem.W.Frag}
def rGet1 : V → List V → Hp → VK → Prop := fun x xs H Q => ∃ a y o, x = .ref a ∧ xs = [y] ∧ DGet H a y o ∧ Q (o.getD .non) H
def rGet2 : V → List V → Hp → VK → Prop := fun x xs H Q => ∃ a y z o, x = .ref a ∧ xs = [y, z] ∧ DGet H a y o ∧ Q (o.getD z) H
theorem mt_get1 (hu : X.A.units + 1 < cLine) : MtR X "dict.get" rGet1 := by
  intro pins s σ H x xs v us Q I rx rxs h
  obtain ⟨a, y, o, rfl, rfl, g, q⟩ := h
  obtain rfl : v = Value.ref a := rx
  obtain ⟨u, rfl, ru⟩ := rxs.one
  exact d_get1 hu I g ru fun w' s' I' r' => ⟨_, H, I', r', q⟩
theorem mt_get2 (hu : X.A.units + 1 < cLine) : MtR X "dict.get" rGet2 := by
  intro pins s σ H x xs v us Q I rx rxs h
  obtain ⟨a, y, z, o, rfl, rfl, g, q⟩ := h
  obtain rfl : v = Value.ref a := rx
  obtain ⟨u, w, rfl, ru, rw_⟩ := rxs.two
  exact d_get2 hu I g ru rw_ fun w' s' I' r' => ⟨_, H, I', r', q⟩
theorem okm_get1 : OkM K o_get1 rGet1 := by
  intro ds d x xs S H Q e reps sub post
  unfold o_get1 at e
  split at e
  · rename_i o kd ks vs k
    split at e
    · rename_i hk
      cases reps with
      | cons ra t =>
        obtain ⟨y, rfl, rb⟩ := all2_inv1 t
        obtain ⟨a, r, rfl, g, _, n1, n2⟩ := rep_get sub ra hk rb
        refine ⟨a, y, r, rfl, rfl, g, ?_⟩
        split at e
        · rename_i d' hd
          split at e
          · cases e
          · rename_i nf
            have nf : d'.fl = false := by simpa using nf
            cases e
            obtain ⟨w, r', rfl, rep⟩ := n2 _ hd
            exact post.same sub nf rep
        · rename_i hd
          cases e
          rw [n1 hd]
          exact post.non sub
    · cases e
  · cases e
theorem okm_get2 : OkM K o_get2 rGet2 := by
  intro ds d x xs S H Q e reps sub post
  unfold o_get2 at e
  split at e
  · rename_i o kd ks vs k e0
    split at e
    · rename_i hk
      cases reps with
      | cons ra t =>
        obtain ⟨y, z, rfl, rb, rc⟩ := all2_inv2 t
        obtain ⟨a, r, rfl, g, _, n1, n2⟩ := rep_get sub ra hk rb
        refine ⟨a, y, z, r, rfl, rfl, g, ?_⟩
        split at e
        · rename_i d' hd
          split at e
          · cases e
          · rename_i nf
            have nf : d'.fl = false := by simpa using nf
            cases e
            obtain ⟨w, r', rfl, rep⟩ := n2 _ hd
            exact post.same sub nf rep
        · rename_i hd
          split at e
          · cases e
          · rename_i nf
            have nf : e0.fl = false := by simpa using nf
            cases e
            rw [n1 hd]
            obtain ⟨r', rc⟩ := rc
            exact post.same sub nf rc
    · cases e
  · cases e
theorem okm_lcount : OkM K o_lcount (rCntI K) := by
  intro ds d x xs S H Q e reps sub post
  unfold o_lcount at e
  split at e
  · rename_i o ys i
    obtain ⟨is, hi, rfl⟩ := Option.map_eq_some_iff.mp e
    cases reps with
    | cons ra t =>
      obtain ⟨y, rfl, rb⟩ := all2_inv1 t
      obtain ⟨p, vs, r, rfl, q1, z, t⟩ := ra.lst sub
      rw [t.ints hi] at q1
      exact ⟨p, is, i, rfl, by rw [rb.int], q1, post.int sub⟩
  · cases e
theorem okm_index (hs : True) : OkM K o_index (rIndexD K) := by
  intro ds d x xs S H Q e reps sub post
  unfold o_index at e
  split at e
  · rename_i o ys d0
    split at e
    · rename_i hn
      rw [Bool.and_eq_true] at hn
      cases hf : ys.findIdx? (fun x => eqD x d0) with
      | none => rw [hf] at e; cases e
      | some j =>
        rw [hf] at e
        cases e
        cases reps with
        | cons ra t =>
          obtain ⟨y, rfl, rb⟩ := all2_inv1 t
          obtain ⟨p, vs, r, rfl, q1, z, t⟩ := id (ra.lst sub)
          obtain ⟨hj, h1, h2⟩ := List.findIdx?_eq_some_iff_getElem.mp hf
          refine ⟨p, y, d0.toP, toPs ys, j, ys[j].toP, rfl, rfl, ra.dpl sub hn.2, rb.dp sub hn.1, (items_shaped hn.2).1, (nice_shaped hn.1), ?_, h1, fun m z' hm hz' => ?_, post.int sub⟩
          · rw [toPs_map, List.getElem?_map, List.getElem?_eq_getElem hj]; rfl
          · have hm' : m < ys.length := Nat.lt_trans hm hj
            rw [toPs_map, List.getElem?_map, List.getElem?_eq_getElem hm'] at hz'
            cases hz'
            have := h2 m hm
            simpa [eqD] using this
    · cases e
  · cases e
end
section
variable {M : Md} {W : WX} {Φ : Nat → List D → FR} {S H S' H' : Hp} {σ : L2.St} {R R' T : Own}
theorem clear_ent {i : Nat} {as : CL} {Q : VK} (h : tE M W Φ (.mut (.sl i) .clear as) σ H Q) : tBM M.K "list" rClear (tVar i) (tL (tsE M W Φ as)) σ H Q := by
  refine mutl_ent (by decide) (fun S H ds vs r1 r2 xs v a d2 Q em reps rep dj live sub fin => ?_) h
  unfold mutF at em
  split at em <;> first | contradiction | skip
  rename_i e1 e2
  cases em
  cases vs with
  | cons _ _ => rw [RepVs] at reps; exact reps.elim
  | nil =>
    rw [RepV] at rep
    obtain ⟨l, ws, r3, ev, hl, z, rl, kk, t⟩ := rep
    subst ev
    exact ⟨l, ws, rfl, rfl, hl, fin l _ .non Tp.lst rl (RepV.lst_put (r := none_) (by rw [sizeLine_eq]; simp) (by rw [RepVs]; trivial) (.inl rl) fun a x => x.elim) (by rw [RepV])⟩
theorem RepVs.revO {K : PySem.W.Frag} : ∀ {xs : List D} {vs : List V} {r : Own}, RepVs K S H xs vs r → RepVs K S H xs.reverse vs.reverse r
  | [], [], _, _ => by rw [List.reverse_nil, List.reverse_nil, RepVs]; trivial
  | [], _ :: _, _, h => by rw [RepVs] at h; exact h.elim
  | _ :: _, [], _, h => by rw [RepVs] at h; exact h.elim
  | x :: xs, v :: vs, r, h => by
    rw [RepVs] at h
    obtain ⟨r1, r2, k1, k2, dj, a, b⟩ := h
    rw [List.reverse_cons, List.reverse_cons]
    have one : RepVs K S H [x] [v] r1 := by
      rw [RepVs]
      exact ⟨r1, none_, fun _ z => z, fun _ z => z.elim, fun _ _ z => z, a, by rw [RepVs]; trivial⟩
    exact (RepVs.appO (RepVs.revO b) one fun a z y => dj a y z).mono fun a z => z.elim (k2 a) (k1 a)
theorem rever_ent {i : Nat} {as : CL} {Q : VK} (h : tE M W Φ (.mut (.sl i) .rever as) σ H Q) : tBM M.K "list" rReverse (tVar i) (tL (tsE M W Φ as)) σ H Q := by
  refine mutl_ent (by decide) (fun S H ds vs r1 r2 xs v a d2 Q em reps rep dj live sub fin => ?_) h
  unfold mutF at em
  split at em <;> first | contradiction | skip
  rename_i xs' e1 e2
  cases e2
  cases em
  cases vs with
  | cons _ _ => rw [RepVs] at reps; exact reps.elim
  | nil =>
    rw [RepV] at rep
    obtain ⟨l, ws, r3, ev, hl, z, rl, kk, t⟩ := rep
    subst ev
    exact ⟨l, ws, rfl, rfl, hl, fin l _ .non Tp.lst rl (RepV.lst_put (by rw [List.length_reverse]; exact z) (RepVs.revO t) (.inl rl) fun a x => ⟨.inl (kk a x).1, (kk a x).2⟩) (by rw [RepV])⟩
end
end MP

set_option autoImplicit false
set_option linter.all false
set_option maxRecDepth 100000
/-! MP: slots lent to a call. -/
namespace MP
open PySem L2
def noTup (H : Hp) (a : Addr) : Prop := ∀ vs, H a ≠ some (.tup vs)
def ownN (H : Hp) (R : Own) : Own := fun a => R a ∧ noTup H a
section
variable {K : PySem.W.Frag} {S H : Hp}
mutual
/-- tuples are nobody's own -/
theorem RepV.notup : ∀ (d : D) (v : V) (r : Own), RepV K S H d v r → RepV K S H d v fun a => r a ∧ noTup H a
  | .non, _, _, h => h
  | .bl _, _, _, h => h
  | .int _, _, _, h => h
  | .str _, _, _, h => h
  | .tup o xs, v, r, h => by
    rw [RepV] at h ⊢
    obtain ⟨a, vs, e, q, z, u, t⟩ := h
    exact ⟨a, vs, e, q, z, u, RepVs.notup xs vs r t⟩
  | .lst false xs, v, r, h => by
    rw [RepV] at h ⊢
    obtain ⟨a, vs, e, q, z, u, t⟩ := h
    exact ⟨a, vs, e, q, z, u, RepVs.notup xs vs r t⟩
  | .lst true xs, v, r, h => by
    rw [RepV] at h ⊢
    obtain ⟨a, vs, r', e, q, z, ra, k, t⟩ := h
    exact ⟨a, vs, _, e, q, z, ⟨ra, fun ws y => by rw [q] at y; cases y⟩, fun b y => ⟨⟨(k b y.1).1, y.2⟩, (k b y.1).2⟩, RepVs.notup xs vs r' t⟩
  | .dic false kd ks ds, v, r, h => by
    rw [RepV] at h ⊢
    obtain ⟨a, ws, ho, e, q, q2, z, l, u, t⟩ := h
    exact ⟨a, ws, ho, e, q, q2, z, l, u, RepVs.notup ds ws r t⟩
  | .dic true kd ks ds, v, r, h => by
    rw [RepV] at h ⊢
    obtain ⟨a, ws, ho, r', e, q, q2, z, l, ra, k, t⟩ := h
    refine ⟨a, ws, ho, _, e, q, q2, z, l, ⟨ra, fun vs y => ?_⟩, fun b y => ⟨⟨(k b y.1).1, y.2⟩, (k b y.1).2⟩, RepVs.notup ds ws r' t⟩
    rw [q2] at y
    cases y
    unfold dicHO at q
    split at q
    · obtain ⟨kk, _, q⟩ := Option.bind_eq_some_iff.mp q
      split at q <;> cases q
    · split at q
      · obtain ⟨kk, _, q⟩ := Option.bind_eq_some_iff.mp q
        split at q <;> cases q
      · cases q
  | .set _, _, _, h => by rw [RepV] at h; exact h.elim
  | .ins _ _ _ _, _, _, h => by rw [RepV] at h; exact h.elim
  | .exn _, _, _, h => by rw [RepV] at h; exact h.elim
theorem RepVs.notup : ∀ (ds : List D) (vs : List V) (r : Own), RepVs K S H ds vs r → RepVs K S H ds vs fun a => r a ∧ noTup H a
  | [], [], _, _ => by rw [RepVs]; trivial
  | [], _ :: _, _, h => by rw [RepVs] at h; exact h.elim
  | _ :: _, [], _, h => by rw [RepVs] at h; exact h.elim
  | d :: ds, v :: vs, r, h => by
    rw [RepVs] at h ⊢
    obtain ⟨r1, r2, k1, k2, dj, a, b⟩ := h
    exact ⟨_, _, fun c y => ⟨k1 c y.1, y.2⟩, fun c y => ⟨k2 c y.1, y.2⟩, fun c y z => dj c y.1 z.1, RepV.notup d v r1 a, RepVs.notup ds vs r2 b⟩
end
mutual
/-- what holds nothing of others that could be changed -/
theorem RepV.lessS {S' : Hp} (k : ∀ a vs, S a = some (.tup vs) → S' a = some (.tup vs)) : ∀ (d : D) (v : V) (r : Own), RepV K S H d v r → d.noSh = true → RepV K S' H d v r
  | .non, _, _, h, _ => h
  | .bl _, _, _, h, _ => h
  | .int _, _, _, h, _ => h
  | .str _, _, _, h, _ => h
  | .tup o xs, v, r, h, n => by
    rw [RepV] at h ⊢
    rw [D.noSh] at n
    obtain ⟨a, vs, e, q, z, u, t⟩ := h
    exact ⟨a, vs, e, k a vs q, z, u, RepVs.lessS k xs vs r t n⟩
  | .lst false xs, v, r, h, n => by
    rw [D.noSh] at n
    cases n
  | .lst true xs, v, r, h, n => by
    rw [RepV] at h ⊢
    rw [D.noSh, Bool.true_and] at n
    obtain ⟨a, vs, r', e, q, z, ra, kk, t⟩ := h
    exact ⟨a, vs, r', e, q, z, ra, kk, RepVs.lessS k xs vs r' t n⟩
  | .dic false kd ks ds, v, r, h, n => by
    rw [D.noSh] at n
    cases n
  | .dic true kd ks ds, v, r, h, n => by
    rw [RepV] at h ⊢
    rw [D.noSh, Bool.true_and, Bool.and_eq_true] at n
    obtain ⟨a, ws, ho, r', e, q, q2, z, l, ra, kk, t⟩ := h
    exact ⟨a, ws, ho, r', e, q, q2, z, l, ra, kk, RepVs.lessS k ds ws r' t n.2⟩
  | .set _, _, _, h, _ => by rw [RepV] at h; exact h.elim
  | .ins _ _ _ _, _, _, h, _ => by rw [RepV] at h; exact h.elim
  | .exn _, _, _, h, _ => by rw [RepV] at h; exact h.elim
theorem RepVs.lessS {S' : Hp} (k : ∀ a vs, S a = some (.tup vs) → S' a = some (.tup vs)) : ∀ (ds : List D) (vs : List V) (r : Own), RepVs K S H ds vs r → noShs ds = true → RepVs K S' H ds vs r
  | [], [], _, _, _ => by rw [RepVs]; trivial
  | [], _ :: _, _, h, _ => by rw [RepVs] at h; exact h.elim
  | _ :: _, [], _, h, _ => by rw [RepVs] at h; exact h.elim
  | d :: ds, v :: vs, r, h, n => by
    rw [RepVs] at h ⊢
    rw [noShs, Bool.and_eq_true] at n
    obtain ⟨r1, r2, k1, k2, dj, a, b⟩ := h
    exact ⟨r1, r2, k1, k2, dj, RepV.lessS k d v r1 a n.1, RepVs.lessS k ds vs r2 b n.2⟩
end
theorem Rel.notup {σ : L2.St} {ρ : Rho} {R : Own} (h : Rel K S H σ ρ R) : Rel K S H σ ρ (ownN H R) := by
  obtain ⟨own, h1, h2, h3⟩ := h.slots
  refine ⟨h.sub, fun a x => h.live a x.1, h.len, fun i a => own i a ∧ noTup H a, fun i d e => ?_, fun i a x => ⟨h2 i a x.1, x.2⟩, fun i j a x y => h3 i j a x.1 y.1⟩
  obtain ⟨v, e1, rep⟩ := h1 i d e
  exact ⟨v, e1, RepV.notup d v _ rep⟩
end
/-- what a call hands over, some of it lent -/
def ArgB (K : PySem.W.Frag) (S H : Hp) (σ : L2.St) (ρ : Rho) : CL → List (Option D) → List V → Own → Prop
  | .nil, [], [], _ => True
  | .cons a as, some d :: os, v :: vs, r => (∃ i d0, a = .bw i ∧ σ[i]? = some (some v) ∧ ρ.get i = some d0 ∧ d = d0.frz ∧ ArgB K S H σ ρ as os vs r) ∨ ∃ r1 r2 : Own, (∀ a, r1 a → r a) ∧ (∀ a, r2 a → r a) ∧ (∀ a, r1 a → r2 a → False) ∧ RepV K S H d v r1 ∧ ArgB K S H σ ρ as os vs r2
  | _, _, _, _ => False
section
variable {M : Md} {W : WX} {Φ : Nat → List D → FR} {σ : L2.St} {S H : Hp} {R : Own}
def PostB (M : Md) (S H : Hp) (σ : L2.St) (R : Own) (as : CL) (Q : List V → Hp → Prop) (os : List (Option D)) (ρ' : Rho) : Prop := ∀ (vs : List V) (H' S' : Hp) (R' r : Own), Fr S H R S' H' (fun a => R' a ∨ r a) → Rel M.K S' H' σ ρ' R' → ArgB M.K S' H' σ ρ' as os vs r → Live S' H' r → (∀ a, R' a → ¬ r a) → Q vs H'
def tsB (M : Md) (W : WX) (Φ : Nat → List D → FR) : CL → List TE
  | .nil => []
  | .cons (.bw i) as => tVar i :: tsB M W Φ as
  | .cons a as => tE M W Φ a :: tsB M W Φ as
theorem evrB_ent : ∀ (as : CL) (bs : List Bool) {S H : Hp} {R : Own} {ρ : Rho} {Q : List V → Hp → Prop}, bs.all (!·) = true → Rel M.K S H σ ρ R → OutR M W S H σ R (PostB M S H σ R as Q) (evr M.T Φ bs as ρ) → tL (tsB M W Φ as) σ H Q
  | .nil, bs, S, H, R, ρ, Q, nb, rel, h => by
    have e1 : evr M.T Φ bs .nil ρ = .ok [] ρ := by cases bs <;> rfl
    rw [e1] at h
    exact h [] H S R none_ (Fr.refl.less fun a x => x.elim id False.elim) rel trivial (fun a x => x.elim) fun a _ x => x
  | .cons a as, [], S, H, R, ρ, Q, nb, rel, h => by
    rw [evr] at h
    exact h.elim
  | .cons a as, b :: bs, S, H, R, ρ, Q, nb, rel, h => by
    rw [List.all_cons, Bool.and_eq_true, Bool.not_eq_true'] at nb
    obtain ⟨rfl, nb⟩ := nb
    by_cases hw : ∃ i, a = .bw i
    · obtain ⟨i, rfl⟩ := hw
      rw [evr] at h
      rw [tsB]
      cases q : ρ.get i with
      | none => rw [q] at h; exact h.elim
      | some d0 =>
        rw [q] at h
        obtain ⟨v, e, _⟩ := rel.get q
        refine ⟨v, e, evrB_ent as bs nb rel (h.bind.mono fun ds ρ2 h2 => ?_)⟩
        intro vs H2 S2 R2 r f2 rel2 arg2 live2 dj2
        cases q2 : ρ2.get i with
        | none => rw [q2] at h2; exact h2.elim
        | some d =>
          rw [q2] at h2
          exact h2 (v :: vs) H2 S2 R2 r f2 rel2 (.inl ⟨i, d, rfl, e, q2, rfl, arg2⟩) live2 dj2
    · have e1 : evr M.T Φ (false :: bs) (.cons a as) ρ = (ev M.T Φ a ρ).bind fun d ρ => (evr M.T Φ bs as ρ).bind fun ds ρ => .ok (some d :: ds) ρ := by
        rw [evr]
        · intro i e1 e2
          cases e1
        · intro i e1
          exact hw ⟨i, e1⟩
      have e2 : tsB M W Φ (.cons a as) = tE M W Φ a :: tsB M W Φ as := by
        rw [tsB]
        intro i e1
        exact hw ⟨i, e1⟩
      rw [e1] at h
      rw [e2]
      refine ⟨S, R, ρ, rel, h.bind.mono fun d ρ1 h1 => ?_⟩
      intro v H1 S1 R1 r f1 rel1 rep1 live1 dj1
      refine evrB_ent as bs (S := S1) (R := R1) nb rel1 (OutR.from h1.bind f1 (fun a x => .inl x) fun ds ρ2 h2 => ?_)
      intro vs H2 S2 R2 rs f2 rel2 rep2 live2 dj2
      obtain ⟨c1, c2, c3⟩ := f2.aside live1 dj1
      refine h2 (v :: vs) H2 S2 R2 (fun a => r a ∨ rs a) ((f1.trans f2 fun a x => .inl x).less fun a x => ?_) rel2 ?_ (fun a x => ?_) fun a x y => ?_
      · rcases x with x | x | x
        · exact .inl (.inl x)
        · exact .inr (.inr x)
        · exact .inl (.inr x)
      · exact .inr ⟨r, rs, fun a x => .inl x, fun a x => .inr x, fun a x y => c3 a (.inr y) x, f2.carry live1 dj1 rep1, rep2⟩
      · rcases x with x | x
        · exact c2 a x
        · exact live2 a x
      · rcases y with y | y
        · exact c3 a (.inl x) y
        · exact dj2 a x y
theorem takeB_ok {K : PySem.W.Frag} : ∀ (as : CL) (bs : List Bool) {os : List (Option D)} {vs : List V} {ds : List D} {ρ ρ1 ρ2 : Rho} {r : Own}, takeR bs as os ρ1 = .ok ds ρ2 → ArgB K S H σ ρ as os vs r → ρ2 = ρ1 ∧ os = ds.map some
  | .nil, bs, [], [], ds, ρ, ρ1, ρ2, r, e, arg => by
    have e1 : takeR bs .nil [] ρ1 = .ok [] ρ1 := by cases bs <;> rfl
    rw [e1] at e
    cases e
    exact ⟨rfl, rfl⟩
  | .nil, bs, [], _ :: _, _, _, _, _, _, _, arg => arg.elim
  | .nil, bs, _ :: _, _, _, _, _, _, _, _, arg => by cases arg
  | .cons a as, bs, [], vs, _, _, _, _, _, _, arg => by cases vs <;> cases arg
  | .cons a as, bs, none :: os, vs, _, _, _, _, _, _, arg => by cases vs <;> cases arg
  | .cons a as, bs, some d :: os, [], _, _, _, _, _, _, arg => by cases arg
  | .cons a as, [], some d :: os, v :: vs, ds, ρ, ρ1, ρ2, r, e, arg => by
    rw [takeR] at e
    cases e
    all_goals simp
  | .cons a as, b :: bs, some d :: os, v :: vs, ds, ρ, ρ1, ρ2, r, e, arg => by
    rw [takeR] at e
    have rest : ∃ r', ArgB K S H σ ρ as os vs r' := by
      rcases arg with ⟨i, d0, _, _, _, _, h⟩ | ⟨r1, r2, _, _, _, _, h⟩
      · exact ⟨_, h⟩
      · exact ⟨_, h⟩
    obtain ⟨r', arg2⟩ := rest
    cases q : takeR bs as os ρ1 with
    | ex k ρ' => rw [q] at e; cases e
    | bad => rw [q] at e; cases e
    | ok ds' ρ' =>
      rw [q] at e
      cases e
      obtain ⟨h1, h2⟩ := takeB_ok as bs q arg2
      exact ⟨h1, by rw [h2]; rfl⟩
theorem argB_len {K : PySem.W.Frag} {ρ : Rho} : ∀ (as : CL) (os : List (Option D)) (vs : List V) (r : Own), ArgB K S H σ ρ as os vs r → vs.length = as.len
  | .nil, [], [], _, _ => rfl
  | .nil, [], _ :: _, _, z => by cases z
  | .nil, _ :: _, _, _, z => by cases z
  | .cons _ _, [], vs, _, z => by cases vs <;> cases z
  | .cons _ _, none :: _, vs, _, z => by cases vs <;> cases z
  | .cons _ _, some _ :: _, [], _, z => by cases z
  | .cons _ as, some _ :: os, v :: vs, r, z => by
    have rest : ∃ r', ArgB K S H σ ρ as os vs r' := by
      rcases z with ⟨i, d0, _, _, _, _, h⟩ | ⟨r1, r2, _, _, _, _, h⟩
      · exact ⟨_, h⟩
      · exact ⟨_, h⟩
    obtain ⟨r', z⟩ := rest
    rw [List.length_cons, argB_len as os vs r' z]
    rfl
open Classical in
/-- the arguments, the frame's own being given up for so long -/
theorem argB_reps {K : PySem.W.Frag} {ρ : Rho} {R : Own} (rel : Rel K S H σ ρ (ownN H R)) : ∀ (as : CL) (ds : List D) (vs : List V) (r : Own), ArgB K S H σ ρ as (ds.map some) vs r → RepVs K (addS S H (ownN H R)) H ds vs r
  | .nil, [], [], _, _ => by rw [RepVs]; trivial
  | .nil, [], _ :: _, _, z => by cases z
  | .nil, _ :: _, _, _, z => by cases z
  | .cons _ _, [], vs, _, z => by cases vs <;> cases z
  | .cons _ _, _ :: _, [], _, z => by cases z
  | .cons a as, d :: ds, v :: vs, r, z => by
    have k0 : ∀ a, ownN H R a → S a = none := fun a x => (rel.live a x).1
    rw [RepVs]
    rcases z with ⟨i, d0, rfl, hv, hd, rfl, h⟩ | ⟨r1, r2, k1, k2, dj, rep, h⟩
    · obtain ⟨own, h1, h2, h3⟩ := rel.slots
      obtain ⟨w, e1, rep⟩ := h1 i d0 (Rho.get_eq hd)
      rw [hv] at e1
      cases e1
      exact ⟨none_, r, fun _ x => x.elim, fun _ x => x, fun _ x _ => x, RepV.frz k0 d0 v (own i) rep (h2 i), argB_reps rel as ds vs r h⟩
    · exact ⟨r1, r2, k1, k2, dj, RepV.to (addS_same k0) d v r1 r1 rep (fun _ x => x) (fun _ _ => rfl), argB_reps rel as ds vs r2 h⟩
theorem backB : ∀ (bs : List Bool) (as : CL) (outs ρ : Rho), bs.all (!·) = true → backR bs as outs ρ = ρ
  | [], as, outs, ρ, _ => by cases as <;> rfl
  | b :: bs, .nil, outs, ρ, _ => rfl
  | b :: bs, .cons a as, [], ρ, _ => rfl
  | b :: bs, .cons a as, o :: outs, ρ, nb => by
    rw [List.all_cons, Bool.and_eq_true, Bool.not_eq_true'] at nb
    obtain ⟨rfl, nb⟩ := nb
    rw [backR]
    · exact backB bs as outs ρ nb
    · exact fun i e1 e2 => by cases e1
open Classical in
theorem callB_ent {f : Nat} {F : Fn} {as : CL} {Q : VK} (e1 : M.T.fns[f]? = some F) (e2 : F.kind = 0) (e3 : F.dfl = []) (e4 : F.np = as.len) (nr : F.ref.all (!·) = true) (hb : hasBw as = true) (h : tE M W Φ (.call f as) σ H Q) : tCallS (spI M Φ f F) (WE W) (tL (tsB M W Φ as)) σ H Q := by
  obtain ⟨S, R, ρ, rel, h⟩ := h
  rw [ev, e1] at h
  have k2 : ¬ (F.kind = 2) := by rw [e2]; decide
  simp only [if_neg k2, e3, List.nil_append, List.drop_nil, List.append_nil, hb, Bool.true_and] at h
  refine evrB_ent as F.ref nr rel (h.bind.mono fun os ρ1 h1 => ?_)
  intro vs H1 S1 R1 r f1 rel1 arg live1 dj1
  refine ⟨by rw [e4]; exact argB_len as os vs r arg, ?_⟩
  have h1' := OutR.bind h1
  cases q : takeR F.ref as os ρ1 with
  | ex j r => exact (takeR_nex _ _ _ _ _ _ q).elim
  | bad => rw [q] at h1'; exact h1'.elim
  | ok ds ρ2 =>
    rw [q] at h1'
    obtain ⟨rfl, rfl⟩ := takeB_ok as F.ref q arg
    have rel0 := rel1.notup
    have reps := argB_reps rel0 as ds vs r arg
    have k0 : ∀ a, (ownN H1 R1 a) → S1 a = none := fun a x => (rel0.live a x).1
    have subS : MP.Same S1 (addS S1 H1 (ownN H1 R1)) := addS_same k0
    have subH : MP.Same (addS S1 H1 (ownN H1 R1)) H1 := fun a o e => by
      unfold addS at e
      split at e
      · exact e
      · exact rel1.sub a o e
    have liveP : Live (addS S1 H1 (ownN H1 R1)) H1 r := fun a x => ⟨by unfold addS; rw [if_neg fun y => dj1 a y.1 x]; exact (live1 a x).1, (live1 a x).2⟩
    refine ⟨_, ds, r, RepVs.rel subH reps liveP, ?_⟩
    have h1' : OutR M W S H σ R (PostE M S H σ R Q) (match Φ f ds with
      | .ok d outs => if (!(d.noSh && outs.all fun o => match o with | some d => d.noSh | none => true)) = true then .bad else .ok d (backR F.ref as outs ρ2)
      | .ex c outs => if (!(outs.all fun o => match o with | some d => d.noSh | none => true)) = true then .bad else .ex c (backR F.ref as outs ρ2)
      | .bad => .bad) := h1'
    -- what stands of the frame behind the call
    have frame : ∀ {H3 S3 : Hp} {T : Own}, Fr (addS S1 H1 (ownN H1 R1)) H1 r S3 H3 T → MP.Same S3 H3 →
        ∃ S4 : Hp, (∀ a, (ownN H1 R1 a) → S4 a = none) ∧ (∀ a vs, S3 a = some (.tup vs) → S4 a = some (.tup vs)) ∧ (∀ a, S3 a = none → S4 a = none) ∧ Fr S1 H1 r S4 H3 T ∧ Rel M.K S4 H3 σ ρ2 (ownN H1 R1) ∧ ∀ a, (ownN H1 R1 a) → S3 a ≠ none := by
      intro H3 S3 T f3 sub3
      have at3 : ∀ a, (ownN H1 R1 a) → ∃ o, H1 a = some o ∧ S3 a = some o := fun a x => by
        obtain ⟨o, e, _⟩ := (rel0.live a x).2
        refine ⟨o, e, f3.ss a o ?_⟩
        unfold addS
        rw [if_pos x]
        exact e
      have s14 : MP.Same S1 (fun a => if ownN H1 R1 a then none else S3 a) := fun a o e => by
        dsimp only
        rw [if_neg fun x => by rw [k0 a x] at e; cases e]
        exact f3.ss a o (subS a o e)
      refine ⟨fun a => if ownN H1 R1 a then none else S3 a, fun a x => if_pos x, fun a ws e => ?_, fun a e => ?_, ⟨s14, f3.keep, f3.res, fun a o e => ?_⟩, rel0.grow s14 (fun a o e => ?_) (fun a x => ⟨if_pos x, ?_⟩), fun a x e => ?_⟩
      · dsimp only
        rw [if_neg]
        · exact e
        · intro x
          obtain ⟨o, eo, e3⟩ := at3 a x
          rw [e] at e3
          cases e3
          exact x.2 ws eo
      · dsimp only
        split
        · rfl
        · exact e
      · split at e
        · cases e
        · rename_i nx
          rcases f3.shr a o e with z | z | z
          · unfold addS at z
            rw [if_neg nx] at z
            exact .inl z
          · exact .inr (.inl z)
          · exact .inr (.inr z)
      · split at e
        · cases e
        · exact sub3 a o e
      · obtain ⟨o, eo, e3⟩ := at3 a x
        rw [eo]
        exact sub3 a o e3
      · obtain ⟨o, eo, e3⟩ := at3 a x
        rw [e3] at e
        cases e
    cases qf : Φ f ds with
    | bad => rw [qf] at h1'; exact h1'.elim
    | ok d outs =>
      rw [qf] at h1'
      dsimp only at h1'
      split at h1'
      · exact h1'.elim
      · rename_i ns
        simp only [Bool.not_eq_true', Bool.not_eq_false, Bool.and_eq_true] at ns
        rw [backB _ _ _ _ nr] at h1'
        intro v H3 S3 R3 r3 hl f3 sub3 rep3 live3 out3 liveR3 dj3
        obtain ⟨S4, n4, t4, z4, f4, rel4, ne4⟩ := frame f3 sub3
        refine h1' v H3 S4 _ r3 ((f1.trans f4 fun a x => .inr x).less fun a x => ?_) rel4 (RepV.lessS t4 d v r3 rep3 ns.1) (fun a x => ⟨z4 a (live3 a x).1, (live3 a x).2⟩) fun a x y => ne4 a x (live3 a y).1
        rcases x with x | x
        · exact .inr (.inl x.1)
        · exact .inl (.inr x)
    | ex c outs =>
      rw [qf] at h1'
      dsimp only at h1'
      split at h1'
      · exact h1'.elim
      · rw [backB _ _ _ _ nr] at h1'
        intro H3 S3 R3 hl f3 sub3 out3 liveR3
        obtain ⟨S4, n4, t4, z4, f4, rel4, ne4⟩ := frame f3 sub3
        refine h1' H3 S4 _ ((f1.trans f4 fun a x => .inr x).less fun a x => ?_) rel4
        exact .inr (.inl x.1)
end
end MP

set_option autoImplicit false
set_option linter.all false
set_option maxRecDepth 100000
/-! MP: expressions. -/
namespace MP
open PySem L2

/-! ### tests of operations -/
def plainT : Expr → Bool
  | .UnaryOp .Not _ _ => false
  | .BoolOp _ _ _ => false
  | .IfExp _ _ _ _ => false
  | .Compare _ _ _ _ => false
  | _ => true
theorem isTrue_plainT {e : Expr} (h : plainT e = true) (env : Env) (whole : Sem Value) : isTrue e env whole = (do let v ← whole; standAt e.pos; holding [v] (truthy v)) := by
  cases e with
  | UnaryOp op x p => cases op <;> first | rfl | cases h
  | _ => first | rfl | cases h
def OpT (M : Md) (X : Cx) (o : Op) (e : Expr) (es : List Expr) : Prop := ∃ r, OkC M.K (opF M.T.sub o) r ∧ ∀ ts, All2 (PE X) es ts → PT X e (tTest (tCB r (tL ts)))
section
variable {M : Md} {n : Nat} {g : Gx} {X : Cx} {W : WX}
theorem optv {o : Op} {e : Expr} {es : List Expr} (h : OpE M X o e es) (p : plainT e = true) : OpT M X o e es := by
  obtain ⟨r, ok, k⟩ := h
  exact ⟨r, ok, fun ts all => pt_val (k ts all) fun w => isTrue_plainT p _ w⟩
theorem opt2 {o : Op} {e a b : Expr} {r : R2} (ok : Ok2 M.K (opF M.T.sub o) r) (two : ∀ ds d, opF M.T.sub o ds = some d → ds.length = 2) (h : ∀ ta tb, PE X a ta → PE X b tb → PT X e (tTest (tOp r ta tb))) : OpT M X o e [a, b] := by
  refine ⟨L2r r, ok.c two, fun ts all => ?_⟩
  cases all with
  | cons h1 t => cases t with
    | cons h2 t2 => cases t2; exact h _ _ h1 h2
theorem opt1 {o : Op} {e a : Expr} {r : V → Hp → VK → Prop} (ok : Ok1 M.K (opF M.T.sub o) r) (one : ∀ ds d, opF M.T.sub o ds = some d → ds.length = 1) (h : ∀ ta, PE X a ta → PT X e (tTest (tUn r ta))) : OpT M X o e [a] := by
  refine ⟨L1r r, ok.c one, fun ts all => ?_⟩
  cases all with
  | cons h1 t => cases t; exact h _ h1
theorem op_tieT (s : Sit M n g X W) {o : Op} {e : Expr} {es : List Expr} (h : opArgs g.sc o e = some es) (pl : ∀ e ∈ es, plainX e = true) : OpT M X o e es := by
  have eK := s.K
  by_cases pt : plainT e = true
  · exact optv (op_tie s h pl) pt
  · unfold opArgs at h
    split at h
    · exact absurd rfl pt
    · split at h
      · exact absurd rfl pt
      · cases h
    · rename_i a c b pos
      split at h
      · cases h; exact opt2 (by rw [← eK]; exact ok_eq) (fun _ _ => len2_eq) fun ta tb ha hb => pt_cmpR (op_eqX (by have := s.hu; omega)) ha hb (marks_plain (pl _ (by simp)))
      · cases h; exact opt2 (by rw [← eK]; exact ok_ne) (fun _ _ => len2_ne) fun ta tb ha hb => pt_cmpR (op_neX (by have := s.hu; omega)) ha hb (marks_plain (pl _ (by simp)))
      · cases h; exact opt2 (by rw [← eK]; exact ok_lt) (fun _ _ => len2_lt) fun ta tb ha hb => pt_cmpR (op_ltA (by have := s.hu; omega)) ha hb (marks_plain (pl _ (by simp)))
      · cases h; exact opt2 (by rw [← eK]; exact ok_le) (fun _ _ => len2_le) fun ta tb ha hb => pt_cmpR op_leA ha hb (marks_plain (pl _ (by simp)))
      · cases h; exact opt2 (by rw [← eK]; exact ok_gt) (fun _ _ => len2_gt) fun ta tb ha hb => pt_cmpR op_gt ha hb (marks_plain (pl _ (by simp)))
      · cases h; exact opt2 (by rw [← eK]; exact ok_ge) (fun _ _ => len2_ge) fun ta tb ha hb => pt_cmpR op_ge ha hb (marks_plain (pl _ (by simp)))
      · cases h; exact opt2 (by rw [← eK]; exact ok_mem) (fun _ _ => len2_mem) fun ta tb ha hb => pt_cmpR (op_memA s.hu) ha hb (marks_plain (pl _ (by simp)))
      · cases h; exact opt2 (by rw [← eK]; exact ok_nmem) (fun _ _ => len2_nmem) fun ta tb ha hb => pt_cmpR (op_nmemA s.hu) ha hb (marks_plain (pl _ (by simp)))
      · split at h
        · cases h; exact opt1 (by rw [← eK]; exact ok_isN) (fun _ _ => len1_isN) fun ta ha => pt_cmp (pc_isN ha) rfl
        · cases h
      · split at h
        · cases h; exact opt1 (by rw [← eK]; exact ok_notN) (fun _ _ => len1_notN) fun ta ha => pt_cmp (pc_notN ha) rfl
        · cases h
      · split at h
        · cases h; exact opt1 (r := rIsF) (by rw [← eK]; exact ok_isF) (fun _ _ => len1_isF) fun ta ha => pt_cmpR (r := rIsB) (tb := tC (.bl false)) op_isBl ha pe_bl (marks_plain rfl)
        · cases h
      · split at h
        · cases h; exact opt1 (r := rNotF) (by rw [← eK]; exact ok_notF) (fun _ _ => len1_notF) fun ta ha => pt_cmpR (r := rNotB) (tb := tC (.bl false)) op_notBl ha pe_bl (marks_plain rfl)
        · cases h
      · cases h
    · exact absurd rfl pt
    · exact absurd rfl pt
    · cases h
/-- comparisons in a chain -/
def cmpOp : Op → CmpOp → Bool
  | .eq, .Eq => true
  | .ne, .NotEq => true
  | .lt, .Lt => true
  | .le, .LtE => true
  | .gt, .Gt => true
  | .ge, .GtE => true
  | _, _ => false
theorem cmp_tie (s : Sit M n g X W) {o : Op} {c : CmpOp} (h : cmpOp o c = true) : ∃ r, OpR X (compareOp c) r ∧ Ok2 M.K (opF M.T.sub o) r ∧ ∀ b, behindInMarks c b = false := by
  have eK := s.K
  unfold cmpOp at h
  split at h
  · exact ⟨_, op_eqX (by have := s.hu; omega), by rw [← eK]; exact ok_eq, fun b => nomark b⟩
  · exact ⟨_, op_neX (by have := s.hu; omega), by rw [← eK]; exact ok_ne, fun b => nomark b⟩
  · exact ⟨_, op_ltA (by have := s.hu; omega), by rw [← eK]; exact ok_lt, fun b => nomark b⟩
  · exact ⟨_, op_leA, by rw [← eK]; exact ok_le, fun b => nomark b⟩
  · exact ⟨_, op_gt, by rw [← eK]; exact ok_gt, fun b => nomark b⟩
  · exact ⟨_, op_ge, by rw [← eK]; exact ok_ge, fun b => nomark b⟩
  · cases h
end

/-! ### the check -/
def methNm : Op → Option Str
  | .upper => some "upper" | .lower => some "lower" | .isupper => some "isupper" | .islower => some "islower" | .isalpha => some "isalpha" | .join => some "join"
  | .get1 => some "get" | .get2 => some "get" | .lcount => some "count" | .index => some "index"
  | _ => none
def recvOk : Expr → Bool
  | .Call (.Name _ _) [] [] _ => false
  | _ => true
def few2 : List Expr → Bool
  | [] => true
  | [_] => true
  | [_, _] => true
  | _ => false
def mutNm : MO → Option Str
  | .app => some "append" | .ext => some "extend" | .pop1 => some "pop"
  | _ => none
def mutNm0 : MO → Option Str
  | .clear => some "clear" | .rever => some "reverse"
  | _ => none
def chkV (g : Gx) (i : Nat) (x : Str) : Bool := decide (g.N[i]? = some x) && vis g.sc x && plainName x
def chkK : D → Const → Bool
  | .non, .none => true
  | .bl b, .bool c => b == c
  | .int i, .int j => i == j
  | .str s, .str z => decide (z = ⟨s.toArray⟩) && decide (s.length ≤ lim)
  | _, _ => false
mutual
def same : D → D → Bool
  | .non, .non => true
  | .bl b, .bl c => b == c
  | .int b, .int c => b == c
  | .str b, .str c => b == c
  | .tup o xs, .tup p ys => o == p && sames xs ys
  | .lst o xs, .lst p ys => o == p && sames xs ys
  | _, _ => false
def sames : List D → List D → Bool
  | [], [] => true
  | x :: xs, y :: ys => same x y && sames xs ys
  | _, _ => false
end
mutual
theorem same_eq : ∀ (a b : D), same a b = true → a = b
  | .non, b, h => by cases b <;> first | rfl | cases h
  | .bl _, b, h => by cases b <;> first | (rw [same, beq_iff_eq] at h; rw [h]) | cases h
  | .int _, b, h => by cases b <;> first | (rw [same, beq_iff_eq] at h; rw [h]) | cases h
  | .str _, b, h => by cases b <;> first | (rw [same, beq_iff_eq] at h; rw [h]) | cases h
  | .tup o xs, b, h => by cases b <;> first | (rw [same, Bool.and_eq_true, beq_iff_eq] at h; rw [h.1, sames_eq xs _ h.2]) | cases h
  | .lst o xs, b, h => by cases b <;> first | (rw [same, Bool.and_eq_true, beq_iff_eq] at h; rw [h.1, sames_eq xs _ h.2]) | cases h
  | .dic _ _ _ _, b, h => by cases b <;> cases h
  | .set _, b, h => by cases b <;> cases h
  | .ins _ _ _ _, b, h => by cases b <;> cases h
  | .exn _, b, h => by cases b <;> cases h
theorem sames_eq : ∀ (a b : List D), sames a b = true → a = b
  | [], b, h => by cases b <;> first | rfl | cases h
  | x :: xs, b, h => by cases b <;> first | (rw [sames, Bool.and_eq_true] at h; rw [same_eq x _ h.1, sames_eq xs _ h.2]) | cases h
end
/-- a display's constants -/
def prs : CL → Option (List (D × D))
  | .nil => some []
  | .cons (.k a) (.cons (.k b) as) => (prs as).map ((a, b) :: ·)
  | _ => none
def vK : D → V
  | .int i => .int i
  | .str s => .str ⟨s.toArray⟩
  | .bl b => .bl b
  | _ => .non
def chkPs : List (D × D) → List (Option Expr) → List Expr → Bool
  | [], [], [] => true
  | (a, b) :: L, some (.Constant c _ _) :: ks, .Constant c' _ _ :: vs => chkK a c && (keyK a).isSome && chkK b c' && chkPs L ks vs
  | _, _, _ => false
def chkDisp (as : CL) (ks : List (Option Expr)) (vs : List Expr) : Bool := match prs as with
  | some L => chkPs L ks vs && (match (L.map (·.1)).mapM keyK with | some kk => decide kk.Nodup | none => false) && !L.isEmpty && decide (L.length ≤ 15)
  | none => false
def blkG (g : Gx) (scope : Scope) (own : List Nat) : Gx := { g with sc := relS scope g.sc, asn := (own.filterMap fun i => g.N[i]?).filter fun x => loc scope x }
/-- what tells pairs is walked into a tuple of names -/
def srcTg : CI → Expr → Bool
  | .zip _ _, .Tuple _ _ _ => true
  | .zip _ _, _ => false
  | .enu _, .Tuple _ _ _ => true
  | .enu _, _ => false
  | _, _ => true
def ownP (g : Gx) (own : List Nat) : List (Str × Nat) := own.map fun i => ((g.N[i]?).getD Str.empty, i)
mutual
def chkE (g : Gx) : CE → Expr → Bool
  | .rd i [], .Name x _ => chkV g i x
  | .mv i, .Name x _ => chkV g i x
  | .bw i, .Name x _ => chkV g i x
  | .fz c, e => chkE g c e
  | .k d, .Constant v _ _ => chkK d v
  | .gl y d, .Name x _ => decide (x = y) && glb g.sc x && plainName x && g.cs.any fun p => decide (p.1 = x) && same p.2 d
  | .op o as, e => match opArgs g.sc o e with
    | some es => es.all plainX && chkL g as es
    | none => false
  | .tup as, .Tuple es _ _ => es.all plainX && decide (as.len ≤ lim) && chkL g as es
  | .lst as, .List es _ => es.all plainX && decide (as.len ≤ lim) && chkL g as es
  | .call f as, .Call (.Name x _) (e :: es) [] _ => match g.T.fns[f]? with
    | some F => decide (F.kind = 0) && decide (F.name = x) && F.dfl.isEmpty && decide (F.np = as.len) && (noBw as || (hasBw as && F.ref.all (!·))) && glb g.sc x && plainName x && (e :: es).all plainX && chkL g as (e :: es)
    | none => false
  | .and_ a b, .BoolOp .And (x :: y :: r) pos => chkE g a x && chkE g b (if r.isEmpty then y else .BoolOp .And (y :: r) pos)
  | .or_ a b, .BoolOp .Or (x :: y :: r) pos => chkE g a x && chkE g b (if r.isEmpty then y else .BoolOp .Or (y :: r) pos)
  | .not_ a, .UnaryOp .Not x _ => chkE g a x
  | .chain o p a b c, .Compare x [c1, c2] [y, z] _ => cmpOp o c1 && cmpOp p c2 && chkE g a x && chkE g b y && chkE g c z
  | .comp elt t s c own, .ListComp e [⟨tg, iter, ifs, z⟩] scope _ => decide (z = 0) && srcTg s tg && plainX iter && chkI g s iter && blkC g.N g.sc scope (ownP g own) && chkG (blkG g scope own) t tg && chkO (blkG g scope own) c ifs && chkE (blkG g scope own) elt e && t.slots.all fun i => decide (i ∈ own)
  | .mut (.sl i) .ins as, .Call (.Attribute (.Name x _) f apos) [e, e2] [] cpos => chkV g i x && decide (f = "insert") && (apos.endLine == cpos.line) && plainX e && plainX e2 && chkL g as [e, e2]
  | .mut (.sl i) m .nil, .Call (.Attribute (.Name x _) f apos) [] [] cpos => chkV g i x && decide (mutNm0 m = some f) && (apos.endLine == cpos.line)
  | .mut (.sl i) m as, .Call (.Attribute (.Name x _) f apos) (e :: es) [] cpos => chkV g i x && decide (mutNm m = some f) && (apos.endLine == cpos.line) && es.isEmpty && plainX e && chkL g as (e :: es)
  | .dic kd .nil, .Dict [] [] _ => decide (kd = 0 ∨ kd = 1)
  | .dic kd as, .Dict ks vs _ => decide (kd = 0) && chkDisp as ks vs
  | .meth o a as, .Call (.Attribute e f apos) es [] cpos => decide (methNm o = some f) && recvOk e && (apos.endLine == cpos.line) && few2 es && es.all plainX && chkE g a e && chkL g as es
  | _, _ => false
def chkL (g : Gx) : CL → List Expr → Bool
  | .nil, [] => true
  | .cons a as, e :: es => chkE g a e && chkL g as es
  | _, _ => false
def chkO (g : Gx) : CO → List Expr → Bool
  | .none, [] => true
  | .some c, [e] => chkE g c e
  | _, _ => false
def chkI (g : Gx) : CI → Expr → Bool
  | .se c, e => plainX e && chkE g c e
  | .rng1 a, .Call (.Name x _) [e] [] _ => decide (x = "range") && glb g.sc x && plainX e && chkE g a e
  | .rng2 a b, .Call (.Name x _) [e, e2] [] _ => decide (x = "range") && glb g.sc x && plainX e && plainX e2 && chkE g a e && chkE g b e2
  | .zip a b, .Call (.Name x _) [e, e2] [] _ => decide (x = "zip") && glb g.sc x && plainX e && plainX e2 && chkE g a e && chkE g b e2
  | .enu a, .Call (.Name x _) [e] [] _ => decide (x = "enumerate") && glb g.sc x && plainX e && chkE g a e
  | _, _ => false
end

structure SE (M : Md) (W : WX) (Φ : Nat → List D → FR) (X : Cx) (c : CE) (e : Expr) : Prop where
  pe : PE X e (tE M W Φ c)
  pt : PT X e (tT M W Φ c)
  pv : ∀ i, c = .rd i [] → PE X e (tVar i)
inductive AllC (M : Md) (W : WX) (Φ : Nat → List D → FR) (X : Cx) : CL → List Expr → Prop where
  | nil : AllC M W Φ X .nil []
  | cons {a : CE} {as : CL} {e : Expr} {es : List Expr} : SE M W Φ X a e → AllC M W Φ X as es → AllC M W Φ X (.cons a as) (e :: es)
section
variable {M : Md} {n : Nat} {g : Gx} {X : Cx} {W : WX} {Φ : Nat → List D → FR}
theorem AllC.L : ∀ {as : CL} {es : List Expr}, AllC M W Φ X as es → All2 (PE X) es (tsE M W Φ as)
  | _, _, .nil => .nil
  | _, _, .cons h t => .cons h.pe t.L
theorem AllC.P : ∀ {as : CL} {es : List Expr}, AllC M W Φ X as es → All2 (PE X) es (tsP M W Φ as)
  | _, _, .nil => by rw [tsP]; exact .nil
  | .cons a as, e :: es, .cons h t => by
    by_cases k : ∃ i, a = .rd i []
    · obtain ⟨i, rfl⟩ := k
      rw [tsP]
      exact .cons (h.pv i rfl) t.P
    · rw [tsP]
      · exact .cons h.pe t.P
      · exact fun i e => k ⟨i, e⟩
theorem AllC.R : ∀ {as : CL} {es : List Expr} (bs : List Bool), AllC M W Φ X as es → All2 (PE X) es (tsR M W Φ bs as)
  | _, _, bs, .nil => by cases bs <;> exact .nil
  | .cons a as, e :: es, [], .cons h t => by
    rw [tsR]
    exact .cons h.pe (t.R [])
  | .cons a as, e :: es, b :: bs, .cons h t => by
    by_cases k : b = true ∧ ∃ i, a = .rd i []
    · obtain ⟨rfl, i, rfl⟩ := k
      rw [tsR]
      exact .cons (h.pv i rfl) (t.R bs)
    · rw [tsR]
      · exact .cons h.pe (t.R bs)
      · exact fun i e1 e2 => k ⟨e1, i, e2⟩
/-- a value's form as a test -/
theorem SE.of {c : CE} {e : Expr} (h : PE X e (tE M W Φ c)) (p : plainT e = true) (n : ∀ i, c ≠ .rd i []) : SE M W Φ X c e :=
  ⟨h, PT.imp (pt_val h fun w => isTrue_plainT p _ w) fun σ H Q q => tT_tB q, fun i e => (n i e).elim⟩
theorem vis_of (s : Sit M n g X W) {x : Str} (h : vis g.sc x = true) : Vis X.env.scope x := by
  unfold vis at h
  simp only [Bool.or_eq_true, decide_eq_true_eq] at h
  rw [s.sc]
  rcases h with (h | h) | h
  · exact .inl h
  · exact .inr (.inl h)
  · exact .inr (.inr h)
theorem plain_of {x : Str} (h : plainName x = true) : (x == ("__debug__" : Str)) = false ∧ (x == ("__classdict__" : Str)) = false ∧ x ≠ "__name__" := by
  unfold plainName at h
  simp only [Bool.and_eq_true, Bool.not_eq_true'] at h
  refine ⟨h.1.1, h.1.2, fun e => ?_⟩
  have := h.2
  rw [e] at this
  simp at this
theorem var_of (s : Sit M n g X W) {i : Nat} {x : Str} {pos : Pos} (h : chkV g i x = true) : PE X (.Name x pos) (tVar i) := by
  unfold chkV at h
  simp only [Bool.and_eq_true, decide_eq_true_eq] at h
  obtain ⟨p1, p2, _⟩ := plain_of h.2
  exact pe_var (by rw [s.N]; exact h.1.1) (vis_of s h.1.2) p1 p2
theorem Sit.blk (s : Sit M n g X W) {scope : Scope} {own : List Nat} (s0 : Shared) (H : Hp) (C : Addr) (cl : List (Str × Addr)) (fp : List Addr) : Sit M n (blkG g scope own) (X.blk s0 H scope (compEnvC scope cl C X.env) fp) wF := by
  refine ⟨s.prog, s.w, s.K, s.mg, s.base, s.N, s.nd, ?_, s.calm, takes0, s.room, fun x hx => ?_, s.T, s.cs, s.free0, PassesOwn.never⟩
  · show relS scope X.env.scope = relS scope g.sc
    rw [s.sc]
  · have hl : loc scope x = true := (List.mem_filter.mp hx).2
    unfold loc at hl
    simp only [Bool.or_eq_true, decide_eq_true_eq] at hl
    show Loc (relS scope X.env.scope) x ∧ ((scope.names.lookup x == some .cell) = true ∨ (relS scope X.env.scope).names.lookup x = some .local)
    rcases hl with hl | hl
    · have k := lookup_relS_keep (sc := X.env.scope) (by decide) hl
      exact ⟨.inl k, .inr k⟩
    · have k := lookup_relS_keep (sc := X.env.scope) (by decide) hl
      exact ⟨.inr k, .inl (by rw [hl]; rfl)⟩
theorem ownP_map (g : Gx) (own : List Nat) : (ownP g own).map (·.2) = own := by
  unfold ownP
  rw [List.map_map]
  exact List.map_id own
theorem PT.pw {op : BoolOp} {es : List Expr} {pos : Pos} {t : TT} (h : PT X (.BoolOp op es pos) t) : PW X (.BoolOp op es pos) t := ⟨fun wh pins s σ H Q I q => h.run pins s σ H Q I q⟩
theorem PTs.imp {X : Cx} {e : List Expr} {t t' : TT} (h : PTs X e t) (k : ∀ σ H Q, t' σ H Q → t σ H Q) : PTs X e t' := ⟨fun pins s σ H Q I q => h.run pins s σ H Q I (k σ H Q q)⟩
theorem all_mem {p : Expr → Bool} {es : List Expr} (h : es.all p = true) : ∀ e ∈ es, p e = true := fun e he => List.all_eq_true.mp h e he
theorem k_ok (s : Sit M n g X W) {d : D} {v : Const} {k : Nat} {pos : Pos} (h : chkK d v = true) : PE X (.Constant v k pos) (tE M W Φ (.k d)) := by
  unfold chkK at h
  have ent : ∀ {σ : L2.St} {H : Hp} {Q : VK} {d : D} {w : V}, (∀ S, RepV M.K S H d w none_) → tE M W Φ (.k d) σ H Q → Q w H := by
    intro σ H Q d w rep h
    obtain ⟨S, R, ρ, rel, h⟩ := h
    rw [ev] at h
    exact k_ent rel (rep S) h
  split at h
  · exact PE.imp pe_non fun σ H Q q => ent (fun S => by rw [RepV]) q
  · rw [beq_iff_eq] at h; subst h
    exact PE.imp pe_bl fun σ H Q q => ent (fun S => by rw [RepV]) q
  · rw [beq_iff_eq] at h; subst h
    exact PE.imp pe_int fun σ H Q q => ent (fun S => by rw [RepV]) q
  · simp only [Bool.and_eq_true, decide_eq_true_eq] at h
    obtain ⟨h1, h2⟩ := h
    subst h1
    exact PE.imp pe_str fun σ H Q q => ent (fun S => by rw [RepV]; exact ⟨rfl, by rw [← lim_eq]; exact h2⟩) q
  · cases h
theorem gl_ok (s : Sit M n g X W) {y x : Str} {d : D} {pos : Pos} (h : (decide (x = y) && glb g.sc x && plainName x && g.cs.any fun p => decide (p.1 = x) && same p.2 d) = true) : PE X (.Name x pos) (tE M W Φ (.gl y d)) := by
  simp only [Bool.and_eq_true, decide_eq_true_eq, List.any_eq_true] at h
  obtain ⟨⟨⟨_, h1⟩, h2⟩, p, hp, rfl, h4⟩ := h
  obtain ⟨p1, p2, _⟩ := plain_of h2
  have e := same_eq _ _ h4
  obtain ⟨v, u, e1, rv, f, rep⟩ := s.cs p hp
  refine PE.imp (pe_glob (s.gl h1) (by rw [s.mg]; exact e1) rv p1) fun σ H Q q => ?_
  obtain ⟨S, R, ρ, rel, h⟩ := q
  rw [ev] at h
  refine k_ent rel ?_ h
  rw [← e]
  exact rep S H
theorem bw_L (s : Sit M n g X W) : ∀ {as : CL} {es : List Expr}, chkL g as es = true → AllC M W Φ X as es → All2 (PE X) es (tsB M W Φ as)
  | .nil, [], _, _ => .nil
  | .nil, _ :: _, h, _ => by cases h
  | .cons _ _, [], h, _ => by cases h
  | .cons a as, e :: es, h, .cons h1 t => by
    rw [chkL, Bool.and_eq_true] at h
    by_cases k : ∃ i, a = .bw i
    · obtain ⟨i, rfl⟩ := k
      rw [tsB]
      refine .cons ?_ (bw_L s h.2 t)
      have h0 := h.1
      cases e <;> first | cases h0 | skip
      exact var_of s (pos := by assumption) h0
    · rw [tsB]
      · exact .cons h1.pe (bw_L s h.2 t)
      · exact fun i e => k ⟨i, e⟩
theorem call_ok (s : Sit M n g X W) (cl : Calls M Φ n) {f : Nat} {as : CL} {x : Str} {p pos : Pos} {e : Expr} {es : List Expr} {F : Fn} (hF : g.T.fns[f]? = some F)
    (h : (decide (F.kind = 0) && decide (F.name = x) && F.dfl.isEmpty && decide (F.np = as.len) && (noBw as || (hasBw as && F.ref.all (!·))) && glb g.sc x && plainName x && (e :: es).all plainX) = true) (hL : chkL g as (e :: es) = true) (ha : AllC M W Φ X as (e :: es)) : PE X (.Call (.Name x p) (e :: es) [] pos) (tE M W Φ (.call f as)) := by
  simp only [Bool.and_eq_true, decide_eq_true_eq] at h
  obtain ⟨⟨⟨⟨⟨⟨⟨h1, h2⟩, h3⟩, h4⟩, h5⟩, h6⟩, h7⟩, h8⟩ := h
  obtain ⟨p1, p2, _⟩ := plain_of h7
  have eT := s.T
  rw [eT] at hF
  obtain ⟨⟨fd, ps, ok, bd⟩, e1, e2⟩ := cl f F hF h1
  have pl := all_mem h8
  rw [Bool.or_eq_true] at h5
  rcases h5 with h5 | h5
  rotate_left
  · rw [Bool.and_eq_true] at h5
    have k := pe_callS (X := X) (x := x) (p := p) (pos := pos) (CX := L2.CX X.prog X.w) (f := M.fa f) (sp := spI M Φ f F) (fd := fd) (ps := ps) (k := n) (E := WE W) (by rw [s.prog, s.w, s.K, s.mg, s.base]; exact ok) s.room (s.gl h6) (by rw [s.mg, ← h2]; exact e1) (by rw [s.K]; exact e2) (by rw [s.K]; exact bd) (fun σ => passAt s.tk σ) (pa_all pl (bw_L s hL ha)) p1
      (star_plain (pl e List.mem_cons_self) _ _) (stars_none (fun e he => pl e (List.mem_cons_of_mem _ he)) _ _)
    exact PE.imp k fun σ H Q q => callB_ent hF h1 (List.isEmpty_iff.mp h3) h4 h5.2 h5.1 q
  have k := pe_callS (X := X) (x := x) (p := p) (pos := pos) (CX := L2.CX X.prog X.w) (f := M.fa f) (sp := spI M Φ f F) (fd := fd) (ps := ps) (k := n) (E := WE W) (by rw [s.prog, s.w, s.K, s.mg, s.base]; exact ok) s.room (s.gl h6) (by rw [s.mg, ← h2]; exact e1) (by rw [s.K]; exact e2) (by rw [s.K]; exact bd) (fun σ => passAt s.tk σ) (pa_all pl (ha.R F.ref)) p1
    (star_plain (pl e List.mem_cons_self) _ _) (stars_none (fun e he => pl e (List.mem_cons_of_mem _ he)) _ _)
  exact PE.imp k fun σ H Q q => call_ent hF h1 (List.isEmpty_iff.mp h3) h4 h5 q
theorem mut_ok_ (s : Sit M n g X W) {i : Nat} {m : MO} {as : CL} {x f : Str} {p apos cpos : Pos} {e : Expr} {es : List Expr} (h : (chkV g i x && decide (mutNm m = some f) && (apos.endLine == cpos.line) && es.isEmpty && plainX e) = true) (ha : AllC M W Φ X as (e :: es)) : PE X (.Call (.Attribute (.Name x p) f apos) (e :: es) [] cpos) (tE M W Φ (.mut (.sl i) m as)) := by
  simp only [Bool.and_eq_true, decide_eq_true_eq] at h
  obtain ⟨⟨⟨⟨h1, h2⟩, h3⟩, h4⟩, h5⟩ := h
  have h4 := List.isEmpty_iff.mp h4
  subst h4
  have pl : ∀ y ∈ [e], plainX y = true := fun y hy => by
    rw [List.mem_singleton] at hy
    rw [hy]; exact h5
  cases m <;> cases h2
  · refine PE.imp (pe_bm (r := rAppend) F.plainAttrs_list F.slot_list_append F.type_list_append mt_append (var_of s h1) (pa_all pl ha.L) rfl ?_ h3 (star_plain h5 _ _) (stars_none (es := []) (fun y hy => by cases hy) _ _)) fun σ H Q q => ?_
    · rw [star_plain h5]
      rfl
    · have := app_ent q
      rw [s.K]
      exact this
  · refine PE.imp (pe_bm (r := rExtend) F.plainAttrs_list F.slot_list_extend F.type_list_extend mt_extend (var_of s h1) (pa_all pl ha.L) rfl ?_ h3 (star_plain h5 _ _) (stars_none (es := []) (fun y hy => by cases hy) _ _)) fun σ H Q q => ?_
    · rw [star_plain h5]
      rfl
    · have := ext_ent q
      rw [s.K]
      exact this
  · refine PE.imp (pe_bm (r := rPopAt) F.plainAttrs_list F.slot_list_pop F.type_list_pop mt_popAt (var_of s h1) (pa_all pl ha.L) rfl ?_ h3 (star_plain h5 _ _) (stars_none (es := []) (fun y hy => by cases hy) _ _)) fun σ H Q q => ?_
    · rw [star_plain h5]
      rfl
    · have := pop1_ent q
      rw [s.K]
      exact this
theorem ins_ok_ (s : Sit M n g X W) {i : Nat} {as : CL} {x f : Str} {p apos cpos : Pos} {e e2 : Expr} (h : (chkV g i x && decide (f = "insert") && (apos.endLine == cpos.line) && plainX e && plainX e2) = true) (ha : AllC M W Φ X as [e, e2]) : PE X (.Call (.Attribute (.Name x p) f apos) [e, e2] [] cpos) (tE M W Φ (.mut (.sl i) .ins as)) := by
  simp only [Bool.and_eq_true, decide_eq_true_eq] at h
  obtain ⟨⟨⟨⟨h1, rfl⟩, h3⟩, h4⟩, h5⟩ := h
  have pl : ∀ y ∈ [e, e2], plainX y = true := fun y hy => by
    rcases List.mem_cons.mp hy with hy | hy
    · rw [hy]; exact h4
    · rw [List.mem_singleton] at hy; rw [hy]; exact h5
  refine PE.imp (pe_bm (r := rInsert) F.plainAttrs_list F.slot_list_insert F.type_list_insert mt_insert (var_of s h1) (pa_all pl ha.L) rfl ?_ h3 (star_plain h4 _ _) (stars_none (es := [e2]) (fun y hy => pl y (List.mem_cons_of_mem _ hy)) _ _)) fun σ H Q q => ?_
  · rw [star_plain h4, star_plain h5]
    rfl
  · have := ins_ent q
    rw [s.K]
    exact this
theorem mut0_ok_ (s : Sit M n g X W) {i : Nat} {m : MO} {x f : Str} {p apos cpos : Pos} (h : (chkV g i x && decide (mutNm0 m = some f) && (apos.endLine == cpos.line)) = true) : PE X (.Call (.Attribute (.Name x p) f apos) [] [] cpos) (tE M W Φ (.mut (.sl i) m .nil)) := by
  simp only [Bool.and_eq_true, decide_eq_true_eq] at h
  obtain ⟨⟨h1, h2⟩, h3⟩ := h
  cases m <;> cases h2
  · refine PE.imp (pe_bm0 (r := rClear) F.plainAttrs_list F.slot_list_clear F.type_list_clear mt_clear (var_of s h1) rfl h3) fun σ H Q q => ?_
    have := clear_ent q
    rw [s.K]
    exact this
  · refine PE.imp (pe_bm0 (r := rReverse) F.plainAttrs_list F.slot_list_reverse F.type_list_reverse mt_reverse (var_of s h1) rfl h3) fun σ H Q q => ?_
    have := rever_ent q
    rw [s.K]
    exact this
theorem base_of {e : Expr} (h : recvOk e = true) (f : Str) (env : Env) (w : Sem Value) : attributeBase e f env w = w := by
  cases e with
  | Call fn as ks pos =>
    cases fn with
    | Name x p =>
      cases as with
      | nil =>
        cases ks with
        | nil => cases h
        | cons _ _ => rfl
      | cons _ _ => rfl
    | _ => rfl
  | _ => rfl
def MethE (M : Md) (X : Cx) (o : Op) (nm : Str) : Prop := ∃ id r, PlainAttrs (recvT o) ∧ Slot (recvT o) nm id ∧ typeOf (.builtin id) = pure (.type "method_descriptor") ∧ MtR X id r ∧ OkM M.K (opF M.T.sub o) r
theorem meth_tie (s : Sit M n g X W) {o : Op} {nm : Str} (h : methNm o = some nm) : MethE M X o nm := by
  have eK := s.K
  unfold methNm at h
  split at h <;> cases h
  · exact ⟨_, _, F.plainAttrs_str, F.slot_str_upper, F.type_str_upper, mt_upper, okm_upper⟩
  · exact ⟨_, _, F.plainAttrs_str, F.slot_str_lower, F.type_str_lower, mt_lower, okm_lower⟩
  · exact ⟨_, _, F.plainAttrs_str, F.slot_str_isupper, F.type_str_isupper, mt_isupper, okm_isupper⟩
  · exact ⟨_, _, F.plainAttrs_str, F.slot_str_islower, F.type_str_islower, mt_islower, okm_islower⟩
  · exact ⟨_, _, F.plainAttrs_str, F.slot_str_isalpha, F.type_str_isalpha, mt_isalpha, okm_isalpha⟩
  · refine ⟨_, rJoin M.K, F.plainAttrs_str, F.slot_str_join, F.type_str_join, ?_, okm_join⟩
    rw [← eK]
    exact mt_join
  · exact ⟨_, _, F.plainAttrs_dict, F.slot_dict_get, F.type_dict_get, mt_get1 (by have := s.hu; omega), okm_get1⟩
  · exact ⟨_, _, F.plainAttrs_dict, F.slot_dict_get, F.type_dict_get, mt_get2 (by have := s.hu; omega), okm_get2⟩
  · refine ⟨_, rCntI M.K, F.plainAttrs_list, F.slot_list_count, F.type_list_count, ?_, okm_lcount⟩
    rw [← eK]
    exact mt_lcount
  · refine ⟨_, rIndexD M.K, F.plainAttrs_list, F.slot_list_index, F.type_list_index, ?_, okm_index trivial⟩
    rw [← eK]
    exact mt_indexD s.hu
theorem recv_of {a : CE} {e : Expr} (k : SE M W Φ X a e) : PE X e (tRecv M W Φ a) := by
  unfold tRecv
  split
  · exact k.pv _ rfl
  · exact k.pe
theorem meth_ok_ (s : Sit M n g X W) {o : Op} {a : CE} {as : CL} {f : Str} {apos cpos : Pos} {e : Expr} {es : List Expr} (h : (decide (methNm o = some f) && recvOk e && (apos.endLine == cpos.line) && few2 es && es.all plainX) = true) (ka : SE M W Φ X a e) (ha : AllC M W Φ X as es) : PE X (.Call (.Attribute e f apos) es [] cpos) (tE M W Φ (.meth o a as)) := by
  simp only [Bool.and_eq_true, decide_eq_true_eq] at h
  obtain ⟨⟨⟨⟨h1, h2⟩, h3⟩, h4⟩, h5⟩ := h
  have pl := all_mem h5
  obtain ⟨id, r, t1, t2, t3, t4, t5⟩ := meth_tie s h1
  cases es with
  | nil =>
    cases ha
    refine PE.imp (pe_bm0 t1 t2 t3 t4 (recv_of ka) (base_of h2 _ _ _) h3) fun σ H Q q => ?_
    rw [s.K]
    exact meth_ent t5 q
  | cons e1 es =>
    have p1 := pl e1 List.mem_cons_self
    have hfew : ((backTo cpos (starEach (e1 :: es) X.env)).all (fun x => !x.1) && (backToKw cpos (keywordEach [] X.env)).all (fun x => x.1.isSome)
      && decide ((e1 :: es).length + ([] : List Keyword).length + (if ([] : List Keyword).isEmpty then 0 else 1) < 30)) = true := by
      rcases es with _ | ⟨e2, _ | ⟨_, _⟩⟩
      · rw [star_plain p1]; rfl
      · rw [star_plain p1, star_plain (pl e2 (by simp))]; rfl
      · cases h4
    refine PE.imp (pe_bm t1 t2 t3 t4 (recv_of ka) (pa_all pl ha.P) (base_of h2 _ _ _) hfew h3 (star_plain p1 _ _) (stars_none (fun e he => pl e (List.mem_cons_of_mem _ he)) _ _)) fun σ H Q q => ?_
    rw [s.K]
    exact meth_ent t5 q
theorem dic_ok_ (s : Sit M n g X W) {kd : Nat} {pos : Pos} (h : kd = 0 ∨ kd = 1) : PE X (.Dict [] [] pos) (tE M W Φ (.dic kd .nil)) := by
  have fin : ∀ {σ : L2.St} {H : Hp} {Q : VK} {ho : HO}, dicHO kd [] [] = some ho → tE M W Φ (.dic kd .nil) σ H Q → ∀ p, H p = none → Q (.ref p) (upd H p ho) := by
    intro σ H Q ho e q p np
    obtain ⟨S, R, ρ, rel, q⟩ := q
    rw [ev, evs] at q
    have q : PostE M S H σ R Q (.dic true kd [] []) ρ := q
    have sub : MP.Same H (upd H p ho) := fun b o eb => by
      rw [upd_ne]
      · exact eb
      · intro z; rw [z, np] at eb; cases eb
    have np' : S p = none := by
      cases z : S p with
      | none => rfl
      | some o =>
        have := rel.sub p o z
        rw [np] at this; cases this
    have nR : ∀ a, R a → a ≠ p := fun a x e => by
      obtain ⟨_, o, l2, _⟩ := rel.live a x
      rw [e, np] at l2; cases l2
    refine q (.ref p) (upd H p ho) S R (fun a => a = p) ⟨Same.refl S, fun a o e _ => sub a o e, fun a x => ?_, fun a o e => .inl e⟩ (rel.grow (Same.refl S) (rel.sub.trans sub) fun a x => ⟨(rel.live a x).1, upd_ne (nR a x)⟩) ?_ (fun a x => ?_) fun a x y => nR a x y
    · rcases x with x | x
      · exact .inl x
      · exact .inr (by rw [x]; exact np)
    · rw [RepV]
      refine ⟨p, [], ho, none_, rfl, e, upd_same, by simp, rfl, rfl, fun b x => x.elim, by rw [RepVs]; trivial⟩
    · subst x
      exact ⟨np', _, upd_same, dicHO_tp e⟩
  rcases h with rfl | rfl
  · exact PE.imp pe_dnewK fun σ H Q q => fin rfl q
  · exact PE.imp pe_dnewT fun σ H Q q => fin rfl q
theorem pe_k {d : D} {c : Const} {j : Nat} {pos : Pos} (h : chkK d c = true) : PE X (.Constant c j pos) (tC (vK d)) := by
  unfold chkK at h
  split at h
  · exact pe_non
  · rw [beq_iff_eq] at h; subst h; exact pe_bl
  · rw [beq_iff_eq] at h; subst h; exact pe_int
  · simp only [Bool.and_eq_true, decide_eq_true_eq] at h
    rw [h.1]
    exact pe_str
  · cases h
theorem rep_k {K : PySem.W.Frag} {S H : Hp} {d : D} {c : Const} (h : chkK d c = true) (r : Own) : RepV K S H d (vK d) r := by
  unfold chkK at h
  split at h
  · rw [RepV]; rfl
  · rw [RepV]; rfl
  · rw [RepV]; rfl
  · simp only [Bool.and_eq_true, decide_eq_true_eq] at h
    rw [RepV]
    exact ⟨rfl, by rw [← lim_eq]; exact h.2⟩
  · cases h
theorem pps_k {pos : Pos} : ∀ {L : List (D × D)} {ks : List (Option Expr)} {vs : List Expr}, chkPs L ks vs = true → PPs X pos ks vs (L.map fun p => (tC (vK p.1), tC (vK p.2))) ∧ ks.length = L.length ∧ vs.length = L.length ∧ ks.all (·.isSome) = true ∧ ∀ (K : PySem.W.Frag) (S H : Hp), RepVs K S H (L.map (·.2)) (L.map fun p => vK p.2) none_
  | [], [], [], _ => ⟨pps_nil, rfl, rfl, rfl, fun K S H => by rw [List.map_nil, List.map_nil, RepVs]; trivial⟩
  | [], [], _ :: _, h => by cases h
  | [], _ :: _, _, h => by cases h
  | (a, b) :: L, ks, vs, h => by
    unfold chkPs at h
    split at h <;> first | contradiction | skip
    rename_i a' b' L' c _ _ ks' c' _ _ vs' e
    cases e
    simp only [Bool.and_eq_true] at h
    obtain ⟨⟨⟨h1, h2⟩, h3⟩, h4⟩ := h
    obtain ⟨i1, i2, i3, i4, i5⟩ := pps_k (pos := pos) h4
    refine ⟨pps_cons (pe_k h1) (pe_k h3) i1, by simp [i2], by simp [i3], by simp [i4], fun K S H => ?_⟩
    rw [List.map_cons, List.map_cons, RepVs]
    exact ⟨none_, none_, fun _ x => x, fun _ x => x, fun _ x _ => x, rep_k h3 _, i5 K S H⟩
theorem pairs_k (σ : L2.St) (H : Hp) (Q : List (V × V) → Hp → Prop) : ∀ {L : List (D × D)}, Q (L.map fun p => (vK p.1, vK p.2)) H → tPairs (L.map fun p => (tC (vK p.1), tC (vK p.2))) σ H Q
  | [], q => q
  | p :: L, q => pairs_k σ H (fun ps H3 => Q ((vK p.1, vK p.2) :: ps) H3) (L := L) q
theorem evs_k : ∀ {as : CL} {L : List (D × D)} (ρ : Rho), prs as = some L → ∃ ds, evs M.T Φ as ρ = .ok ds ρ ∧ evens ds = L.map (·.1) ∧ odds ds = L.map (·.2)
  | .nil, L, ρ, h => by
    cases h
    exact ⟨[], by rw [evs], rfl, rfl⟩
  | .cons a .nil, L, ρ, h => by cases a <;> cases h
  | .cons a (.cons b as), L, ρ, h => by
    cases a <;> first | (cases h; done) | skip
    cases b <;> first | (cases h; done) | skip
    rename_i a b
    rw [prs] at h
    obtain ⟨L2, h2, rfl⟩ := Option.map_eq_some_iff.mp h
    obtain ⟨ds, e1, e2, e3⟩ := evs_k (as := as) ρ h2
    refine ⟨a :: b :: ds, ?_, by rw [evens, e2]; rfl, by rw [odds, e3]; rfl⟩
    rw [evs, ev, show (MP.R.ok a ρ).bind (fun d ρ => (evs M.T Φ (.cons (.k b) as) ρ).bind fun ds ρ => .ok (d :: ds) ρ) = (evs M.T Φ (.cons (.k b) as) ρ).bind fun ds ρ => .ok (a :: ds) ρ from rfl, evs, ev, show (MP.R.ok b ρ).bind (fun d ρ => (evs M.T Φ as ρ).bind fun ds ρ => .ok (d :: ds) ρ) = (evs M.T Φ as ρ).bind fun ds ρ => .ok (b :: ds) ρ from rfl, e1]
    rfl
theorem keys_kV : ∀ {L : List (D × D)} {kk : List Key}, (L.map (·.1)).mapM keyK = some kk → (L.map fun p => (vK p.1, vK p.2)) = (kk.zip (L.map fun p => vK p.2)).map (fun kv => (kV kv.1, kv.2)) ∧ kk.length = L.length
  | [], kk, h => by cases h; exact ⟨rfl, rfl⟩
  | p :: L, kk, h => by
    rw [List.map_cons, List.mapM_cons] at h
    obtain ⟨k, hk, h⟩ := Option.bind_eq_some_iff.mp h
    obtain ⟨kk', hk', h⟩ := Option.bind_eq_some_iff.mp h
    cases h
    obtain ⟨i1, i2⟩ := keys_kV hk'
    refine ⟨?_, by simp [i2]⟩
    rw [List.map_cons, List.map_cons, List.zip_cons_cons, List.map_cons, i1]
    congr 1
    rcases keyK_inv hk with ⟨i, e1, rfl⟩ | ⟨s, e1, rfl⟩ <;> rw [e1] <;> rfl
theorem merge_new : ∀ (more kvs : List (Key × V)), (∀ p ∈ more, p.1 ∉ kvs.map (·.1)) → (more.map (·.1)).Nodup → mergeK kvs more = kvs ++ more
  | [], kvs, _, _ => by show kvs = kvs ++ []; rw [List.append_nil]
  | p :: more, kvs, h, nd => by
    rw [List.map_cons, List.nodup_cons] at nd
    have e : putK kvs p.1 p.2 = kvs ++ [p] := by
      unfold putK
      rw [if_neg]
      intro z
      obtain ⟨kv, m, z⟩ := List.any_eq_true.mp z
      exact h p List.mem_cons_self (List.mem_map.mpr ⟨kv, m, of_decide_eq_true z⟩)
    show mergeK (putK kvs p.1 p.2) more = _
    rw [e, merge_new more (kvs ++ [p]) (fun q hq => ?_) nd.2, List.append_assoc]
    · rfl
    · rw [List.map_append, List.mem_append]
      rintro (z | z)
      · exact h q (List.mem_cons_of_mem _ hq) z
      · have : q.1 = p.1 := by simpa using z
        exact nd.1 (List.mem_map.mpr ⟨q, hq, this⟩)
theorem disp_ok_ (s : Sit M n g X W) {as : CL} {ks : List (Option Expr)} {vs : List Expr} {pos : Pos} (h : chkDisp as ks vs = true) : PE X (.Dict ks vs pos) (tE M W Φ (.dic 0 as)) := by
  unfold chkDisp at h
  split at h
  · rename_i L hL
    simp only [Bool.and_eq_true, decide_eq_true_eq, Bool.not_eq_true'] at h
    obtain ⟨⟨⟨h1, h2⟩, h3⟩, h4⟩ := h
    split at h2
    · rename_i kk hk
      have nd := of_decide_eq_true h2
      obtain ⟨p1, p2, p3, p4, p5⟩ := pps_k (X := X) (pos := pos) h1
      obtain ⟨eq1, lk⟩ := keys_kV hk
      have n0 : ks ≠ [] := fun e => by
        rw [e] at p2
        have : L = [] := List.length_eq_zero_iff.mp p2.symm
        rw [this] at h3
        cases h3
      refine PE.imp (pe_disp p1 p4 (by rw [p2, p3]) n0 (by rw [p2]; exact h4)) fun σ H Q q => ?_
      intro p np
      have zl : (kk.zip (L.map fun p => vK p.2)).map (·.1) = kk := zip_fst kk _ (by rw [lk, List.length_map])
      have mg : mergeK [] (kk.zip (L.map fun p => vK p.2)) = kk.zip (L.map fun p => vK p.2) := merge_new _ [] (fun q _ z => absurd z List.not_mem_nil) (by rw [zl]; exact nd)
      refine pairs_k σ _ _ ⟨upd_same, kk.zip (L.map fun p => vK p.2), eq1, by rw [List.length_zip, lk, List.length_map, Nat.min_self]; exact h4, ?_⟩
      rw [mg]
      have uu : upd (upd H p (.dK [])) p (.dK (kk.zip (L.map fun p => vK p.2))) = upd H p (.dK (kk.zip (L.map fun p => vK p.2))) := by
        funext b
        by_cases e : b = p
        · rw [e, upd_same, upd_same]
        · rw [upd_ne e, upd_ne e, upd_ne e]
      rw [uu]
      obtain ⟨S, R, ρ, rel, q⟩ := q
      rw [ev] at q
      obtain ⟨ds, e1, e2, e3⟩ := evs_k (M := M) (Φ := Φ) ρ hL
      rw [e1] at q
      have q : PostE M S H σ R Q (.dic true 0 (evens ds) (odds ds)) ρ := q
      rw [e2, e3] at q
      have sub : MP.Same H (upd H p (.dK (kk.zip (L.map fun p => vK p.2)))) := fun b o eb => by
        rw [upd_ne]
        · exact eb
        · intro z; rw [z, np] at eb; cases eb
      have np' : S p = none := by
        cases z : S p with
        | none => rfl
        | some o =>
          have := rel.sub p o z
          rw [np] at this; cases this
      have nR : ∀ a, R a → a ≠ p := fun a x e => by
        obtain ⟨_, o, l2, _⟩ := rel.live a x
        rw [e, np] at l2; cases l2
      refine q (.ref p) _ S R (fun a => a = p) ⟨Same.refl S, fun a o e _ => sub a o e, fun a x => ?_, fun a o e => .inl e⟩ (rel.grow (Same.refl S) (rel.sub.trans sub) fun a x => ⟨(rel.live a x).1, upd_ne (nR a x)⟩) ?_ (fun a x => ?_) fun a x y => nR a x y
      · rcases x with x | x
        · exact .inl x
        · exact .inr (by rw [x]; exact np)
      · rw [RepV]
        refine ⟨p, L.map fun p => vK p.2, _, none_, rfl, ?_, upd_same, by rw [List.length_map, ← lim_eq]; exact Nat.le_trans h4 (by decide), by rw [List.length_map, List.length_map], rfl, fun b x => x.elim, p5 M.K S _⟩
        unfold dicHO
        rw [if_pos rfl, hk]
        show (if kk.Nodup then _ else _) = _
        rw [if_pos nd]
      · subst x
        exact ⟨np', _, upd_same, Tp.dK⟩
    · cases h2
  · cases h
theorem in_zip : ("zip" : Str) ∈ MP.blt := by decide +kernel
theorem in_enumerate : ("enumerate" : Str) ∈ MP.blt := by decide +kernel
theorem in_range : ("range" : Str) ∈ MP.blt := by decide +kernel
mutual
theorem snd_E : ∀ (c : CE) {g : Gx} {X : Cx} {W : WX} {e : Expr}, Sit M n g X W → Calls M Φ n → chkE g c e = true → SE M W Φ X c e
  | .rd i [], g, X, W, e, s, cl, h => by
    cases e <;> first | cases h | skip
    have v := var_of s (pos := by assumption) h
    have pe : PE X _ (tE M W Φ (.rd i [])) := PE.imp v fun σ H Q ⟨S, R, ρ, rel, q⟩ => rd_ent rel q
    exact ⟨pe, PT.imp (pt_val pe) fun σ H Q q => tT_tB q, fun j ej => by cases ej; exact v⟩
  | .rd i (_ :: _), g, X, W, e, s, cl, h => by cases e <;> cases h
  | .mv i, g, X, W, e, s, cl, h => by
    cases e <;> first | cases h | skip
    exact SE.of (PE.imp (var_of s (pos := by assumption) h) fun σ H Q ⟨S, R, ρ, rel, q⟩ => mv_ent rel q) rfl fun j e => nomatch e
  | .bw i, g, X, W, e, s, cl, h => by
    cases e <;> first | cases h | skip
    have v := var_of s (pos := by assumption) h
    have pe : PE X _ (tE M W Φ (.bw i)) := PE.imp v fun σ H Q ⟨S, R, ρ, rel, q⟩ => by rw [ev] at q; exact q.elim
    exact SE.of pe rfl fun j e => nomatch e
  | .fz c, g, X, W, e, s, cl, h => by
    rw [chkE] at h
    have k := snd_E c s cl h
    refine ⟨PE.imp k.pe fun σ H Q ⟨S, R, ρ, rel, q⟩ => fz_ent rel q, PT.imp k.pt fun σ H Q ⟨S, R, ρ, rel, q⟩ => ?_, fun i e => nomatch e⟩
    rw [ev] at q
    refine ⟨S, R, ρ, rel, q.bind.mono fun d ρ1 h1 => ?_⟩
    obtain ⟨b, e, k⟩ := h1
    cases d with
    | bl _ => cases e; exact ⟨_, rfl, k⟩
    | _ => cases e
  | .k d, g, X, W, e, s, cl, h => by
    cases e <;> first | cases h | skip
    exact SE.of (k_ok s h) rfl fun j e => nomatch e
  | .gl y d, g, X, W, e, s, cl, h => by
    cases e <;> first | cases h | skip
    exact SE.of (gl_ok s h) rfl fun j e => nomatch e
  | .op o as, g, X, W, e, s, cl, h => by
    rw [chkE] at h
    cases q : opArgs g.sc o e with
    | none => rw [q] at h; cases h
    | some es =>
      rw [q] at h
      simp only [Bool.and_eq_true] at h
      have pl := all_mem h.1
      have ha := (snd_L as es s cl h.2).P
      obtain ⟨r, ok, k⟩ := op_tie s q pl
      obtain ⟨r', ok', k'⟩ := op_tieT s q pl
      refine ⟨PE.imp (k _ ha) fun σ H Q ⟨S, R, ρ, rel, z⟩ => op_ent ok rel z, PT.imp (k' _ ha) fun σ H Q z => ?_, fun i e => nomatch e⟩
      obtain ⟨S, R, ρ, rel, z⟩ := tT_tB z
      exact op_ent ok' rel z
  | .tup as, g, X, W, e, s, cl, h => by
    cases e <;> first | cases h | skip
    rw [chkE] at h
    simp only [Bool.and_eq_true, decide_eq_true_eq] at h
    exact SE.of (PE.imp (pe_tup (pa_all (all_mem h.1.1) (snd_L as _ s cl h.2).L)) fun σ H Q ⟨S, R, ρ, rel, z⟩ => tup_ent h.1.2 rel z) rfl fun j e => nomatch e
  | .lst as, g, X, W, e, s, cl, h => by
    cases e <;> first | cases h | skip
    rw [chkE] at h
    simp only [Bool.and_eq_true, decide_eq_true_eq] at h
    exact SE.of (PE.imp (pe_lst (pa_all (all_mem h.1.1) (snd_L as _ s cl h.2).L)) fun σ H Q ⟨S, R, ρ, rel, z⟩ => lst_ent h.1.2 rel z) rfl fun j e => nomatch e
  | .dic kd as, g, X, W, e, s, cl, h => by
    unfold chkE at h
    split at h <;> first | contradiction | skip
    · rename_i kd' pos ec
      cases ec
      rw [decide_eq_true_eq] at h
      exact SE.of (dic_ok_ s h) rfl fun j e => nomatch e
    · rename_i ec
      cases ec
      rw [Bool.and_eq_true, decide_eq_true_eq] at h
      obtain ⟨rfl, h⟩ := h
      exact SE.of (disp_ok_ s h) rfl fun j e => nomatch e
  | .meth o a as, g, X, W, e, s, cl, h => by
    unfold chkE at h
    split at h <;> first | contradiction | skip
    rename_i o' a' as' e' f apos es cpos ec
    cases ec
    rw [Bool.and_eq_true, Bool.and_eq_true] at h
    exact SE.of (meth_ok_ s h.1.1 (snd_E a s cl h.1.2) (snd_L as es s cl h.2)) rfl fun j e => nomatch e
  | .call f as, g, X, W, e, s, cl, h => by
    unfold chkE at h
    split at h <;> first | contradiction | skip
    rename_i f' as' x p e' es pos ec
    cases ec
    cases q : g.T.fns[f]? with
    | none => rw [q] at h; cases h
    | some F =>
      rw [q] at h
      rw [Bool.and_eq_true] at h
      exact SE.of (call_ok s cl q h.1 h.2 (snd_L as (e' :: es) s cl h.2)) rfl fun j e => nomatch e
  | .and_ a b, g, X, W, e, s, cl, h => by
    unfold chkE at h
    split at h <;> first | contradiction | skip
    rename_i a' b' x y r pos ec
    cases ec
    rw [Bool.and_eq_true] at h
    have k := snd_E a s cl h.1
    have k2 := snd_E b s cl h.2
    cases r with
    | nil => exact ⟨PE.imp (pe_and k.pe (pe_one k2.pe)) fun σ H Q q => and_ent q, (PT.imp (pw_and k.pt (pw_and1 k2.pt)).pt fun σ H Q q => and_entT q), fun j e => nomatch e⟩
    | cons z r => exact ⟨PE.imp (pe_and k.pe k2.pe) fun σ H Q q => and_ent q, (PT.imp (pw_and k.pt (PT.pw k2.pt)).pt fun σ H Q q => and_entT q), fun j e => nomatch e⟩
  | .or_ a b, g, X, W, e, s, cl, h => by
    unfold chkE at h
    split at h <;> first | contradiction | skip
    rename_i a' b' x y r pos ec
    cases ec
    rw [Bool.and_eq_true] at h
    have k := snd_E a s cl h.1
    have k2 := snd_E b s cl h.2
    cases r with
    | nil => exact ⟨PE.imp (pe_or k.pe (pe_one k2.pe)) fun σ H Q q => or_ent q, (PT.imp (pw_or k.pt (pw_or1 k2.pt)).pt fun σ H Q q => or_entT q), fun j e => nomatch e⟩
    | cons z r => exact ⟨PE.imp (pe_or k.pe k2.pe) fun σ H Q q => or_ent q, (PT.imp (pw_or k.pt (PT.pw k2.pt)).pt fun σ H Q q => or_entT q), fun j e => nomatch e⟩
  | .not_ a, g, X, W, e, s, cl, h => by
    unfold chkE at h
    split at h <;> first | contradiction | skip
    rename_i a' x pos ec
    cases ec
    have k := snd_E a s cl h
    exact ⟨PE.imp (pe_not k.pe) fun σ H Q q => not_ent q, PT.imp (pt_not k.pt) fun σ H Q q => not_entT q, fun j e => nomatch e⟩
  | .chain o p a b c, g, X, W, e, s, cl, h => by
    unfold chkE at h
    split at h <;> first | contradiction | skip
    rename_i o' p' a' b' c' x c1 c2 y z pos ec
    cases ec
    simp only [Bool.and_eq_true] at h
    obtain ⟨⟨⟨⟨h1, h2⟩, h3⟩, h4⟩, h5⟩ := h
    obtain ⟨r, o1, ok, m1⟩ := cmp_tie s h1
    obtain ⟨r', o2, ok', m2⟩ := cmp_tie s h2
    have ka := snd_E a s cl h3
    have kb := snd_E b s cl h4
    have kc := snd_E c s cl h5
    exact ⟨PE.imp (pe_chain o1 o2 ka.pe kb.pe kc.pe (m2 z)) fun σ H Q q => chain_ent ok ok' q, PT.imp (pt_chain o1 o2 ka.pe kb.pe kc.pe (m2 z)) fun σ H Q q => chain_ent ok ok' (tT_tB q), fun j e => nomatch e⟩
  | .comp elt t c2 c own, g, X, W, e, s, cl, h => by
    unfold chkE at h
    split at h <;> first | contradiction | skip
    rename_i elt' t' s' c' own' e' tg iter ifs z scope pos ec
    cases ec
    simp only [Bool.and_eq_true, decide_eq_true_eq] at h
    obtain ⟨⟨⟨⟨⟨⟨⟨⟨hz, htg⟩, h1⟩, h2⟩, h3⟩, h4⟩, h5⟩, h6⟩, h7⟩ := h
    subst hz
    have sl : ∀ j ∈ t.slots, j ∈ own := fun j hj => by
      have := List.all_eq_true.mp h7 j hj
      simpa using this
    have pe := pe_lc (pos := pos) s.calm (by rw [s.N]; exact s.nd) (snd_I (W := W) (tg := tg) c2 htg s cl h2) (by rw [s.N, s.sc]; exact blkOk_by h3)
      (fun s0 H C cl fp => snd_G (s.blk (scope := scope) (own := own) s0 H C cl fp) t tg h4)
      (fun s0 H C cl' fp => snd_O c (s.blk (scope := scope) (own := own) s0 H C cl' fp) cl h5)
      (fun s0 H C cl' fp => (snd_E elt (s.blk (scope := scope) (own := own) s0 H C cl' fp) cl h6).pe) (fun x => fold_plain h1 _ x)
    refine SE.of (PE.imp pe fun σ H Q q => ?_) rfl fun j e => nomatch e
    rw [ownP_map]
    exact compE_ent sl q
  | .mut p m as, g, X, W, e, s, cl, h => by
    unfold chkE at h
    split at h <;> first | contradiction | skip
    · rename_i i as' x p' f apos e' e2 cpos ec1
      cases ec1
      rw [Bool.and_eq_true] at h
      exact SE.of (ins_ok_ s h.1 (snd_L as [e', e2] s cl h.2)) rfl fun j e => nomatch e
    · rename_i i m' x p' f apos cpos ec1
      cases ec1
      exact SE.of (mut0_ok_ s h) rfl fun j e => nomatch e
    · rename_i i m' as' x p' f apos e' es cpos _ ec1
      cases ec1
      rw [Bool.and_eq_true] at h
      exact SE.of (mut_ok_ s h.1 (snd_L as (e' :: es) s cl h.2)) rfl fun j e => nomatch e
  | .sortk _ _, g, X, W, e, s, cl, h => by cases e <;> cases h
theorem snd_L : ∀ (as : CL) (es : List Expr) {g : Gx} {X : Cx} {W : WX}, Sit M n g X W → Calls M Φ n → chkL g as es = true → AllC M W Φ X as es
  | .nil, [], g, X, W, s, cl, h => .nil
  | .nil, _ :: _, g, X, W, s, cl, h => by cases h
  | .cons _ _, [], g, X, W, s, cl, h => by cases h
  | .cons a as, e :: es, g, X, W, s, cl, h => by
    rw [chkL, Bool.and_eq_true] at h
    exact .cons (snd_E a s cl h.1) (snd_L as es s cl h.2)
theorem snd_O : ∀ (c : CO) {ifs : List Expr} {g : Gx} {X : Cx} {W : WX}, Sit M n g X W → Calls M Φ n → chkO g c ifs = true → PTs X ifs (tO M W Φ c)
  | .none, ifs, g, X, W, s, cl, h => by
    cases ifs <;> first | exact pts_nil | cases h
  | .some c, ifs, g, X, W, s, cl, h => by
    rcases ifs with _ | ⟨e, _ | ⟨_, _⟩⟩
    · cases h
    · exact pts_one (snd_E c s cl h).pt
    · cases h
theorem snd_I {tg : Expr} : ∀ (c : CI) {e : Expr} {g : Gx} {X : Cx} {W : WX}, srcTg c tg = true → Sit M n g X W → Calls M Φ n → chkI g c e = true → PI X tg e (tI M Φ W c)
  | .se c, e, g, X, W, ht, s, cl, h => by
    rw [chkI, Bool.and_eq_true] at h
    have k := snd_E c s cl h.2
    have pe : PE X e fun σ H Q => tE M W Φ c σ H Q ∨ ∃ i, c = .rd i [] ∧ tVar i σ H Q :=
      ⟨fun pins s σ H Q I q => q.elim (k.pe.run pins s σ H Q I) fun ⟨i, ei, q⟩ => (k.pv i ei).run pins s σ H Q I q⟩
    refine PI.imp (pi_any pe) fun σ H J q => ?_
    rw [s.K]
    exact se_ent q
  | .rng1 a, e, g, X, W, ht, s, cl, h => by
    unfold chkI at h
    split at h <;> first | contradiction | skip
    rename_i a' x p e' pos ec
    cases ec
    simp only [Bool.and_eq_true, decide_eq_true_eq] at h
    obtain ⟨⟨⟨rfl, h1⟩, h2⟩, h3⟩ := h
    have k := snd_E a s cl h3
    have pl : ∀ y ∈ [e'], plainX y = true := fun y hy => by rw [List.mem_singleton] at hy; rw [hy]; exact h2
    exact PI.imp (pi_range1 (s.gl h1) (s.free in_range) (pa_all pl (.cons k.pe .nil)) (star_plain h2 _ _)) fun σ H J q => rng1_ent q
  | .rng2 a b, e, g, X, W, ht, s, cl, h => by
    unfold chkI at h
    split at h <;> first | contradiction | skip
    rename_i a' b' x p e' e2 pos ec
    cases ec
    simp only [Bool.and_eq_true, decide_eq_true_eq] at h
    obtain ⟨⟨⟨⟨⟨rfl, h1⟩, h2⟩, h2'⟩, h3⟩, h4⟩ := h
    have k := snd_E a s cl h3
    have k2 := snd_E b s cl h4
    have pl : ∀ y ∈ [e', e2], plainX y = true := fun y hy => by
      rcases List.mem_cons.mp hy with hy | hy
      · rw [hy]; exact h2
      · rw [List.mem_singleton] at hy; rw [hy]; exact h2'
    exact PI.imp (pi_range2 (s.gl h1) (s.free in_range) (pa_all pl (.cons k.pe (.cons k2.pe .nil))) (by rw [star_plain h2, star_plain h2']; rfl) (star_plain h2' _ _)) fun σ H J q => rng2_ent q
  | .enu a, e, g, X, W, ht, s, cl, h => by
    unfold chkI at h
    split at h <;> first | contradiction | skip
    rename_i a' x p e' pos ec
    cases ec
    simp only [Bool.and_eq_true, decide_eq_true_eq] at h
    obtain ⟨⟨⟨rfl, h1⟩, h2⟩, h3⟩ := h
    have k := snd_E a s cl h3
    cases tg <;> first | (cases ht; done) | skip
    have pe : PE X e' fun σ H Q => tE M W Φ a σ H Q ∨ ∃ i, a = .rd i [] ∧ tVar i σ H Q :=
      ⟨fun pins s σ H Q I q => q.elim (k.pe.run pins s σ H Q I) fun ⟨i, ei, q⟩ => (k.pv i ei).run pins s σ H Q I q⟩
    refine PI.imp (pi_enuA (s.gl h1) (s.free in_enumerate) pe (star_plain h2 _ _)) fun σ H J q => ?_
    rw [s.K]
    exact enu_ent q
  | .zip a b, e, g, X, W, ht, s, cl, h => by
    unfold chkI at h
    split at h <;> first | contradiction | skip
    rename_i a' b' x p e' e2 pos ec
    cases ec
    simp only [Bool.and_eq_true, decide_eq_true_eq] at h
    obtain ⟨⟨⟨⟨⟨rfl, h1⟩, h2⟩, h2'⟩, h3⟩, h4⟩ := h
    have k := snd_E a s cl h3
    have k2 := snd_E b s cl h4
    have pl : ∀ y ∈ [e', e2], plainX y = true := fun y hy => by
      rcases List.mem_cons.mp hy with hy | hy
      · rw [hy]; exact h2
      · rw [List.mem_singleton] at hy; rw [hy]; exact h2'
    cases tg <;> first | (cases ht; done) | skip
    refine PI.imp (pi_zip (s.gl h1) (s.free in_zip) (pa_all pl (.cons k.pe (.cons k2.pe .nil))) (star_plain h2 _ _) (stars_none (es := [e2]) (fun y hy => pl y (List.mem_cons_of_mem _ hy)) _ _)) fun σ H J q => ?_
    rw [s.K]
    exact zip_ent q
  | .items _, e, g, X, W, ht, s, cl, h => by cases e <;> cases h
  | .revd _, e, g, X, W, ht, s, cl, h => by cases e <;> cases h
end
end
end MP

set_option autoImplicit false
set_option linter.all false
set_option maxRecDepth 100000
/-! MP: statements, read. -/
namespace MP
open PySem L2

section
variable (M : Md) (W : WX) (as : List Nat) (rh : Own)
/-- what is wanted of a statement's outcome; rh is held aside -/
def OutS (S H : Hp) (σ : L2.St) (R : Own) (D : Ends) : SR → Prop
  | .next ρ' => ∀ σ' H' S' R', Fr S H (fun a => R a ∨ rh a) S' H' (fun a => R' a ∨ rh a) → Rel M.K S' H' σ' ρ' R' → Live S' H' rh → (∀ a, R' a → ¬ rh a) → (∀ a, rh a → H' a = H a) → Agree as σ σ' → D.nx σ' H'
  | .ret d ρ' => ∀ v σ' H' S' R' r, Fr S H (fun a => R a ∨ rh a) S' H' (fun a => (R' a ∨ r a) ∨ rh a) → Rel M.K S' H' σ' ρ' R' → RepV M.K S' H' d v r → Live S' H' (fun a => r a ∨ rh a) → (∀ a, R' a → ¬ (r a ∨ rh a)) → (∀ a, r a → ¬ rh a) → (∀ a, rh a → H' a = H a) → Agree as σ σ' → D.rt v H'
  | .brk ρ' => ∀ σ' H' S' R', Fr S H (fun a => R a ∨ rh a) S' H' (fun a => R' a ∨ rh a) → Rel M.K S' H' σ' ρ' R' → Live S' H' rh → (∀ a, R' a → ¬ rh a) → (∀ a, rh a → H' a = H a) → Agree as σ σ' → D.bk σ' H'
  | .cont ρ' => ∀ σ' H' S' R', Fr S H (fun a => R a ∨ rh a) S' H' (fun a => R' a ∨ rh a) → Rel M.K S' H' σ' ρ' R' → Live S' H' rh → (∀ a, R' a → ¬ rh a) → (∀ a, rh a → H' a = H a) → Agree as σ σ' → D.ct σ' H'
  | .ex k ρ' => ∀ σ' H' S' R', Fr S H (fun a => R a ∨ rh a) S' H' (fun a => R' a ∨ rh a) → Rel M.K S' H' σ' ρ' R' → Live S' H' rh → (∀ a, R' a → ¬ rh a) → (∀ a, rh a → H' a = H a) → Agree as σ σ' → W (.ref (M.ad k)) none σ' H'
  | .bad => False
end
section
variable (M : Md) (W : WX) (Φ : Nat → List D → FR) (as : List Nat)
def tS (c : CS) : TS := fun D σ H => ∃ S R ρ, Rel M.K S H σ ρ R ∧ OutS M W as none_ S H σ R D (ex M.T Φ M.T.sub c ρ)
end
section
variable {M : Md} {W : WX} {Φ : Nat → List D → FR} {as : List Nat} {rh : Own} {S H S1 H1 : Hp} {σ σ1 : L2.St} {R R1 T1 : Own} {D : Ends}
theorem Fr.hold {S' H' : Hp} {R' : Own} (f : Fr S H R S' H' R') : Fr S H (fun a => R a ∨ none_ a) S' H' (fun a => R' a ∨ none_ a) := ⟨f.ss, fun a o e n => f.keep a o e fun x => n (.inl x), fun a x => (f.res a (x.elim id False.elim)).imp .inl id, fun a o e => (f.shr a o e).imp id fun x => x.imp .inl id⟩
theorem Fr.hold2 {S' H' : Hp} {R' r : Own} (f : Fr S H R S' H' (fun a => R' a ∨ r a)) : Fr S H (fun a => R a ∨ none_ a) S' H' (fun a => (R' a ∨ r a) ∨ none_ a) := ⟨f.ss, fun a o e n => f.keep a o e fun x => n (.inl x), fun a x => (f.res a (x.elim id False.elim)).imp .inl id, fun a o e => (f.shr a o e).imp id fun x => x.imp .inl id⟩
theorem Fr.free {S' H' : Hp} {R' : Own} (f : Fr S H (fun a => R a ∨ none_ a) S' H' (fun a => R' a ∨ none_ a)) : Fr S H R S' H' R' := ⟨f.ss, fun a o e n => f.keep a o e fun x => n (x.elim id False.elim), fun a x => (f.res a (.inl x)).imp (fun z => z.elim id False.elim) id, fun a o e => (f.shr a o e).imp id fun x => x.imp (fun z => z.elim id False.elim) id⟩
theorem Fr.free2 {S' H' : Hp} {R' r : Own} (f : Fr S H (fun a => R a ∨ none_ a) S' H' (fun a => (R' a ∨ r a) ∨ none_ a)) : Fr S H R S' H' (fun a => R' a ∨ r a) := ⟨f.ss, fun a o e n => f.keep a o e fun x => n (x.elim id False.elim), fun a x => (f.res a (.inl x)).imp (fun z => z.elim id False.elim) id, fun a o e => (f.shr a o e).imp id fun x => x.imp (fun z => z.elim id False.elim) id⟩
theorem Agree.tr {js : List Nat} {σ σ1 σ2 : L2.St} (a : Agree js σ σ1) (b : Agree js σ1 σ2) : Agree js σ σ2 :=
  ⟨b.1.trans a.1, fun i h => (b.2 i h).trans (a.2 i h)⟩
theorem Agree.sub {is js : List Nat} {σ σ1 : L2.St} (a : Agree is σ σ1) (k : ∀ i ∈ is, i ∈ js) : Agree js σ σ1 := ⟨a.1, fun i h => a.2 i fun z => h (k i z)⟩
theorem Agree.set {js : List Nat} {σ : L2.St} {i : Nat} {x : Option V} (h : i ∈ js) : Agree js σ (σ.set i x) := ⟨List.length_set, fun j hj => List.getElem?_set_ne fun z => hj (by rw [← z]; exact h)⟩

/-- the outcome of a later part, from a later state -/
theorem OutS.later {r : SR} (h : OutS M W as none_ S H σ R D r) (f : Fr S H R S1 H1 T1) (k : ∀ a, R1 a → T1 a) (ag : Agree as σ σ1) : OutS M W as none_ S1 H1 σ1 R1 D r := by
  have go : ∀ {S' H' : Hp} {R' : Own}, Fr S1 H1 (fun a => R1 a ∨ none_ a) S' H' (fun a => R' a ∨ none_ a) → Fr S H (fun a => R a ∨ none_ a) S' H' (fun a => R' a ∨ none_ a) := fun g => ((f.trans g.free k).less fun a x => .inl x).hold
  cases r with
  | next ρ' => exact fun σ' H' S' R' g rel l d e a => h σ' H' S' R' (go g) rel l d (fun _ x => x.elim) (ag.tr a)
  | brk ρ' => exact fun σ' H' S' R' g rel l d e a => h σ' H' S' R' (go g) rel l d (fun _ x => x.elim) (ag.tr a)
  | cont ρ' => exact fun σ' H' S' R' g rel l d e a => h σ' H' S' R' (go g) rel l d (fun _ x => x.elim) (ag.tr a)
  | ex j ρ' => exact fun σ' H' S' R' g rel l d e a => h σ' H' S' R' (go g) rel l d (fun _ x => x.elim) (ag.tr a)
  | ret d ρ' => exact fun v σ' H' S' R' r g rel rep l d nr e a => h v σ' H' S' R' r ((f.trans g.free2 k).less fun a x => .inl x).hold2 rel rep l d nr (fun _ x => x.elim) (ag.tr a)
  | bad => exact h
/-- a value first -/
theorem OutS.st {α : Type} {x : MP.R α} {f : α → Rho → SR} (h : OutS M W as none_ S H σ R D (x.st f)) : OutR M W S H σ R (fun a ρ => OutS M W as none_ S H σ R D (f a ρ)) x := by
  cases x with
  | ok a ρ => exact h
  | ex k ρ => exact fun H' S' R' g rel => h σ H' S' R' g.hold rel (fun _ x => x.elim) (fun _ _ x => x) (fun _ x => x.elim) Agree.refl
  | bad => exact h
/-- .. given its part -/
theorem OutS.nx {ρ : Rho} (h : OutS M W as none_ S H σ R D (.next ρ)) {σ' : L2.St} {H' S' : Hp} {R' : Own} (f : Fr S H R S' H' R') (rel : Rel M.K S' H' σ' ρ R') (ag : Agree as σ σ') : D.nx σ' H' :=
  h σ' H' S' R' f.hold rel (fun _ x => x.elim) (fun _ _ x => x) (fun _ x => x.elim) ag
theorem OutS.ofO {o : Option Rho} (h : OutS M W as none_ S H σ R D (SR.ofO o)) : ∃ ρ, o = some ρ ∧ OutS M W as none_ S H σ R D (.next ρ) := by
  cases o with
  | none => exact h.elim
  | some ρ => exact ⟨ρ, rfl, h⟩

theorem asg_ent {t : CG} {c : CE} (ts : ∀ i ∈ t.slots, i ∈ as) (h : tS M W Φ as (.asg t c) D σ H) : tAsg (tE M W Φ c) (tG M t) D σ H := by
  obtain ⟨S, R, ρ, rel, h⟩ := h
  rw [ex] at h
  refine ⟨S, R, ρ, rel, h.st.mono fun d ρ1 h1 => ?_⟩
  intro v H1 S1 R1 r f1 rel1 rep live dj
  obtain ⟨ρ2, e, h2⟩ := OutS.ofO h1
  refine ⟨S1, R1, ρ1, d, r, ρ2, rel1, rep, live, dj, e, fun σ' R' rel2 s2 ag => h2.nx (f1.less s2) rel2 (ag.sub ts)⟩
/-- name = value, where the library's rule stores the name itself -/
theorem asgN_ent {i : Nat} {c : CE} {te : TE} (ts : i ∈ as) (k : ∀ σ H Q, tE M W Φ c σ H Q → te σ H Q) (h : tS M W Φ as (.asg (.nm i) c) D σ H) : tAsg te (gName i) D σ H := by
  obtain ⟨S, R, ρ, rel, h⟩ := h
  rw [ex] at h
  refine k _ _ _ ⟨S, R, ρ, rel, h.st.mono fun d ρ1 h1 => ?_⟩
  intro v H1 S1 R1 r f1 rel1 rep live dj
  obtain ⟨ρ2, e, h2⟩ := OutS.ofO h1
  rw [putG] at e
  split at e
  · rename_i hi
    cases e
    exact h2.nx f1 (rel1.put hi rep live dj) (Agree.set ts)
  · cases e
theorem ret_ent {c : CE} (h : tS M W Φ as (.ret c) D σ H) : tRet (tE M W Φ c) D σ H := by
  obtain ⟨S, R, ρ, rel, h⟩ := h
  rw [ex] at h
  refine ⟨S, R, ρ, rel, h.st.mono fun d ρ1 h1 => ?_⟩
  intro v H1 S1 R1 r f1 rel1 rep live dj
  exact h1 v σ H1 S1 R1 r f1.hold2 rel1 rep (fun a x => live a (x.elim id False.elim)) (fun a x y => dj a x (y.elim id False.elim)) (fun _ _ x => x) (fun _ x => x.elim) Agree.refl
theorem expr_ent {c : CE} (h : tS M W Φ as (.ex c) D σ H) : tDrop (tE M W Φ c) D σ H := by
  obtain ⟨S, R, ρ, rel, h⟩ := h
  rw [ex] at h
  refine ⟨S, R, ρ, rel, h.st.mono fun d ρ1 h1 => ?_⟩
  intro v H1 S1 R1 r f1 rel1 rep live dj
  exact h1.nx (f1.less fun a x => .inl x) rel1 Agree.refl
theorem if_ent {c : CE} {a b : CS} (h : tS M W Φ as (.ife c a b) D σ H) : tIfS (tT M W Φ c) (tS M W Φ as a) (tS M W Φ as b) D σ H := by
  obtain ⟨S, R, ρ, rel, h⟩ := h
  rw [ex] at h
  refine ⟨S, R, ρ, rel, h.st.mono fun d ρ1 h1 => ?_⟩
  cases d with
  | bl k =>
    refine ⟨k, rfl, fun H1 S1 R1 f1 rel1 => ?_⟩
    cases k with
    | true => exact ⟨S1, R1, ρ1, rel1, OutS.later h1 f1 (fun _ x => x) Agree.refl⟩
    | false => exact ⟨S1, R1, ρ1, rel1, OutS.later h1 f1 (fun _ x => x) Agree.refl⟩
  | _ => exact h1.elim
theorem seq_ent {a b : CS} (h : tS M W Φ as (.seq a b) D σ H) : tSeq (tS M W Φ as a) (tS M W Φ as b) D σ H := by
  obtain ⟨S, R, ρ, rel, h⟩ := h
  rw [ex] at h
  refine ⟨S, R, ρ, rel, ?_⟩
  cases q : ex M.T Φ M.T.sub a ρ with
  | next ρ1 =>
    rw [q] at h
    exact fun σ' H' S' R' g rel' _ _ _ ag => ⟨S', R', ρ1, rel', OutS.later h g.free (fun _ x => x) ag⟩
  | ret d ρ1 => rw [q] at h; exact h
  | brk ρ1 => rw [q] at h; exact h
  | cont ρ1 => rw [q] at h; exact h
  | ex k ρ1 => rw [q] at h; exact h
  | bad => rw [q] at h; exact h
theorem kill_ent {is : List Nat} {b : CS} (h : tS M W Φ as (.seq (.kill is) b) D σ H) : tS M W Φ as b D σ H := by
  obtain ⟨S, R, ρ, rel, h⟩ := h
  rw [ex, ex] at h
  have : ∀ (is : List Nat) (ρ : Rho), Rel M.K S H σ ρ R → Rel M.K S H σ (is.foldl (fun ρ i => ρ.set i none) ρ) R := by
    intro is
    induction is with
    | nil => exact fun ρ r => r
    | cons i is ih => exact fun ρ r => ih _ (r.drop i)
  exact ⟨S, R, _, this is ρ rel, h⟩
open Classical in
theorem frz_ent {i : Nat} {b : CS} (h : tS M W Φ as (.seq (.frz i []) b) D σ H) : tS M W Φ as b D σ H := by
  obtain ⟨S, R, ρ, rel, h⟩ := h
  rw [ex, ex] at h
  cases q : ρ.get i with
  | none => rw [q] at h; exact h.elim
  | some d =>
    rw [q] at h
    have h : OutS M W as none_ S H σ R D (ex M.T Φ M.T.sub b (ρ.set i (some d.frz))) := h
    obtain ⟨v, R1, r, e, rel1, rep, live, dj, s1, s2⟩ := rel.take q
    have k0 : ∀ a, r a → S a = none := fun a x => (live a x).1
    have kS := addS_same (H := H) k0
    have sub : MP.Same (addS S H r) H := fun a o e => by
      unfold addS at e
      split at e
      · exact e
      · exact rel.sub a o e
    have rel2 : Rel M.K (addS S H r) H σ (ρ.set i none) R1 := rel1.grow kS sub fun a x => ⟨by unfold addS; rw [if_neg (dj a x)]; exact (rel1.live a x).1, rfl⟩
    have hi : i < (ρ.set i none).length := by
      rw [List.length_set]
      exact (List.getElem?_eq_some_iff.mp (Rho.get_eq q)).1
    have rel3 := rel2.put' (r := none_) hi e (RepV.frz k0 d v r rep fun _ x => x) (fun a x => x.elim) fun a _ x => x
    rw [List.set_set] at rel3
    refine ⟨addS S H r, _, _, rel3, OutS.later (T1 := fun a => R1 a ∨ none_ a) h ⟨kS, fun a o e _ => e, fun a x => .inl (x.elim (s1 a) False.elim), fun a o e => ?_⟩ (fun _ x => x) Agree.refl⟩
    unfold addS at e
    split at e
    · rename_i x
      exact .inr (.inl (s2 a x))
    · exact .inl e
theorem nil_ent (h : tS M W Φ as .nil D σ H) : tNext D σ H := by
  obtain ⟨S, R, ρ, rel, h⟩ := h
  rw [ex] at h
  exact h.nx Fr.refl rel Agree.refl
theorem pass_ent (h : tS M W Φ as .pass D σ H) : tNext D σ H := by
  obtain ⟨S, R, ρ, rel, h⟩ := h
  rw [ex] at h
  exact h.nx Fr.refl rel Agree.refl
theorem brk_ent (h : tS M W Φ as .brk D σ H) : tBreak D σ H := by
  obtain ⟨S, R, ρ, rel, h⟩ := h
  rw [ex] at h
  exact h σ H S R Fr.refl.hold rel (fun _ x => x.elim) (fun _ _ x => x) (fun _ x => x.elim) Agree.refl
theorem cont_ent (h : tS M W Φ as .cont D σ H) : tCont D σ H := by
  obtain ⟨S, R, ρ, rel, h⟩ := h
  rw [ex] at h
  exact h σ H S R Fr.refl.hold rel (fun _ x => x.elim) (fun _ _ x => x) (fun _ x => x.elim) Agree.refl
/-- name op= value -/
def augR : TIp := fun x y H Q => (∃ i j : Int, x = .int i ∧ y = .int j ∧ Q (.int (i + j)) H) ∨ ∃ i j : Str, x = .str i ∧ y = .str j ∧ i.length + j.length ≤ sizeLine ∧ Q (.str (i ++ j)) H
theorem ip_aug {X : Cx} : PIp X .Add augR := by
  intro pins s σ H x y v u Q I rx ry q
  rcases q with q | q
  · exact ip_add pins s σ H x y v u Q I rx ry q
  · exact iop_add_str pins s σ H x y v u Q I rx ry q
theorem aug_core {i : Nat} {o : Op} {c : CE} {ti : TIp} (ts : i ∈ as) (h : tS M W Φ as (.aug i o c) D σ H)
    (k : ∀ (S H : Hp) (dx dy d : MP.D) (x y : V) (Q : VK), augF o dx dy = some d → Rep M.K S H dx x → Rep M.K S H dy y → (∀ v, RepV M.K S H d v none_ → Q v H) → ti x y H Q) : tAug i (tE M W Φ c) ti D σ H := by
  obtain ⟨S, R, ρ, rel, h⟩ := h
  rw [ex] at h
  cases q : ρ.get i with
  | none => rw [q] at h; exact h.elim
  | some dx =>
    rw [q] at h
    dsimp only at h
    split at h
    · exact h.elim
    · rename_i nf
      have nf : dx.fl = false := by simpa using nf
      obtain ⟨x, e, r0, _, rep0⟩ := rel.get q
      refine ⟨x, e, S, R, ρ, rel, h.st.mono fun dy ρ1 h1 => ?_⟩
      intro y H1 S1 R1 r f1 rel1 rep live dj
      cases q2 : augF o dx dy with
      | none => rw [q2] at h1; exact h1.elim
      | some d =>
        rw [q2] at h1
        dsimp only at h1
        split at h1
        · rename_i hi
          refine k S1 H1 dx dy d x y _ q2 ⟨none_, RepV.sh_to rep0 nf f1.ss⟩ ⟨r, rep⟩ fun v repv => ?_
          exact h1.nx (f1.less fun a x => .inl (x.elim id False.elim)) (rel1.put hi repv (fun a x => x.elim) fun a _ x => x) (Agree.set ts)
        · exact h1.elim
theorem aug_add {i : Nat} {c : CE} (ts : i ∈ as) (h : tS M W Φ as (.aug i .add c) D σ H) : tAug i (tE M W Φ c) augR D σ H := by
  refine aug_core ts h fun S H dx dy d x y Q e rx ry k => ?_
  unfold augF at e
  split at e
  · cases e
    rename_i i j _
    exact .inl ⟨i, j, rx.int, ry.int, k _ (by rw [RepV])⟩
  · split at e
    · rename_i s t _ hz
      cases e
      refine .inr ⟨_, _, rx.str, ry.str, ?_, k _ ?_⟩
      · show s.toArray.size + t.toArray.size ≤ sizeLine
        rw [List.size_toArray, List.size_toArray, ← lim_eq]
        exact hz
      · rw [RepV]
        refine ⟨?_, by rw [List.length_append, ← lim_eq]; exact hz⟩
        congr 1
        show (⟨s.toArray ++ t.toArray⟩ : Str) = _
        simp
    · cases e
  · contradiction
  · cases e
theorem aug_sub {i : Nat} {c : CE} (ts : i ∈ as) (h : tS M W Φ as (.aug i .sub c) D σ H) : tAug i (tE M W Φ c) (ipI fun i j => i - j) D σ H := by
  refine aug_core ts h fun S H dx dy d x y Q e rx ry k => ?_
  unfold augF at e
  split at e
  · contradiction
  · contradiction
  · cases e
    rename_i i j _
    exact ⟨i, j, rx.int, ry.int, k _ (by rw [RepV])⟩
  · cases e
end
end MP

set_option autoImplicit false
set_option linter.all false
set_option maxRecDepth 100000
/-! MP: loops, stores into lists. -/
namespace MP
open PySem L2

/-- rh is held aside -/
structure Hd (S1 H1 : Hp) (R1 rh : Own) (S H : Hp) (T : Own) : Prop where
  fr : Fr S1 H1 (fun a => R1 a ∨ rh a) S H fun a => T a ∨ rh a
  live : Live S H rh
  dj : ∀ a, T a → ¬ rh a
  hk : ∀ a, rh a → H a = H1 a
section
variable {S1 H1 S H S' H' : Hp} {R1 rh R T : Own}
theorem Hd.less (h : Hd S1 H1 R1 rh S H T) (k : ∀ a, R a → T a) : Hd S1 H1 R1 rh S H R := ⟨h.fr.less fun a x => x.imp (k a) id, h.live, fun a x => h.dj a (k a x), h.hk⟩
theorem Hd.step (h : Hd S1 H1 R1 rh S H R) (f : Fr S H R S' H' T) : Hd S1 H1 R1 rh S' H' T := by
  obtain ⟨a1, a2, a3⟩ := f.aside h.live h.dj
  refine ⟨(h.fr.trans f fun a x => .inl x).less fun a x => ?_, a2, a3, fun a x => (a1 a x).trans (h.hk a x)⟩
  rcases x with x | x
  · exact .inl x
  · exact .inr (.inr x)
theorem Hd.start (lh : Live S H rh) (dj : ∀ a, R a → ¬ rh a) : Hd S H R rh S H R := ⟨Fr.refl, lh, dj, fun _ _ => rfl⟩
end

section
variable {M : Md} {W : WX} {Φ : Nat → List D → FR} {as as' : List Nat} {rh : Own} {S H S1 H1 : Hp} {σ σ1 : L2.St} {R R1 T1 : Own} {D : Ends}
def bodyS (M : Md) (Φ : Nat → List MP.D → FR) (t : CG) (b : CS) : MP.D → Rho → SR := fun x ρ => (SR.ofO (putG t x ρ)).then (ex M.T Φ M.T.sub b)
theorem loop_core {J : It} {xs : List MP.D} {ρ1 : Rho} {t : CG} {b : CS} (wk : Walk M.K J xs S1 H1 rh) (rel : Rel M.K S1 H1 σ ρ1 R1) (lh : Live S1 H1 rh) (dj : ∀ a, R1 a → ¬ rh a) (ts : ∀ i ∈ t.slots, i ∈ as)
    (h : OutS M W as rh S1 H1 σ R1 D (forF (bodyS M Φ t b) xs ρ1)) :
    ∃ Wt : Nat → Nat → L2.St → Hp → Prop, (∃ m, Wt 0 m σ H1) ∧ ∀ i m σ H, Wt i m σ H → (J.stop i H ∧ D.nx σ H) ∨ (J.go i H ∧ ∃ N : L2.St → Hp → Prop, (∀ σ' H', N σ' H' → ∃ m', m' < m ∧ Wt (i + 1) m' σ' H') ∧ ∀ x H', J.yld i H x H' →
      tG M t x σ H' fun σ2 H2 => tS M W Φ as b { D with nx := N, ct := N, bk := D.nx } σ2 H2) := by
  refine ⟨fun i m σ' H' => m = xs.length - i ∧ i ≤ xs.length ∧ ∃ (S' : Hp) (ρ' : Rho) (R' : Own), Hd S1 H1 R1 rh S' H' R' ∧ Rel M.K S' H' σ' ρ' R' ∧ Agree as σ σ' ∧ OutS M W as rh S1 H1 σ R1 D (forF (bodyS M Φ t b) (xs.drop i) ρ'), ⟨_, rfl, Nat.zero_le _, S1, ρ1, R1, Hd.start lh dj, rel, Agree.refl, h⟩, ?_⟩
  rintro i m σ' H' ⟨rfl, hi, S', ρ', R', hd, rel', ag, h'⟩
  have wkH := wk S' H' hd.fr.ss rel'.sub hd.hk
  by_cases hlt : i < xs.length
  · obtain ⟨d, hx⟩ : ∃ d, xs[i]? = some d := ⟨_, List.getElem?_eq_getElem hlt⟩
    have edrop : xs.drop i = d :: xs.drop (i + 1) := by
      rw [List.drop_eq_getElem_cons hlt]
      rw [List.getElem?_eq_getElem hlt] at hx
      rw [Option.some.inj hx]
    rw [edrop, forF] at h'
    refine .inr ⟨(wkH.1 i d hx).1, fun σ' H' => xs.length - (i + 1) = xs.length - (i + 1) ∧ i + 1 ≤ xs.length ∧ ∃ (S' : Hp) (ρ' : Rho) (R' : Own), Hd S1 H1 R1 rh S' H' R' ∧ Rel M.K S' H' σ' ρ' R' ∧ Agree as σ σ' ∧ OutS M W as rh S1 H1 σ R1 D (forF (bodyS M Φ t b) (xs.drop (i + 1)) ρ'), fun σ' H' p => ⟨_, by omega, p⟩, fun x H2 hy => ?_⟩
    obtain ⟨S2, k1, k2, k3, k4, rep⟩ := (wkH.1 i d hx).2 x H2 hy
    have f2 : Fr S' H' R' S2 H2 R' := ⟨k1, fun a o z _ => k3 a o z, fun a x => .inl x, fun a o z => (k4 a o z).elim .inl fun z => .inr (.inr z)⟩
    have rel2 : Rel M.K S2 H2 σ' ρ' R' := rel'.grow k1 k2 fun a x => by
      obtain ⟨l1, o, l2, nt⟩ := rel'.live a x
      refine ⟨?_, by rw [l2]; exact k3 a o l2⟩
      cases z : S2 a with
      | none => rfl
      | some o' =>
        rcases k4 a o' z with y | y | ⟨y, y2⟩
        · rw [l1] at y; cases y
        · rw [l2] at y; cases y
        · rw [y2] at l2; cases l2; exact absurd y nt
    unfold bodyS at h'
    cases e : putG t d ρ' with
    | none => rw [e] at h'; exact h'.elim
    | some ρ2 =>
      rw [e] at h'
      have h' : OutS M W as rh S1 H1 σ R1 D (match ex M.T Φ M.T.sub b ρ2 with
        | .next ρ => forF (bodyS M Φ t b) (xs.drop (i + 1)) ρ
        | .cont ρ => forF (bodyS M Φ t b) (xs.drop (i + 1)) ρ
        | .brk ρ => .next ρ
        | r => r) := h'
      refine ⟨S2, R', ρ', d, none_, ρ2, rel2, rep, fun a x => x.elim, fun a _ x => x, e, fun σ2 R2 rel3 s2 ag2 => ⟨S2, R2, ρ2, rel3, ?_⟩⟩
      have hd2 : Hd S1 H1 R1 rh S2 H2 R2 := (hd.step f2).less fun a x => (s2 a x).elim id False.elim
      have agg : Agree as σ σ2 := ag.tr (ag2.sub ts)
      cases q : ex M.T Φ M.T.sub b ρ2 with
      | next ρ3 =>
        rw [q] at h'
        exact fun σ3 H3 S3 R3 g rel4 _ _ _ ag3 => ⟨rfl, hlt, S3, ρ3, R3, hd2.step g.free, rel4, agg.tr ag3, h'⟩
      | cont ρ3 =>
        rw [q] at h'
        exact fun σ3 H3 S3 R3 g rel4 _ _ _ ag3 => ⟨rfl, hlt, S3, ρ3, R3, hd2.step g.free, rel4, agg.tr ag3, h'⟩
      | brk ρ3 =>
        rw [q] at h'
        exact fun σ3 H3 S3 R3 g rel4 _ _ _ ag3 => by
          have hd3 := hd2.step g.free
          exact h' σ3 H3 S3 R3 hd3.fr rel4 hd3.live hd3.dj hd3.hk (agg.tr ag3)
      | ret d' ρ3 =>
        rw [q] at h'
        exact fun v σ3 H3 S3 R3 r g rel4 rep4 l4 d4 nr _ ag3 => by
          have hd3 := hd2.step g.free2
          refine h' v σ3 H3 S3 R3 r hd3.fr rel4 rep4 (fun a x => x.elim (fun x => l4 a (.inl x)) (hd3.live a)) (fun a x y => y.elim (fun y => d4 a x (.inl y)) (hd3.dj a (.inl x))) (fun a x y => hd3.dj a (.inr x) y) hd3.hk (agg.tr ag3)
      | ex j ρ3 =>
        rw [q] at h'
        exact fun σ3 H3 S3 R3 g rel4 _ _ _ ag3 => by
          have hd3 := hd2.step g.free
          exact h' σ3 H3 S3 R3 hd3.fr rel4 hd3.live hd3.dj hd3.hk (agg.tr ag3)
      | bad => rw [q] at h'; exact h'.elim
  · have ei : i = xs.length := by omega
    subst ei
    rw [List.drop_eq_nil_of_le (Nat.le_refl _)] at h'
    exact .inl ⟨wkH.2, h' σ' H' S' R' hd.fr rel' hd.live hd.dj hd.hk ag⟩

/-- from a loop's start -/
theorem OutS.into {r : SR} (h : OutS M W as none_ S H σ R D r) (f : Fr S H R S1 H1 (fun a => R1 a ∨ rh a)) (k : ∀ i ∈ as', i ∈ as) : OutS M W as' rh S1 H1 σ R1 D r := by
  have go : ∀ {S' H' : Hp} {R' : Own}, Fr S1 H1 (fun a => R1 a ∨ rh a) S' H' (fun a => R' a ∨ rh a) → Fr S H (fun a => R a ∨ none_ a) S' H' (fun a => R' a ∨ none_ a) := fun g => ((f.trans g fun _ x => x).less fun a x => .inl (.inl x)).hold
  cases r with
  | next ρ' => exact fun σ' H' S' R' g rel l d e a => h σ' H' S' R' (go g) rel (fun _ x => x.elim) (fun _ _ x => x) (fun _ x => x.elim) (a.sub k)
  | brk ρ' => exact fun σ' H' S' R' g rel l d e a => h σ' H' S' R' (go g) rel (fun _ x => x.elim) (fun _ _ x => x) (fun _ x => x.elim) (a.sub k)
  | cont ρ' => exact fun σ' H' S' R' g rel l d e a => h σ' H' S' R' (go g) rel (fun _ x => x.elim) (fun _ _ x => x) (fun _ x => x.elim) (a.sub k)
  | ex j ρ' => exact fun σ' H' S' R' g rel l d e a => h σ' H' S' R' (go g) rel (fun _ x => x.elim) (fun _ _ x => x) (fun _ x => x.elim) (a.sub k)
  | ret d ρ' => exact fun v σ' H' S' R' r g rel rep l d nr e a => h v σ' H' S' R' r ((f.trans g fun _ x => x).less fun a x => .inl (.inl x)).hold2 rel rep (fun a x => l a (x.elim .inl False.elim)) (fun a x y => d a x (y.elim .inl False.elim)) (fun _ _ x => x) (fun _ x => x.elim) (a.sub k)
  | bad => exact h
/-- .. where what is walked stands in slot i -/
theorem OutS.held {r : SR} {i : Nat} {d : MP.D} {v : V} (h : OutS M W as none_ S H σ R D (r.map fun ρ => ρ.set i (some d))) (rr : ∀ a, R1 a ∨ rh a → R a) (e : σ[i]? = some (some v)) (rep : RepV M.K S H d v rh) (ni : i ∉ as') (k : ∀ i ∈ as', i ∈ as) : OutS M W as' rh S H σ R1 D r := by
  have go : ∀ {S' H' : Hp} {R' : Own}, Fr S H (fun a => R1 a ∨ rh a) S' H' (fun a => R' a ∨ rh a) → Fr S H (fun a => R a ∨ none_ a) S' H' (fun a => (R' a ∨ rh a) ∨ none_ a) := fun g => ⟨g.ss, fun a o z n => g.keep a o z fun x => n (.inl (rr a x)), fun a x => (g.res a (x.elim id False.elim)).imp (fun x => .inl (rr a x)) id, fun a o z => (g.shr a o z).imp id fun x => x.imp (fun x => .inl (rr a x)) id⟩
  have put : ∀ {σ' : L2.St} {H' S' : Hp} {R' : Own} {ρ' : Rho}, MP.Same S S' → Rel M.K S' H' σ' ρ' R' → Live S' H' rh → (∀ a, R' a → ¬ rh a) → (∀ a, rh a → H' a = H a) → Agree as' σ σ' → Rel M.K S' H' σ' (ρ'.set i (some d)) fun a => R' a ∨ rh a := fun ss rel l dj hk ag => by
    have e' := (ag.2 i ni).trans e
    exact rel.put' (by rw [rel.len]; exact (List.getElem?_eq_some_iff.mp e').1) e' (RepV.to ss d v rh rh rep (fun _ x => x) hk) l dj
  cases r with
  | next ρ' => exact fun σ' H' S' R' g rel l dj hk a => h σ' H' S' _ (go g) (put g.ss rel l dj hk a) (fun _ x => x.elim) (fun _ _ x => x) (fun _ x => x.elim) (a.sub k)
  | brk ρ' => exact fun σ' H' S' R' g rel l dj hk a => h σ' H' S' _ (go g) (put g.ss rel l dj hk a) (fun _ x => x.elim) (fun _ _ x => x) (fun _ x => x.elim) (a.sub k)
  | cont ρ' => exact fun σ' H' S' R' g rel l dj hk a => h σ' H' S' _ (go g) (put g.ss rel l dj hk a) (fun _ x => x.elim) (fun _ _ x => x) (fun _ x => x.elim) (a.sub k)
  | ex j ρ' => exact fun σ' H' S' R' g rel l dj hk a => h σ' H' S' _ (go g) (put g.ss rel l dj hk a) (fun _ x => x.elim) (fun _ _ x => x) (fun _ x => x.elim) (a.sub k)
  | ret d' ρ' =>
    intro w σ' H' S' R' r g rel repw l dj nr hk a
    refine h w σ' H' S' (fun a => R' a ∨ rh a) r ⟨g.ss, fun a o z n => g.keep a o z fun x => n (.inl (rr a x)), fun a x => (g.res a ?_).imp (fun x => .inl (rr a x)) id, fun a o z => (g.shr a o z).imp id fun x => x.imp (fun x => .inl (rr a x)) id⟩ (put g.ss rel (fun a x => l a (.inr x)) (fun a x y => dj a x (.inr y)) hk a) repw (fun a x => l a (x.elim .inl False.elim)) (fun a x y => ?_) (fun _ _ x => x) (fun _ x => x.elim) (a.sub k)
    · rcases x with ((x | x) | x) | x
      · exact .inl (.inl x)
      · exact .inr x
      · exact .inl (.inr x)
      · exact x.elim
    · have y := y.elim id False.elim
      rcases x with x | x
      · exact dj a x (.inl y)
      · exact nr a y x
  | bad => exact h

theorem for_ent {t : CG} {s : CI} {b : CS} (ts : ∀ i ∈ t.slots, i ∈ as') (k : ∀ i ∈ as', i ∈ as) (ho : ∀ ρ i d xs, holdOf s ρ = some (i, d, xs) → i ∉ as') (h : tS M W Φ as (.for_ t s b) D σ H) : tFor (tI M Φ W s) (tG M t) (tS M W Φ as' b) D σ H := by
  obtain ⟨S, R, ρ, rel, h⟩ := h
  rw [ex] at h
  refine ⟨S, R, ρ, rel, ?_⟩
  cases q : holdOf s ρ with
  | some p =>
    obtain ⟨i, d, xs⟩ := p
    rw [q] at h
    dsimp only at h ⊢
    intro J R1 rh v rel1 live dj sub e rep g wk
    exact loop_core wk rel1 live dj ts (OutS.held h sub e rep (ho ρ i d xs q) k)
  | none =>
    rw [q] at h
    dsimp only at h ⊢
    refine h.st.mono fun xs ρ1 h1 => ?_
    intro J H1 S1 R1 rh f1 rel1 live dj wk
    exact loop_core wk rel1 live dj ts (OutS.into h1 f1 k)

theorem while_ent {c : CE} {b : CS} (h : tS M W Φ as (.while_ c b) D σ H) : tWhile (tT M W Φ c) (tS M W Φ as b) D σ H := by
  obtain ⟨S, R, ρ, rel, h⟩ := h
  rw [ex] at h
  refine ⟨fun m σ' H' => ∃ (S' : Hp) (ρ' : Rho) (R' : Own), Rel M.K S' H' σ' ρ' R' ∧ OutS M W as none_ S' H' σ' R' D (whileF (ev M.T Φ c) (ex M.T Φ M.T.sub b) m ρ'), ⟨_, S, ρ, R, rel, h⟩, ?_⟩
  rintro m σ1 H1 ⟨S1, ρ1, R1, rel1, h1⟩
  cases m with
  | zero => exact h1.elim
  | succ m =>
    rw [whileF] at h1
    refine ⟨S1, R1, ρ1, rel1, h1.st.mono fun d ρ2 h2 => ?_⟩
    cases d with
    | bl k =>
      cases k with
      | false => exact ⟨false, rfl, fun H2 S2 R2 f2 rel2 => h2.nx f2 rel2 Agree.refl⟩
      | true =>
        refine ⟨true, rfl, fun H2 S2 R2 f2 rel2 => ⟨fun σ' H' => ∃ (S' : Hp) (ρ' : Rho) (R' : Own), Rel M.K S' H' σ' ρ' R' ∧ OutS M W as none_ S' H' σ' R' D (whileF (ev M.T Φ c) (ex M.T Φ M.T.sub b) m ρ'), fun σ' H' p => ⟨m, Nat.lt_succ_self _, p⟩, S2, R2, ρ2, rel2, ?_⟩⟩
        have h3 := OutS.later h2 f2 (fun _ x => x) (Agree.refl (is := as))
        cases q : ex M.T Φ M.T.sub b ρ2 with
        | next ρ3 =>
          rw [q] at h3
          exact fun σ3 H3 S3 R3 g rel4 _ _ _ ag3 => ⟨S3, ρ3, R3, rel4, OutS.later h3 g.free (fun _ x => x) ag3⟩
        | cont ρ3 =>
          rw [q] at h3
          exact fun σ3 H3 S3 R3 g rel4 _ _ _ ag3 => ⟨S3, ρ3, R3, rel4, OutS.later h3 g.free (fun _ x => x) ag3⟩
        | brk ρ3 => rw [q] at h3; exact h3
        | ret d' ρ3 => rw [q] at h3; exact h3
        | ex j ρ3 => rw [q] at h3; exact h3
        | bad => rw [q] at h3; exact h3.elim
    | _ => exact h2.elim

/-- one item of a list stored -/
theorem RepVs.set {K : PySem.W.Frag} {S H : Hp} : ∀ {ds : List MP.D} {vs : List V} {d : MP.D} {v : V} {r1 r2 : Own} (j : Nat), RepVs K S H ds vs r1 → RepV K S H d v r2 → (∀ a, r1 a → r2 a → False) → RepVs K S H (ds.set j d) (vs.set j v) fun a => r1 a ∨ r2 a
  | [], [], _, _, _, _, _, _, _, _ => by rw [List.set_nil, List.set_nil, RepVs]; trivial
  | [], _ :: _, _, _, _, _, _, h1, _, _ => by rw [RepVs] at h1; exact h1.elim
  | _ :: _, [], _, _, _, _, _, h1, _, _ => by rw [RepVs] at h1; exact h1.elim
  | x :: ds, w :: vs, d, v, r1, r2, 0, h1, h2, dj => by
    rw [RepVs] at h1
    obtain ⟨s1, s2, k1, k2, dj12, a, b⟩ := h1
    rw [List.set_cons_zero, List.set_cons_zero, RepVs]
    exact ⟨r2, s2, fun a z => .inr z, fun a z => .inl (k2 a z), fun a z y => dj a (k2 a y) z, h2, b⟩
  | x :: ds, w :: vs, d, v, r1, r2, j + 1, h1, h2, dj => by
    rw [RepVs] at h1
    obtain ⟨s1, s2, k1, k2, dj12, a, b⟩ := h1
    rw [List.set_cons_succ, List.set_cons_succ, RepVs]
    exact ⟨s1, fun a => s2 a ∨ r2 a, fun a z => .inl (k1 a z), fun a z => z.elim (fun z => .inl (k2 a z)) .inr, fun a z y => y.elim (fun y => dj12 a z y) fun y => dj a (k1 a z) y, a, RepVs.set j b h2 fun a z y => dj a (k2 a z) y⟩
theorem setix_inv {k v d1 d2 : MP.D} {u : Unit} (h : setixF k v d1 = some (u, d2)) : (∃ xs i j, d1 = .lst true xs ∧ k = .int i ∧ L2.ixN xs.length i = some j ∧ d2 = .lst true (xs.set j v)) ∨
    ∃ kd ks vs, d1 = .dic true kd ks vs ∧ keyOk kd k = true ∧ ks.length < lim ∧ v.fl = false ∧ d2 = .dic true kd (setD k v ks vs).1 (setD k v ks vs).2 := by
  unfold setixF at h
  split at h
  · split at h
    · rename_i i
      cases q : L2.ixN _ i with
      | none => rw [q] at h; cases h
      | some j =>
        rw [q] at h
        have h : (if j < _ then some ((), MP.D.lst true (_ : List MP.D)) else none) = some (u, d2) := h
        split at h
        · cases h; exact .inl ⟨_, i, j, rfl, rfl, q, rfl⟩
        · cases h
    · cases h
  · split at h
    · rename_i hc
      simp only [Bool.and_eq_true, decide_eq_true_eq, Bool.not_eq_true'] at hc
      cases h
      exact .inr ⟨_, _, _, rfl, hc.1.1, hc.1.2, hc.2, rfl⟩
    · cases h
  · cases h
def rSetA : TSet := fun o i v H Q => rSetL o i v H Q ∨ rSetD o i v H Q
theorem set_all {X : Cx} (hu : X.A.units + 1 < cLine) : PSet X rSetA := by
  intro pins s σ H o i v ov iv u Q I ro ri rv h
  rcases h with h | h
  · exact set_list pins s σ H o i v ov iv u Q I ro ri rv h
  · exact set_dict hu pins s σ H o i v ov iv u Q I ro ri rv h
theorem setix_ent {i : Nat} {kx c : CE} (h : tS M W Φ as (.setix (.sl i) kx c) D σ H) : tAsg (tE M W Φ c) (gSub (tVar i) (tE M W Φ kx) rSetA) D σ H := by
  obtain ⟨S, R, ρ, rel, h⟩ := h
  rw [ex] at h
  refine ⟨S, R, ρ, rel, h.st.mono fun dv ρ1 h1 => ?_⟩
  intro v H1 S1 R1 r1 f1 rel1 rep1 live1 dj1
  rw [evpath] at h1
  have h1 : OutS M W as none_ S H σ R D (if mutAt ρ1 i [] then (ev M.T Φ kx ρ1).st fun kd ρ => (ρ.mod i [] (setixF kd dv)).st fun _ ρ => .next ρ else .bad) := h1
  split at h1
  · rename_i hm
    unfold mutAt at hm
    cases q : ρ1.get i with
    | none => rw [q] at hm; cases hm
    | some d0 =>
      obtain ⟨o, e, r0, _, rep0⟩ := rel1.get q
      refine ⟨o, e, S1, R1, ρ1, rel1, OutR.from (OutS.st h1) f1 (fun a x => .inl x) fun kd ρ2 h2 => ?_⟩
      intro kv H2 S2 R2 r2 f2 rel2 rep2 live2 dj2
      obtain ⟨c1, c2, c3⟩ := f2.aside live1 dj1
      have repv := f2.carry live1 dj1 rep1
      unfold Rho.mod at h2
      cases q2 : ρ2.get i with
      | none => rw [q2] at h2; exact h2.elim
      | some d1 =>
        rw [q2, show (some d1).bind (modD (setixF kd dv) []) = modD (setixF kd dv) [] d1 from rfl, modD_nil] at h2
        obtain ⟨o2, r3, e2, rep3, live3, dj3, s3, store⟩ := slot_store rel2 q2 c2 fun a x => c3 a (.inl x)
        rw [e] at e2
        cases e2
        cases qs : (if d1.fl then setixF kd dv d1 else none) with
        | none => rw [qs] at h2; exact h2.elim
        | some p =>
          obtain ⟨u, d2⟩ := p
          rw [qs] at h2
          have h2 : OutS M W as none_ S H σ R D (.next (ρ2.set i (some d2))) := h2
          have f3 := f1.trans f2 fun a x => .inl x
          have done : ∀ (l : Addr) (ob : HO), ¬ Tp ob → r3 l → RepV M.K S2 (upd H2 l ob) d2 o (fun a => r3 a ∨ r1 a) → D.nx σ (upd H2 l ob) := fun l ob nt hl rep4 => by
            obtain ⟨R3, rel3, f4⟩ := store l ob d2 nt hl rep4
            exact h2.nx ((f3.trans f4 fun a x => x.elim (fun x => .inl (.inl x)) fun x => .inr (.inr x)).less fun a x => .inl x) rel3 Agree.refl
          split at qs
          · rcases setix_inv qs with ⟨xs, ki, j, rfl, rfl, hj, rfl⟩ | ⟨kd', ks', vs', rfl, hk, few, nf, rfl⟩
            · rw [RepV] at rep3; rw [RepV] at rep2
              obtain ⟨l, ws, r4, ev, hl, z, rl, kk, t⟩ := rep3
              subst ev
              refine .inl ⟨l, ws, ki, j, rfl, rep2, hl, by rw [← t.len]; exact hj, done l _ Tp.lst rl ?_⟩
              refine RepV.lst_put (by rw [List.length_set]; exact z) (RepVs.set j t repv fun a x y => dj3 a (kk a x).1 y) (.inl rl) fun a x => ?_
              rcases x with x | x
              · exact ⟨.inl (kk a x).1, (kk a x).2⟩
              · exact ⟨.inr x, fun e => dj3 l rl (by rw [← e]; exact x)⟩
            · obtain ⟨l, ob, nt, rfl, rl, put, rep4⟩ := dic_put rel2.sub rep3 hk ⟨r2, rep2⟩ (RepV.shared (H' := H2) _ _ _ repv nf) few
              exact .inr ⟨l, _, rfl, put, done l ob nt rl (rep4.mono fun a x => .inl x)⟩
          · cases qs
  · exact h1.elim
end
end MP

set_option autoImplicit false
set_option linter.all false
set_option maxRecDepth 100000
/-! MP: stores at the end of a path. -/
namespace MP
open PySem L2
section
variable {K : PySem.W.Frag} {S H : Hp}
/-- one item of a list of owned things, taken out and laid back -/
theorem RepVs.split : ∀ {xs : List D} {vs : List V} {r : Own} (j : Nat) {d : D}, RepVs K S H xs vs r → xs[j]? = some d → ∃ (v : V) (rj rest : Own), vs[j]? = some v ∧ RepV K S H d v rj ∧ (∀ a, rj a → r a) ∧ (∀ a, rest a → r a) ∧ (∀ a, rj a → rest a → False) ∧
    ∀ (H' : Hp) (d' : D) (r' : Own), (∀ a, rest a → H' a = H a) → RepV K S H' d' v r' → (∀ a, r' a → rest a → False) → RepVs K S H' (xs.set j d') vs fun a => rest a ∨ r' a
  | [], vs, r, j, d, h, e => by simp at e
  | _ :: _, [], r, j, d, h, e => by rw [RepVs] at h; exact h.elim
  | x :: xs, v :: vs, r, 0, d, h, e => by
    rw [RepVs] at h
    obtain ⟨r1, r2, k1, k2, dj, h1, h2⟩ := h
    cases e
    refine ⟨v, r1, r2, rfl, h1, k1, k2, dj, fun H' d' r' hH rep dj' => ?_⟩
    rw [List.set_cons_zero, RepVs]
    exact ⟨r', r2, fun a z => .inr z, fun a z => .inl z, fun a z y => dj' a z y, rep, RepVs.to (Same.refl S) xs vs r2 r2 h2 (fun _ z => z) hH⟩
  | x :: xs, v :: vs, r, j + 1, d, h, e => by
    rw [RepVs] at h
    obtain ⟨r1, r2, k1, k2, dj, h1, h2⟩ := h
    obtain ⟨w, rj, rest, ew, hw, m1, m2, m3, m4⟩ := RepVs.split j h2 (by simpa using e)
    refine ⟨w, rj, fun a => r1 a ∨ rest a, by simpa using ew, hw, fun a z => k2 a (m1 a z), fun a z => z.elim (k1 a) fun z => k2 a (m2 a z), fun a z y => y.elim (fun y => dj a y (m1 a z)) (m3 a z), fun H' d' r' hH rep dj' => ?_⟩
    have h2' := m4 H' d' r' (fun a z => hH a (.inr z)) rep fun a z y => dj' a z (.inr y)
    rw [List.set_cons_succ, RepVs]
    refine ⟨r1, fun a => rest a ∨ r' a, fun a z => .inl (.inl z), fun a z => z.elim (fun z => .inl (.inr z)) .inr, fun a z y => y.elim (fun y => dj a z (m2 a y)) fun y => dj' a y (.inl z), RepV.to (Same.refl S) x v r1 r1 h1 (fun _ z => z) fun a z => hH a (.inl z), h2'⟩
end
theorem modD_snoc {α : Type} {g : D → Option (α × D)} {s : MP.St} : ∀ {ss : List MP.St} {d : D} {p : α × D}, modD g (ss ++ [s]) d = some p → modD (modD g [s]) ss d = some p
  | [], d, p, h => by
    have h : modD g [s] d = some p := h
    rw [modD]
    have hf : d.fl = true := by
      unfold modD at h
      split at h <;> first | rfl | (rename_i e _; cases e; done) | (cases h; done) | skip
    rw [if_pos hf]
    exact h
  | s0 :: ss, d, p, h => by
    rw [List.cons_append] at h
    unfold modD at h ⊢
    split at h
    · rename_i e; cases e
    · rename_i f ss' c fn vs e
      cases e
      obtain ⟨e0, he, h⟩ := Option.bind_eq_some_iff.mp h
      obtain ⟨r, hr, rfl⟩ := Option.map_eq_some_iff.mp h
      simp only [he, Option.bind_some, modD_snoc hr, Option.map_some]
    · rename_i i ss' xs e
      cases e
      obtain ⟨j, hj, h⟩ := Option.bind_eq_some_iff.mp h
      obtain ⟨e0, he, h⟩ := Option.bind_eq_some_iff.mp h
      obtain ⟨r, hr, rfl⟩ := Option.map_eq_some_iff.mp h
      simp only [hj, he, Option.bind_some, modD_snoc hr, Option.map_some]
    · cases h

/-! ### readings of paths -/
def trivK : CE → Bool
  | .rd _ [] => true
  | .k (.int _) => true
  | _ => false
def tKeyR : CE → TE
  | .rd j [] => tVar j
  | .k (.int i) => tC (.int i)
  | _ => fun _ _ _ => False
def tPath (K : PySem.W.Frag) : CP → TE
  | .sl i => tVar i
  | .at_ p k => tOp (rIxA K) (tPath K p) (tKeyR k)
  | .fld p f => fun _ _ _ => False
/-- a node at a path's end, and how it is laid back -/
structure Node (K : PySem.W.Frag) (S H : Hp) (d d' : D) (v : V) (r : Own) (e e2 : D) (ve : V) (re : Own) : Prop where
  fl : e.fl = true
  rep : RepV K S H e ve re
  sub : ∀ a, re a → r a
  back : ∀ (H' : Hp) (r2 : Own), (∀ b, r b → ¬ re b → H' b = H b) → RepV K S H' e2 ve r2 → (∀ b, r2 b → r b → re b) → RepV K S H' d' v fun b => (r b ∧ ¬ re b) ∨ r2 b
theorem Node.here {K : PySem.W.Frag} {S H : Hp} {d d' : D} {v : V} {r : Own} (f : d.fl = true) (h : RepV K S H d v r) : Node K S H d d' v r d d' v r :=
  ⟨f, h, fun _ x => x, fun H' r2 _ rep _ => rep.mono fun a x => .inr x⟩
theorem Node.trans {K : PySem.W.Frag} {S H : Hp} {d d' e e2 x x2 : D} {v ve vx : V} {r re rx : Own} (a : Node K S H d d' v r e e2 ve re) (b : Node K S H e e2 ve re x x2 vx rx) : Node K S H d d' v r x x2 vx rx := by
  refine ⟨b.fl, b.rep, fun c z => a.sub c (b.sub c z), fun H' r2 hH rep k => ?_⟩
  have h1 := b.back H' r2 (fun c z nz => hH c (a.sub c z) nz) rep fun c z y => k c z (a.sub c y)
  refine (a.back H' _ (fun c z nz => hH c z fun y => nz (b.sub c y)) h1 fun c z y => ?_).mono fun c z => ?_
  · rcases z with z | z
    · exact z.1
    · exact b.sub c (k c z y)
  · rcases z with z | z | z
    · exact .inl ⟨z.1, fun y => z.2 (b.sub c y)⟩
    · exact .inl ⟨a.sub c z.1, z.2⟩
    · exact .inr z
/-- one step into a list -/
theorem node_at {K : PySem.W.Frag} {S H : Hp} {α : Type} {g : D → Option (α × D)} {e e2 : D} {ve : V} {re : Own} {i : Int} {a : α} (sub : MP.Same S H) (rep : RepV K S H e ve re) (h : modD g [.k (.int i)] e = some (a, e2)) :
    ∃ x x2 vx rx, Node K S H e e2 ve re x x2 vx rx ∧ g x = some (a, x2) ∧ ∀ Q : VK, Q vx H → rIxA K ve (.int i) H Q := by
  unfold modD at h
  split at h
  · rename_i e; cases e
  · rename_i e; cases e
  · rename_i i' ss' xs ee
    cases ee
    obtain ⟨j, hj, h⟩ := Option.bind_eq_some_iff.mp h
    obtain ⟨x, hx, h⟩ := Option.bind_eq_some_iff.mp h
    obtain ⟨p, hp, h⟩ := Option.map_eq_some_iff.mp h
    cases h
    rw [modD_nil] at hp
    split at hp
    · rename_i hf
      rw [RepV] at rep
      obtain ⟨l, ws, r', ev, hl, z, rl, kk, t⟩ := rep
      subst ev
      obtain ⟨vx, rx, rest, evx, repx, m1, m2, m3, m4⟩ := RepVs.split j t hx
      refine ⟨x, p.2, vx, rx, ⟨hf, repx, fun c y => (kk c (m1 c y)).1, fun H' r2 hH rep2 k => ?_⟩, hp, fun Q q => .inl ?_⟩
      · have nr : ∀ c, rest c → ¬ rx c := fun c y w => m3 c w y
        have h2 := m4 H' p.2 r2 (fun c y => hH c (kk c (m2 c y)).1 (nr c y)) rep2 fun c y w => nr c w (k c y (kk c (m2 c w)).1)
        have nl : ¬ rx l := fun y => (kk l (m1 l y)).2 rfl
        rw [RepV]
        refine ⟨l, ws, fun c => rest c ∨ r2 c, rfl, (hH l rl nl).trans hl, z, .inl ⟨rl, nl⟩, fun c y => ?_, h2⟩
        rcases y with y | y
        · exact ⟨.inl ⟨(kk c (m2 c y)).1, nr c y⟩, (kk c (m2 c y)).2⟩
        · refine ⟨.inr y, fun ec => ?_⟩
          rw [ec] at y
          exact nl (k l y rl)
      · refine .inl ⟨l, ws, i, vx, rfl, rfl, .inl (.inl hl), ?_, q⟩
        unfold L2.atI
        rw [← t.len, hj]
        exact evx
    · cases hp
  · cases h
section
variable {M : Md} {W : WX} {Φ : Nat → List D → FR} {S H : Hp} {σ : L2.St} {R : Own} {ρ : Rho}
/-- a trivial key -/
theorem triv_ev {c : CE} (t : trivK c = true) (rel : Rel M.K S H σ ρ R) {d : D} {ρ' : Rho} (h : ev M.T Φ c ρ = .ok d ρ') : ρ' = ρ ∧ d.fl = false ∧ ∃ v, RepV M.K S H d v none_ ∧ ∀ Q : VK, Q v H → tKeyR c σ H Q := by
  unfold trivK at t
  split at t
  · rename_i j
    rw [ev] at h
    split at h
    · rename_i x hx
      split at h
      · cases h
      · rename_i nf
        have nf : x.fl = false := by simpa using nf
        cases h
        have hx : ρ.get j = some d := by
          unfold Rho.rd at hx
          obtain ⟨y, hy, hx⟩ := Option.bind_eq_some_iff.mp hx
          cases hx
          exact hy
        obtain ⟨v, e, r, _, rep⟩ := rel.get hx
        exact ⟨rfl, nf, v, RepV.shared (H' := H) _ _ _ rep nf, fun Q q => ⟨v, e, q⟩⟩
    · cases h
  · rename_i i
    rw [ev] at h
    cases h
    exact ⟨rfl, rfl, .int i, by rw [RepV], fun Q q => q⟩
  · cases t
theorem triv_no {c : CE} (t : trivK c = true) (ρ : Rho) : (∃ d, ev M.T Φ c ρ = .ok d ρ) ∨ ev M.T Φ c ρ = .bad := by
  unfold trivK at t
  split at t
  · rw [ev]
    split
    · split
      · exact .inr rfl
      · exact .inl ⟨_, rfl⟩
    · exact .inr rfl
  · rw [ev]; exact .inl ⟨_, rfl⟩
  · cases t
def trivP : CP → Bool
  | .sl _ => true
  | .at_ p k => trivP p && trivK k
  | .fld _ _ => false
def rootP : CP → Nat
  | .sl i => i
  | .at_ p _ => rootP p
  | .fld p _ => rootP p
theorem path_no : ∀ {p : CP}, trivP p = true → ∀ ρ : Rho, (∃ ss, evpath M.T Φ p ρ = .ok (rootP p, ss) ρ) ∨ evpath M.T Φ p ρ = .bad
  | .sl i, _, ρ => .inl ⟨[], by rw [evpath]; rfl⟩
  | .at_ p k, t, ρ => by
    rw [trivP, Bool.and_eq_true] at t
    rw [evpath]
    rcases path_no t.1 ρ with ⟨ss, e⟩ | e
    · rw [e]
      rcases triv_no (M := M) (Φ := Φ) t.2 ρ with ⟨d, e2⟩ | e2
      · refine .inl ⟨ss ++ [.k d], ?_⟩
        show ((ev M.T Φ k ρ).bind fun d ρ => .ok (rootP p, ss ++ [.k d]) ρ) = _
        rw [e2]
        rfl
      · refine .inr ?_
        show ((ev M.T Φ k ρ).bind fun d ρ => .ok (rootP p, ss ++ [.k d]) ρ) = _
        rw [e2]
        rfl
    · rw [e]
      exact .inr rfl
  | .fld _ _, t, _ => by cases t
/-- the node at a path's end, as the text reaches it -/
theorem path_ent {α : Type} : ∀ {p : CP}, trivP p = true → ∀ {ss : List MP.St} {g : D → Option (α × D)} {d d' : D} {v : V} {r : Own} {a : α}, Rel M.K S H σ ρ R → evpath M.T Φ p ρ = .ok (rootP p, ss) ρ → σ[rootP p]? = some (some v) → RepV M.K S H d v r → modD g ss d = some (a, d') →
    ∃ e e2 ve re, Node M.K S H d d' v r e e2 ve re ∧ g e = some (a, e2) ∧ ∀ Q : VK, Q ve H → tPath M.K p σ H Q
  | .sl i, _, ss, g, d, d', v, r, a, rel, e, hv, rep, h => by
    rw [evpath] at e
    cases e
    rw [modD_nil] at h
    split at h
    · rename_i hf
      exact ⟨d, d', v, r, Node.here hf rep, h, fun Q q => ⟨v, hv, q⟩⟩
    · cases h
  | .at_ p k, t, ss, g, d, d', v, r, a, rel, e, hv, rep, h => by
    rw [trivP, Bool.and_eq_true] at t
    rw [evpath] at e
    rcases path_no (M := M) (Φ := Φ) t.1 ρ with ⟨ss0, e0⟩ | e0
    · rw [e0] at e
      have e : ((ev M.T Φ k ρ).bind fun d ρ => MP.R.ok (rootP p, ss0 ++ [.k d]) ρ) = .ok (rootP p, ss) ρ := e
      rcases triv_no (M := M) (Φ := Φ) t.2 ρ with ⟨kd, e2⟩ | e2
      · rw [e2] at e
        have es : ss0 ++ [.k kd] = ss := by
          have : MP.R.ok (rootP p, ss0 ++ [.k kd]) ρ = .ok (rootP p, ss) ρ := e
          injection this with h1 h2
          exact (Prod.mk.inj h1).2
        subst es
        obtain ⟨x, x2, vx, rx, n1, h1, q1⟩ := path_ent t.1 rel e0 hv rep (modD_snoc h)
        obtain ⟨_, _, vk, repk, qk⟩ := triv_ev t.2 rel e2
        have ik : ∃ i, kd = .int i := by
          unfold modD at h1
          split at h1
          · rename_i z; cases z
          · rename_i z; cases z
          · rename_i z; cases z; exact ⟨_, rfl⟩
          · cases h1
        obtain ⟨i, rfl⟩ := ik
        rw [RepV] at repk
        subst repk
        obtain ⟨y, y2, vy, ry, n2, h2, q2⟩ := node_at rel.sub n1.rep h1
        exact ⟨y, y2, vy, ry, n1.trans n2, h2, fun Q q => q1 _ (qk _ (q2 Q q))⟩
      · rw [e2] at e
        cases e
    · rw [e0] at e
      cases e
  | .fld _ _, t, _, _, _, _, _, _, _, _, _, _, _, _ => by cases t
end
section
variable {M : Md} {W : WX} {Φ : Nat → List D → FR} {as : List Nat} {S H : Hp} {σ : L2.St} {R : Own} {D : Ends}
theorem setixP_ent {p : CP} {kx c : CE} (tp : trivP p = true) (tk : trivK kx = true) (h : tS M W Φ as (.setix p kx c) D σ H) : tAsg (tE M W Φ c) (gSub (tPath M.K p) (tKeyR kx) rSetA) D σ H := by
  obtain ⟨S, R, ρ, rel, h⟩ := h
  rw [ex] at h
  refine ⟨S, R, ρ, rel, h.st.mono fun dv ρ1 h1 => ?_⟩
  intro v H1 S1 R1 r1 f1 rel1 rep1 live1 dj1
  rcases path_no (M := M) (Φ := Φ) tp ρ1 with ⟨ss, ep⟩ | ep
  · rw [ep] at h1
    have h1 : OutS M W as none_ S H σ R D (if mutAt ρ1 (rootP p) ss then (ev M.T Φ kx ρ1).st fun kd ρ => (ρ.mod (rootP p) ss (setixF kd dv)).st fun _ ρ => .next ρ else .bad) := h1
    split at h1
    · rcases triv_no (M := M) (Φ := Φ) tk ρ1 with ⟨kd, ek⟩ | ek
      · rw [ek] at h1
        have h1 : OutS M W as none_ S H σ R D ((ρ1.mod (rootP p) ss (setixF kd dv)).st fun _ ρ => .next ρ) := h1
        obtain ⟨_, nk, vk, repk, qk⟩ := triv_ev tk rel1 ek
        unfold Rho.mod at h1
        cases q1 : ρ1.get (rootP p) with
        | none => rw [q1] at h1; exact h1.elim
        | some d1 =>
          rw [q1] at h1
          cases qm : modD (setixF kd dv) ss d1 with
          | none =>
            have : (some d1).bind (modD (setixF kd dv) ss) = none := qm
            rw [this] at h1
            exact h1.elim
          | some pr =>
            obtain ⟨u, d2⟩ := pr
            have : (some d1).bind (modD (setixF kd dv) ss) = some (u, d2) := qm
            rw [this] at h1
            have h1 : OutS M W as none_ S H σ R D (.next (ρ1.set (rootP p) (some d2))) := h1
            obtain ⟨o, r3, e2, rep3, live3, dj3, s3, store⟩ := slot_store rel1 q1 live1 dj1
            obtain ⟨e, e2', ve, re, nd, he, qp⟩ := path_ent (M := M) (Φ := Φ) tp rel1 ep e2 rep3 qm
            have done : ∀ (l : Addr) (ob : HO), ¬ Tp ob → re l → RepV M.K S1 (upd H1 l ob) e2' ve (fun a => re a ∨ r1 a) → D.nx σ (upd H1 l ob) := fun l ob nt hl rep4 => by
              have rep5 := nd.back (upd H1 l ob) _ (fun b hb nb => upd_ne fun z => nb (by rw [z]; exact hl)) rep4 fun b hb rb => hb.elim id fun z => (dj3 b rb z).elim
              obtain ⟨R3, rel3, f4⟩ := store l ob d2 nt (nd.sub l hl) (rep5.mono fun b z => z.elim (fun z => .inl z.1) fun z => z.elim (fun z => .inl (nd.sub b z)) .inr)
              exact h1.nx ((f1.trans f4 fun a x => x).less fun a x => .inl x) rel3 Agree.refl
            refine qp _ (qk _ ?_)
            have rep6 := nd.rep
            have dj6 : ∀ a, re a → r1 a → False := fun a x y => dj3 a (nd.sub a x) y
            rcases setix_inv he with ⟨xs, ki, j, rfl, rfl, hj, rfl⟩ | ⟨kd', ks', vs', rfl, hk, few, nf, rfl⟩
            · rw [RepV] at rep6; rw [RepV] at repk
              obtain ⟨l, ws, r4, ev, hl, z, rl, kk, t⟩ := rep6
              subst ev
              refine .inl ⟨l, ws, ki, j, rfl, repk, hl, by rw [← t.len]; exact hj, done l _ Tp.lst rl ?_⟩
              refine RepV.lst_put (by rw [List.length_set]; exact z) (RepVs.set j t rep1 fun a x y => dj6 a (kk a x).1 y) (.inl rl) fun a x => ?_
              rcases x with x | x
              · exact ⟨.inl (kk a x).1, (kk a x).2⟩
              · exact ⟨.inr x, fun e => dj6 l rl (by rw [← e]; exact x)⟩
            · obtain ⟨l, ob, nt, rfl, rl, put, rep4⟩ := dic_put rel1.sub rep6 hk ⟨none_, repk⟩ (RepV.shared (H' := H1) _ _ _ rep1 nf) few
              exact .inr ⟨l, _, rfl, put, done l ob nt rl (rep4.mono fun a x => .inl x)⟩
      · rw [ek] at h1
        exact h1.elim
    · exact h1.elim
  · rw [ep] at h1
    exact h1.elim
end
end MP

set_option autoImplicit false
set_option linter.all false
set_option maxRecDepth 100000
/-! MP: blocks. -/
namespace MP
open PySem L2

def isDoc : Stmt → Bool
  | .Expr (.Constant (.str _) _ _) _ => true
  | _ => false
def strip : List Stmt → List Stmt
  | s :: r => if isDoc s then strip r else s :: r
  | [] => []
def stc : CS → List Nat
  | .asg t _ => t.slots
  | .aug i _ _ => [i]
  | .ife _ a b => stc a ++ stc b
  | .for_ t _ b => t.slots ++ stc b
  | .while_ _ b => stc b
  | .try_ b _ i h => i :: (stc b ++ stc h)
  | .seq a b => stc a ++ stc b
  | _ => []
def notComp : Expr → Bool
  | .ListComp _ _ _ _ => false
  | .SetComp _ _ _ _ => false
  | .DictComp _ _ _ _ _ => false
  | _ => true
def isTup : Expr → Bool
  | .Tuple _ _ _ => true
  | .List _ _ => true
  | _ => false
theorem swaps_plain {e : Expr} (h : notComp e = true) (t : Option Expr) (l : Nat) (env : Env) : swapsWith e t l env = pure false := by
  cases e <;> first | rfl | cases h
theorem swaps_cell {elt : Expr} {gs : List Comprehension} {scope : Scope} {pos py : Pos} {y : Str} {l : Nat} {env : Env} (hy : env.scope.names.lookup y ≠ some .local) : swapsWith (.ListComp elt gs scope pos) (some (.Name y py)) l env = pure false := by
  have ky : env.kindOf y = env.scope.names.lookup y := rfl
  have kz : (env.scope.names.lookup y == some NameKind.local) = false := by
    cases q : (env.scope.names.lookup y == some NameKind.local) with
    | false => rfl
    | true => rw [beq_iff_eq] at q; exact absurd q hy
  unfold swapsWith
  simp only [ky, kz, Bool.and_false, Bool.false_and]
theorem stores_plain {tg e : Expr} (h : (isTup tg && isTup e) = false) (env : Env) : swappedStores [tg] e env = pure none := by
  cases tg <;> try rfl
  all_goals (cases e <;> try rfl)
  all_goals exact absurd h (by simp [isTup])
/-- a, b = x, y -/
def swapC (sc : Scope) (x y : Str) (px py : Pos) (a b : Expr) : Bool := decide (sc.kind = .function) && decide (sc.names.lookup x = some .local) && decide (sc.names.lookup y = some .local) && (py.line == px.line) && !(x == y) && plainX a && plainX b && !([a, b].all (foldedForSure 8)) && !([a, b].all (constantsAlone 8))
theorem swap2 {env : Env} {x y : Str} {px py pt pt2 : Pos} {kt k2 : Nat} {a b : Expr} (h : swapC env.scope x y px py a b = true) : swappedStores [.Tuple [.Name x px, .Name y py] kt pt] (.Tuple [a, b] k2 pt2) env = pure (some [x, y]) := by
  unfold swapC at h
  simp only [Bool.and_eq_true, decide_eq_true_eq, Bool.not_eq_true'] at h
  obtain ⟨⟨⟨⟨⟨⟨⟨⟨h1, h2⟩, h3⟩, h4⟩, h5⟩, h6⟩, h7⟩, h8⟩, h9⟩ := h
  have bk : env.blockKind = .function := by unfold Env.blockKind; rw [h1]; rfl
  have kx : env.kindOf x = some .local := h2
  have ky : env.kindOf y = some .local := h3
  have sa : ∀ e : Expr, plainX e = true → (match e with | .Starred .. => true | _ => false) = false := fun e he => by cases e <;> first | rfl | cases he
  have nxy : ¬ x = y := fun e => by rw [e] at h5; simp at h5
  have ed : ([x, y] : List Str).eraseDups.length = 2 := by
    have : (y == x) = false := by
      cases q : (y == x) with
      | false => rfl
      | true => rw [beq_iff_eq] at q; exact absurd q.symm nxy
    simp [List.eraseDups_cons, this]
  have fm : ([Expr.Name x px, Expr.Name y py].filterMap fun
    | .Name id pos => if (env.kindOf id == some .local && pos.line == px.line) = true then some id else none
    | _ => none) = [x, y] := by
    simp [kx, ky, eq_of_beq h4]
  unfold swappedStores
  simp only [bk, List.head?_cons, Option.map_some, Option.getD_some, Expr.pos]
  refine (if_neg (by simp)).trans ?_
  refine (if_neg fun hh => ?_).trans ?_
  · rw [List.any_eq_true] at hh
    obtain ⟨z, hz, hz2⟩ := hh
    rcases List.mem_cons.mp hz with q | q
    · subst q
      cases z <;> first | (cases hz2; done) | (cases h6; done)
    · rw [List.mem_singleton] at q
      subst q
      cases z <;> first | (cases hz2; done) | (cases h7; done)
  · simp only [List.filterMap_cons, List.filterMap_nil, kx, ky, h4, beq_self_eq_true, Bool.and_self, if_true]
    refine (if_neg (by rw [ed]; simp)).trans ?_
    rw [h8, h9]
    rfl
/-- .. whose stores are not swapped -/
def noSwapC (sc : Scope) (x y : Str) (a b : Expr) : Bool := !decide (sc.names.lookup x = some .local) || !decide (sc.names.lookup y = some .local) || [a, b].all (foldedForSure 8)
theorem swap0 {env : Env} {x y : Str} {px py pt pt2 : Pos} {kt k2 : Nat} {a b : Expr} (h : noSwapC env.scope x y a b = true) : swappedStores [.Tuple [.Name x px, .Name y py] kt pt] (.Tuple [a, b] k2 pt2) env = pure none := by
  have hk : ∀ z : Str, env.scope.names.lookup z ≠ some .local → (env.kindOf z == some NameKind.local) = false := fun z hz => by
    show (env.scope.names.lookup z == some NameKind.local) = false
    cases q : (env.scope.names.lookup z == some NameKind.local) with
    | false => rfl
    | true => rw [beq_iff_eq] at q; exact absurd q hz
  unfold noSwapC at h
  simp only [Bool.or_eq_true, Bool.not_eq_true', decide_eq_false_iff_not] at h
  unfold swappedStores
  dsimp only
  split
  · rfl
  · split
    · rfl
    · split
      · rfl
      · rename_i hn
        rcases h with (h | h) | h
        · exfalso
          apply hn
          simp only [List.filterMap_cons, List.filterMap_nil, hk x h, Bool.false_and, Bool.false_eq_true, if_false]
          split <;> simp
        · exfalso
          apply hn
          simp only [List.filterMap_cons, List.filterMap_nil, hk y h, Bool.false_and, Bool.false_eq_true, if_false]
          split <;> simp
        · rw [if_pos h]
def isCompC : CE → Bool
  | .comp _ _ _ _ _ => true
  | .fz (.comp _ _ _ _ _) => true
  | _ => false
def isTupC : CE → Bool
  | .tup _ => true
  | _ => false
def parC (g : Gx) : CG → Str → Str → Bool
  | .cons (.nm i) (.cons (.nm j) .nil), x, y => decide (g.N[i]? = some x) && decide (g.N[j]? = some y)
  | _, _, _ => false
def chkP (g : Gx) : CP → Expr → Bool
  | .sl i, .Name x _ => chkV g i x
  | .at_ p k, .Subscript e ix _ => chkP g p e && ixOk ix && chkE g k ix
  | _, _ => false
mutual
def chkS (g : Gx) : CS → Stmt → Bool
  | .asg t c, .Assign [tg] e pos => chkE g c e && chkG g t tg && plainX tg && (match tg, e with
    | .Name y py, .ListComp _ _ scope lp => if decide (g.sc.names.lookup y = some .local) then isCompC c && decide (g.sc.kind = .function) && (py.line == lp.line) && !(scope.names.any fun (n, k) => n == y && (k == .local || k == .cell)) else true
    | .Tuple [.Name x px, .Name y py] _ _, .Tuple [a, b] _ _ => (isTupC c && parC g t x y && swapC g.sc x y px py a b) || noSwapC g.sc x y a b
    | tg, e => notComp e && !(isTup tg && isTup e))
  | .aug i o c, .AugAssign (.Name x _) op e _ => (match o, op with
    | .add, .Add => true
    | .sub, .Sub => true
    | _, _ => false) && decide (g.N[i]? = some x) && decide (x ∈ g.asn) && chkE g c e
  | .setix (.sl i) k c, .Assign [.Subscript (.Name x _) ix _] e _ => chkV g i x && ixOk ix && notComp e && chkE g k ix && chkE g c e
  | .setix p k c, .Assign [.Subscript eo ix _] e _ => chkP g p eo && trivP p && trivK k && ixOk ix && notComp e && chkE g k ix && chkE g c e
  | .ex c, .Expr e _ => notComp e && chkE g c e
  | .ret c, .Return (some e) _ => chkE g c e
  | .ife c a b, .If e x y _ => chkE g c e && chkB g a x && chkB g b y
  | .for_ t s b, .For tg iter body [] _ => srcTg s tg && plainX iter && chkI g s iter && chkG g t tg && chkB g b body && (match s with
    | .se (.rd i []) => decide (i ∉ t.slots ++ stc b)
    | .enu (.rd i []) => decide (i ∉ t.slots ++ stc b)
    | _ => true)
  | .while_ c b, .While e body [] _ => chkE g c e && chkB g b body
  | .pass, .Pass _ => true
  | .brk, .Break _ => true
  | .cont, .Continue _ => true
  | _, _ => false
def chkB (g : Gx) : CS → List Stmt → Bool
  | .nil, sts => (strip sts).isEmpty
  | .seq (.kill _) b, sts => chkB g b sts
  | .seq (.frz _ []) b, sts => chkB g b sts
  | .seq a b, sts => match strip sts with
    | st :: rest => chkS g a st && chkB g b rest
    | [] => false
  | _, _ => false
end
section
variable {M : Md} {n : Nat} {g : Gx} {X : Cx} {W : WX} {Φ : Nat → List D → FR} {as : List Nat}
theorem pss_strip {t : TS} : ∀ {sts : List Stmt}, PSs X (strip sts) t → PSs X sts t
  | [], h => h
  | s :: r, h => by
    rw [strip] at h
    split at h
    · rename_i hd
      unfold isDoc at hd
      split at hd
      · exact PSs.imp (pss_cons ps_doc (pss_strip h)) fun D σ H q => q
      · cases hd
    · exact h
theorem lc_set (s : Sit M n g X W) (cl : Calls M Φ n) {i : Nat} {y : Str} {py lp pos : Pos} {elt : CE} {t : CG} {c2 : CI} {c : CO} {own : List Nat} {e tg iter : Expr} {ifs : List Expr} {z : Int} {scope : Scope} (hl : g.sc.names.lookup y = some .local) (h5 : g.sc.kind = .function) (h6 : (py.line == lp.line) = true)
    (h7 : (scope.names.any fun (n, k) => n == y && (k == .local || k == .cell)) = false) (hi : g.N[i]? = some y) (ts : i ∈ as)
    (h : (decide (z = 0) && srcTg c2 tg && plainX iter && chkI g c2 iter && blkC g.N g.sc scope (ownP g own) && chkG (blkG g scope own) t tg && chkO (blkG g scope own) c ifs && chkE (blkG g scope own) elt e && t.slots.all fun i => decide (i ∈ own)) = true) :
    PS X (.Assign [.Name y py] (.ListComp e [⟨tg, iter, ifs, z⟩] scope lp) pos) (tS M W Φ as (.asg (.nm i) (.comp elt t c2 c own))) ∧ PS X (.Assign [.Name y py] (.ListComp e [⟨tg, iter, ifs, z⟩] scope lp) pos) (tS M W Φ as (.asg (.nm i) (.fz (.comp elt t c2 c own)))) := by
  simp only [Bool.and_eq_true, decide_eq_true_eq] at h
  obtain ⟨⟨⟨⟨⟨⟨⟨⟨hz, htg⟩, h1⟩, h2⟩, h3⟩, h4⟩, h5'⟩, h6'⟩, h7'⟩ := h
  subst hz
  have sl : ∀ j ∈ t.slots, j ∈ own := fun j hj => by
    have := List.all_eq_true.mp h7' j hj
    simpa using this
  have k := ps_setLc (i := i) (y := y) (py := py) (pos := lp) (spos := pos) s.calm (by rw [s.N]; exact s.nd) (by rw [s.N]; exact hi) (by rw [s.sc]; exact hl) (sw_true (by rw [s.sc]; exact h5) (by rw [s.sc]; exact hl) h6 h7)
    (snd_I (W := W) (tg := tg) c2 htg s cl h2) (by rw [s.N, s.sc]; exact blkOk_by h3)
    (fun s0 H C cl fp => snd_G (s.blk (scope := scope) (own := own) s0 H C cl fp) t tg h4)
    (fun s0 H C cl' fp => snd_O c (s.blk (scope := scope) (own := own) s0 H C cl' fp) cl h5')
    (fun s0 H C cl' fp => (snd_E elt (s.blk (scope := scope) (own := own) s0 H C cl' fp) cl h6').pe) (fun x => fold_plain h1 _ x)
  refine ⟨PS.imp k fun D σ H q => ?_, PS.imp k fun D σ H q => ?_⟩
  · rw [ownP_map]
    exact asgN_ent ts (fun σ H Q q => compE_ent sl q) q
  · rw [ownP_map]
    exact asgN_ent ts (fun σ H Q ⟨_, _, _, rel, q⟩ => compE_ent sl (fz_ent rel q)) q
theorem par_ent {D : Ends} {σ : L2.St} {H : Hp} {i j : Nat} {cs : CL} (hi : i ∈ as) (hj : j ∈ as) (h : tS M W Φ as (.asg (.cons (.nm i) (.cons (.nm j) .nil)) (.tup cs)) D σ H) : tPar i j (tL (tsE M W Φ cs)) D σ H := by
  obtain ⟨S, R, ρ, rel, h⟩ := h
  rw [ex] at h
  have h := h.st
  rw [ev] at h
  refine evs_ent cs rel (h.bind.mono fun ds ρ1 h1 => ?_)
  intro vs H1 S1 R1 r f1 rel1 reps live dj
  obtain ⟨ρ2, e, h2⟩ := OutS.ofO h1
  rcases ds with _ | ⟨d1, _ | ⟨d2, _ | ⟨d3, ds⟩⟩⟩
  · cases e
  · rw [putG] at e
    cases q : putG (.nm i) d1 ρ1 with
    | none => rw [q] at e; cases e
    | some ρ3 => rw [q] at e; cases e
  · rcases vs with _ | ⟨v, _ | ⟨w, _ | ⟨u, vs⟩⟩⟩
    · rw [RepVs] at reps; exact reps.elim
    · rw [RepVs] at reps
      obtain ⟨_, _, _, _, _, _, z⟩ := reps
      rw [RepVs] at z; exact z.elim
    · rw [RepVs] at reps
      obtain ⟨r1, r2, k1, k2, dj12, a, b⟩ := reps
      rw [RepVs] at b
      obtain ⟨r3, r4, k3, k4, dj34, b, _⟩ := b
      refine ⟨v, w, rfl, ?_⟩
      rw [putG, putG] at e
      split at e
      · rename_i li
        have e : (putG (.cons (.nm j) .nil) (.tup _ [d2]) (ρ1.set i (some d1))) = some ρ2 := e
        rw [putG, putG] at e
        split at e
        · rename_i lj
          cases e
          have rel2 := rel1.put li a (fun a x => live a (k1 a x)) fun a x y => dj a x (k1 a y)
          have rel3 := rel2.put lj b (fun a x => live a (k2 a (k3 a x))) fun a x y => by
            rcases x with x | x
            · exact dj a x (k2 a (k3 a y))
            · exact dj12 a x (k3 a y)
          exact h2.nx (f1.less fun a x => by
            rcases x with (x | x) | x
            · exact .inl x
            · exact .inr (k1 a x)
            · exact .inr (k2 a (k3 a x))) rel3 ((Agree.set hi).tr (Agree.set hj))
        · cases e
      · cases e
    · rw [RepVs] at reps
      obtain ⟨_, _, _, _, _, _, z⟩ := reps
      rw [RepVs] at z
      obtain ⟨_, _, _, _, _, _, z⟩ := z
      rw [RepVs] at z; exact z.elim
  · rw [putG] at e
    cases q : putG (.nm i) d1 ρ1 with
    | none => rw [q] at e; cases e
    | some ρ3 =>
      rw [q] at e
      have e : putG (.cons (.nm j) .nil) (.tup _ (d2 :: d3 :: ds)) ρ3 = some ρ2 := e
      rw [putG] at e
      cases q2 : putG (.nm j) d2 ρ3 with
      | none => rw [q2] at e; cases e
      | some ρ4 => rw [q2] at e; cases e
theorem asg_ok (s : Sit M n g X W) (cl : Calls M Φ n) {t : CG} {c : CE} {tg e : Expr} {pos : Pos} (ts : ∀ i ∈ t.slots, i ∈ as) (h : chkS g (.asg t c) (.Assign [tg] e pos) = true) : PS X (.Assign [tg] e pos) (tS M W Φ as (.asg t c)) := by
  unfold chkS at h
  simp only [Bool.and_eq_true] at h
  obtain ⟨⟨⟨h1, h2⟩, h3⟩, h4⟩ := h
  have ke := snd_E c s cl h1
  have kg := snd_G s t tg h2
  have a1 : (assignEach [tg] X.env).map (·.2) = [assign tg X.env] := by rw [assign_plain h3]; rfl
  have plain : ∀ (hs : swapsWithSole [tg] e pos.line X.env = pure false) (hw : swappedStores [tg] e X.env = pure none), PS X (.Assign [tg] e pos) (tS M W Φ as (.asg t c)) := fun hs hw =>
    PS.imp (ps_asg ke.pe kg hs hw a1) fun D σ H q => asg_ent ts q
  split at h4
  · rename_i y py elt gs scope lp
    split at h4
    · rename_i hl
      simp only [Bool.and_eq_true, decide_eq_true_eq, Bool.not_eq_true'] at h4 hl
      obtain ⟨⟨⟨hc, h5⟩, h6⟩, h7⟩ := h4
      cases t with
      | nm i =>
        rw [chkG] at h2
        simp only [Bool.and_eq_true, decide_eq_true_eq] at h2
        cases c with
        | comp elt' t' c2 c own =>
          unfold chkE at h1
          split at h1 <;> first | contradiction | skip
          rename_i elt' t' c2 c own e' tg iter ifs z scope' pos' ec1 ec2
          cases ec1
          cases ec2
          exact (lc_set s cl hl h5 h6 h7 h2.1 (ts i (List.mem_singleton_self _)) h1).1
        | fz c' =>
          cases c' with
          | comp elt' t' c2 c own =>
            rw [chkE] at h1
            unfold chkE at h1
            split at h1 <;> first | contradiction | skip
            rename_i elt' t' c2 c own e' tg iter ifs z scope' pos' ec1 ec2
            cases ec1
            cases ec2
            exact (lc_set s cl hl h5 h6 h7 h2.1 (ts i (List.mem_singleton_self _)) h1).2
          | _ => cases hc
        | _ => cases hc
      | _ => cases h2
    · rename_i hl
      simp only [decide_eq_true_eq] at hl
      exact plain (swaps_cell (l := pos.line) (by rw [s.sc]; exact hl)) rfl
  · rename_i x px y py kt pt a b k2 pt2
    rw [Bool.or_eq_true] at h4
    rcases h4 with h4 | h4
    rotate_left
    · exact plain rfl (swap0 (by rw [s.sc]; exact h4))
    rw [Bool.and_eq_true, Bool.and_eq_true] at h4
    obtain ⟨⟨hc, hp⟩, sw⟩ := h4
    cases c with
    | tup cs =>
      unfold chkE at h1
      simp only [Bool.and_eq_true, decide_eq_true_eq] at h1
      have sw0 := sw
      unfold swapC at sw
      simp only [Bool.and_eq_true, decide_eq_true_eq, Bool.not_eq_true'] at sw
      obtain ⟨⟨⟨⟨⟨⟨⟨⟨_, s2⟩, s3⟩, _⟩, s5⟩, _⟩, _⟩, _⟩, _⟩ := sw
      unfold parC at hp
      split at hp
      · rename_i x' y' i j
        simp only [Bool.and_eq_true, decide_eq_true_eq] at hp
        have hij : i ≠ j := fun e => by
          subst e
          have := hp.1.symm.trans hp.2
          rw [Option.some.inj this] at s5
          simp at s5
        refine PS.imp (ps_par s.calm (by rw [s.N]; exact s.nd) (by rw [s.N]; exact hp.1) (by rw [s.N]; exact hp.2) hij (by rw [s.sc]; exact s2) (by rw [s.sc]; exact s3) (pa_all (all_mem h1.1.1) (snd_L cs _ s cl h1.2).L) (swap2 (by rw [s.sc]; exact sw0))) fun D σ H q => ?_
        exact par_ent (ts i (List.mem_cons_self)) (ts j (List.mem_cons_of_mem _ List.mem_cons_self)) q
      · cases hp
    | _ => cases hc
  · simp only [Bool.and_eq_true, Bool.not_eq_true'] at h4
    exact plain (swaps_plain h4.1 _ _ _) (stores_plain h4.2 _)
theorem aug_ok (s : Sit M n g X W) (cl : Calls M Φ n) {i : Nat} {o : Op} {c : CE} {x : Str} {op : Operator} {e : Expr} {p pos : Pos} (ts : i ∈ as) (h : chkS g (.aug i o c) (.AugAssign (.Name x p) op e pos) = true) : PS X (.AugAssign (.Name x p) op e pos) (tS M W Φ as (.aug i o c)) := by
  unfold chkS at h
  simp only [Bool.and_eq_true, decide_eq_true_eq] at h
  obtain ⟨⟨⟨h1, h2⟩, h3⟩, h4⟩ := h
  obtain ⟨l1, l2⟩ := s.fn x h3
  have ke := snd_E c s cl h4
  split at h1
  · exact PS.imp (ps_aug (by rw [s.N]; exact s.nd) (by rw [s.N]; exact h2) l1 ke.pe ip_aug l2) fun D σ H q => aug_add ts q
  · exact PS.imp (ps_aug (by rw [s.N]; exact s.nd) (by rw [s.N]; exact h2) l1 ke.pe ip_sub l2) fun D σ H q => aug_sub ts q
  · cases h1
theorem setix_ok (s : Sit M n g X W) (cl : Calls M Φ n) {i : Nat} {k c : CE} {x : Str} {ix e : Expr} {p p2 pos : Pos} (h : chkS g (.setix (.sl i) k c) (.Assign [.Subscript (.Name x p) ix p2] e pos) = true) : PS X (.Assign [.Subscript (.Name x p) ix p2] e pos) (tS M W Φ as (.setix (.sl i) k c)) := by
  unfold chkS at h
  simp only [Bool.and_eq_true] at h
  obtain ⟨⟨⟨⟨h1, h2⟩, h3⟩, h4⟩, h5⟩ := h
  have kk := snd_E k s cl h4
  have ke := snd_E c s cl h5
  refine PS.imp (ps_asg ke.pe (pg_sub (var_of s h1) kk.pe (set_all (by have := s.hu; omega)) fun v => ?_) (swaps_plain h3 (some (.Subscript (.Name x p) ix p2)) pos.line X.env) (stores_plain rfl _) rfl) fun D σ H q => setix_ent q
  cases ix <;> first | rfl | cases h2
theorem key_of_ (s : Sit M n g X W) {k : CE} {e : Expr} (t : trivK k = true) (h : chkE g k e = true) : PE X e (tKeyR k) := by
  unfold trivK at t
  split at t
  · rename_i j
    cases e <;> first | cases h | skip
    exact var_of s (pos := by assumption) h
  · rename_i i
    cases e <;> first | cases h | skip
    rename_i v _ _
    cases v <;> first | (cases h; done) | skip
    rename_i z
    have e : i = z := by
      have h : (i == z) = true := h
      simpa using h
    subst e
    exact pe_int
  · cases t
theorem snd_P (s : Sit M n g X W) : ∀ {p : CP} {e : Expr}, trivP p = true → chkP g p e = true → PE X e (tPath M.K p)
  | .sl i, e, t, h => by
    cases e <;> first | cases h | skip
    exact var_of s (pos := by assumption) h
  | .at_ p k, e, t, h => by
    cases e <;> first | cases h | skip
    rw [trivP, Bool.and_eq_true] at t
    rw [chkP, Bool.and_eq_true, Bool.and_eq_true] at h
    have k1 := snd_P s t.1 h.1.1
    have k2 := key_of_ s t.2 h.2
    have k3 := pe_ix (pos := by assumption) (ix_all (by have := s.hu; omega)) k1 k2 (plain_ix h.1.2)
    rw [s.K] at k3
    exact k3
  | .fld _ _, e, t, h => by cases t
theorem setixP_ok (s : Sit M n g X W) (cl : Calls M Φ n) {pt : CP} {k c : CE} {eo ix e : Expr} {p2 pos : Pos} (h : (chkP g pt eo && trivP pt && trivK k && ixOk ix && notComp e && chkE g k ix && chkE g c e) = true) : PS X (.Assign [.Subscript eo ix p2] e pos) (tS M W Φ as (.setix pt k c)) := by
  simp only [Bool.and_eq_true] at h
  obtain ⟨⟨⟨⟨⟨⟨h1, h2⟩, h3⟩, h4⟩, h5⟩, h6⟩, h7⟩ := h
  have ke := snd_E c s cl h7
  refine PS.imp (ps_asg ke.pe (pg_sub (snd_P s h2 h1) (key_of_ s h3 h6) (set_all (by have := s.hu; omega)) fun v => ?_) (swaps_plain h5 (some (.Subscript eo ix p2)) pos.line X.env) (stores_plain rfl _) rfl) fun D σ H q => setixP_ent h2 h3 q
  cases ix <;> first | rfl | cases h4
mutual
theorem snd_S : ∀ (c : CS) {st : Stmt} {as : List Nat}, Sit M n g X W → Calls M Φ n → chkS g c st = true → (∀ i ∈ stc c, i ∈ as) → PS X st (tS M W Φ as c)
  | .asg t c, st, as, s, cl, h, ts => by
    have h0 := h
    unfold chkS at h
    split at h <;> first | contradiction | skip
    rename_i ec
    cases ec
    exact asg_ok s cl ts h0
  | .aug i o c, st, as, s, cl, h, ts => by
    have h0 := h
    unfold chkS at h
    split at h <;> first | contradiction | skip
    rename_i ec
    cases ec
    exact aug_ok s cl (ts i List.mem_cons_self) h0
  | .augL _ _, st, as, s, cl, h, ts => by cases st <;> cases h
  | .setix p k c, st, as, s, cl, h, ts => by
    have h0 := h
    unfold chkS at h
    split at h <;> first | contradiction | skip
    · rename_i ec
      cases ec
      exact setix_ok s cl h0
    · rename_i ec
      cases ec
      exact setixP_ok s cl h
  | .augix _ _ _ _, st, as, s, cl, h, ts => by cases st <;> cases h
  | .setf _ _ _, st, as, s, cl, h, ts => by cases st <;> cases h
  | .ex c, st, as, s, cl, h, ts => by
    unfold chkS at h
    split at h <;> first | contradiction | skip
    rename_i ec
    cases ec
    rw [Bool.and_eq_true] at h
    exact PS.imp (ps_expr (snd_E c s cl h.2).pe (swaps_plain h.1 _ _ _)) fun D σ H q => expr_ent q
  | .ret c, st, as, s, cl, h, ts => by
    unfold chkS at h
    split at h <;> first | contradiction | skip
    rename_i ec
    cases ec
    exact PS.imp (ps_ret (snd_E c s cl h).pe) fun D σ H q => ret_ent q
  | .ife c a b, st, as, s, cl, h, ts => by
    unfold chkS at h
    split at h <;> first | contradiction | skip
    rename_i ec
    cases ec
    simp only [Bool.and_eq_true] at h
    exact PS.imp (ps_if (snd_E c s cl h.1.1).pt (snd_B a s cl h.1.2 fun i hi => ts i (List.mem_append_left _ hi)) (snd_B b s cl h.2 fun i hi => ts i (List.mem_append_right _ hi))) fun D σ H q => if_ent q
  | .for_ t sc b, st, as, s, cl, h, ts => by
    unfold chkS at h
    split at h <;> first | contradiction | skip
    rename_i ec
    cases ec
    simp only [Bool.and_eq_true] at h
    obtain ⟨⟨⟨⟨⟨htg, h1⟩, h2⟩, h3⟩, h4⟩, h5⟩ := h
    refine PS.imp (ps_for s.pass s.calm (snd_I sc htg s cl h2) (snd_G s t _ h3) (snd_B b (as := t.slots ++ stc b) s cl h4 fun i hi => List.mem_append_right _ hi) fun x => fold_plain h1 _ x) fun D σ H q => for_ent (fun i hi => List.mem_append_left _ hi) ts (fun ρ i d xs e => ?_) q
    unfold holdOf at e
    split at e
    · rename_i j
      have h5 : decide (j ∉ t.slots ++ stc b) = true := h5
      rw [decide_eq_true_eq] at h5
      cases q : ρ.get j with
      | none => rw [q] at e; cases e
      | some d' =>
        rw [q] at e
        have e : (if d'.fl then (itemsOf false d').map fun xs => (j, d', xs) else none) = some (i, d, xs) := e
        split at e
        · cases z : itemsOf false d' with
          | none => rw [z] at e; cases e
          | some ys => rw [z] at e; cases e; exact h5
        · cases e
    · rename_i j
      have h5 : decide (j ∉ t.slots ++ stc b) = true := h5
      rw [decide_eq_true_eq] at h5
      cases q : ρ.get j with
      | none => rw [q] at e; cases e
      | some d' =>
        rw [q] at e
        have e : (if d'.fl then (itemsOf true d').map fun xs => (j, d', xs) else none) = some (i, d, xs) := e
        split at e
        · cases z : itemsOf true d' with
          | none => rw [z] at e; cases e
          | some ys => rw [z] at e; cases e; exact h5
        · cases e
    · cases e
  | .while_ c b, st, as, s, cl, h, ts => by
    unfold chkS at h
    split at h <;> first | contradiction | skip
    rename_i ec
    cases ec
    simp only [Bool.and_eq_true] at h
    exact PS.imp (ps_while s.pass (snd_E c s cl h.1).pt (snd_B b s cl h.2 ts)) fun D σ H q => while_ent q
  | .raise_ _, st, as, s, cl, h, ts => by cases st <;> cases h
  | .try_ _ _ _ _, st, as, s, cl, h, ts => by cases st <;> cases h
  | .pass, st, as, s, cl, h, ts => by
    unfold chkS at h
    split at h <;> first | contradiction | skip
    exact PS.imp ps_pass fun D σ H q => pass_ent q
  | .brk, st, as, s, cl, h, ts => by
    unfold chkS at h
    split at h <;> first | contradiction | skip
    exact PS.imp ps_break fun D σ H q => brk_ent q
  | .cont, st, as, s, cl, h, ts => by
    unfold chkS at h
    split at h <;> first | contradiction | skip
    exact PS.imp ps_continue fun D σ H q => cont_ent q
  | .frz _ _, st, as, s, cl, h, ts => by cases st <;> cases h
  | .kill _, st, as, s, cl, h, ts => by cases st <;> cases h
  | .nil, st, as, s, cl, h, ts => by cases st <;> cases h
  | .seq _ _, st, as, s, cl, h, ts => by cases st <;> cases h
theorem snd_B : ∀ (c : CS) {sts : List Stmt} {as : List Nat}, Sit M n g X W → Calls M Φ n → chkB g c sts = true → (∀ i ∈ stc c, i ∈ as) → PSs X sts (tS M W Φ as c)
  | .nil, sts, as, s, cl, h, ts => by
    rw [chkB, List.isEmpty_iff] at h
    refine PSs.imp (pss_strip (by rw [h]; exact pss_nil)) fun D σ H q => nil_ent q
  | .seq a b, sts, as, s, cl, h, ts => by
    have tb : ∀ i ∈ stc b, i ∈ as := fun i hi => ts i (List.mem_append_right _ hi)
    unfold chkB at h
    split at h <;> first | contradiction | skip
    · rename_i ec
      cases ec
      exact PSs.imp (snd_B _ s cl h tb) fun D σ H q => kill_ent q
    · rename_i ec
      cases ec
      exact PSs.imp (snd_B _ s cl h tb) fun D σ H q => frz_ent q
    · rename_i ec
      cases ec
      split at h
      · rename_i st rest es
        rw [Bool.and_eq_true] at h
        refine PSs.imp (pss_strip (by rw [es]; exact pss_cons (snd_S a s cl h.1 fun i hi => ts i (List.mem_append_left _ hi)) (snd_B b s cl h.2 tb))) fun D σ H q => seq_ent q
      · cases h
  | .asg _ _, sts, as, s, cl, h, ts => by cases sts <;> cases h
  | .aug _ _ _, sts, as, s, cl, h, ts => by cases sts <;> cases h
  | .augL _ _, sts, as, s, cl, h, ts => by cases sts <;> cases h
  | .setix _ _ _, sts, as, s, cl, h, ts => by cases sts <;> cases h
  | .augix _ _ _ _, sts, as, s, cl, h, ts => by cases sts <;> cases h
  | .setf _ _ _, sts, as, s, cl, h, ts => by cases sts <;> cases h
  | .ex _, sts, as, s, cl, h, ts => by cases sts <;> cases h
  | .ret _, sts, as, s, cl, h, ts => by cases sts <;> cases h
  | .ife _ _ _, sts, as, s, cl, h, ts => by cases sts <;> cases h
  | .for_ _ _ _, sts, as, s, cl, h, ts => by cases sts <;> cases h
  | .while_ _ _, sts, as, s, cl, h, ts => by cases sts <;> cases h
  | .raise_ _, sts, as, s, cl, h, ts => by cases sts <;> cases h
  | .try_ _ _ _ _, sts, as, s, cl, h, ts => by cases sts <;> cases h
  | .pass, sts, as, s, cl, h, ts => by cases sts <;> cases h
  | .brk, sts, as, s, cl, h, ts => by cases sts <;> cases h
  | .cont, sts, as, s, cl, h, ts => by cases sts <;> cases h
  | .frz _ _, sts, as, s, cl, h, ts => by cases sts <;> cases h
  | .kill _, sts, as, s, cl, h, ts => by cases sts <;> cases h
end
end
end MP

set_option autoImplicit false
set_option linter.all false
set_option maxRecDepth 100000
/-! MP: the table's defs, by fuel. -/
namespace MP
open PySem L2

/-- what is known of a def: the text, its scope, that the table's entry is its reading -/
structure FnD (M : Md) (cs : List (Str × D)) (f : Nat) (F : Fn) (x qual : Str) (params : Arguments) (body : List Stmt) (scope : Scope) (kws : List (Str × V)) (fd : FuncData) (ps : List Str) : Prop where
  ob : FunD M.K x qual params body scope [] kws (M.fa f) fd
  sc : FnScope F.names ps scope
  np : ps.length = F.np
  bd : Binds M.K fd ps []
  at_ : M.mg F.name = some (.ref (M.fa f))
  ref : F.ref.length = F.np
  refs : ∀ i : Nat, F.ref[i]? = some true → i ∉ stc F.body
  chk : chkB { N := F.names, sc := scope, asn := F.names.filter fun x => loc scope x, T := M.T, cs := cs } F.body body = true

section
variable {M : Md} {cs : List (Str × D)}
theorem outsR_get : ∀ (ref : List Bool) (ρ : Rho) (i : Nat) (d : D), (outsR ref ρ)[i]? = some (some d) → ref[i]? = some true ∧ ρ[i]? = some (some d)
  | [], ρ, i, d, h => by cases ρ <;> simp [outsR] at h
  | b :: bs, [], i, d, h => by simp [outsR] at h
  | b :: bs, o :: os, 0, d, h => by
    rw [outsR, List.getElem?_cons_zero] at h
    cases b with
    | true => exact ⟨rfl, by simpa using h⟩
    | false => simp at h
  | b :: bs, o :: os, i + 1, d, h => by
    rw [outsR, List.getElem?_cons_succ] at h
    obtain ⟨h1, h2⟩ := outsR_get bs os i d h
    exact ⟨by rw [List.getElem?_cons_succ]; exact h1, by rw [List.getElem?_cons_succ]; exact h2⟩
theorem outsR_len : ∀ (ref : List Bool) (ρ : Rho), (outsR ref ρ).length ≤ ref.length
  | [], ρ => by cases ρ <;> simp [outsR]
  | b :: bs, [] => by simp [outsR]
  | b :: bs, o :: os => by rw [outsR, List.length_cons, List.length_cons]; exact Nat.succ_le_succ (outsR_len bs os)
theorem outs_of {S H : Hp} {σ : L2.St} {ρ : Rho} {R : Own} {ref : List Bool} {vs : List V} (rel : Rel M.K S H σ ρ R) (k : ∀ i : Nat, ref[i]? = some true → σ[i]? = (vs.map some)[i]?) : OutsR M.K S H (outsR ref ρ) vs R := by
  obtain ⟨own, h1, h2, h3⟩ := rel.slots
  have z := Rel.outs (M := M) (os := outsR ref ρ) (vs := vs) (own := own) (S := S) (H := H) (fun i d e => by
    obtain ⟨e1, e2⟩ := outsR_get ref ρ i d e
    obtain ⟨v, e3, e4⟩ := h1 i d e2
    exact ⟨v, by rw [← k i e1]; exact e3, e4⟩) h3
  exact Rel.outs.OutsR.mono z fun a ⟨i, x⟩ => h2 i a x
theorem rel_start {S H : Hp} {vs : List V} {ds : List D} {R : Own} {F : Fn} (rel : Rel M.K S H (vs.map some) (ds.map some) R) : Rel M.K S H (L2.start F.names vs) (initR F ds) R := by
  obtain ⟨own, h1, h2, h3⟩ := rel.slots
  have hl : ds.length = vs.length := by have := rel.len; simpa using this
  refine ⟨rel.sub, rel.live, by unfold L2.start initR; simp [hl], own, fun i d e => ?_, h2, h3⟩
  unfold initR at e
  have hi : i < (ds.map some).length := by
    by_cases hi : i < (ds.map some).length
    · exact hi
    · rw [List.getElem?_append_right (by omega), List.getElem?_replicate] at e
      split at e <;> cases e
  rw [List.getElem?_append_left hi] at e
  obtain ⟨v, e1, e2⟩ := h1 i d e
  refine ⟨v, ?_, e2⟩
  unfold L2.start
  rw [List.getElem?_append_left (by rw [List.length_map]; rw [List.length_map, hl] at hi; exact hi)]
  exact e1

/-- the module's side -/
structure Mod_ (M : Md) (cs : List (Str × D)) : Prop where
  cs : ∀ p ∈ cs, ∃ v u, M.mg p.1 = some u ∧ RelV v u ∧ p.2.fl = false ∧ ∀ S H, RepV M.K S H p.2 v none_
  free0 : ∀ x ∈ MP.blt, M.mg x = none
/-- every def of the table has its text -/
def Defs (M : Md) (cs : List (Str × D)) : Prop := ∀ f F, M.T.fns[f]? = some F → F.kind = 0 → ∃ x qual params body scope kws fd ps, FnD M cs f F x qual params body scope kws fd ps

theorem fn_step (mo : Mod_ M cs) {n : Nat} (ih : Calls M (runF M.T n) n) {f : Nat} {F : Fn} (hF : M.T.fns[f]? = some F) {x qual : Str} {params : Arguments} {body : List Stmt} {scope : Scope} {kws : List (Str × V)} {fd : FuncData} {ps : List Str} (d : FnD M cs f F x qual params body scope kws fd ps) :
    FnOk M.P M.w M.K M.mg M.base (L2.CX M.P M.w) (n + 1) (M.fa f) fd ps (spI M (runF M.T (n + 1)) f F) := by
  refine d.ob.ok d.sc (fun vs H Q E h => by rw [d.np]; exact h.1) fun cdv A outer s H vs Q E hr h => ?_
  have sit : Sit M n { N := F.names, sc := scope, asn := F.names.filter fun x => loc scope x, T := M.T, cs := cs } (cxOf (L2.CX M.P M.w) M.P M.w M.K M.mg M.base F.names qual scope (M.fa f) cdv A outer s H E) (fun cls d _ H => E cls d H) := by
    refine ⟨rfl, rfl, rfl, rfl, rfl, rfl, d.sc.nd, rfl, rfl, takes_of rfl rfl rfl rfl, hr, fun y hy => ?_, rfl, mo.cs, mo.free0, passes_of (X := cxOf (L2.CX M.P M.w) M.P M.w M.K M.mg M.base F.names qual scope (M.fa f) cdv A outer s H E) rfl⟩
    have hl : loc scope y = true := (List.mem_filter.mp hy).2
    unfold loc at hl
    simp only [Bool.or_eq_true, decide_eq_true_eq] at hl
    exact ⟨hl, .inl rfl⟩
  refine ⟨tS M (fun cls d _ H => E cls d H) (runF M.T n) (stc F.body) F.body, snd_B F.body sit ih d.chk fun i hi => hi, ?_⟩
  obtain ⟨hl, S, ds, R, rel, h⟩ := h
  have hd : ds.length = vs.length := by have := rel.len; simpa using this
  refine ⟨S, R, initR F ds, rel_start rel, ?_⟩
  rw [runF, hF] at h
  dsimp only at h
  cases hc : (decide (ds.length = F.np) && argsOk F.ref ds) with
  | false => rw [hc] at h; exact h.elim
  | true =>
    rw [hc, if_pos rfl] at h
    have keep : ∀ {σ' : L2.St}, Agree (stc F.body) (L2.start F.names vs) σ' → ∀ i : Nat, F.ref[i]? = some true → σ'[i]? = (vs.map some)[i]? := fun {σ'} ag i hi => by
      rw [ag.2 i (d.refs i hi)]
      have hb : i < F.ref.length := (List.getElem?_eq_some_iff.mp hi).1
      unfold L2.start
      rw [List.getElem?_append_left (by rw [List.length_map, hl, ← d.ref]; exact hb)]
    have hlen : ∀ ρ : Rho, (outsR F.ref ρ).length ≤ vs.length := fun ρ => by
      have := outsR_len F.ref ρ
      rw [d.ref, ← hl] at this
      exact this
    cases q : ex M.T (runF M.T n) M.T.sub F.body (initR F ds) with
    | next ρ' =>
      rw [q] at h
      intro σ' H' S' R' g rel' _ _ _ ag
      exact h .non H' S' R' none_ (hlen ρ') (g.free.less fun a x => x.elim id False.elim) rel'.sub (by rw [RepV]) (fun a x => x.elim) (outs_of rel' (keep ag)) rel'.live fun a _ x => x
    | ret v ρ' =>
      rw [q] at h
      intro w σ' H' S' R' r g rel' rep live dj _ _ ag
      exact h w H' S' R' r (hlen ρ') g.free2 rel'.sub rep (fun a x => live a (.inl x)) (outs_of rel' (keep ag)) rel'.live fun a x y => dj a x (.inl y)
    | ex c ρ' =>
      rw [q] at h
      intro σ' H' S' R' g rel' _ _ _ ag
      exact h H' S' R' (hlen ρ') g.free rel'.sub (outs_of rel' (keep ag)) rel'.live
    | brk ρ' => rw [q] at h; exact h.elim
    | cont ρ' => rw [q] at h; exact h.elim
    | bad => rw [q] at h; exact h.elim
theorem calls_ok (mo : Mod_ M cs) (df : Defs M cs) : ∀ n, Calls M (runF M.T n) n
  | 0, f, F, hF, hk => by
    obtain ⟨x, qual, params, body, scope, kws, fd, ps, d⟩ := df f F hF hk
    refine ⟨⟨fd, ps, ⟨fun vs H Q E h => by rw [d.np]; exact h.1, fun A outer s H args us vs Q E _ _ _ _ h => ?_⟩, d.bd⟩, d.at_, d.ob.kp⟩
    obtain ⟨_, S, ds, R, _, h⟩ := h
    exact h.elim
  | n + 1, f, F, hF, hk => by
    obtain ⟨x, qual, params, body, scope, kws, fd, ps, d⟩ := df f F hF hk
    exact ⟨⟨fd, ps, fn_step mo (calls_ok mo df n) hF d, d.bd⟩, d.at_, d.ob.kp⟩
end
end MP

set_option autoImplicit false
set_option linter.all false
set_option maxRecDepth 100000
/-! MP: from a table to a law. -/
namespace MP
open PySem L2

def psOf (d : He.DefD) : List Str := d.params.args.map (·.arg)
def dOf (st : Stmt) : He.DefD := match st with
  | .FunctionDef n a b _ _ _ sc _ _ _ => ⟨(n, none), n, n, a, b, sc, [], []⟩
  | _ => ⟨("", none), "", "", ⟨[], [], none, [], [], none, []⟩, [], ⟨.module, [], false, false, []⟩, [], []⟩
def BindOk (d : He.DefD) : Prop := ∀ (kV doc pm : Value) (an : Option Addr) (cdv ct : Value) (us : List Value), us.length = (psOf d).length → bindArgs (PySem.W.fnOf d.name d.qual d.params d.body d.scope .none kV doc pm an cdv ct) ⟨us, []⟩ = pure ((psOf d).zip us)
inductive BAll : List He.DefD → Prop where
  | nil : BAll []
  | cons {d : He.DefD} {ds : List He.DefD} : BindOk d → BAll ds → BAll (d :: ds)
theorem BAll.get : ∀ {ds : List He.DefD} {i : Nat} {d : He.DefD}, BAll ds → ds[i]? = some d → BindOk d
  | _ :: _, 0, _, .cons h _, e => by cases e; exact h
  | _ :: _, i + 1, _, .cons _ h, e => h.get (i := i) (by simpa using e)

def scC (N ps : List Str) (sc : Scope) : Bool := (match sc.kind with | .function => true | _ => false) && !sc.isCoroutine && !sc.isGenerator && decide N.Nodup && decide (N.take ps.length = ps) && (ps.all fun x => loc sc x) && sc.names.all fun y => match y.2 with | .free => false | _ => true
theorem scC_ok {N ps : List Str} {sc : Scope} (h : scC N ps sc = true) : FnScope N ps sc := by
  unfold scC at h
  simp only [Bool.and_eq_true, List.all_eq_true, decide_eq_true_eq, Bool.not_eq_true'] at h
  obtain ⟨⟨⟨⟨⟨⟨h1, h2⟩, h3⟩, h4⟩, h5⟩, h6⟩, h7⟩ := h
  refine ⟨?_, h2, h3, h4, h5, fun x hx => ?_, fun y hy e => ?_⟩
  · cases q : sc.kind with
    | function => rfl
    | _ => rw [q] at h1; cases h1
  · have := h6 x hx
    unfold loc at this
    simpa using this
  · have := h7 y hy
    rw [e] at this
    cases this
def refC (F : Fn) : Bool := (List.range F.ref.length).all fun i => !(decide (F.ref[i]? = some true)) || decide (i ∉ stc F.body)
theorem refC_ok {F : Fn} (h : refC F = true) (i : Nat) (hi : F.ref[i]? = some true) : i ∉ stc F.body := by
  unfold refC at h
  rw [List.all_eq_true] at h
  have hl : i < F.ref.length := (List.getElem?_eq_some_iff.mp hi).1
  have := h i (List.mem_range.mpr hl)
  rw [decide_eq_true hi] at this
  simpa using this
/-- a def's text against its entry of the table -/
def fnC (T : Tab) (cs : List (Str × D)) (d : He.DefD) (F : Fn) : Bool := decide (F.name = d.name) && decide (d.at_ = (d.name, none)) && d.dfl.isEmpty && d.kwd.isEmpty && scC F.names (psOf d) d.scope && decide ((psOf d).length = F.np) && decide (F.ref.length = F.np) && refC F &&
  chkB { N := F.names, sc := d.scope, asn := F.names.filter fun x => loc d.scope x, T := T, cs := cs } F.body d.body
def tabC (T : Tab) (cs : List (Str × D)) (ds : List He.DefD) : Bool := decide (T.fns.length = ds.length) && (ds.zip T.fns).all fun p => fnC T cs p.1 p.2
def cokC (p : Str × D) : Bool := match p.2 with
  | .str z => decide (z.length ≤ lim)
  | .int _ => true
  | _ => false
def faC (p : Str × D) : He.Fa := match p.2 with
  | .str z => .str p.1 ⟨z.toArray⟩
  | .int i => .int p.1 i
  | _ => .free p.1
def faOf (ds : List He.DefD) (cs : List (Str × D)) : List He.Fa := (ds.map fun d => .glo d.name) ++ (blt.map .free ++ cs.map faC)

/-- the names, addresses of a row -/
def mdOf (P : Program) (w : World) (K : PySem.W.Frag) (mg : Str → Option Value) (base : Heap) (T : Tab) (ds : List He.DefD) : Md :=
  { P := P, w := w, K := K, mg := mg, base := base, T := T, ad := fun _ => 0, fa := fun f => He.fAd K (match ds[f]? with | some d => d.at_ | none => ("", none)) }
section
variable {P : Program} {w : World} {K : PySem.W.Frag} {h : Heap} {mg : Str → Option Value} {base : Heap} {T : Tab} {ds : List He.DefD} {fa : List He.Fa} {cs : List (Str × D)}
theorem fact_of (c : He.SaysD fa ds K) {f : He.Fa} (hf : f ∈ fa) : f.ok K = true := by
  obtain ⟨i, hi, e⟩ := List.mem_iff_getElem.mp hf
  exact c.fact i (f := f) (by rw [List.getElem?_eq_getElem hi, e])
theorem fnD_of (X : K.In h) (G : h.Ns mainGlobals mg) (c : He.SaysD fa ds K) (hfa : ∀ f ∈ faOf ds cs, f ∈ fa) (tc : tabC T cs ds = true) (bs : BAll ds) {f : Nat} {F : Fn} (hF : T.fns[f]? = some F) :
    ∃ (d : He.DefD) (fd : FuncData), ds[f]? = some d ∧ FnD (mdOf P w K mg base T ds) cs f F d.name d.qual d.params d.body d.scope [] fd (psOf d) ∧ FunD K d.name d.qual d.params d.body d.scope [] [] (He.ga K d.name) fd := by
  unfold tabC at tc
  simp only [Bool.and_eq_true, decide_eq_true_eq, List.all_eq_true] at tc
  obtain ⟨hl, tc⟩ := tc
  have hf : f < T.fns.length := (List.getElem?_eq_some_iff.mp hF).1
  have hd : ∃ d, ds[f]? = some d := ⟨_, List.getElem?_eq_getElem (by rw [← hl]; exact hf)⟩
  obtain ⟨d, hd⟩ := hd
  have ck := tc (d, F) (List.mem_of_getElem? (by rw [List.getElem?_zip_eq_some]; exact ⟨hd, hF⟩ : (ds.zip T.fns)[f]? = some (d, F)))
  unfold fnC at ck
  simp only [Bool.and_eq_true, decide_eq_true_eq, List.isEmpty_iff] at ck
  obtain ⟨⟨⟨⟨⟨⟨⟨⟨c1, c2⟩, c3⟩, c4⟩, c5⟩, c6⟩, c7⟩, c8⟩, c9⟩ := ck
  obtain ⟨fd, fn⟩ := c.def_ f hd
  have e1 : d.dvs K = [] := by unfold He.DefD.dvs; rw [c3]; rfl
  have e2 : d.kws K = [] := by unfold He.DefD.kws; rw [c4]; rfl
  have e3 : He.fAd K d.at_ = He.ga K d.name := by rw [c2]; rfl
  rw [e1, e2] at fn
  have efa : (mdOf P w K mg base T ds).fa f = He.fAd K d.at_ := by
    unfold mdOf
    dsimp only
    rw [hd]
  refine ⟨d, fd, hd, ⟨?_, scC_ok c5, c6, ?_, ?_, c7, refC_ok c8, c9⟩, by rw [← e3]; exact fn⟩
  · rw [efa]; exact fn
  · exact fn.bindsN (bs.get hd)
  · rw [efa, e3, c1]
    exact He.glo_ok X G (fact_of c (hfa _ (List.mem_append_left _ (List.mem_map.mpr ⟨d, List.mem_of_getElem? hd, rfl⟩))))
theorem mod_of (X : K.In h) (G : h.Ns mainGlobals mg) (c : He.SaysD fa ds K) (hfa : ∀ f ∈ faOf ds cs, f ∈ fa) (hc : cs.all cokC = true) : Mod_ (mdOf P w K mg base T ds) cs := by
  refine ⟨fun p hp => ?_, fun x hx => He.free_ok X G (fact_of c (hfa _ (List.mem_append_right _ (List.mem_append_left _ (List.mem_map.mpr ⟨x, hx, rfl⟩)))))⟩
  have ck := List.all_eq_true.mp hc p hp
  have fk := fact_of c (hfa _ (List.mem_append_right _ (List.mem_append_right _ (List.mem_map.mpr ⟨p, hp, rfl⟩))))
  obtain ⟨x, d⟩ := p
  cases d with
  | str z =>
    obtain ⟨t, e⟩ := He.str_ok X G (x := x) (z := ⟨z.toArray⟩) fk
    have ck : decide (z.length ≤ lim) = true := ck
    refine ⟨.str ⟨z.toArray⟩, _, e, ⟨t, rfl⟩, rfl, fun S H => ?_⟩
    rw [RepV]
    exact ⟨rfl, by rw [← lim_eq]; exact of_decide_eq_true ck⟩
  | int i =>
    obtain ⟨t, e⟩ := He.int_ok X G (x := x) (i := i) fk
    exact ⟨.int i, _, e, ⟨t, rfl⟩, rfl, fun S H => by rw [RepV]⟩
  | _ => cases ck
/-- a def that lets nothing out -/
theorem calm_of {mg : Str → Option Value} {base : Heap} {n : Nat} {f : Addr} {fd : FuncData} {ps : List Str} {sp : Sp} (F : FnOk P w K mg base (L2.CX P w) n f fd ps sp) : FnOk P w K mg base CX0 n f fd ps fun vs H Q _ => sp vs H Q fun _ _ _ => False :=
  ⟨fun vs H Q _ h => F.len vs H Q _ h, fun A outer s H args us vs Q _ hr he hb hv h => codeAny_mono (F.run A outer s H args us vs Q _ hr he hb hv h) fun r s' hq => by
    cases r with
    | error e =>
      obtain ⟨_, _, _, _, _, _, _, _, _, _, _, _, z⟩ := hq
      exact z.elim
    | ok fl => cases fl <;> exact hq⟩
/-- the law's def, the script handed in -/
theorem law_of (X : K.In h) (G : h.Ns mainGlobals mg) (c : He.SaysD fa ds K) (hfa : ∀ f ∈ faOf ds cs, f ∈ fa) (tc : tabC T cs ds = true) (hc : cs.all cokC = true) (bs : BAll ds) (fu : Nat) {f : Nat} {F : Fn} {x : Str} (hF : T.fns[f]? = some F) (hp : (ds[f]?.map psOf) = some [x]) (hn : (ds[f]?.map (·.name)) = some "law")
    (kd : ∀ (f : Nat) (F : Fn), T.fns[f]? = some F → F.kind = 0) (k : Addr) (hk : mg "law" = some (.ref k)) (most : Nat)
    (math : ∀ ns : List Int, ns.length ≤ most → ∃ outs, runF T (fu + 1) f [.lst false (ns.map .int)] = .ok (.bl true) outs) (hm : most ≤ sizeLine) :
    ∃ (fd : FuncData) (sp : Sp), (∀ (s : Shared) (u : Value), BindsTo s fd ⟨[u], []⟩ [(x, u)]) ∧ (∀ (H : Hp) (a : Addr) (ns : List Int), ns.length ≤ most → Only H → SqL K H a (ns.map V.int) → sp [.ref a] H (fun v _ => v = .bl true) fun _ _ _ => False) ∧
      ∀ base : Heap, K.In base → base.Ns mainGlobals mg → FnOk P w K mg base CX0 (fu + 1) k fd [x] sp := by
  obtain ⟨d, fd, hd, fn, fno⟩ := fnD_of (P := P) (w := w) (base := h) X G c hfa tc bs hF
  rw [hd] at hp hn
  have hp : psOf d = [x] := Option.some.inj hp
  have hn : d.name = "law" := Option.some.inj hn
  have e := hk.symm.trans (hn ▸ He.glo_ok X G (fact_of c (hfa _ (List.mem_append_left _ (List.mem_map.mpr ⟨d, List.mem_of_getElem? hd, rfl⟩)))))
  cases e
  refine ⟨fd, fun vs H Q _ => spI (mdOf P w K mg h T ds) (runF T (fu + 1)) f F vs H Q fun _ _ _ => False, fun s u => ?_, fun H a ns hl _ hS => ?_, fun base KX GX => ?_⟩
  · have b := FunD.bindsA (ps := psOf d) fno (bs.get hd)
    rw [hp] at b
    exact b s [u] rfl
  · obtain ⟨outs, em⟩ := math ns hl
    have np : F.np = 1 := by rw [← fn.np, hp]; rfl
    have reps : RepVs K H H [.lst false (ns.map .int)] [.ref a] none_ := by
      have items : ∀ ns : List Int, RepVs K H H (ns.map .int) (ns.map V.int) none_ := by
        intro ns
        induction ns with
        | nil => rw [List.map_nil, List.map_nil, RepVs]; trivial
        | cons i ns ih =>
          rw [List.map_cons, List.map_cons, RepVs]
          exact ⟨none_, none_, fun _ x => x, fun _ x => x, fun _ x _ => x, by rw [RepV], ih⟩
      rw [RepVs]
      refine ⟨none_, none_, fun _ x => x, fun _ x => x, fun _ x _ => x, ?_, by rw [RepVs]; trivial⟩
      rw [RepV]
      refine ⟨a, _, rfl, hS, by rw [List.length_map]; omega, ?_, items ns⟩
      unfold unfl
      rw [List.all_map, List.all_eq_true]
      exact fun _ _ => rfl
    refine ⟨by rw [np]; rfl, H, _, none_, RepVs.rel (M := mdOf P w K mg h T ds) (Same.refl H) reps (fun a x => x.elim), ?_⟩
    rw [em]
    intro v H' S' R' r _ _ _ rep _ _ _ _
    rw [RepV] at rep
    exact rep
  · have dfs : Defs (mdOf P w K mg base T ds) cs := fun f' F' hF' _ => by
      obtain ⟨d', fd', _, z, _⟩ := fnD_of (P := P) (w := w) (base := base) X G c hfa tc bs hF'
      exact ⟨_, _, _, _, _, _, fd', _, z⟩
    have mo : Mod_ (mdOf P w K mg base T ds) cs := mod_of X G c hfa hc
    have cl := calls_ok mo dfs fu
    have fn2 : FnD (mdOf P w K mg base T ds) cs f F d.name d.qual d.params d.body d.scope [] fd (psOf d) := ⟨fn.ob, fn.sc, fn.np, fn.bd, fn.at_, fn.ref, fn.refs, fn.chk⟩
    have z := fn_step mo cl hF fn2
    rw [hp] at z
    have ea : (mdOf P w K mg base T ds).fa f = He.ga K d.name := by
      have : d.at_ = (d.name, none) := by
        unfold tabC at tc
        simp only [Bool.and_eq_true, decide_eq_true_eq, List.all_eq_true] at tc
        have ck := tc.2 (d, F) (List.mem_of_getElem? (by rw [List.getElem?_zip_eq_some]; exact ⟨hd, hF⟩ : (ds.zip T.fns)[f]? = some (d, F)))
        unfold fnC at ck
        simp only [Bool.and_eq_true, decide_eq_true_eq] at ck
        exact ck.1.1.1.1.1.1.1.2
      unfold mdOf
      dsimp only
      rw [hd]
      dsimp only
      rw [this]
      rfl
    rw [ea, hn] at z
    exact calm_of z
end
end MP

set_option autoImplicit false
set_option linter.all false
set_option maxRecDepth 100000
/-! MP: what is to be shown of a run, step by step. -/
namespace MP
open PySem

def okR {α : Type} (r : R α) (Q : α → Rho → Prop) (E : Nat → Rho → Prop) : Prop := match r with
  | .ok a ρ => Q a ρ
  | .ex k ρ => E k ρ
  | .bad => False
structure Ks where
  nx : Rho → Prop
  rt : D → Rho → Prop
  bk : Rho → Prop
  ct : Rho → Prop
  ex : Nat → Rho → Prop
def okS (r : SR) (K : Ks) : Prop := match r with
  | .next ρ => K.nx ρ
  | .ret d ρ => K.rt d ρ
  | .brk ρ => K.bk ρ
  | .cont ρ => K.ct ρ
  | .ex k ρ => K.ex k ρ
  | .bad => False
theorem okR_bind {α β : Type} {r : R α} {f : α → Rho → R β} {Q : β → Rho → Prop} {E : Nat → Rho → Prop} : okR (r.bind f) Q E ↔ okR r (fun a ρ => okR (f a ρ) Q E) E := by cases r <;> exact Iff.rfl
theorem okR_mono {α : Type} {r : R α} {Q Q' : α → Rho → Prop} {E : Nat → Rho → Prop} (h : okR r Q E) (k : ∀ a ρ, Q a ρ → Q' a ρ) : okR r Q' E := by
  cases r with
  | ok a ρ => exact k _ _ h
  | ex j ρ => exact h
  | bad => exact h
theorem okR_of {α : Type} {ρ : Rho} {o : Option α} {Q : α → Rho → Prop} {E : Nat → Rho → Prop} : okR (R.of ρ o) Q E ↔ ∃ a, o = some a ∧ Q a ρ := by
  cases o with
  | none => exact ⟨fun h => h.elim, fun ⟨a, e, _⟩ => nomatch e⟩
  | some a => exact ⟨fun h => ⟨a, rfl, h⟩, fun ⟨b, e, h⟩ => by cases e; exact h⟩
theorem okS_st {α : Type} {r : R α} {f : α → Rho → SR} {K : Ks} : okS (r.st f) K ↔ okR r (fun a ρ => okS (f a ρ) K) K.ex := by cases r <;> exact Iff.rfl
theorem okS_then {r : SR} {f : Rho → SR} {K : Ks} : okS (r.then f) K ↔ okS r { K with nx := fun ρ => okS (f ρ) K } := by cases r <;> exact Iff.rfl

/-- bounds of a range -/
structure RngB (j : Int) : Prop where
  hi : j < 2 ^ 60
  lo : -(2 ^ 60) < j
theorem RngB.b {j : Int} (h : RngB j) : (decide (j < 2 ^ 60) && decide (-(2 ^ 60) < j)) = true := by
  rw [decide_eq_true h.hi, decide_eq_true h.lo]; rfl
section
variable (T : Tab) (Φ : Nat → List D → FR)
/-- a call's end -/
def vCall (F : Fn) (bs : List Bool) (as : CL) (r : FR) (ρ : Rho) (Q : D → Rho → Prop) (E : Nat → Rho → Prop) : Prop := match r with
  | .ok d outs => (hasBw as && !(d.noSh && outs.all fun o => match o with | some d => d.noSh | none => true)) = false ∧ (if F.kind = 2 then (match outs with | some s :: outs => Q s (backR bs as outs ρ) | _ => False) else Q d (backR bs as outs ρ))
  | .ex c outs => (hasBw as && !(outs.all fun o => match o with | some d => d.noSh | none => true)) = false ∧ (if F.kind = 2 then (match outs with | _ :: outs => E c (backR bs as outs ρ) | _ => False) else E c (backR bs as outs ρ))
  | .bad => False
def vB (d : D) (P : Bool → Prop) : Prop := match d with
  | .bl b => P b
  | _ => False
/-- the turns of a comprehension -/
def vSeq (f : D → Rho → (Option D → Rho → Prop) → Prop) (xs : List D) (ρ : Rho) (Q : List D → Rho → Prop) : Prop :=
  ∃ J : Nat → List D → Rho → Prop, J 0 [] ρ ∧ (∀ i x ys ρ, xs[i]? = some x → J i ys ρ → f x ρ fun o ρ' => J (i + 1) (ys ++ o.toList) ρ') ∧ ∀ ys ρ, J xs.length ys ρ → Q ys ρ
mutual
def vE : CE → Rho → (D → Rho → Prop) → (Nat → Rho → Prop) → Prop
  | .rd i fs, ρ, Q, E => ∃ d, ρ.rd i fs = some d ∧ d.fl = false ∧ Q d ρ
  | .mv i, ρ, Q, E => ∃ d, ρ.get i = some d ∧ Q d (ρ.set i none)
  | .bw _, _, _, _ => False
  | .fz c, ρ, Q, E => vE c ρ (fun d ρ => Q d.frz ρ) E
  | .k d, ρ, Q, E => Q d ρ
  | .gl _ d, ρ, Q, E => Q d ρ
  | .op o as, ρ, Q, E => vP as ρ (fun ds ρ => ∃ d, opF T.sub o ds = some d ∧ Q d ρ) E
  | .tup as, ρ, Q, E => vL as ρ (fun ds ρ => Q (.tup (ds.any D.fl) ds) ρ) E
  | .lst as, ρ, Q, E => vL as ρ (fun ds ρ => Q (.lst true ds) ρ) E
  | .dic kd as, ρ, Q, E => vL as ρ (fun ds ρ => Q (.dic true kd (evens ds) (odds ds)) ρ) E
  | .call f as, ρ, Q, E => match T.fns[f]? with
    | none => False
    | some F => vR (if F.kind = 2 then F.ref.drop 1 else F.ref) as ρ (fun os ρ => okR (takeR (if F.kind = 2 then F.ref.drop 1 else F.ref) as os ρ) (fun ds ρ =>
        ∃ r, vCall F (if F.kind = 2 then F.ref.drop 1 else F.ref) as r ρ Q E ∧ Φ f ((if F.kind = 2 then [D.ins true f [] []] else []) ++ ds ++ F.dfl.drop (F.dfl.length + ds.length - (F.np - if F.kind = 2 then 1 else 0))) = r) E) E
  | .and_ a b, ρ, Q, E => vE a ρ (fun d ρ => vB d fun k => if k = true then vE b ρ Q E else Q (.bl false) ρ) E
  | .or_ a b, ρ, Q, E => vE a ρ (fun d ρ => vB d fun k => if k = true then Q (.bl true) ρ else vE b ρ Q E) E
  | .not_ a, ρ, Q, E => vE a ρ (fun d ρ => vB d fun k => Q (.bl (!k)) ρ) E
  | .chain o p a b c, ρ, Q, E => vE a ρ (fun x ρ => vE b ρ (fun y ρ => ∃ d, opF T.sub o [x, y] = some d ∧ vB d fun k => if k = true then vE c ρ (fun z ρ => ∃ d, opF T.sub p [y, z] = some d ∧ Q d ρ) E else Q (.bl false) ρ) E) E
  | .comp elt t s c own, ρ, Q, E => ownFl own ρ = false ∧ match holdOf s ρ with
    | some (i, d, xs) => vSeq (fun x ρ₁ P => ∃ ρ₂, putG t x (clr own ρ₁) = some ρ₂ ∧ vO c ρ₂ (fun b ρ₃ => if b = true then vE elt ρ₃ (fun y ρ₄ => P (some y) ρ₄) (fun _ _ => False) else P none ρ₃) fun _ _ => False) xs (ρ.set i none) fun ys ρ' => ys.length ≤ lim ∧ Q (.lst true ys) ((unclr ρ own ρ').set i (some d))
    | none => vI s ρ (fun xs ρ => ownFl own ρ = false ∧ vSeq (fun x ρ₁ P => ∃ ρ₂, putG t x (clr own ρ₁) = some ρ₂ ∧ vO c ρ₂ (fun b ρ₃ => if b = true then vE elt ρ₃ (fun y ρ₄ => P (some y) ρ₄) (fun _ _ => False) else P none ρ₃) fun _ _ => False) xs ρ fun ys ρ' => ys.length ≤ lim ∧ Q (.lst true ys) (unclr ρ own ρ')) E
  | .mut p m as, ρ, Q, E => okR (evpath T Φ p ρ) (fun q ρ => mutAtM m ρ q.1 q.2 = true ∧ vL as ρ (fun ds ρ => okR (ρ.mod q.1 q.2 (mutF m ds)) Q E) E) E
  | .sortk f a, ρ, Q, E => okR (ev T Φ (.sortk f a) ρ) Q E
  | .meth o (.rd i []) as, ρ, Q, E => ∃ d0, ρ.get i = some d0 ∧ d0.kind = recvK o ∧ vP as ρ (fun ds ρ => ∃ d, ρ.get i = some d ∧ d.kind = d0.kind ∧ ∃ r, opF T.sub o (d :: ds) = some r ∧ Q r ρ) E
  | .meth o a as, ρ, Q, E => vE a ρ (fun d ρ => d.kind = recvK o ∧ vP as ρ (fun ds ρ => ∃ r, opF T.sub o (d :: ds) = some r ∧ Q r ρ) E) E
def vL : CL → Rho → (List D → Rho → Prop) → (Nat → Rho → Prop) → Prop
  | .nil, ρ, Q, E => Q [] ρ
  | .cons a as, ρ, Q, E => vE a ρ (fun d ρ => vL as ρ (fun ds ρ => Q (d :: ds) ρ) E) E
def vP : CL → Rho → (List D → Rho → Prop) → (Nat → Rho → Prop) → Prop
  | .nil, ρ, Q, E => Q [] ρ
  | .cons (.rd i []) as, ρ, Q, E => ∃ d0, ρ.get i = some d0 ∧ vP as ρ (fun ds ρ => ∃ d, ρ.get i = some d ∧ d.kind = d0.kind ∧ Q (d :: ds) ρ) E
  | .cons (.rd i (f :: fs)) as, ρ, Q, E => ∃ d, ρ.rd i (f :: fs) = some d ∧ (d.fl && !stillL as) = false ∧ vP as ρ (fun ds ρ => Q (d :: ds) ρ) E
  | .cons a as, ρ, Q, E => vE a ρ (fun d ρ => vP as ρ (fun ds ρ => Q (d :: ds) ρ) E) E
def vR : List Bool → CL → Rho → (List (Option D) → Rho → Prop) → (Nat → Rho → Prop) → Prop
  | _, .nil, ρ, Q, E => Q [] ρ
  | true :: bs, .cons (.rd i []) as, ρ, Q, E => ∃ d, ρ.get i = some d ∧ vR bs as ρ (fun ds ρ => Q (none :: ds) ρ) E
  | _ :: bs, .cons (.bw i) as, ρ, Q, E => ∃ d0, ρ.get i = some d0 ∧ vR bs as ρ (fun ds ρ => ∃ d, ρ.get i = some d ∧ Q (some d.frz :: ds) ρ) E
  | _ :: bs, .cons a as, ρ, Q, E => vE a ρ (fun d ρ => vR bs as ρ (fun ds ρ => Q (some d :: ds) ρ) E) E
  | [], .cons _ _, _, _, _ => False
def vO : CO → Rho → (Bool → Rho → Prop) → (Nat → Rho → Prop) → Prop
  | .none, ρ, Q, E => Q true ρ
  | .some c, ρ, Q, E => vE c ρ (fun d ρ => vB d fun k => Q k ρ) E
def vI : CI → Rho → (List D → Rho → Prop) → (Nat → Rho → Prop) → Prop
  | .se c, ρ, Q, E => vE c ρ (fun d ρ => ∃ xs, itemsOf false d = some xs ∧ Q xs ρ) E
  | .rng1 a, ρ, Q, E => vE a ρ (fun d ρ => ∃ j : Int, d = .int j ∧ RngB j ∧ Q ((List.range j.toNat).map fun (k : Nat) => .int (k : Int)) ρ) E
  | .rng2 a b, ρ, Q, E => vE a ρ (fun d ρ => vE b ρ (fun e ρ => ∃ i j : Int, d = .int i ∧ e = .int j ∧ (RngB i ∧ RngB j) ∧ Q ((List.range (j - i).toNat).map fun (k : Nat) => .int (i + (k : Int))) ρ) E) E
  | .enu a, ρ, Q, E => vE a ρ (fun d ρ => ∃ xs, itemsOf true d = some xs ∧ Q xs ρ) E
  | .zip a b, ρ, Q, E => okR (evi T Φ (.zip a b) ρ) Q E
  | .items a, ρ, Q, E => okR (evi T Φ (.items a) ρ) Q E
  | .revd a, ρ, Q, E => okR (evi T Φ (.revd a) ρ) Q E
end
variable {T Φ}
theorem vB_ok {d : D} {P : Bool → Prop} (h : vB d P) : ∃ b, d = .bl b ∧ P b := by
  cases d with
  | bl b => exact ⟨b, rfl, h⟩
  | _ => exact h.elim
theorem vSeq_ok {f : D → Rho → R (Option D)} {g : D → Rho → (Option D → Rho → Prop) → Prop} (k : ∀ x ρ P, g x ρ P → okR (f x ρ) P fun _ _ => False) : ∀ {xs : List D} {ρ : Rho} {Q : List D → Rho → Prop}, vSeq g xs ρ Q → ∃ ys ρ', seqF f xs ρ = .ok ys ρ' ∧ Q ys ρ' := by
  intro xs ρ Q ⟨J, j0, js, jq⟩
  have : ∀ (n i : Nat) (ys : List D) (ρ : Rho), i + n = xs.length → J i ys ρ → ∃ zs ρ', seqF f (xs.drop i) ρ = .ok zs ρ' ∧ Q (ys ++ zs) ρ' := by
    intro n
    induction n with
    | zero =>
      intro i ys ρ hi hj
      rw [List.drop_eq_nil_of_le (by omega)]
      refine ⟨[], ρ, rfl, ?_⟩
      rw [List.append_nil]
      exact jq ys ρ (by rw [← show i = xs.length by omega]; exact hj)
    | succ n ih =>
      intro i ys ρ hi hj
      have hlt : i < xs.length := by omega
      rw [List.drop_eq_getElem_cons hlt, seqF]
      have h1 := k _ _ _ (js i xs[i] ys ρ (List.getElem?_eq_getElem hlt) hj)
      cases q : f xs[i] ρ with
      | ok o ρ1 =>
        rw [q] at h1
        obtain ⟨zs, ρ2, e, hq⟩ := ih (i + 1) _ ρ1 (by omega) h1
        refine ⟨consO o zs, ρ2, ?_, ?_⟩
        · show (seqF f (xs.drop (i + 1)) ρ1).bind (fun es ρ => .ok (consO o es) ρ) = _
          rw [e]
          rfl
        · cases o with
          | none => simpa [consO] using hq
          | some y => simpa [consO] using hq
      | ex j ρ1 => rw [q] at h1; exact h1.elim
      | bad => rw [q] at h1; exact h1.elim
  obtain ⟨ys, ρ', e, q⟩ := this xs.length 0 [] ρ (by omega) j0
  exact ⟨ys, ρ', e, q⟩
theorem compEnd_ok {f : D → Rho → R (Option D)} {g : D → Rho → (Option D → Rho → Prop) → Prop} {own : List Nat} {ρ0 ρ : Rho} {back : Rho → Rho} {xs : List D} {Q : D → Rho → Prop} {E : Nat → Rho → Prop} (k : ∀ x ρ P, g x ρ P → okR (f x ρ) P fun _ _ => False)
    (h : vSeq g xs ρ fun ys ρ' => ys.length ≤ lim ∧ Q (.lst true ys) (back (unclr ρ0 own ρ'))) : okR (compEnd own ρ0 back (seqF f xs ρ)) Q E := by
  obtain ⟨ys, ρ', e, hl, h⟩ := vSeq_ok k h
  rw [e]
  unfold compEnd
  dsimp only
  rw [if_pos hl]
  exact h
mutual
theorem vE_ok : ∀ (c : CE) {ρ : Rho} {Q : D → Rho → Prop} {E : Nat → Rho → Prop}, vE T Φ c ρ Q E → okR (ev T Φ c ρ) Q E
  | .rd i fs, ρ, Q, E, h => by
    rw [vE] at h
    obtain ⟨d, e, f, h⟩ := h
    rw [ev, e]
    dsimp only
    rw [f]
    exact h
  | .mv i, ρ, Q, E, h => by
    rw [vE] at h
    obtain ⟨d, e, h⟩ := h
    rw [ev, e]
    exact h
  | .bw _, ρ, Q, E, h => by rw [vE] at h; exact h.elim
  | .fz c, ρ, Q, E, h => by
    rw [vE] at h
    rw [ev, okR_bind]
    exact vE_ok c h
  | .k d, ρ, Q, E, h => by rw [vE] at h; rw [ev]; exact h
  | .gl _ d, ρ, Q, E, h => by rw [vE] at h; rw [ev]; exact h
  | .op o as, ρ, Q, E, h => by
    rw [vE] at h
    rw [ev, okR_bind]
    exact okR_mono (vP_ok as h) fun ds ρ h => okR_of.mpr h
  | .tup as, ρ, Q, E, h => by
    rw [vE] at h
    rw [ev, okR_bind]
    exact vL_ok as h
  | .lst as, ρ, Q, E, h => by
    rw [vE] at h
    rw [ev, okR_bind]
    exact vL_ok as h
  | .dic kd as, ρ, Q, E, h => by
    rw [vE] at h
    rw [ev, okR_bind]
    exact vL_ok as h
  | .call f as, ρ, Q, E, h => by
    rw [vE] at h
    rw [ev]
    cases q : T.fns[f]? with
    | none => rw [q] at h; exact h.elim
    | some F =>
      rw [q] at h
      dsimp only at h ⊢
      rw [okR_bind]
      refine okR_mono (vR_ok _ as h) fun os ρ1 h1 => ?_
      rw [okR_bind]
      refine okR_mono h1 fun ds ρ2 h2 => ?_
      obtain ⟨r, h2, er⟩ := h2
      rw [er]
      unfold vCall at h2
      cases r with
      | bad => exact h2.elim
      | ok d outs =>
        obtain ⟨b, h2⟩ := h2
        dsimp only
        refine Eq.mpr (congrArg (fun z => okR z Q E) (if_neg fun z => Bool.noConfusion (b.symm.trans z))) ?_
        split
        · rename_i hk
          simp only [if_pos hk] at h2
          rcases outs with _ | ⟨_ | s, outs⟩
          · exact h2.elim
          · exact h2.elim
          · exact h2
        · rename_i hk
          simp only [if_neg hk] at h2
          exact h2
      | ex c outs =>
        obtain ⟨b, h2⟩ := h2
        dsimp only
        refine Eq.mpr (congrArg (fun z => okR z Q E) (if_neg fun z => Bool.noConfusion (b.symm.trans z))) ?_
        split
        · rename_i hk
          simp only [if_pos hk] at h2
          rcases outs with _ | ⟨s, outs⟩
          · exact h2.elim
          · exact h2
        · rename_i hk
          simp only [if_neg hk] at h2
          exact h2
  | .and_ a b, ρ, Q, E, h => by
    rw [vE] at h
    rw [ev, okR_bind]
    refine okR_mono (vE_ok a h) fun d ρ1 h1 => ?_
    obtain ⟨k, rfl, h1⟩ := vB_ok h1
    cases k with
    | true => exact vE_ok b h1
    | false => exact h1
  | .or_ a b, ρ, Q, E, h => by
    rw [vE] at h
    rw [ev, okR_bind]
    refine okR_mono (vE_ok a h) fun d ρ1 h1 => ?_
    obtain ⟨k, rfl, h1⟩ := vB_ok h1
    cases k with
    | true => exact h1
    | false => exact vE_ok b h1
  | .not_ a, ρ, Q, E, h => by
    rw [vE] at h
    rw [ev, okR_bind]
    refine okR_mono (vE_ok a h) fun d ρ1 h1 => ?_
    obtain ⟨k, rfl, h1⟩ := vB_ok h1
    exact h1
  | .chain o p a b c, ρ, Q, E, h => by
    rw [vE] at h
    rw [ev, okR_bind]
    refine okR_mono (vE_ok a h) fun x ρ1 h1 => ?_
    rw [okR_bind]
    refine okR_mono (vE_ok b h1) fun y ρ2 h2 => ?_
    obtain ⟨d, e, h2⟩ := h2
    obtain ⟨k, rfl, h2⟩ := vB_ok h2
    rw [e]
    cases k with
    | false => exact h2
    | true =>
      show okR ((ev T Φ c ρ2).bind fun z ρ => .of ρ (opF T.sub p [y, z])) Q E
      rw [okR_bind]
      exact okR_mono (vE_ok c h2) fun z ρ h => okR_of.mpr h
  | .comp elt t s c own, ρ, Q, E, h => by
    have bk : ∀ (x : D) (ρ₁ : Rho) (P : Option D → Rho → Prop), (∃ ρ₂, putG t x (clr own ρ₁) = some ρ₂ ∧ vO T Φ c ρ₂ (fun b ρ₃ => if b = true then vE T Φ elt ρ₃ (fun y ρ₄ => P (some y) ρ₄) (fun _ _ => False) else P none ρ₃) fun _ _ => False) →
        okR (match putG t x (clr own ρ₁) with | none => .bad | some ρ₂ => (evo T Φ c ρ₂).bind fun b ρ₃ => if b then (ev T Φ elt ρ₃).bind fun y ρ₄ => .ok (some y) ρ₄ else .ok none ρ₃) P fun _ _ => False := by
      intro x ρ₁ P ⟨ρ₂, e, h⟩
      rw [e]
      dsimp only
      rw [okR_bind]
      refine okR_mono (vO_ok c h) fun b ρ₃ h => ?_
      cases b with
      | true =>
        simp only [if_true] at h ⊢
        rw [okR_bind]
        exact vE_ok elt h
      | false => exact h
    rw [vE] at h
    rw [ev]
    obtain ⟨nf, h⟩ := h
    rw [nf]
    simp only [Bool.false_eq_true, if_false]
    cases q : holdOf s ρ with
    | some p =>
      obtain ⟨i, d, xs⟩ := p
      rw [q] at h
      dsimp only at h ⊢
      exact compEnd_ok bk h
    | none =>
      rw [q] at h
      dsimp only at h ⊢
      rw [okR_bind]
      refine okR_mono (vI_ok s h) fun xs ρ1 h1 => ?_
      obtain ⟨nf1, h1⟩ := h1
      rw [nf1]
      simp only [Bool.false_eq_true, if_false]
      exact compEnd_ok (back := id) bk h1
  | .mut p m as, ρ, Q, E, h => by
    rw [vE] at h
    rw [ev, okR_bind]
    refine okR_mono h fun q ρ1 h1 => ?_
    obtain ⟨hm, h1⟩ := h1
    obtain ⟨i, ss⟩ := q
    show okR (if mutAtM m ρ1 i ss = true then (evs T Φ as ρ1).bind fun ds ρ => ρ.mod i ss (mutF m ds) else .bad) Q E
    rw [if_pos hm, okR_bind]
    exact vL_ok as h1
  | .sortk f a, ρ, Q, E, h => by rw [vE] at h; exact h
  | .meth o a as, ρ, Q, E, h => by
    by_cases n1 : ∃ i, a = .rd i []
    · obtain ⟨i, rfl⟩ := n1
      rw [vE] at h
      obtain ⟨d0, e, k, h⟩ := h
      rw [ev, e]
      dsimp only
      rw [if_pos k, okR_bind]
      refine okR_mono (vP_ok as h) fun ds ρ1 ⟨d, e1, k1, h1⟩ => ?_
      rw [e1]
      dsimp only
      rw [if_pos k1]
      exact okR_of.mpr h1
    · have e1 : ev T Φ (.meth o a as) ρ = (ev T Φ a ρ).bind fun d ρ => if d.kind = recvK o then (evp T Φ as ρ).bind fun ds ρ => .of ρ (opF T.sub o (d :: ds)) else .bad := by
        rw [ev]
        exact fun i e => n1 ⟨i, e⟩
      rw [vE] at h
      · rw [e1, okR_bind]
        refine okR_mono (vE_ok a h) fun d ρ1 h1 => ?_
        rw [if_pos h1.1, okR_bind]
        exact okR_mono (vP_ok as h1.2) fun ds ρ2 h2 => okR_of.mpr h2
      · exact fun i e => n1 ⟨i, e⟩
theorem vL_ok : ∀ (as : CL) {ρ : Rho} {Q : List D → Rho → Prop} {E : Nat → Rho → Prop}, vL T Φ as ρ Q E → okR (evs T Φ as ρ) Q E
  | .nil, ρ, Q, E, h => by rw [vL] at h; rw [evs]; exact h
  | .cons a as, ρ, Q, E, h => by
    rw [vL] at h
    rw [evs, okR_bind]
    refine okR_mono (vE_ok a h) fun d ρ1 h1 => ?_
    rw [okR_bind]
    exact vL_ok as h1
theorem vP_ok : ∀ (as : CL) {ρ : Rho} {Q : List D → Rho → Prop} {E : Nat → Rho → Prop}, vP T Φ as ρ Q E → okR (evp T Φ as ρ) Q E
  | .nil, ρ, Q, E, h => by rw [vP] at h; rw [evp]; exact h
  | .cons a as, ρ, Q, E, h => by
    by_cases n1 : ∃ i fs, a = .rd i fs
    · obtain ⟨i, fs, rfl⟩ := n1
      cases fs with
      | nil =>
        rw [vP] at h
        obtain ⟨d0, e0, h⟩ := h
        rw [evp, e0]
        dsimp only
        rw [okR_bind]
        refine okR_mono (vP_ok as h) fun ds ρ1 h1 => ?_
        obtain ⟨d, e, k, h1⟩ := h1
        rw [e]
        dsimp only
        rw [if_pos k]
        exact h1
      | cons f fs =>
        rw [vP] at h
        obtain ⟨d, e, k, h⟩ := h
        rw [evp, e]
        dsimp only
        rw [k]
        simp only [Bool.false_eq_true, if_false]
        rw [okR_bind]
        exact vP_ok as h
    · have e1 : evp T Φ (.cons a as) ρ = (ev T Φ a ρ).bind fun d ρ => (evp T Φ as ρ).bind fun ds ρ => .ok (d :: ds) ρ := by
        rw [evp]
        · exact fun i e => n1 ⟨i, [], e⟩
        · exact fun i f fs e => n1 ⟨i, f :: fs, e⟩
      rw [vP] at h
      · rw [e1, okR_bind]
        refine okR_mono (vE_ok a h) fun d ρ1 h1 => ?_
        rw [okR_bind]
        exact vP_ok as h1
      · exact fun i e => n1 ⟨i, [], e⟩
      · exact fun i f fs e => n1 ⟨i, f :: fs, e⟩
theorem vR_ok : ∀ (bs : List Bool) (as : CL) {ρ : Rho} {Q : List (Option D) → Rho → Prop} {E : Nat → Rho → Prop}, vR T Φ bs as ρ Q E → okR (evr T Φ bs as ρ) Q E
  | bs, .nil, ρ, Q, E, h => by
    have e1 : evr T Φ bs .nil ρ = .ok [] ρ := by cases bs <;> rfl
    rw [e1]
    cases bs <;> exact h
  | [], .cons a as, ρ, Q, E, h => by rw [vR] at h; exact h.elim
  | b :: bs, .cons a as, ρ, Q, E, h => by
    by_cases hb : b = true ∧ ∃ i, a = .rd i []
    · obtain ⟨rfl, i, rfl⟩ := hb
      rw [vR] at h
      obtain ⟨d, e, h⟩ := h
      rw [evr, e]
      dsimp only
      rw [okR_bind]
      exact vR_ok bs as h
    · by_cases hw : ∃ i, a = .bw i
      · obtain ⟨i, rfl⟩ := hw
        rw [vR] at h
        obtain ⟨d0, e0, h⟩ := h
        rw [evr, e0]
        dsimp only
        rw [okR_bind]
        refine okR_mono (vR_ok bs as h) fun ds ρ1 h1 => ?_
        obtain ⟨d, e, h1⟩ := h1
        rw [e]
        exact h1
      · rw [vR] at h
        · rw [evr]
          · rw [okR_bind]
            refine okR_mono (vE_ok a h) fun d ρ1 h1 => ?_
            rw [okR_bind]
            exact vR_ok bs as h1
          · exact fun i e1 e2 => hb ⟨e1, i, e2⟩
          · exact fun i e => hw ⟨i, e⟩
        · exact fun i e1 e2 => hb ⟨e1, i, e2⟩
        · exact fun i e => hw ⟨i, e⟩
theorem vO_ok : ∀ (c : CO) {ρ : Rho} {Q : Bool → Rho → Prop} {E : Nat → Rho → Prop}, vO T Φ c ρ Q E → okR (evo T Φ c ρ) Q E
  | .none, ρ, Q, E, h => by rw [vO] at h; rw [evo]; exact h
  | .some c, ρ, Q, E, h => by
    rw [vO] at h
    rw [evo, okR_bind]
    refine okR_mono (vE_ok c h) fun d ρ1 h1 => ?_
    obtain ⟨k, rfl, h1⟩ := vB_ok h1
    exact h1
theorem vI_ok : ∀ (s : CI) {ρ : Rho} {Q : List D → Rho → Prop} {E : Nat → Rho → Prop}, vI T Φ s ρ Q E → okR (evi T Φ s ρ) Q E
  | .se c, ρ, Q, E, h => by
    rw [vI] at h
    rw [evi, okR_bind]
    exact okR_mono (vE_ok c h) fun d ρ h => okR_of.mpr h
  | .rng1 a, ρ, Q, E, h => by
    rw [vI] at h
    rw [evi, okR_bind]
    refine okR_mono (vE_ok a h) fun d ρ h => ?_
    obtain ⟨j, rfl, hj, h⟩ := h
    dsimp only
    rw [hj.b, if_pos rfl]
    exact h
  | .rng2 a b, ρ, Q, E, h => by
    rw [vI] at h
    rw [evi, okR_bind]
    refine okR_mono (vE_ok a h) fun d ρ h => ?_
    rw [okR_bind]
    refine okR_mono (vE_ok b h) fun e ρ h => ?_
    obtain ⟨i, j, rfl, rfl, hj, h⟩ := h
    dsimp only
    rw [Bool.and_assoc, hj.1.b, hj.2.b]
    exact h
  | .enu a, ρ, Q, E, h => by
    rw [vI] at h
    rw [evi, okR_bind]
    exact okR_mono (vE_ok a h) fun d ρ h => okR_of.mpr h
  | .zip a b, ρ, Q, E, h => by rw [vI] at h; exact h
  | .items a, ρ, Q, E, h => by rw [vI] at h; exact h
  | .revd a, ρ, Q, E, h => by rw [vI] at h; exact h
end
/-- the turns of a loop -/
def vFor (f : D → Rho → Ks → Prop) (xs : List D) (ρ : Rho) (K : Ks) : Prop :=
  ∃ J : Nat → Rho → Prop, J 0 ρ ∧ (∀ i x ρ, xs[i]? = some x → J i ρ → f x ρ { K with nx := J (i + 1), ct := J (i + 1), bk := K.nx }) ∧ ∀ ρ, J xs.length ρ → K.nx ρ
def Ks.put (K : Ks) (f : Rho → Rho) : Ks := { nx := fun ρ => K.nx (f ρ), rt := fun d ρ => K.rt d (f ρ), bk := fun ρ => K.bk (f ρ), ct := fun ρ => K.ct (f ρ), ex := fun k ρ => K.ex k (f ρ) }
variable (T Φ) in
def vS : CS → Rho → Ks → Prop
  | .asg t c, ρ, K => vE T Φ c ρ (fun d ρ => ∃ ρ', putG t d ρ = some ρ' ∧ K.nx ρ') K.ex
  | .aug i o c, ρ, K => ∃ x, ρ.get i = some x ∧ x.fl = false ∧ vE T Φ c ρ (fun y ρ => ∃ z, augF o x y = some z ∧ decide (i < ρ.length) = true ∧ K.nx (ρ.set i (some z))) K.ex
  | .augL i c, ρ, K => vE T Φ c ρ (fun y ρ => okR (ρ.mod i [] (mutF .ext [y])) (fun _ ρ => K.nx ρ) K.ex) K.ex
  | .setix p k c, ρ, K => vE T Φ c ρ (fun v ρ => okR (evpath T Φ p ρ) (fun q ρ => mutAt ρ q.1 q.2 = true ∧ vE T Φ k ρ (fun kd ρ => okR (ρ.mod q.1 q.2 (setixF kd v)) (fun _ ρ => K.nx ρ) K.ex) K.ex) K.ex) K.ex
  | .augix p k o c, ρ, K => okS (MP.ex T Φ T.sub (.augix p k o c) ρ) K
  | .setf i f c, ρ, K => okS (MP.ex T Φ T.sub (.setf i f c) ρ) K
  | .ex c, ρ, K => vE T Φ c ρ (fun _ ρ => K.nx ρ) K.ex
  | .ret c, ρ, K => vE T Φ c ρ K.rt K.ex
  | .ife c a b, ρ, K => vE T Φ c ρ (fun d ρ => vB d fun k => if k = true then vS a ρ K else vS b ρ K) K.ex
  | .for_ t s b, ρ, K => match holdOf s ρ with
    | some (i, d, xs) => vFor (fun x ρ K => ∃ ρ', putG t x ρ = some ρ' ∧ vS b ρ' K) xs (ρ.set i none) (K.put fun ρ => ρ.set i (some d))
    | none => vI T Φ s ρ (fun xs ρ => vFor (fun x ρ K => ∃ ρ', putG t x ρ = some ρ' ∧ vS b ρ' K) xs ρ K) K.ex
  | .while_ c b, ρ, K => ∃ (J : Nat → Rho → Prop) (n : Nat), n < whileLim ∧ J n ρ ∧ ∀ m ρ, J m ρ → vE T Φ c ρ (fun d ρ => vB d fun k => if k = true then vS b ρ { K with nx := fun ρ => ∃ m', m' < m ∧ J m' ρ, ct := fun ρ => ∃ m', m' < m ∧ J m' ρ, bk := K.nx } else K.nx ρ) K.ex
  | .raise_ k, ρ, K => K.ex k ρ
  | .try_ b k i h, ρ, K => vS b ρ { K with ex := fun c ρ => if T.sub c k = true then vS h (ρ.set i (some (.exn c))) { K with nx := fun ρ => K.nx (ρ.set i none), bk := fun ρ => K.bk (ρ.set i none), ct := fun ρ => K.ct (ρ.set i none) } else K.ex c ρ }
  | .pass, ρ, K => K.nx ρ
  | .brk, ρ, K => K.bk ρ
  | .cont, ρ, K => K.ct ρ
  | .frz i fs, ρ, K => ∃ d, (ρ.get i).bind (frzAt fs) = some d ∧ K.nx (ρ.set i (some d))
  | .kill is, ρ, K => K.nx (is.foldl (fun ρ i => ρ.set i none) ρ)
  | .nil, ρ, K => K.nx ρ
  | .seq a b, ρ, K => vS a ρ { K with nx := fun ρ => vS b ρ K }
theorem okS_map {r : SR} {f : Rho → Rho} {K : Ks} : okS (r.map f) K ↔ okS r (K.put f) := by cases r <;> exact Iff.rfl
theorem vFor_ok {f : D → Rho → SR} {g : D → Rho → Ks → Prop} (k : ∀ x ρ K, g x ρ K → okS (f x ρ) K) {xs : List D} {ρ : Rho} {K : Ks} (h : vFor g xs ρ K) : okS (forF f xs ρ) K := by
  obtain ⟨J, j0, js, jq⟩ := h
  have : ∀ (n i : Nat) (ρ : Rho), i + n = xs.length → J i ρ → okS (forF f (xs.drop i) ρ) K := by
    intro n
    induction n with
    | zero =>
      intro i ρ hi hj
      rw [List.drop_eq_nil_of_le (by omega), forF]
      exact jq ρ (by rw [← show i = xs.length by omega]; exact hj)
    | succ n ih =>
      intro i ρ hi hj
      have hlt : i < xs.length := by omega
      rw [List.drop_eq_getElem_cons hlt, forF]
      have h1 := k _ _ _ (js i xs[i] ρ (List.getElem?_eq_getElem hlt) hj)
      cases q : f xs[i] ρ with
      | next ρ1 => rw [q] at h1; exact ih (i + 1) ρ1 (by omega) h1
      | cont ρ1 => rw [q] at h1; exact ih (i + 1) ρ1 (by omega) h1
      | brk ρ1 => rw [q] at h1; exact h1
      | ret d ρ1 => rw [q] at h1; exact h1
      | ex c ρ1 => rw [q] at h1; exact h1
      | bad => rw [q] at h1; exact h1.elim
  exact this xs.length 0 ρ (by omega) j0
theorem vS_ok : ∀ (c : CS) {ρ : Rho} {K : Ks}, vS T Φ c ρ K → okS (ex T Φ T.sub c ρ) K
  | .asg t c, ρ, K, h => by
    rw [vS] at h
    rw [ex, okS_st]
    refine okR_mono (vE_ok c h) fun d ρ1 h1 => ?_
    obtain ⟨ρ', e, h1⟩ := h1
    rw [e]
    exact h1
  | .aug i o c, ρ, K, h => by
    rw [vS] at h
    obtain ⟨x, e, nf, h⟩ := h
    rw [ex, e]
    dsimp only
    rw [nf]
    simp only [Bool.false_eq_true, if_false]
    rw [okS_st]
    refine okR_mono (vE_ok c h) fun y ρ1 h1 => ?_
    obtain ⟨z, e, hi, h1⟩ := h1
    rw [e]
    dsimp only
    rw [if_pos (of_decide_eq_true hi)]
    exact h1
  | .augL i c, ρ, K, h => by
    rw [vS] at h
    rw [ex, okS_st]
    refine okR_mono (vE_ok c h) fun y ρ1 h1 => ?_
    rw [okS_st]
    exact h1
  | .setix p k c, ρ, K, h => by
    rw [vS] at h
    rw [ex, okS_st]
    refine okR_mono (vE_ok c h) fun v ρ1 h1 => ?_
    rw [okS_st]
    refine okR_mono h1 fun q ρ2 h2 => ?_
    obtain ⟨hm, h2⟩ := h2
    obtain ⟨i, ss⟩ := q
    show okS (if mutAt ρ2 i ss = true then (ev T Φ k ρ2).st fun kd ρ => (ρ.mod i ss (setixF kd v)).st fun _ ρ => .next ρ else .bad) K
    rw [if_pos hm, okS_st]
    refine okR_mono (vE_ok k h2) fun kd ρ3 h3 => ?_
    rw [okS_st]
    exact h3
  | .augix p k o c, ρ, K, h => by rw [vS] at h; exact h
  | .setf i f c, ρ, K, h => by rw [vS] at h; exact h
  | .ex c, ρ, K, h => by
    rw [vS] at h
    rw [ex, okS_st]
    exact vE_ok c h
  | .ret c, ρ, K, h => by
    rw [vS] at h
    rw [ex, okS_st]
    exact vE_ok c h
  | .ife c a b, ρ, K, h => by
    rw [vS] at h
    rw [ex, okS_st]
    refine okR_mono (vE_ok c h) fun d ρ1 h1 => ?_
    obtain ⟨k, rfl, h1⟩ := vB_ok h1
    cases k with
    | true => exact vS_ok a h1
    | false => exact vS_ok b h1
  | .for_ t s b, ρ, K, h => by
    have bk : ∀ (x : D) (ρ : Rho) (K : Ks), (∃ ρ', putG t x ρ = some ρ' ∧ vS T Φ b ρ' K) → okS ((SR.ofO (putG t x ρ)).then (ex T Φ T.sub b)) K := by
      intro x ρ K ⟨ρ', e, h⟩
      rw [e]
      exact vS_ok b h
    rw [vS] at h
    rw [ex]
    cases q : holdOf s ρ with
    | some p =>
      obtain ⟨i, d, xs⟩ := p
      rw [q] at h
      dsimp only at h ⊢
      rw [okS_map]
      exact vFor_ok bk h
    | none =>
      rw [q] at h
      dsimp only at h ⊢
      rw [okS_st]
      exact okR_mono (vI_ok s h) fun xs ρ1 h1 => vFor_ok bk h1
  | .while_ c b, ρ, K, h => by
    rw [vS] at h
    obtain ⟨J, n, hn, hj, js⟩ := h
    rw [ex]
    have : ∀ (N m : Nat) (ρ : Rho), m < N → J m ρ → okS (whileF (ev T Φ c) (ex T Φ T.sub b) N ρ) K := by
      intro N
      induction N with
      | zero => intro m ρ hm; omega
      | succ N ih =>
        intro m ρ hm hj
        rw [whileF, okS_st]
        refine okR_mono (vE_ok c (js m ρ hj)) fun d ρ1 h1 => ?_
        obtain ⟨k, rfl, h1⟩ := vB_ok h1
        cases k with
        | false => exact h1
        | true =>
          have h2 := vS_ok b h1
          dsimp only
          cases q : ex T Φ T.sub b ρ1 with
          | next ρ2 => rw [q] at h2; obtain ⟨m', hm', h2⟩ := h2; exact ih m' ρ2 (by omega) h2
          | cont ρ2 => rw [q] at h2; obtain ⟨m', hm', h2⟩ := h2; exact ih m' ρ2 (by omega) h2
          | brk ρ2 => rw [q] at h2; exact h2
          | ret d ρ2 => rw [q] at h2; exact h2
          | ex j ρ2 => rw [q] at h2; exact h2
          | bad => rw [q] at h2; exact h2.elim
    exact this whileLim n ρ hn hj
  | .raise_ k, ρ, K, h => by rw [vS] at h; rw [ex]; exact h
  | .try_ b k i hd, ρ, K, h => by
    rw [vS] at h
    rw [ex]
    have h1 := vS_ok b h
    cases q : ex T Φ T.sub b ρ with
    | next ρ1 => rw [q] at h1; exact h1
    | ret d ρ1 => rw [q] at h1; exact h1
    | brk ρ1 => rw [q] at h1; exact h1
    | cont ρ1 => rw [q] at h1; exact h1
    | bad => rw [q] at h1; exact h1.elim
    | ex c ρ1 =>
      rw [q] at h1
      dsimp only
      have h1 : if T.sub c k = true then vS T Φ hd (ρ1.set i (some (.exn c))) { K with nx := fun ρ => K.nx (ρ.set i none), bk := fun ρ => K.bk (ρ.set i none), ct := fun ρ => K.ct (ρ.set i none) } else K.ex c ρ1 := h1
      by_cases hs : T.sub c k = true
      · rw [if_pos hs] at h1 ⊢
        have h2 := vS_ok hd h1
        cases q2 : ex T Φ T.sub hd (ρ1.set i (some (.exn c))) with
        | next ρ2 => rw [q2] at h2; exact h2
        | ret d ρ2 => rw [q2] at h2; exact h2
        | brk ρ2 => rw [q2] at h2; exact h2
        | cont ρ2 => rw [q2] at h2; exact h2
        | ex j ρ2 => rw [q2] at h2; exact h2
        | bad => rw [q2] at h2; exact h2.elim
      · rw [if_neg hs] at h1 ⊢
        exact h1
  | .pass, ρ, K, h => by rw [vS] at h; rw [ex]; exact h
  | .brk, ρ, K, h => by rw [vS] at h; rw [ex]; exact h
  | .cont, ρ, K, h => by rw [vS] at h; rw [ex]; exact h
  | .frz i fs, ρ, K, h => by
    rw [vS] at h
    obtain ⟨d, e, h⟩ := h
    rw [ex, e]
    exact h
  | .kill is, ρ, K, h => by rw [vS] at h; rw [ex]; exact h
  | .nil, ρ, K, h => by rw [vS] at h; rw [ex]; exact h
  | .seq a b, ρ, K, h => by
    rw [vS] at h
    rw [ex, okS_then]
    have h1 := vS_ok a h
    cases q : ex T Φ T.sub a ρ with
    | next ρ1 => rw [q] at h1; exact vS_ok b h1
    | ret d ρ1 => rw [q] at h1; exact h1
    | brk ρ1 => rw [q] at h1; exact h1
    | cont ρ1 => rw [q] at h1; exact h1
    | ex j ρ1 => rw [q] at h1; exact h1
    | bad => rw [q] at h1; exact h1.elim
/-- a def's run -/
theorem run_ok {n f : Nat} {F : Fn} {ds : List D} {P : FR → Prop} (hF : T.fns[f]? = some F) (ha : (decide (ds.length = F.np) && argsOk F.ref ds) = true)
    (h : vS T (runF T n) F.body (initR F ds) { nx := fun ρ => P (.ok .non (outsR F.ref ρ)), rt := fun d ρ => P (.ok d (outsR F.ref ρ)), bk := fun _ => False, ct := fun _ => False, ex := fun c ρ => P (.ex c (outsR F.ref ρ)) }) : P (runF T (n + 1) f ds) := by
  rw [runF, hF]
  dsimp only
  rw [ha, if_pos rfl]
  have h1 := vS_ok F.body h
  cases q : ex T (runF T n) T.sub F.body (initR F ds) with
  | next ρ1 => rw [q] at h1; exact h1
  | ret d ρ1 => rw [q] at h1; exact h1
  | brk ρ1 => rw [q] at h1; exact h1.elim
  | cont ρ1 => rw [q] at h1; exact h1.elim
  | ex j ρ1 => rw [q] at h1; exact h1
  | bad => rw [q] at h1; exact h1.elim
end
end MP

set_option autoImplicit false
set_option linter.all false
set_option maxRecDepth 100000
/-! MP: facts for the laws. -/
namespace MP
open PySem

theorem mulOk_r {i j : Int} (h1 : -(2 ^ 64) < j) (h2 : j < 2 ^ 64) : mulOk i j = true := by
  unfold mulOk
  rw [decide_eq_true h1, decide_eq_true h2, Bool.and_self, Bool.or_true, Bool.true_or]
theorem mulOk_l {i j : Int} (h1 : -(2 ^ 64) < i) (h2 : i < 2 ^ 64) : mulOk i j = true := by
  unfold mulOk
  rw [decide_eq_true h1, decide_eq_true h2, Bool.and_self, Bool.true_or, Bool.true_or]
theorem divOk_s {j : Int} (h1 : 0 < j) (h2 : j < 2 ^ 64) : divOk j = true := by
  unfold divOk
  have : j < 2 ^ 4000 := Int.lt_trans h2 (by decide +kernel)
  rw [decide_eq_true h1, decide_eq_true this]
  rfl
theorem atI_get {α : Type} {xs : List α} {i : Int} (h0 : 0 ≤ i) (h1 : i < xs.length) : ∃ x, L2.atI xs i = some x ∧ x ∈ xs := by
  unfold L2.atI L2.ixN
  rw [if_pos h0, if_pos h1]
  have hl : i.toNat < xs.length := by omega
  exact ⟨xs[i.toNat], List.getElem?_eq_getElem hl, List.getElem_mem hl⟩
mutual
theorem eqv_refl : ∀ (n : Nat) (d : D), d.sh n = true → PyData.eqv d.toP d.toP = true
  | _, .non, _ => rfl
  | _, .bl b, _ => by simp [D.toP, PyData.eqv]
  | _, .int i, _ => by simp [D.toP, PyData.eqv]
  | _, .str s, _ => by simp [D.toP, PyData.eqv]
  | 0, .tup _ xs, h => by cases h
  | n + 1, .tup _ xs, h => by
    rw [D.sh] at h
    rw [D.toP, PyData.eqv]
    exact eqvs_refl n xs h
  | 0, .lst _ xs, h => by cases h
  | n + 1, .lst _ xs, h => by
    rw [D.sh] at h
    rw [D.toP, PyData.eqv]
    exact eqvs_refl n xs h
  | n, .dic _ _ _ _, h => by cases n <;> cases h
  | n, .set _, h => by cases n <;> cases h
  | n, .ins _ _ _ _, h => by cases n <;> cases h
  | n, .exn _, h => by cases n <;> cases h
theorem eqvs_refl : ∀ (n : Nat) (ds : List D), shs n ds = true → PyData.eqvAll (toPs ds) (toPs ds) = true
  | _, [], _ => by simp [toPs, PyData.eqvAll]
  | n, d :: ds, h => by
    rw [shs, Bool.and_eq_true] at h
    rw [toPs, PyData.eqvAll, eqv_refl n d h.1, eqvs_refl n ds h.2]
    rfl
end
theorem eqD_refl {d : D} (h : nice d = true) : eqD d d = true := eqv_refl 60 d h
theorem shs_iff {n : Nat} : ∀ {ds : List D}, shs n ds = true ↔ ∀ d ∈ ds, d.sh n = true
  | [] => by simp [shs]
  | d :: ds => by rw [shs, Bool.and_eq_true, shs_iff (ds := ds)]; simp
theorem unfl_all {ds : List D} : unfl ds = true ↔ ∀ d ∈ ds, d.fl = false := by unfold unfl; simp
theorem ints_map (is : List Int) : ints? (is.map .int) = some is := by
  induction is with
  | nil => rfl
  | cons i is ih => rw [List.map_cons, ints?, ih]; rfl
theorem sort_mem {ds : List D} {d : D} : d ∈ sortD ds ↔ d ∈ ds := (List.mergeSort_perm ds _).mem_iff
theorem sort_unfl {ds : List D} (h : unfl ds = true) : unfl (sortD ds) = true := unfl_all.mpr fun d hd => unfl_all.mp h d (sort_mem.mp hd)
theorem sort_len (ds : List D) : (sortD ds).length = ds.length := List.length_mergeSort ds
/-- a comprehension over known data, each item of one value -/
theorem vSeq_data {α : Type} {f : D → Rho → (Option D → Rho → Prop) → Prop} {l : List α} {e y : α → D} {ρ : Rho} {Q : List D → Rho → Prop} (I : Rho → Prop) (h0 : I ρ) (hs : ∀ a ∈ l, ∀ ρ, I ρ → ∀ P, (∀ ρ', I ρ' → P (some (y a)) ρ') → f (e a) ρ P) (hq : ∀ ρ', I ρ' → Q (l.map y) ρ') : vSeq f (l.map e) ρ Q := by
  refine ⟨fun i ys ρ => ys = (l.take i).map y ∧ I ρ, ⟨rfl, h0⟩, fun i x ys ρ hx ⟨hy, hi⟩ => ?_, fun ys ρ ⟨hy, hi⟩ => ?_⟩
  · rw [List.getElem?_map] at hx
    cases q : l[i]? with
    | none => rw [q] at hx; cases hx
    | some a =>
      rw [q] at hx
      cases hx
      refine hs a (List.mem_of_getElem? q) ρ hi _ fun ρ' hi' => ⟨?_, hi'⟩
      rw [hy, List.take_add_one, q, List.map_append]
      rfl
  · rw [hy, List.length_map, List.take_length]
    exact hq ρ hi
theorem cutL_map {α β : Type} (f : α → β) (l : List α) (lo hi : Option Int) : cutL (l.map f) lo hi = (cutL l lo hi).map f := by
  unfold cutL
  rw [List.length_map, List.map_take, List.map_drop]
theorem rot_len {α : Type} (l : List α) (c : Int) (h0 : 0 ≤ c) (h1 : c ≤ l.length) : cutL l (some c) none ++ cutL l none (some c) = l.drop c.toNat ++ l.take c.toNat := by
  unfold cutL HT.sIx
  have e1 : ¬ c < 0 := by omega
  have e2 : min c.toNat l.length = c.toNat := by omega
  simp only [if_neg e1, e2, List.drop_zero, Nat.sub_zero]
  rw [List.take_of_length_le (by rw [List.length_drop]; omega)]
/-- xs.append(e) -/
theorem app_ok {ρ : Rho} {i : Nat} {xs : List D} {e : D} {Q : D → Rho → Prop} {E : Nat → Rho → Prop} (h : ρ.get i = some (.lst true xs)) (hl : xs.length < lim) (q : Q .non (ρ.set i (some (.lst true (xs ++ [e]))))) : okR (ρ.mod i [] (mutF .app [e])) Q E := by
  unfold Rho.mod
  rw [h]
  rw [show (some (D.lst true xs)).bind (modD (mutF .app [e]) []) = modD (mutF .app [e]) [] (.lst true xs) from rfl, modD]
  simp only [D.fl, if_true, mutF, if_pos hl]
  exact q
theorem range_at {n i : Nat} {d : D} {f : Nat → D} (h : ((List.range n).map f)[i]? = some d) : i < n ∧ d = f i := by
  rw [List.getElem?_map] at h
  by_cases hi : i < n
  · rw [List.getElem?_range hi] at h
    cases h
    exact ⟨hi, rfl⟩
  · rw [List.getElem?_eq_none (by rw [List.length_range]; omega)] at h
    cases h
theorem map_at {α : Type} {l : List α} {i : Nat} {d : D} {f : α → D} (h : (l.map f)[i]? = some d) : ∃ a, a ∈ l ∧ d = f a := by
  rw [List.getElem?_map] at h
  cases q : l[i]? with
  | none => rw [q] at h; cases h
  | some a => rw [q] at h; cases h; exact ⟨a, List.mem_of_getElem? q, rfl⟩
/-- an item of a list or tuple of known data -/
theorem ix_map {α : Type} {l : List α} {f : α → D} {v : Int} (hf : ∀ a, (f a).fl = false) (h0 : 0 ≤ v) (h1 : v < l.length) : ∃ a, a ∈ l ∧ ((L2.atI (l.map f) v).bind fun d => if d.fl then none else some d) = some (f a) := by
  obtain ⟨y, hy, hm⟩ := atI_get (xs := l.map f) h0 (by rw [List.length_map]; exact h1)
  obtain ⟨a, ha, rfl⟩ := List.mem_map.mp hm
  refine ⟨a, ha, ?_⟩
  rw [hy]
  show (if (f a).fl = true then none else some (f a)) = _
  rw [hf a]
  rfl
theorem fdiv_s {i j : Int} (h1 : 0 < j) (h2 : j < 2 ^ 64) : o_fdiv [.int i, .int j] = some (.int (i / j)) := by
  unfold o_fdiv
  dsimp only
  rw [divOk_s h1 h2, if_pos rfl]
theorem ne_same {d : D} (h : nice d = true) : o_ne [d, d] = some (.bl false) := by
  unfold o_ne
  dsimp only
  rw [h, eqD_refl h]
  rfl
theorem frzs_map {α : Type} {f : α → D} (h : ∀ a, (f a).frz = f a) (l : List α) : frzs (l.map f) = l.map f := by
  induction l with
  | nil => rfl
  | cons a l ih => rw [List.map_cons, frzs, h, ih]
theorem frz_lst {α : Type} {f : α → D} (h : ∀ a, (f a).frz = f a) (l : List α) : (D.lst true (l.map f)).frz = .lst false (l.map f) := by
  rw [D.frz, if_pos rfl, frzs_map h]
theorem items_data {α : Type} {l : List α} {f : α → D} {o : Bool} (hu : unfl (l.map f) = true) : itemsOf false (.lst o (l.map f)) = some (l.map f) := if_pos hu
/-- the slots laid anew -/
theorem at_ {T : Tab} {Φ : Nat → List D → FR} {c : CS} {ρ ρ' : Rho} {K : Ks} (e : ρ = ρ') (h : vS T Φ c ρ' K) : vS T Φ c ρ K := by
  rw [e]
  exact h
end MP

set_option autoImplicit false
set_option linter.all false
set_option maxRecDepth 100000
/-! MP: forms: lists of spots. -/
namespace MP
open PySem

/-- a spot: row, column, sign -/
abbrev Sp := Int × Int × List Nat
def sp (s : Sp) : D := .tup false [.int s.1, .int s.2.1, .str s.2.2]
def sp3 (a b : Sp) : Prop := a.1 < b.1 ∨ (a.1 = b.1 ∧ (a.2.1 < b.2.1 ∨ (a.2.1 = b.2.1 ∧ a.2.2 < b.2.2)))
instance (a b : Sp) : Decidable (sp3 a b) := by unfold sp3; infer_instance
theorem sp_lt (a b : Sp) : ltD (sp a) (sp b) = decide (sp3 a b) := by
  show PySem.W.dataLt (.tuple [.int a.1, .int a.2.1, .str ⟨a.2.2.toArray⟩]) (.tuple [.int b.1, .int b.2.1, .str ⟨b.2.2.toArray⟩]) = _
  rw [PySem.W.dataLt_tuple, PySem.W.dataLt_cons (by simp [PySem.W.alike]), PySem.W.dataLt_cons (by simp [PySem.W.alike]), PySem.W.dataLt_cons (by simp [PySem.W.alike]), PySem.W.dataLt_int, PySem.W.dataLt_int, PySem.W.dataLt_str]
  have e0 : PyProof.Rows.lexLt PyProof.Rows.itemOrd (PySem.W.keyToksAll []) (PySem.W.keyToksAll []) = false := PyProof.Rows.lex_irrefl _
  rw [e0]
  simp only [PyData.eqv, beq_iff_eq]
  unfold sp3
  by_cases h1 : a.1 = b.1
  · simp only [h1, if_true, Int.lt_irrefl, false_or, true_and]
    by_cases h2 : a.2.1 = b.2.1
    · simp only [h2, if_true, Int.lt_irrefl, false_or, true_and]
      by_cases h3 : a.2.2 = b.2.2
      · simp [h3, List.lt_irrefl]
      · rw [if_neg]
        intro z
        apply h3
        have := congrArg Str.cps z
        simpa using this
    · simp [h2]
  · simp [h1]
def leS (a b : Sp) : Bool := !decide (sp3 b a)
def sortS (l : List Sp) : List Sp := l.mergeSort leS
theorem sortD_map (l : List Sp) : sortD (l.map sp) = (sortS l).map sp := by
  unfold sortD sortS
  rw [PySem.W.sort_maps (r := leS) (s := fun a b => !ltD b a) sp fun a b _ _ => by unfold leS; rw [sp_lt]]
theorem sp3_irrefl (a : Sp) : ¬ sp3 a a := by
  unfold sp3
  rintro (h | ⟨_, h | ⟨_, h⟩⟩)
  · omega
  · omega
  · exact List.lt_irrefl _ h
theorem sp3_trans {a b c : Sp} (h : sp3 a b) (k : sp3 b c) : sp3 a c := by
  unfold sp3 at *
  rcases h with h | ⟨h, h' | ⟨h', h''⟩⟩ <;> rcases k with k | ⟨k, k' | ⟨k', k''⟩⟩
  · exact .inl (by omega)
  · exact .inl (by omega)
  · exact .inl (by omega)
  · exact .inl (by omega)
  · exact .inr ⟨by omega, .inl (by omega)⟩
  · exact .inr ⟨by omega, .inl (by omega)⟩
  · exact .inl (by omega)
  · exact .inr ⟨by omega, .inl (by omega)⟩
  · exact .inr ⟨by omega, .inr ⟨by omega, List.lt_trans h'' k''⟩⟩
theorem sp3_total {a b : Sp} (h : ¬ sp3 a b) (k : a ≠ b) : sp3 b a := by
  unfold sp3 at *
  by_cases h1 : b.1 < a.1
  · exact .inl h1
  · by_cases h2 : b.1 = a.1
    · by_cases h3 : b.2.1 < a.2.1
      · exact .inr ⟨h2, .inl h3⟩
      · by_cases h4 : b.2.1 = a.2.1
        · refine .inr ⟨h2, .inr ⟨h4, ?_⟩⟩
          have n1 : ¬ a.2.2 < b.2.2 := fun z => h (.inr ⟨h2.symm, .inr ⟨h4.symm, z⟩⟩)
          have n2 : a.2.2 ≠ b.2.2 := fun z => k (by
            obtain ⟨a1, a2, a3⟩ := a
            obtain ⟨b1, b2, b3⟩ := b
            simp only at h2 h4 z
            rw [h2, h4, z])
          exact Classical.byContradiction fun z => n2 (List.le_antisymm (List.not_lt.mp z) (List.not_lt.mp n1))
        · exact absurd (Or.inr ⟨h2.symm, .inl (by omega)⟩) h
    · exact absurd (Or.inl (by omega)) h
theorem sortS_pw (l : List Sp) : (sortS l).Pairwise fun a b => ¬ sp3 b a := by
  have k := List.pairwise_mergeSort (le := leS) (fun a b c h1 h2 => ?_) (fun a b => ?_) l
  · exact k.imp fun {a b} h => by unfold leS at h; simpa using h
  · unfold leS at *
    simp only [Bool.not_eq_true', decide_eq_false_iff_not] at *
    intro z
    by_cases e : b = c
    · subst e
      exact h1 z
    · exact h1 (sp3_trans (sp3_total h2 (Ne.symm e)) z)
  · unfold leS
    simp only [Bool.or_eq_true, Bool.not_eq_true', decide_eq_false_iff_not]
    by_cases h : sp3 b a
    · exact .inr fun z => sp3_irrefl _ (sp3_trans h z)
    · exact .inl h
theorem sortS_mem {l : List Sp} {s : Sp} : s ∈ sortS l ↔ s ∈ l := (List.mergeSort_perm l _).mem_iff
theorem sortS_perm (l : List Sp) : (sortS l).Perm l := List.mergeSort_perm l _
theorem minI_spec : ∀ (is : List Int) (i : Int), minI is i ∈ i :: is ∧ ∀ x ∈ i :: is, minI is i ≤ x
  | [], i => ⟨List.mem_singleton_self _, fun x hx => by rw [List.mem_singleton] at hx; rw [hx]; exact Int.le_refl _⟩
  | d :: ds, m => by
    rw [minI]
    obtain ⟨h1, h2⟩ := minI_spec ds (if d < m then d else m)
    have e := h2 _ List.mem_cons_self
    generalize minI ds (if d < m then d else m) = M0 at h1 h2 e ⊢
    refine ⟨?_, fun x hx => ?_⟩
    · rcases List.mem_cons.mp h1 with z | z
      · rw [z]
        split
        · exact List.mem_cons_of_mem _ List.mem_cons_self
        · exact List.mem_cons_self
      · exact List.mem_cons_of_mem _ (List.mem_cons_of_mem _ z)
    · rcases List.mem_cons.mp hx with z | z
      · rw [z]; split at e <;> omega
      · rcases List.mem_cons.mp z with z | z
        · rw [z]; split at e <;> omega
        · exact h2 x (List.mem_cons_of_mem _ z)
theorem maxI_spec : ∀ (is : List Int) (i : Int), maxI is i ∈ i :: is ∧ ∀ x ∈ i :: is, x ≤ maxI is i
  | [], i => ⟨List.mem_singleton_self _, fun x hx => by rw [List.mem_singleton] at hx; rw [hx]; exact Int.le_refl _⟩
  | d :: ds, m => by
    rw [maxI]
    obtain ⟨h1, h2⟩ := maxI_spec ds (if m < d then d else m)
    have e := h2 _ List.mem_cons_self
    generalize maxI ds (if m < d then d else m) = M0 at h1 h2 e ⊢
    refine ⟨?_, fun x hx => ?_⟩
    · rcases List.mem_cons.mp h1 with z | z
      · rw [z]
        split
        · exact List.mem_cons_of_mem _ List.mem_cons_self
        · exact List.mem_cons_self
      · exact List.mem_cons_of_mem _ (List.mem_cons_of_mem _ z)
    · rcases List.mem_cons.mp hx with z | z
      · rw [z]; split at e <;> omega
      · rcases List.mem_cons.mp z with z | z
        · rw [z]; split at e <;> omega
        · exact h2 x (List.mem_cons_of_mem _ z)
/-- min([f(x) for x in l]) is m -/
theorem min1_is {α : Type} {l : List α} {g : α → Int} {o : Bool} {m : Int} (h1 : ∃ a ∈ l, g a = m) (h2 : ∀ a ∈ l, m ≤ g a) : o_min1 [.lst o (l.map fun a => .int (g a))] = some (.int m) := by
  cases l with
  | nil => obtain ⟨a, ha, _⟩ := h1; cases ha
  | cons a l =>
    have e : ((a :: l).map fun a => D.int (g a)) = (g a :: l.map g).map .int := by rw [List.map_cons, List.map_cons, List.map_map]; rfl
    obtain ⟨k1, k2⟩ := minI_spec (l.map g) (g a)
    have em : minI (l.map g) (g a) = m := by
      have c1 : m ≤ minI (l.map g) (g a) := by
        have k1' : minI (l.map g) (g a) ∈ (a :: l).map g := by rw [List.map_cons]; exact k1
        obtain ⟨b, hb, e⟩ := List.mem_map.mp k1'
        rw [← e]; exact h2 b hb
      obtain ⟨b, hb, e⟩ := h1
      have c2 := k2 (g b) (by rw [← List.map_cons]; exact List.mem_map.mpr ⟨b, hb, rfl⟩)
      omega
    rw [e]
    unfold o_min1
    dsimp only
    rw [ints_map]
    show some (D.int (minI (l.map g) (g a))) = _
    rw [em]
theorem max1_is {α : Type} {l : List α} {g : α → Int} {o : Bool} {m : Int} (h1 : ∃ a ∈ l, g a = m) (h2 : ∀ a ∈ l, g a ≤ m) : o_max1 [.lst o (l.map fun a => .int (g a))] = some (.int m) := by
  cases l with
  | nil => obtain ⟨a, ha, _⟩ := h1; cases ha
  | cons a l =>
    have e : ((a :: l).map fun a => D.int (g a)) = (g a :: l.map g).map .int := by rw [List.map_cons, List.map_cons, List.map_map]; rfl
    obtain ⟨k1, k2⟩ := maxI_spec (l.map g) (g a)
    have em : maxI (l.map g) (g a) = m := by
      have c1 : maxI (l.map g) (g a) ≤ m := by
        have k1' : maxI (l.map g) (g a) ∈ (a :: l).map g := by rw [List.map_cons]; exact k1
        obtain ⟨b, hb, e⟩ := List.mem_map.mp k1'
        rw [← e]; exact h2 b hb
      obtain ⟨b, hb, e⟩ := h1
      have c2 := k2 (g b) (by rw [← List.map_cons]; exact List.mem_map.mpr ⟨b, hb, rfl⟩)
      omega
    rw [e]
    unfold o_max1
    dsimp only
    rw [ints_map]
    show some (D.int (maxI (l.map g) (g a))) = _
    rw [em]

/-- rows from nought to h, columns from nought to w, each end taken -/
structure Box (l : List Sp) (h w : Int) : Prop where
  all : ∀ s ∈ l, 0 ≤ s.1 ∧ s.1 ≤ h ∧ 0 ≤ s.2.1 ∧ s.2.1 ≤ w
  r0 : ∃ s ∈ l, s.1 = 0
  rh : ∃ s ∈ l, s.1 = h
  c0 : ∃ s ∈ l, s.2.1 = 0
  cw : ∃ s ∈ l, s.2.1 = w
def mir (w : Int) (s : Sp) : Sp := (s.1, w - s.2.1, s.2.2)
def qua (h : Int) (s : Sp) : Sp := (s.2.1, h - s.1, s.2.2)
theorem ex_map {l : List Sp} {f : Sp → Sp} {p q : Sp → Prop} (h : ∃ s ∈ l, p s) (k : ∀ s, p s → q (f s)) : ∃ s ∈ l.map f, q s := by
  obtain ⟨s, hs, e⟩ := h
  exact ⟨f s, List.mem_map.mpr ⟨s, hs, rfl⟩, k s e⟩
theorem Box.mir {l : List Sp} {h w : Int} (b : Box l h w) : Box (l.map (MP.mir w)) h w := by
  refine ⟨fun s hs => ?_, ex_map b.r0 fun s e => e, ex_map b.rh fun s e => e, ex_map b.cw fun s e => by show w - s.2.1 = 0; omega, ex_map b.c0 fun s e => by show w - s.2.1 = w; omega⟩
  obtain ⟨t, ht, rfl⟩ := List.mem_map.mp hs
  have := b.all t ht
  show 0 ≤ t.1 ∧ t.1 ≤ h ∧ 0 ≤ w - t.2.1 ∧ w - t.2.1 ≤ w
  omega
theorem Box.qua {l : List Sp} {h w : Int} (b : Box l h w) : Box (l.map (MP.qua h)) w h := by
  refine ⟨fun s hs => ?_, ex_map b.c0 fun s e => e, ex_map b.cw fun s e => e, ex_map b.rh fun s e => by show h - s.1 = 0; omega, ex_map b.r0 fun s e => by show h - s.1 = h; omega⟩
  obtain ⟨t, ht, rfl⟩ := List.mem_map.mp hs
  have := b.all t ht
  show 0 ≤ t.2.1 ∧ t.2.1 ≤ w ∧ 0 ≤ h - t.1 ∧ h - t.1 ≤ h
  omega
/-- n quarters to the right, in a box of h, w -/
def quaN : Nat → Int → Int → Sp → Sp
  | 0, _, _, s => s
  | n + 1, h, w, s => quaN n w h (qua h s)
/-- the turning t -/
def turnS (t : Nat) (h w : Int) (s : Sp) : Sp := quaN (t % 4) h w (if 4 ≤ t then mir w s else s)
theorem Box.quaN : ∀ (n : Nat) {l : List Sp} {h w : Int}, Box l h w → ∃ h' w', Box (l.map (MP.quaN n h w)) h' w'
  | 0, l, h, w, b => ⟨h, w, by rw [show l.map (MP.quaN 0 h w) = l from List.map_id l]; exact b⟩
  | n + 1, l, h, w, b => by
    obtain ⟨h', w', k⟩ := Box.quaN n b.qua
    refine ⟨h', w', ?_⟩
    rw [List.map_map] at k
    exact k
theorem Box.turn (t : Nat) {l : List Sp} {h w : Int} (b : Box l h w) : ∃ h' w', Box (l.map (turnS t h w)) h' w' := by
  by_cases ht : 4 ≤ t
  · obtain ⟨h', w', k⟩ := b.mir.quaN (t % 4)
    rw [List.map_map] at k
    refine ⟨h', w', ?_⟩
    have e : turnS t h w = MP.quaN (t % 4) h w ∘ MP.mir w := by funext s; unfold turnS; rw [if_pos ht]; rfl
    rw [e]
    exact k
  · obtain ⟨h', w', k⟩ := b.quaN (t % 4)
    refine ⟨h', w', ?_⟩
    have e : turnS t h w = MP.quaN (t % 4) h w := by funext s; unfold turnS; rw [if_neg ht]
    rw [e]
    exact k
end MP

set_option autoImplicit false
set_option linter.all false
set_option maxRecDepth 100000
/-! MP: rules for loops, comprehensions, tests. -/
namespace MP
open PySem

theorem clr_len' (own : List Nat) (ρ : Rho) : (clr own ρ).length = ρ.length := by
  induction own with
  | nil => rfl
  | cons i is ih => rw [clr, List.length_set, ih]
theorem clr_get' : ∀ (own : List Nat) (ρ : Rho) (j : Nat), j ∉ own → (clr own ρ)[j]? = ρ[j]?
  | [], ρ, j, _ => rfl
  | i :: is, ρ, j, h => by
    rw [clr, List.getElem?_set_ne fun e => h (by rw [e]; exact List.mem_cons_self), clr_get' is ρ j fun z => h (List.mem_cons_of_mem _ z)]
theorem unclr_len' (ρ0 : Rho) (own : List Nat) (ρ : Rho) : (unclr ρ0 own ρ).length = ρ.length := by
  induction own with
  | nil => rfl
  | cons i is ih => rw [unclr, List.length_set, ih]
theorem unclr_get' (ρ0 : Rho) : ∀ (own : List Nat) (ρ : Rho) (j : Nat), ρ0.length = ρ.length → (unclr ρ0 own ρ)[j]? = if j ∈ own then ρ0[j]? else ρ[j]?
  | [], ρ, j, _ => by simp [unclr]
  | i :: is, ρ, j, hl => by
    rw [unclr]
    by_cases h : i = j
    · subst h
      rw [if_pos List.mem_cons_self]
      by_cases hi : i < ρ.length
      · rw [List.getElem?_set_self (by rw [unclr_len']; exact hi)]
        unfold Rho.get
        rw [List.getElem?_eq_getElem (show i < ρ0.length by omega)]
        rfl
      · rw [List.getElem?_eq_none (by rw [List.length_set, unclr_len']; omega), List.getElem?_eq_none (by omega)]
    · rw [List.getElem?_set_ne h, unclr_get' ρ0 is ρ j hl]
      have : (j ∈ i :: is) ↔ j ∈ is := by
        rw [List.mem_cons]
        exact ⟨fun z => z.resolve_left fun e => h e.symm, .inr⟩
      by_cases hj : j ∈ is
      · rw [if_pos hj, if_pos (this.mpr hj)]
      · rw [if_neg hj, if_neg fun z => hj (this.mp z)]
/-- a comprehension's own slots laid back: nothing has changed -/
theorem unclr_same {own : List Nat} {ρ ρ' : Rho} (h : clr own ρ' = clr own ρ) : unclr ρ own ρ' = ρ := by
  have hl : ρ.length = ρ'.length := by rw [← clr_len' own ρ, ← h, clr_len']
  apply List.ext_getElem?
  intro j
  rw [unclr_get' ρ own ρ' j hl]
  by_cases hj : j ∈ own
  · rw [if_pos hj]
  · rw [if_neg hj, ← clr_get' own ρ' j hj, h, clr_get' own ρ j hj]

section
variable {T : Tab} {Φ : Nat → List D → FR}
/-- a comprehension that changes nothing -/
theorem comp_pure {α : Type} {t : CG} {elt : CE} {c : CO} {own : List Nat} {l : List α} {e : α → D} {ρ : Rho} {R : List D → Rho → Prop} (y : α → D) (p : α → Bool)
    (hs : ∀ a ∈ l, ∀ P : Option D → Rho → Prop, (p a = true → ∀ ρ', clr own ρ' = clr own ρ → P (some (y a)) ρ') → (p a = false → ∀ ρ', clr own ρ' = clr own ρ → P none ρ') →
      ∃ ρ₂, putG t (e a) (clr own ρ) = some ρ₂ ∧ vO T Φ c ρ₂ (fun b ρ₃ => if b = true then vE T Φ elt ρ₃ (fun y ρ₄ => P (some y) ρ₄) (fun _ _ => False) else P none ρ₃) fun _ _ => False)
    (hl : l.length ≤ lim) (hq : ∀ ρ', clr own ρ' = clr own ρ → ((l.filter p).map y).length ≤ lim → R ((l.filter p).map y) ρ') :
    vSeq (fun x ρ₁ P => ∃ ρ₂, putG t x (clr own ρ₁) = some ρ₂ ∧ vO T Φ c ρ₂ (fun b ρ₃ => if b = true then vE T Φ elt ρ₃ (fun y ρ₄ => P (some y) ρ₄) (fun _ _ => False) else P none ρ₃) fun _ _ => False) (l.map e) ρ R := by
  refine ⟨fun i ys ρ' => ys = ((l.take i).filter p).map y ∧ clr own ρ' = clr own ρ, ⟨rfl, rfl⟩, fun i x ys ρ' hx ⟨hy, hi⟩ => ?_, fun ys ρ' ⟨hy, hi⟩ => ?_⟩
  · rw [List.getElem?_map] at hx
    cases q : l[i]? with
    | none => rw [q] at hx; cases hx
    | some a =>
      rw [q] at hx
      cases hx
      have et : ((l.take (i + 1)).filter p).map y = ((l.take i).filter p).map y ++ (if p a = true then [y a] else []) := by
        rw [List.take_add_one, q, List.filter_append, List.map_append]
        cases hp : p a <;> simp [hp]
      rw [hi]
      exact hs a (List.mem_of_getElem? q) (fun o ρ'' => ys ++ o.toList = ((l.take (i + 1)).filter p).map y ∧ clr own ρ'' = clr own ρ) (fun hp ρ'' hi' => ⟨by rw [et, if_pos hp, hy]; rfl, hi'⟩) (fun hp ρ'' hi' => ⟨by rw [et, hp, hy]; simp, hi'⟩)
  · rw [List.length_map, List.take_length] at hy
    rw [hy]
    refine hq ρ' hi ?_
    rw [List.length_map]
    exact Nat.le_trans (List.length_filter_le p l) hl
theorem filter_tt {α : Type} (l : List α) : l.filter (fun _ => true) = l := by
  induction l with
  | nil => rfl
  | cons a l ih => rw [List.filter_cons, if_pos rfl, ih]
/-- .. that takes all -/
theorem comp_all {α : Type} {t : CG} {elt : CE} {own : List Nat} {l : List α} {e : α → D} {ρ : Rho} {R : List D → Rho → Prop} (y : α → D)
    (hs : ∀ a ∈ l, ∀ P : Option D → Rho → Prop, (∀ ρ', clr own ρ' = clr own ρ → P (some (y a)) ρ') →
      ∃ ρ₂, putG t (e a) (clr own ρ) = some ρ₂ ∧ vE T Φ elt ρ₂ (fun y ρ₄ => P (some y) ρ₄) (fun _ _ => False))
    (hl : l.length ≤ lim) (hq : ∀ ρ', clr own ρ' = clr own ρ → (l.map y).length ≤ lim → R (l.map y) ρ') :
    vSeq (fun x ρ₁ P => ∃ ρ₂, putG t x (clr own ρ₁) = some ρ₂ ∧ vO T Φ .none ρ₂ (fun b ρ₃ => if b = true then vE T Φ elt ρ₃ (fun y ρ₄ => P (some y) ρ₄) (fun _ _ => False) else P none ρ₃) fun _ _ => False) (l.map e) ρ R := by
  refine comp_pure y (fun _ => true) (fun a ha P h1 h2 => ?_) hl (fun ρ' h h' => by rw [filter_tt] at h' ⊢; exact hq ρ' h h')
  obtain ⟨ρ₂, e1, e2⟩ := hs a ha P (h1 rfl)
  exact ⟨ρ₂, e1, e2⟩
/-- for k in range(n) -/
theorem for_rng {f : D → Rho → Ks → Prop} {n : Nat} {ρ : Rho} {K : Ks} (J : Nat → Rho → Prop) (h0 : J 0 ρ) (hs : ∀ i ρ, i < n → J i ρ → f (.int (i : Int)) ρ { K with nx := J (i + 1), ct := J (i + 1), bk := K.nx }) (hq : ∀ ρ, J n ρ → K.nx ρ) : vFor f ((List.range n).map fun (k : Nat) => .int (k : Int)) ρ K := by
  refine ⟨J, h0, fun i d ρ hx hj => ?_, fun ρ hj => hq ρ (by rw [List.length_map, List.length_range] at hj; exact hj)⟩
  obtain ⟨hi, rfl⟩ := range_at hx
  exact hs i ρ hi hj
/-- for k in range(lo, hi) -/
theorem for_rng2 {f : D → Rho → Ks → Prop} {lo : Int} {n : Nat} {ρ : Rho} {K : Ks} (J : Nat → Rho → Prop) (h0 : J 0 ρ) (hs : ∀ i ρ, i < n → J i ρ → f (.int (lo + (i : Int))) ρ { K with nx := J (i + 1), ct := J (i + 1), bk := K.nx }) (hq : ∀ ρ, J n ρ → K.nx ρ) : vFor f ((List.range n).map fun (k : Nat) => .int (lo + (k : Int))) ρ K := by
  refine ⟨J, h0, fun i d ρ hx hj => ?_, fun ρ hj => hq ρ (by rw [List.length_map, List.length_range] at hj; exact hj)⟩
  obtain ⟨hi, rfl⟩ := range_at hx
  exact hs i ρ hi hj
/-- for x in items -/
theorem for_list {α : Type} {f : D → Rho → Ks → Prop} {l : List α} {e : α → D} {ρ : Rho} {K : Ks} (J : Nat → Rho → Prop) (h0 : J 0 ρ) (hs : ∀ i a ρ, l[i]? = some a → J i ρ → f (e a) ρ { K with nx := J (i + 1), ct := J (i + 1), bk := K.nx }) (hq : ∀ ρ, J l.length ρ → K.nx ρ) : vFor f (l.map e) ρ K := by
  refine ⟨J, h0, fun i d ρ hx hj => ?_, fun ρ hj => hq ρ (by rw [List.length_map] at hj; exact hj)⟩
  rw [List.getElem?_map] at hx
  cases q : l[i]? with
  | none => rw [q] at hx; cases hx
  | some a =>
    rw [q] at hx
    cases hx
    exact hs i a ρ q hj
/-- a test -/
theorem vB_if {b : Bool} {P Q : Prop} (h1 : b = true → P) (h2 : b = false → Q) : vB (.bl b) (fun k => if k = true then P else Q) := by
  show if b = true then P else Q
  cases b with
  | true => exact h1 rfl
  | false => exact h2 rfl
theorem vB_t {b : Bool} {P Q : Prop} (e : b = true) (h1 : P) : vB (.bl b) (fun k => if k = true then P else Q) := by
  subst e
  exact h1
theorem vB_f {b : Bool} {P Q : Prop} (e : b = false) (h1 : Q) : vB (.bl b) (fun k => if k = true then P else Q) := by
  subst e
  exact h1
end
theorem rng_ok {j : Int} (h1 : j < 2 ^ 60) (h2 : -(2 ^ 60) < j) : RngB j := ⟨h1, h2⟩
/-- an item by its number -/
theorem ix_nat {α : Type} {l : List α} {f : α → D} (hf : ∀ a, (f a).fl = false) {v : Int} {i : Nat} {a : α} (e : v = i) (h : l[i]? = some a) : ((L2.atI (l.map f) v).bind fun d => if d.fl then none else some d) = some (f a) := by
  subst e
  have hi : i < l.length := (List.getElem?_eq_some_iff.mp h).1
  have e2 : L2.atI (l.map f) (i : Int) = some (f a) := by
    unfold L2.atI L2.ixN
    rw [if_pos (by omega), if_pos (by rw [List.length_map]; omega)]
    show (l.map f)[((i : Int)).toNat]? = _
    rw [Int.toNat_natCast, List.getElem?_map, h]
    rfl
  rw [e2]
  show (if (f a).fl = true then none else some (f a)) = _
  rw [hf a]
  rfl
theorem eq_args {Φ : Nat → List D → FR} {f : Nat} {ds ds' : List D} {r : FR} (h : Φ f ds' = r) (e : ds = ds') : Φ f ds = r := e ▸ h
end MP

set_option autoImplicit false
set_option linter.all false
set_option maxRecDepth 100000
/-! MP: forms, further: least, greatest, what hangs together. -/
namespace MP
open PySem

def minL : List Int → Int
  | [] => 0
  | i :: is => minI is i
def maxL : List Int → Int
  | [] => 0
  | i :: is => maxI is i
theorem minL_mem {l : List Int} (h : l ≠ []) : minL l ∈ l := by
  cases l with
  | nil => exact absurd rfl h
  | cons i is => exact (minI_spec is i).1
theorem minL_le {l : List Int} {x : Int} (h : x ∈ l) : minL l ≤ x := by
  cases l with
  | nil => cases h
  | cons i is => exact (minI_spec is i).2 x h
theorem maxL_mem {l : List Int} (h : l ≠ []) : maxL l ∈ l := by
  cases l with
  | nil => exact absurd rfl h
  | cons i is => exact (maxI_spec is i).1
theorem le_maxL {l : List Int} {x : Int} (h : x ∈ l) : x ≤ maxL l := by
  cases l with
  | nil => cases h
  | cons i is => exact (maxI_spec is i).2 x h
theorem minL_eq {l : List Int} {m : Int} (h1 : m ∈ l) (h2 : ∀ x ∈ l, m ≤ x) : minL l = m := Int.le_antisymm (minL_le h1) (h2 _ (minL_mem (List.ne_nil_of_mem h1)))
theorem maxL_eq {l : List Int} {m : Int} (h1 : m ∈ l) (h2 : ∀ x ∈ l, x ≤ m) : maxL l = m := Int.le_antisymm (h2 _ (maxL_mem (List.ne_nil_of_mem h1))) (le_maxL h1)
theorem min1_map {α : Type} {l : List α} {g : α → Int} {o : Bool} (h : l ≠ []) : o_min1 [.lst o (l.map fun a => .int (g a))] = some (.int (minL (l.map g))) := by
  have hm : l.map g ≠ [] := fun e => h (List.map_eq_nil_iff.mp e)
  obtain ⟨a, ha, e⟩ := List.mem_map.mp (minL_mem hm)
  exact min1_is ⟨a, ha, e⟩ fun b hb => minL_le (List.mem_map.mpr ⟨b, hb, rfl⟩)
theorem max1_map {α : Type} {l : List α} {g : α → Int} {o : Bool} (h : l ≠ []) : o_max1 [.lst o (l.map fun a => .int (g a))] = some (.int (maxL (l.map g))) := by
  have hm : l.map g ≠ [] := fun e => h (List.map_eq_nil_iff.mp e)
  obtain ⟨a, ha, e⟩ := List.mem_map.mp (maxL_mem hm)
  exact max1_is ⟨a, ha, e⟩ fun b hb => le_maxL (List.mem_map.mpr ⟨b, hb, rfl⟩)

/-- signs that a text may hold -/
def okz (l : List Sp) : Prop := ∀ s ∈ l, (s.2.2.all fun c => decide (c < 1114112)) = true
/-- great letters -/
def GL (l : List Sp) : Prop := ∀ s ∈ l, ∃ c, s.2.2 = [c] ∧ 65 ≤ c ∧ c ≤ 90
theorem GL.okz {l : List Sp} (h : GL l) : okz l := fun s hs => by
  obtain ⟨c, e, h1, h2⟩ := h s hs
  rw [e]
  simp
  omega
theorem sps_unfl (l : List Sp) : unfl (l.map sp) = true := unfl_all.mpr fun d hd => by
  obtain ⟨p, _, rfl⟩ := List.mem_map.mp hd
  rfl
theorem sp_sh {s : Sp} (h : (s.2.2.all fun c => decide (c < 1114112)) = true) (n : Nat) : (sp s).sh (n + 1) = true := by
  show (D.tup false [.int s.1, .int s.2.1, .str s.2.2]).sh (n + 1) = true
  simp only [D.sh, shs, h, Bool.and_self, Bool.true_and]
theorem sp_nice {s : Sp} (h : (s.2.2.all fun c => decide (c < 1114112)) = true) : nice (sp s) = true := sp_sh h 59
theorem sps_shs {l : List Sp} (h : okz l) (n : Nat) : shs (n + 1) (l.map sp) = true := by
  rw [shs_iff]
  intro d hd
  obtain ⟨s, hs, rfl⟩ := List.mem_map.mp hd
  exact sp_sh (h s hs) n
theorem sps_nice {l : List Sp} (h : okz l) : nice (.lst false (l.map sp)) = true := sps_shs h 58
theorem spt_nice {l : List Sp} (h : okz l) : nice (.tup false (l.map sp)) = true := sps_shs h 58
theorem sp_alike (a b : Sp) : PySem.W.alike (sp a).toP (sp b).toP = true := by
  simp [sp, D.toP, toPs, PySem.W.alike, PySem.W.alikeAll]
theorem sps_sort {l : List Sp} (h : okz l) : (sortOk (l.map sp) && unfl (l.map sp)) = true := by
  rw [sps_unfl, Bool.and_true]
  unfold sortOk
  simp only [Bool.and_eq_true, Bool.or_eq_true]
  refine ⟨⟨List.all_eq_true.mpr fun d hd => ?_, List.all_eq_true.mpr fun d hd => List.all_eq_true.mpr fun e he => ?_⟩, .inl (List.all_eq_true.mpr fun d hd => ?_)⟩
  · obtain ⟨s, hs, rfl⟩ := List.mem_map.mp hd
    exact sp_sh (h s hs) 59
  · obtain ⟨s, hs, rfl⟩ := List.mem_map.mp hd
    obtain ⟨t, ht, rfl⟩ := List.mem_map.mp he
    exact sp_alike s t
  · obtain ⟨s, hs, rfl⟩ := List.mem_map.mp hd
    rfl
theorem okz_perm {l l' : List Sp} (h : okz l) (k : ∀ s ∈ l', s ∈ l) : okz l' := fun s hs => h s (k s hs)
theorem sortS_okz {l : List Sp} (h : okz l) : okz (sortS l) := okz_perm h fun s hs => sortS_mem.mp hs
theorem sortS_len (l : List Sp) : (sortS l).length = l.length := (sortS_perm l).length_eq
/-- equal lists of spots -/
theorem sp_inj {a b : Sp} (h : sp a = sp b) : a = b := by
  obtain ⟨a1, a2, a3⟩ := a
  obtain ⟨b1, b2, b3⟩ := b
  simp [sp] at h
  simp [h]
theorem sps_inj : ∀ {l l' : List Sp}, l.map sp = l'.map sp → l = l'
  | [], [], _ => rfl
  | [], _ :: _, h => by cases h
  | _ :: _, [], h => by cases h
  | a :: l, b :: l', h => by
    simp only [List.map_cons, List.cons.injEq] at h
    rw [sp_inj h.1, sps_inj h.2]

/-- put to the least row and column -/
def formedS (l : List Sp) : List Sp := sortS (l.map fun s => (s.1 - minL (l.map (·.1)), s.2.1 - minL (l.map (·.2.1)), s.2.2))
theorem Box.ne {l : List Sp} {h w : Int} (b : Box l h w) : l ≠ [] := by
  obtain ⟨s, hs, _⟩ := b.r0
  exact List.ne_nil_of_mem hs
theorem Box.top {l : List Sp} {h w : Int} (b : Box l h w) : minL (l.map (·.1)) = 0 := by
  obtain ⟨s, hs, e⟩ := b.r0
  refine minL_eq (List.mem_map.mpr ⟨s, hs, e⟩) fun x hx => ?_
  obtain ⟨t, ht, rfl⟩ := List.mem_map.mp hx
  exact (b.all t ht).1
theorem Box.left {l : List Sp} {h w : Int} (b : Box l h w) : minL (l.map (·.2.1)) = 0 := by
  obtain ⟨s, hs, e⟩ := b.c0
  refine minL_eq (List.mem_map.mpr ⟨s, hs, e⟩) fun x hx => ?_
  obtain ⟨t, ht, rfl⟩ := List.mem_map.mp hx
  exact (b.all t ht).2.2.1
theorem Box.high {l : List Sp} {h w : Int} (b : Box l h w) : maxL (l.map (·.1)) = h := by
  obtain ⟨s, hs, e⟩ := b.rh
  refine maxL_eq (List.mem_map.mpr ⟨s, hs, e⟩) fun x hx => ?_
  obtain ⟨t, ht, rfl⟩ := List.mem_map.mp hx
  exact (b.all t ht).2.1
theorem Box.wide {l : List Sp} {h w : Int} (b : Box l h w) : maxL (l.map (·.2.1)) = w := by
  obtain ⟨s, hs, e⟩ := b.cw
  refine maxL_eq (List.mem_map.mpr ⟨s, hs, e⟩) fun x hx => ?_
  obtain ⟨t, ht, rfl⟩ := List.mem_map.mp hx
  exact (b.all t ht).2.2.2
theorem Box.formed {l : List Sp} {h w : Int} (b : Box l h w) : formedS l = sortS l := by
  unfold formedS
  rw [b.top, b.left]
  have e : (l.map fun s : Sp => (s.1 - 0, s.2.1 - 0, s.2.2)) = l := by
    rw [show (fun s : Sp => (s.1 - 0, s.2.1 - 0, s.2.2)) = id from funext fun s => by obtain ⟨a, b, c⟩ := s; simp]
    exact List.map_id l
  rw [e]
theorem Box.perm {l l' : List Sp} {h w : Int} (b : Box l h w) (p : l'.Perm l) : Box l' h w := by
  have k : ∀ {q : Sp → Prop}, (∃ s ∈ l, q s) → ∃ s ∈ l', q s := fun ⟨s, hs, e⟩ => ⟨s, p.mem_iff.mpr hs, e⟩
  exact ⟨fun s hs => b.all s (p.mem_iff.mp hs), k b.r0, k b.rh, k b.c0, k b.cw⟩
theorem Box.sort {l : List Sp} {h w : Int} (b : Box l h w) : Box (sortS l) h w := b.perm (sortS_perm l)
/-- any list, put to the least row and column, lies in a box -/
theorem formed_box {l : List Sp} (hl : l ≠ []) : ∃ h w, Box (formedS l) h w := by
  have r1 := minL_mem (l := l.map (·.1)) (fun e => hl (List.map_eq_nil_iff.mp e))
  have r2 := maxL_mem (l := l.map (·.1)) (fun e => hl (List.map_eq_nil_iff.mp e))
  have c1 := minL_mem (l := l.map (·.2.1)) (fun e => hl (List.map_eq_nil_iff.mp e))
  have c2 := maxL_mem (l := l.map (·.2.1)) (fun e => hl (List.map_eq_nil_iff.mp e))
  obtain ⟨a, ha, ea⟩ := List.mem_map.mp r1
  obtain ⟨b, hb, eb⟩ := List.mem_map.mp r2
  obtain ⟨c, hc, ec⟩ := List.mem_map.mp c1
  obtain ⟨d, hd, ed⟩ := List.mem_map.mp c2
  refine ⟨maxL (l.map (·.1)) - minL (l.map (·.1)), maxL (l.map (·.2.1)) - minL (l.map (·.2.1)), Box.sort ⟨fun s hs => ?_, ⟨_, List.mem_map.mpr ⟨a, ha, rfl⟩, ?_⟩, ⟨_, List.mem_map.mpr ⟨b, hb, rfl⟩, ?_⟩, ⟨_, List.mem_map.mpr ⟨c, hc, rfl⟩, ?_⟩, ⟨_, List.mem_map.mpr ⟨d, hd, rfl⟩, ?_⟩⟩⟩
  · obtain ⟨t, ht, rfl⟩ := List.mem_map.mp hs
    have h1 := minL_le (List.mem_map.mpr ⟨t, ht, rfl⟩ : t.1 ∈ l.map (·.1))
    have h2 := le_maxL (List.mem_map.mpr ⟨t, ht, rfl⟩ : t.1 ∈ l.map (·.1))
    have h3 := minL_le (List.mem_map.mpr ⟨t, ht, rfl⟩ : t.2.1 ∈ l.map (·.2.1))
    have h4 := le_maxL (List.mem_map.mpr ⟨t, ht, rfl⟩ : t.2.1 ∈ l.map (·.2.1))
    dsimp only
    omega
  · dsimp only; omega
  · dsimp only; omega
  · dsimp only; omega
  · dsimp only; omega

/-! ### cells -/
abbrev Ce := Int × Int
def ce (p : Ce) : D := .tup false [.int p.1, .int p.2]
def cell (s : Sp) : Ce := (s.1, s.2.1)
theorem ces_unfl (l : List Ce) : unfl (l.map ce) = true := unfl_all.mpr fun d hd => by
  obtain ⟨p, _, rfl⟩ := List.mem_map.mp hd
  rfl
theorem ces_nice (l : List Ce) : (l.map ce).all nice = true := List.all_eq_true.mpr fun d hd => by
  obtain ⟨p, _, rfl⟩ := List.mem_map.mp hd
  rfl
theorem ce_eq (a b : Ce) : eqD (ce a) (ce b) = decide (a = b) := by
  show (a.1 == b.1 && (a.2 == b.2 && true)) = _
  rw [Bool.eq_iff_iff]
  simp only [Bool.and_eq_true, beq_iff_eq, decide_eq_true_eq, and_true]
  exact Prod.ext_iff.symm
theorem ce_mem (a : Ce) (l : List Ce) : (l.map ce).any (fun x => eqD x (ce a)) = decide (a ∈ l) := by
  rw [Bool.eq_iff_iff, List.any_eq_true, decide_eq_true_eq]
  constructor
  · rintro ⟨d, hd, e⟩
    obtain ⟨p, hp, rfl⟩ := List.mem_map.mp hd
    rw [ce_eq, decide_eq_true_eq] at e
    rw [← e]; exact hp
  · intro h
    exact ⟨ce a, List.mem_map.mpr ⟨a, h, rfl⟩, by rw [ce_eq]; simp⟩
theorem ce_memL {a : Ce} {l : List Ce} {o : Bool} : o_mem [ce a, .lst o (l.map ce)] = some (.bl (decide (a ∈ l))) := by
  rw [← ce_mem]
  exact if_pos (by rw [ces_nice]; rfl)
theorem ce_nmemL {a : Ce} {l : List Ce} {o : Bool} : o_nmem [ce a, .lst o (l.map ce)] = some (.bl (!decide (a ∈ l))) := by
  rw [← ce_mem]
  exact if_pos (by rw [ces_nice]; rfl)
/-- side by side -/
def nb (a b : Ce) : Prop := (a.1 = b.1 ∧ (a.2 = b.2 + 1 ∨ b.2 = a.2 + 1)) ∨ (a.2 = b.2 ∧ (a.1 = b.1 + 1 ∨ b.1 = a.1 + 1))
instance (a b : Ce) : Decidable (nb a b) := by unfold nb; infer_instance
theorem nb_symm {a b : Ce} (h : nb a b) : nb b a := by unfold nb at *; omega
theorem nb_abs (a b : Ce) : ((if a.1 - b.1 < 0 then -(a.1 - b.1) else a.1 - b.1) + (if a.2 - b.2 < 0 then -(a.2 - b.2) else a.2 - b.2) = 1) ↔ nb a b := by
  unfold nb
  split <;> split <;> omega
/-- what a set of cells closes to -/
def Closed (S : List Ce) (T : Ce → Prop) : Prop := ∀ a ∈ S, T a → ∀ b ∈ S, nb a b → T b
/-- they hang together -/
def Hang (S : List Ce) : Prop := ∀ T : Ce → Prop, Closed S T → (∃ a ∈ S, T a) → ∀ b ∈ S, T b
theorem Hang.of {S : List Ce} {x : Ce} (h : ∀ T : Ce → Prop, Closed S T → T x → ∀ b ∈ S, T b) : Hang S := by
  intro T c ⟨a, ha, ta⟩ b hb
  by_cases tx : T x
  · exact h T c tx b hb
  · have k := h (fun y => ¬ T y) (fun p hp tp q hq n tq => tp (c q hq tq p hp (nb_symm n))) tx a ha
    exact absurd ta k
theorem Hang.map {S : List Ce} (f : Ce → Ce) (k : ∀ a b, nb a b → nb (f a) (f b)) (h : Hang S) : Hang (S.map f) := by
  intro T c ⟨a, ha, ta⟩ b hb
  obtain ⟨a, ha', rfl⟩ := List.mem_map.mp ha
  obtain ⟨b, hb', rfl⟩ := List.mem_map.mp hb
  exact h (fun x => T (f x)) (fun p hp tp q hq n => c (f p) (List.mem_map.mpr ⟨p, hp, rfl⟩) tp (f q) (List.mem_map.mpr ⟨q, hq, rfl⟩) (k p q n)) ⟨a, ha', ta⟩ b hb'
theorem Hang.perm {S S' : List Ce} (p : S'.Perm S) (h : Hang S) : Hang S' := by
  intro T c ⟨a, ha, ta⟩ b hb
  exact h T (fun x hx tx y hy n => c x (p.mem_iff.mpr hx) tx y (p.mem_iff.mpr hy) n) ⟨a, p.mem_iff.mp ha, ta⟩ b (p.mem_iff.mp hb)
theorem Hang.one (a : Ce) : Hang [a] := by
  intro T c ⟨b, hb, tb⟩ x hx
  rw [List.mem_singleton] at hb hx
  rw [hx, ← hb]; exact tb
/-- one more that touches -/
theorem Hang.snoc {S : List Ce} {p q : Ce} (h : Hang S) (hp : p ∈ S) (n : nb p q) : Hang (S ++ [q]) := by
  intro T c ⟨a, ha, ta⟩ b hb
  have hpS : p ∈ S ++ [q] := List.mem_append_left _ hp
  have hqS : q ∈ S ++ [q] := List.mem_append_right _ (List.mem_singleton_self q)
  have cS : Closed S T := fun x hx tx y hy m => c x (List.mem_append_left _ hx) tx y (List.mem_append_left _ hy) m
  have tp : T p := by
    rcases List.mem_append.mp ha with ha | ha
    · exact h T cS ⟨a, ha, ta⟩ p hp
    · rw [List.mem_singleton] at ha
      rw [ha] at ta
      exact c q hqS ta p hpS (nb_symm n)
  rcases List.mem_append.mp hb with hb | hb
  · exact h T cS ⟨p, hp, tp⟩ b hb
  · rw [List.mem_singleton] at hb
    rw [hb]
    exact c p hpS tp q hqS n
end MP

set_option autoImplicit false
set_option linter.all false
set_option maxRecDepth 100000
/-! MP: forms, further: what is reached; rising cells; turnings kept. -/
namespace MP
open PySem

theorem full_of {α : Type} [DecidableEq α] {a b : List α} (na : a.Nodup) (sub : ∀ x ∈ a, x ∈ b) (e : b.length ≤ a.length) : ∀ x ∈ b, x ∈ a := by
  intro x hx
  by_cases h : x ∈ a
  · exact h
  · have n1 : (x :: a).Nodup := List.nodup_cons.mpr ⟨h, na⟩
    have k := n1.length_le_of_subset (l₂ := b) fun y hy => by
      rcases List.mem_cons.mp hy with q | q
      · rw [q]; exact hx
      · exact sub y q
    rw [List.length_cons] at k
    omega
/-- cells reached from the start: all touching ones of the first k are in -/
structure Bfs (S : List Ce) (x : Ce) (r : List Ce) (k : Nat) : Prop where
  st : x ∈ r
  sub : ∀ a ∈ r, a ∈ S
  nd : r.Nodup
  cl : ∀ (j : Nat) (a : Ce), j < k → r[j]? = some a → ∀ b ∈ S, nb a b → b ∈ r
  cn : ∀ T : Ce → Prop, Closed S T → T x → ∀ a ∈ r, T a
theorem Bfs.start {S : List Ce} {x : Ce} (h : x ∈ S) : Bfs S x [x] 0 :=
  ⟨List.mem_singleton_self x, fun a ha => by rw [List.mem_singleton.mp ha]; exact h, List.nodup_cons.mpr ⟨List.not_mem_nil, List.nodup_nil⟩, fun j a hj => absurd hj (Nat.not_lt_zero j), fun T c tx a ha => by rw [List.mem_singleton.mp ha]; exact tx⟩
theorem Bfs.app {S : List Ce} {x p q : Ce} {r : List Ce} {k : Nat} (b : Bfs S x r k) (hk : k ≤ r.length) (hp : p ∈ r) (hq : q ∈ S) (nq : q ∉ r) (n : nb p q) : Bfs S x (r ++ [q]) k := by
  refine ⟨List.mem_append_left _ b.st, fun a ha => ?_, ?_, fun j a hj e c hc m => ?_, fun T c tx a ha => ?_⟩
  · rcases List.mem_append.mp ha with h | h
    · exact b.sub a h
    · rw [List.mem_singleton.mp h]; exact hq
  · rw [List.nodup_append]
    exact ⟨b.nd, List.nodup_cons.mpr ⟨List.not_mem_nil, List.nodup_nil⟩, fun a ha c hc e => nq (by rw [← List.mem_singleton.mp hc, ← e]; exact ha)⟩
  · rw [List.getElem?_append_left (by omega)] at e
    exact List.mem_append_left _ (b.cl j a hj e c hc m)
  · rcases List.mem_append.mp ha with h | h
    · exact b.cn T c tx a h
    · rw [List.mem_singleton.mp h]
      exact c p (b.sub p hp) (b.cn T c tx p hp) q hq n
theorem Bfs.end_ {S : List Ce} {x : Ce} {r : List Ce} {k : Nat} (b : Bfs S x r k) (hk : r.length ≤ k) (nS : S.Nodup) : r.length = S.length ↔ Hang S := by
  constructor
  · intro e
    have f := full_of b.nd b.sub (by omega)
    exact Hang.of (x := x) fun T c tx y hy => b.cn T c tx y (f y hy)
  · intro h
    have f : ∀ y ∈ S, y ∈ r := h (fun y => y ∈ r) (fun a _ ta c hc n => by
      obtain ⟨j, hj, e⟩ := List.mem_iff_getElem.mp ta
      exact b.cl j a (by omega) (by rw [List.getElem?_eq_getElem hj, e]) c hc n) ⟨x, b.sub x b.st, b.st⟩
    have h1 := b.nd.length_le_of_subset (l₂ := S) b.sub
    have h2 := nS.length_le_of_subset (l₂ := r) f
    omega
theorem Bfs.len {S : List Ce} {x : Ce} {r : List Ce} {k : Nat} (b : Bfs S x r k) : r.length ≤ S.length := b.nd.length_le_of_subset (l₂ := S) b.sub
def nbs (p : Ce) : List Ce := [(p.1, p.2 + 1), (p.1 + 1, p.2), (p.1, p.2 - 1), (p.1 - 1, p.2)]
theorem nbs_iff {p q : Ce} : q ∈ nbs p ↔ nb p q := by
  obtain ⟨p1, p2⟩ := p
  obtain ⟨q1, q2⟩ := q
  simp only [nbs, List.mem_cons, List.not_mem_nil, or_false, Prod.mk.injEq, nb]
  omega
theorem Bfs.step {S : List Ce} {x p : Ce} {r : List Ce} {k : Nat} (b : Bfs S x r k) (e : r[k]? = some p) (f : ∀ q ∈ nbs p, q ∈ S → q ∈ r) : Bfs S x r (k + 1) :=
  ⟨b.st, b.sub, b.nd, fun j a hj ea c hc m => by
    by_cases hjk : j < k
    · exact b.cl j a hjk ea c hc m
    · have : j = k := by omega
      subst this
      rw [e] at ea
      cases ea
      exact f c (nbs_iff.mpr m) hc, b.cn⟩

/-! ### rising cells -/
def lt2 (a b : Ce) : Prop := a.1 < b.1 ∨ (a.1 = b.1 ∧ a.2 < b.2)
instance (a b : Ce) : Decidable (lt2 a b) := by unfold lt2; infer_instance
theorem ce_lt (a b : Ce) : ltD (ce a) (ce b) = decide (lt2 a b) := by
  show PySem.W.dataLt (.tuple [.int a.1, .int a.2]) (.tuple [.int b.1, .int b.2]) = _
  rw [PySem.W.dataLt_tuple, PySem.W.dataLt_cons (by simp [PySem.W.alike]), PySem.W.dataLt_cons (by simp [PySem.W.alike]), PySem.W.dataLt_int, PySem.W.dataLt_int]
  have e0 : PyProof.Rows.lexLt PyProof.Rows.itemOrd (PySem.W.keyToksAll []) (PySem.W.keyToksAll []) = false := PyProof.Rows.lex_irrefl _
  rw [e0]
  simp only [PyData.eqv, beq_iff_eq]
  unfold lt2
  by_cases h1 : a.1 = b.1
  · simp only [h1, if_true, Int.lt_irrefl, false_or, true_and]
    by_cases h2 : a.2 = b.2
    · simp [h2]
    · simp [h2]
  · simp [h1]
theorem ce_ltL {a b : Ce} : o_lt [ce a, ce b] = some (.bl (decide (lt2 a b))) := by
  rw [← ce_lt]
  rfl
/-- sorted spots of unlike cells: the cells rise -/
theorem sort_rise {l : List Sp} (h : (l.map cell).Nodup) : ((sortS l).map cell).Pairwise lt2 := by
  rw [List.pairwise_map]
  have h1 := sortS_pw l
  have h2 : ((sortS l).map cell).Nodup := ((sortS_perm l).map cell).nodup_iff.mpr h
  have h2' : (sortS l).Pairwise fun a b => cell a ≠ cell b := List.pairwise_map.mp h2
  refine h1.imp₂ (S := fun a b => cell a ≠ cell b) (fun a b k n => ?_) h2'
  unfold lt2
  unfold sp3 at k
  have n' : ¬ (a.1 = b.1 ∧ a.2.1 = b.2.1) := fun z => n (by unfold cell; rw [z.1, z.2])
  show a.1 < b.1 ∨ (a.1 = b.1 ∧ a.2.1 < b.2.1)
  by_cases c1 : b.1 < a.1
  · exact absurd (Or.inl c1) k
  · by_cases c2 : b.1 = a.1
    · by_cases c3 : b.2.1 < a.2.1
      · exact absurd (Or.inr ⟨c2, .inl c3⟩) k
      · omega
    · omega

/-! ### turnings -/
theorem nb_mir {w : Int} {a b : Ce} (h : nb a b) : nb (a.1, w - a.2) (b.1, w - b.2) := by unfold nb at *; dsimp only at *; omega
theorem nb_qua {h : Int} {a b : Ce} (k : nb a b) : nb (a.2, h - a.1) (b.2, h - b.1) := by unfold nb at *; dsimp only at *; omega
def cmir (w : Int) (p : Ce) : Ce := (p.1, w - p.2)
def cqua (h : Int) (p : Ce) : Ce := (p.2, h - p.1)
def cquaN : Nat → Int → Int → Ce → Ce
  | 0, _, _, p => p
  | n + 1, h, w, p => cquaN n w h (cqua h p)
def cturn (t : Nat) (h w : Int) (p : Ce) : Ce := cquaN (t % 4) h w (if 4 ≤ t then cmir w p else p)
theorem quaN_cell (n : Nat) : ∀ (h w : Int) (s : Sp), quaN n h w s = ((cquaN n h w (cell s)).1, (cquaN n h w (cell s)).2, s.2.2) := by
  induction n with
  | zero => intro h w s; rfl
  | succ n ih => intro h w s; rw [quaN, ih]; rfl
theorem turnS_cell (t : Nat) (h w : Int) (s : Sp) : turnS t h w s = ((cturn t h w (cell s)).1, (cturn t h w (cell s)).2, s.2.2) := by
  unfold turnS cturn
  by_cases ht : 4 ≤ t
  · rw [if_pos ht, if_pos ht, quaN_cell]; rfl
  · rw [if_neg ht, if_neg ht, quaN_cell]
theorem cell_turnS (t : Nat) (h w : Int) (s : Sp) : cell (turnS t h w s) = cturn t h w (cell s) := by rw [turnS_cell]; rfl
theorem nb_cquaN (n : Nat) : ∀ (h w : Int) (a b : Ce), nb a b → nb (cquaN n h w a) (cquaN n h w b) := by
  induction n with
  | zero => intro h w a b k; exact k
  | succ n ih => intro h w a b k; exact ih w h _ _ (nb_qua k)
theorem nb_cturn (t : Nat) (h w : Int) (a b : Ce) (k : nb a b) : nb (cturn t h w a) (cturn t h w b) := by
  unfold cturn
  by_cases ht : 4 ≤ t
  · rw [if_pos ht, if_pos ht]; exact nb_cquaN _ _ _ _ _ (nb_mir k)
  · rw [if_neg ht, if_neg ht]; exact nb_cquaN _ _ _ _ _ k
theorem cquaN_inj (n : Nat) : ∀ (h w : Int) (a b : Ce), cquaN n h w a = cquaN n h w b → a = b := by
  induction n with
  | zero => intro h w a b k; exact k
  | succ n ih =>
    intro h w a b k
    have e := ih w h _ _ k
    unfold cqua at e
    have e1 := congrArg Prod.fst e
    have e2 := congrArg Prod.snd e
    simp only at e1 e2
    exact Prod.ext (by omega) e1
theorem cturn_inj (t : Nat) (h w : Int) (a b : Ce) (k : cturn t h w a = cturn t h w b) : a = b := by
  unfold cturn at k
  by_cases ht : 4 ≤ t
  · rw [if_pos ht, if_pos ht] at k
    have e := cquaN_inj _ _ _ _ _ k
    unfold cmir at e
    have e1 := congrArg Prod.fst e
    have e2 := congrArg Prod.snd e
    simp only at e1 e2
    exact Prod.ext e1 (by omega)
  · rw [if_neg ht, if_neg ht] at k
    exact cquaN_inj _ _ _ _ _ k
theorem nodup_map {α β : Type} {l : List α} {f : α → β} (h : ∀ a b, f a = f b → a = b) (n : l.Nodup) : (l.map f).Nodup := by
  unfold List.Nodup at *
  rw [List.pairwise_map]
  exact n.imp fun k e => k (h _ _ e)

/-- a good form: spots of unlike cells that hang together, in a box, sorted -/
structure Form (l : List Sp) : Prop where
  gl : GL l
  nd : (l.map cell).Nodup
  hang : Hang (l.map cell)
  box : ∃ h w, Box l h w
  srt : ∃ l', l = sortS l'
/-- the form turned -/
def turnF (t : Nat) (l : List Sp) : List Sp := sortS (l.map (turnS t (maxL (l.map (·.1))) (maxL (l.map (·.2.1)))))
theorem map_cell_turn (t : Nat) (h w : Int) (l : List Sp) : (l.map (turnS t h w)).map cell = (l.map cell).map (cturn t h w) := by
  rw [List.map_map, List.map_map]
  exact List.map_congr_left fun s _ => cell_turnS t h w s
theorem GL.perm {l l' : List Sp} (h : GL l) (k : ∀ s ∈ l', s ∈ l) : GL l' := fun s hs => h s (k s hs)
theorem GL.turn {l : List Sp} (g : GL l) (t : Nat) (h w : Int) : GL (l.map (turnS t h w)) := fun s hs => by
  obtain ⟨s0, h0, rfl⟩ := List.mem_map.mp hs
  rw [turnS_cell]
  exact g s0 h0
theorem Form.of_sort {l : List Sp} (gl : GL l) (nd : (l.map cell).Nodup) (hang : Hang (l.map cell)) (box : ∃ h w, Box l h w) : Form (sortS l) := by
  obtain ⟨h, w, b⟩ := box
  have p := sortS_perm l
  exact ⟨gl.perm fun s hs => sortS_mem.mp hs, (p.map cell).nodup_iff.mpr nd, hang.perm (p.map cell), ⟨h, w, b.sort⟩, ⟨l, rfl⟩⟩
theorem Form.turn {l : List Sp} (f : Form l) (t : Nat) : Form (turnF t l) := by
  obtain ⟨h, w, b⟩ := f.box
  unfold turnF
  rw [b.high, b.wide]
  refine Form.of_sort (f.gl.turn t h w) ?_ ?_ (b.turn t)
  · rw [map_cell_turn]
    exact nodup_map (cturn_inj t h w) f.nd
  · rw [map_cell_turn]
    exact f.hang.map _ (nb_cturn t h w)
theorem turnF_len (t : Nat) (l : List Sp) : (turnF t l).length = l.length := by unfold turnF; rw [sortS_len, List.length_map]
theorem Form.ne {l : List Sp} (f : Form l) : l ≠ [] := by
  obtain ⟨h, w, b⟩ := f.box
  exact b.ne
theorem Form.okz {l : List Sp} (f : Form l) : okz l := f.gl.okz
end MP

set_option autoImplicit false
set_option linter.all false
set_option maxRecDepth 100000
/-! MP: what is to be shown is monotone; cuts. -/
namespace MP
open PySem
def CS.dropS : Nat → CS → CS
  | 0, c => c
  | n + 1, .seq _ b => b.dropS n
  | _, c => c
section
variable {T : Tab} {Φ : Nat → List D → FR}
theorem okR_le {α : Type} {r : R α} {Q Q' : α → Rho → Prop} {E E' : Nat → Rho → Prop} (h : okR r Q E) (k : ∀ a ρ, Q a ρ → Q' a ρ) (k2 : ∀ c ρ, E c ρ → E' c ρ) : okR r Q' E' := by
  cases r with
  | ok a ρ => exact k _ _ h
  | ex j ρ => exact k2 _ _ h
  | bad => exact h
theorem vB_le {d : D} {P P' : Bool → Prop} (h : vB d P) (k : ∀ b, P b → P' b) : vB d P' := by
  cases d with
  | bl b => exact k b h
  | _ => exact h
theorem vSeq_le {f : D → Rho → (Option D → Rho → Prop) → Prop} {xs : List D} {ρ : Rho} {Q Q' : List D → Rho → Prop} (h : vSeq f xs ρ Q) (k : ∀ ys ρ, Q ys ρ → Q' ys ρ) : vSeq f xs ρ Q' := by
  obtain ⟨J, h0, hs, hq⟩ := h
  exact ⟨J, h0, hs, fun ys ρ h => k ys ρ (hq ys ρ h)⟩
theorem vCall_le {F : Fn} {bs : List Bool} {as : CL} {r : FR} {ρ : Rho} {Q Q' : D → Rho → Prop} {E E' : Nat → Rho → Prop} (h : vCall F bs as r ρ Q E) (k : ∀ a ρ, Q a ρ → Q' a ρ) (k2 : ∀ c ρ, E c ρ → E' c ρ) : vCall F bs as r ρ Q' E' := by
  unfold vCall at *
  cases r with
  | bad => exact h
  | ok d outs =>
    refine ⟨h.1, ?_⟩
    have h2 := h.2
    split at h2
    · rename_i hk
      rw [if_pos hk]
      split at h2
      · exact k _ _ h2
      · exact h2.elim
    · rename_i hk
      rw [if_neg hk]
      exact k _ _ h2
  | ex c outs =>
    refine ⟨h.1, ?_⟩
    have h2 := h.2
    split at h2
    · rename_i hk
      rw [if_pos hk]
      split at h2
      · exact k2 _ _ h2
      · exact h2.elim
    · rename_i hk
      rw [if_neg hk]
      exact k2 _ _ h2
mutual
theorem vE_le : ∀ (c : CE) {ρ : Rho} {Q Q' : D → Rho → Prop} {E E' : Nat → Rho → Prop}, vE T Φ c ρ Q E → (∀ a ρ, Q a ρ → Q' a ρ) → (∀ c ρ, E c ρ → E' c ρ) → vE T Φ c ρ Q' E'
  | .rd i fs, ρ, Q, Q', E, E', h, k, k2 => by
    rw [vE] at h ⊢
    obtain ⟨d, a, b, h⟩ := h
    exact ⟨d, a, b, k _ _ h⟩
  | .mv i, ρ, Q, Q', E, E', h, k, k2 => by
    rw [vE] at h ⊢
    obtain ⟨d, a, h⟩ := h
    exact ⟨d, a, k _ _ h⟩
  | .bw _, ρ, Q, Q', E, E', h, k, k2 => by rw [vE] at h; exact h.elim
  | .fz c, ρ, Q, Q', E, E', h, k, k2 => by
    rw [vE] at h ⊢
    exact vE_le c h (fun a ρ h => k _ _ h) k2
  | .k d, ρ, Q, Q', E, E', h, k, k2 => by rw [vE] at h ⊢; exact k _ _ h
  | .gl _ d, ρ, Q, Q', E, E', h, k, k2 => by rw [vE] at h ⊢; exact k _ _ h
  | .op o as, ρ, Q, Q', E, E', h, k, k2 => by
    rw [vE] at h ⊢
    exact vP_le as h (fun ds ρ ⟨d, e, h⟩ => ⟨d, e, k _ _ h⟩) k2
  | .tup as, ρ, Q, Q', E, E', h, k, k2 => by rw [vE] at h ⊢; exact vL_le as h (fun ds ρ h => k _ _ h) k2
  | .lst as, ρ, Q, Q', E, E', h, k, k2 => by rw [vE] at h ⊢; exact vL_le as h (fun ds ρ h => k _ _ h) k2
  | .dic kd as, ρ, Q, Q', E, E', h, k, k2 => by rw [vE] at h ⊢; exact vL_le as h (fun ds ρ h => k _ _ h) k2
  | .call f as, ρ, Q, Q', E, E', h, k, k2 => by
    rw [vE] at h ⊢
    cases q : T.fns[f]? with
    | none => rw [q] at h; exact h.elim
    | some F =>
      rw [q] at h
      dsimp only at h ⊢
      refine vR_le _ as h (fun os ρ1 h1 => okR_le h1 (fun ds ρ2 ⟨r, h2, e⟩ => ⟨r, vCall_le h2 k k2, e⟩) k2) k2
  | .and_ a b, ρ, Q, Q', E, E', h, k, k2 => by
    rw [vE] at h ⊢
    refine vE_le a h (fun d ρ h => vB_le h fun c h => ?_) k2
    split at h
    · rename_i hc; rw [if_pos hc]; exact vE_le b h k k2
    · rename_i hc; rw [if_neg hc]; exact k _ _ h
  | .or_ a b, ρ, Q, Q', E, E', h, k, k2 => by
    rw [vE] at h ⊢
    refine vE_le a h (fun d ρ h => vB_le h fun c h => ?_) k2
    split at h
    · rename_i hc; rw [if_pos hc]; exact k _ _ h
    · rename_i hc; rw [if_neg hc]; exact vE_le b h k k2
  | .not_ a, ρ, Q, Q', E, E', h, k, k2 => by
    rw [vE] at h ⊢
    exact vE_le a h (fun d ρ h => vB_le h fun c h => k _ _ h) k2
  | .chain o p a b c, ρ, Q, Q', E, E', h, k, k2 => by
    rw [vE] at h ⊢
    refine vE_le a h (fun x ρ h => vE_le b h (fun y ρ ⟨d, e, h⟩ => ⟨d, e, vB_le h fun z h => ?_⟩) k2) k2
    split at h
    · rename_i hc; rw [if_pos hc]; exact vE_le c h (fun w ρ ⟨d, e, h⟩ => ⟨d, e, k _ _ h⟩) k2
    · rename_i hc; rw [if_neg hc]; exact k _ _ h
  | .comp elt t s c own, ρ, Q, Q', E, E', h, k, k2 => by
    rw [vE] at h ⊢
    refine ⟨h.1, ?_⟩
    have h2 := h.2
    cases q : holdOf s ρ with
    | some p =>
      obtain ⟨i, d, xs⟩ := p
      rw [q] at h2
      dsimp only at h2 ⊢
      exact vSeq_le h2 fun ys ρ h => ⟨h.1, k _ _ h.2⟩
    | none =>
      rw [q] at h2
      dsimp only at h2 ⊢
      exact vI_le s h2 (fun xs ρ h => ⟨h.1, vSeq_le h.2 fun ys ρ h => ⟨h.1, k _ _ h.2⟩⟩) k2
  | .mut p m as, ρ, Q, Q', E, E', h, k, k2 => by
    rw [vE] at h ⊢
    exact okR_le h (fun q ρ h => ⟨h.1, vL_le as h.2 (fun ds ρ h => okR_le h k k2) k2⟩) k2
  | .sortk f a, ρ, Q, Q', E, E', h, k, k2 => by rw [vE] at h ⊢; exact okR_le h k k2
  | .meth o a as, ρ, Q, Q', E, E', h, k, k2 => by
    by_cases n1 : ∃ i, a = .rd i []
    · obtain ⟨i, rfl⟩ := n1
      rw [vE] at h ⊢
      obtain ⟨d0, e, kk, h⟩ := h
      exact ⟨d0, e, kk, vP_le as h (fun ds ρ ⟨d, e, k1, r, er, h⟩ => ⟨d, e, k1, r, er, k _ _ h⟩) k2⟩
    · have e1 : ∀ Q E, vE T Φ (.meth o a as) ρ Q E = vE T Φ a ρ (fun d ρ => d.kind = recvK o ∧ vP T Φ as ρ (fun ds ρ => ∃ r, opF T.sub o (d :: ds) = some r ∧ Q r ρ) E) E := by
        intro Q E
        rw [vE]
        exact fun i e => n1 ⟨i, e⟩
      rw [e1] at h ⊢
      exact vE_le a h (fun d ρ h => ⟨h.1, vP_le as h.2 (fun ds ρ ⟨r, er, h⟩ => ⟨r, er, k _ _ h⟩) k2⟩) k2
theorem vL_le : ∀ (as : CL) {ρ : Rho} {Q Q' : List D → Rho → Prop} {E E' : Nat → Rho → Prop}, vL T Φ as ρ Q E → (∀ a ρ, Q a ρ → Q' a ρ) → (∀ c ρ, E c ρ → E' c ρ) → vL T Φ as ρ Q' E'
  | .nil, ρ, Q, Q', E, E', h, k, k2 => by rw [vL] at h ⊢; exact k _ _ h
  | .cons a as, ρ, Q, Q', E, E', h, k, k2 => by
    rw [vL] at h ⊢
    exact vE_le a h (fun d ρ h => vL_le as h (fun ds ρ h => k _ _ h) k2) k2
theorem vP_le : ∀ (as : CL) {ρ : Rho} {Q Q' : List D → Rho → Prop} {E E' : Nat → Rho → Prop}, vP T Φ as ρ Q E → (∀ a ρ, Q a ρ → Q' a ρ) → (∀ c ρ, E c ρ → E' c ρ) → vP T Φ as ρ Q' E'
  | .nil, ρ, Q, Q', E, E', h, k, k2 => by rw [vP] at h ⊢; exact k _ _ h
  | .cons a as, ρ, Q, Q', E, E', h, k, k2 => by
    by_cases n1 : ∃ i fs, a = .rd i fs
    · obtain ⟨i, fs, rfl⟩ := n1
      cases fs with
      | nil =>
        rw [vP] at h ⊢
        obtain ⟨d0, e0, h⟩ := h
        exact ⟨d0, e0, vP_le as h (fun ds ρ ⟨d, e, kd, h⟩ => ⟨d, e, kd, k _ _ h⟩) k2⟩
      | cons f fs =>
        rw [vP] at h ⊢
        obtain ⟨d, e, kk, h⟩ := h
        exact ⟨d, e, kk, vP_le as h (fun ds ρ h => k _ _ h) k2⟩
    · have e1 : ∀ Q E, vP T Φ (.cons a as) ρ Q E = vE T Φ a ρ (fun d ρ => vP T Φ as ρ (fun ds ρ => Q (d :: ds) ρ) E) E := by
        intro Q E
        rw [vP]
        · exact fun i e => n1 ⟨i, [], e⟩
        · exact fun i f fs e => n1 ⟨i, f :: fs, e⟩
      rw [e1] at h ⊢
      exact vE_le a h (fun d ρ h => vP_le as h (fun ds ρ h => k _ _ h) k2) k2
theorem vR_le : ∀ (bs : List Bool) (as : CL) {ρ : Rho} {Q Q' : List (Option D) → Rho → Prop} {E E' : Nat → Rho → Prop}, vR T Φ bs as ρ Q E → (∀ a ρ, Q a ρ → Q' a ρ) → (∀ c ρ, E c ρ → E' c ρ) → vR T Φ bs as ρ Q' E'
  | bs, .nil, ρ, Q, Q', E, E', h, k, k2 => by cases bs <;> exact k _ _ h
  | [], .cons a as, ρ, Q, Q', E, E', h, k, k2 => by rw [vR] at h; exact h.elim
  | b :: bs, .cons a as, ρ, Q, Q', E, E', h, k, k2 => by
    by_cases hb : b = true ∧ ∃ i, a = .rd i []
    · obtain ⟨rfl, i, rfl⟩ := hb
      rw [vR] at h ⊢
      obtain ⟨d, e, h⟩ := h
      exact ⟨d, e, vR_le bs as h (fun ds ρ h => k _ _ h) k2⟩
    · by_cases hw : ∃ i, a = .bw i
      · obtain ⟨i, rfl⟩ := hw
        rw [vR] at h ⊢
        obtain ⟨d0, e0, h⟩ := h
        exact ⟨d0, e0, vR_le bs as h (fun ds ρ ⟨d, e, h⟩ => ⟨d, e, k _ _ h⟩) k2⟩
      · have e1 : ∀ Q E, vR T Φ (b :: bs) (.cons a as) ρ Q E = vE T Φ a ρ (fun d ρ => vR T Φ bs as ρ (fun ds ρ => Q (some d :: ds) ρ) E) E := by
          intro Q E
          rw [vR]
          · exact fun i e1 e2 => hb ⟨e1, i, e2⟩
          · exact fun i e => hw ⟨i, e⟩
        rw [e1] at h ⊢
        exact vE_le a h (fun d ρ h => vR_le bs as h (fun ds ρ h => k _ _ h) k2) k2
theorem vO_le : ∀ (c : CO) {ρ : Rho} {Q Q' : Bool → Rho → Prop} {E E' : Nat → Rho → Prop}, vO T Φ c ρ Q E → (∀ a ρ, Q a ρ → Q' a ρ) → (∀ c ρ, E c ρ → E' c ρ) → vO T Φ c ρ Q' E'
  | .none, ρ, Q, Q', E, E', h, k, k2 => by rw [vO] at h ⊢; exact k _ _ h
  | .some c, ρ, Q, Q', E, E', h, k, k2 => by
    rw [vO] at h ⊢
    exact vE_le c h (fun d ρ h => vB_le h fun b h => k _ _ h) k2
theorem vI_le : ∀ (s : CI) {ρ : Rho} {Q Q' : List D → Rho → Prop} {E E' : Nat → Rho → Prop}, vI T Φ s ρ Q E → (∀ a ρ, Q a ρ → Q' a ρ) → (∀ c ρ, E c ρ → E' c ρ) → vI T Φ s ρ Q' E'
  | .se c, ρ, Q, Q', E, E', h, k, k2 => by
    rw [vI] at h ⊢
    exact vE_le c h (fun d ρ ⟨xs, e, h⟩ => ⟨xs, e, k _ _ h⟩) k2
  | .rng1 a, ρ, Q, Q', E, E', h, k, k2 => by
    rw [vI] at h ⊢
    exact vE_le a h (fun d ρ ⟨j, e, b, h⟩ => ⟨j, e, b, k _ _ h⟩) k2
  | .rng2 a b, ρ, Q, Q', E, E', h, k, k2 => by
    rw [vI] at h ⊢
    exact vE_le a h (fun d ρ h => vE_le b h (fun e ρ ⟨i, j, e1, e2, b, h⟩ => ⟨i, j, e1, e2, b, k _ _ h⟩) k2) k2
  | .enu a, ρ, Q, Q', E, E', h, k, k2 => by
    rw [vI] at h ⊢
    exact vE_le a h (fun d ρ ⟨xs, e, h⟩ => ⟨xs, e, k _ _ h⟩) k2
  | .zip a b, ρ, Q, Q', E, E', h, k, k2 => by rw [vI] at h ⊢; exact okR_le h k k2
  | .items a, ρ, Q, Q', E, E', h, k, k2 => by rw [vI] at h ⊢; exact okR_le h k k2
  | .revd a, ρ, Q, Q', E, E', h, k, k2 => by rw [vI] at h ⊢; exact okR_le h k k2
end
structure Ks.Le (K K' : Ks) : Prop where
  nx : ∀ ρ, K.nx ρ → K'.nx ρ
  rt : ∀ d ρ, K.rt d ρ → K'.rt d ρ
  bk : ∀ ρ, K.bk ρ → K'.bk ρ
  ct : ∀ ρ, K.ct ρ → K'.ct ρ
  ex : ∀ c ρ, K.ex c ρ → K'.ex c ρ
theorem okS_le {r : SR} {K K' : Ks} (h : okS r K) (k : K.Le K') : okS r K' := by
  cases r with
  | next ρ => exact k.nx _ h
  | ret d ρ => exact k.rt _ _ h
  | brk ρ => exact k.bk _ h
  | cont ρ => exact k.ct _ h
  | ex c ρ => exact k.ex _ _ h
  | bad => exact h
theorem vFor_le {f : D → Rho → Ks → Prop} (m : ∀ x ρ (K K' : Ks), K.Le K' → f x ρ K → f x ρ K') {xs : List D} {ρ : Rho} {K K' : Ks} (h : vFor f xs ρ K) (k : K.Le K') : vFor f xs ρ K' := by
  obtain ⟨J, h0, hs, hq⟩ := h
  exact ⟨J, h0, fun i x ρ e hj => m x ρ { K with nx := J (i + 1), ct := J (i + 1), bk := K.nx } { K' with nx := J (i + 1), ct := J (i + 1), bk := K'.nx } ⟨fun _ h => h, k.rt, k.nx, fun _ h => h, k.ex⟩ (hs i x ρ e hj), fun ρ h => k.nx _ (hq ρ h)⟩
theorem vS_le : ∀ (c : CS) {ρ : Rho} {K K' : Ks}, vS T Φ c ρ K → K.Le K' → vS T Φ c ρ K'
  | .asg t c, ρ, K, K', h, k => by
    rw [vS] at h ⊢
    exact vE_le c h (fun d ρ ⟨ρ', e, h⟩ => ⟨ρ', e, k.nx _ h⟩) k.ex
  | .aug i o c, ρ, K, K', h, k => by
    rw [vS] at h ⊢
    obtain ⟨x, e, nf, h⟩ := h
    exact ⟨x, e, nf, vE_le c h (fun y ρ ⟨z, e, hi, h⟩ => ⟨z, e, hi, k.nx _ h⟩) k.ex⟩
  | .augL i c, ρ, K, K', h, k => by
    rw [vS] at h ⊢
    exact vE_le c h (fun y ρ h => okR_le h (fun _ ρ h => k.nx _ h) k.ex) k.ex
  | .setix p kk c, ρ, K, K', h, k => by
    rw [vS] at h ⊢
    exact vE_le c h (fun v ρ h => okR_le h (fun q ρ h => ⟨h.1, vE_le kk h.2 (fun kd ρ h => okR_le h (fun _ ρ h => k.nx _ h) k.ex) k.ex⟩) k.ex) k.ex
  | .augix p kk o c, ρ, K, K', h, k => by rw [vS] at h ⊢; exact okS_le h k
  | .setf i f c, ρ, K, K', h, k => by rw [vS] at h ⊢; exact okS_le h k
  | .ex c, ρ, K, K', h, k => by rw [vS] at h ⊢; exact vE_le c h (fun _ ρ h => k.nx _ h) k.ex
  | .ret c, ρ, K, K', h, k => by rw [vS] at h ⊢; exact vE_le c h k.rt k.ex
  | .ife c a b, ρ, K, K', h, k => by
    rw [vS] at h ⊢
    refine vE_le c h (fun d ρ h => vB_le h fun z h => ?_) k.ex
    split at h
    · rename_i hc; rw [if_pos hc]; exact vS_le a h k
    · rename_i hc; rw [if_neg hc]; exact vS_le b h k
  | .for_ t s b, ρ, K, K', h, k => by
    rw [vS] at h ⊢
    have m : ∀ (x : D) (ρ : Rho) (K K' : Ks), K.Le K' → (∃ ρ', putG t x ρ = some ρ' ∧ vS T Φ b ρ' K) → ∃ ρ', putG t x ρ = some ρ' ∧ vS T Φ b ρ' K' := fun x ρ K K' k ⟨ρ', e, h⟩ => ⟨ρ', e, vS_le b h k⟩
    cases q : holdOf s ρ with
    | some p =>
      obtain ⟨i, d, xs⟩ := p
      rw [q] at h
      dsimp only at h ⊢
      exact vFor_le m h ⟨fun _ h => k.nx _ h, fun _ _ h => k.rt _ _ h, fun _ h => k.bk _ h, fun _ h => k.ct _ h, fun _ _ h => k.ex _ _ h⟩
    | none =>
      rw [q] at h
      dsimp only at h ⊢
      exact vI_le s h (fun xs ρ h => vFor_le m h k) k.ex
  | .while_ c b, ρ, K, K', h, k => by
    rw [vS] at h ⊢
    obtain ⟨J, n, hn, hj, js⟩ := h
    refine ⟨J, n, hn, hj, fun m ρ hm => vE_le c (js m ρ hm) (fun d ρ h => vB_le h fun z h => ?_) k.ex⟩
    split at h
    · rename_i hc; rw [if_pos hc]; exact vS_le b h ⟨fun _ h => h, k.rt, k.nx, fun _ h => h, k.ex⟩
    · rename_i hc; rw [if_neg hc]; exact k.nx _ h
  | .raise_ j, ρ, K, K', h, k => by rw [vS] at h ⊢; exact k.ex _ _ h
  | .try_ b j i hd, ρ, K, K', h, k => by
    rw [vS] at h ⊢
    refine vS_le b h ⟨k.nx, k.rt, k.bk, k.ct, fun c ρ h => ?_⟩
    have h : if T.sub c j = true then vS T Φ hd (ρ.set i (some (.exn c))) { K with nx := fun ρ => K.nx (ρ.set i none), bk := fun ρ => K.bk (ρ.set i none), ct := fun ρ => K.ct (ρ.set i none) } else K.ex c ρ := h
    show if T.sub c j = true then vS T Φ hd (ρ.set i (some (.exn c))) { K' with nx := fun ρ => K'.nx (ρ.set i none), bk := fun ρ => K'.bk (ρ.set i none), ct := fun ρ => K'.ct (ρ.set i none) } else K'.ex c ρ
    split at h
    · rename_i hc; rw [if_pos hc]; exact vS_le hd h ⟨fun _ h => k.nx _ h, k.rt, fun _ h => k.bk _ h, fun _ h => k.ct _ h, k.ex⟩
    · rename_i hc; rw [if_neg hc]; exact k.ex _ _ h
  | .pass, ρ, K, K', h, k => by rw [vS] at h ⊢; exact k.nx _ h
  | .brk, ρ, K, K', h, k => by rw [vS] at h ⊢; exact k.bk _ h
  | .cont, ρ, K, K', h, k => by rw [vS] at h ⊢; exact k.ct _ h
  | .frz i fs, ρ, K, K', h, k => by
    rw [vS] at h ⊢
    obtain ⟨d, e, h⟩ := h
    exact ⟨d, e, k.nx _ h⟩
  | .kill is, ρ, K, K', h, k => by rw [vS] at h ⊢; exact k.nx _ h
  | .nil, ρ, K, K', h, k => by rw [vS] at h ⊢; exact k.nx _ h
  | .seq a b, ρ, K, K', h, k => by
    rw [vS] at h ⊢
    exact vS_le a h ⟨fun ρ h => vS_le b h k, k.rt, k.bk, k.ct, k.ex⟩
/-- what a statement comes to, then the rest -/
theorem cut {a b : CS} {ρ : Rho} {K : Ks} (J : Rho → Prop) (h1 : vS T Φ a ρ { K with nx := J }) (h2 : ∀ ρ, J ρ → vS T Φ b ρ K) : vS T Φ (.seq a b) ρ K := by
  rw [vS]
  exact vS_le a h1 ⟨h2, fun _ _ h => h, fun _ h => h, fun _ h => h, fun _ _ h => h⟩
/-- for x in a list that the slot's holder may change: held while it is walked -/
theorem for_held {t : CG} {i : Nat} {b : CS} {ρ : Rho} {K : Ks} {xs : List D} (h : ρ.get i = some (.lst true xs)) (hu : unfl xs = true) (k : vFor (fun x ρ K => ∃ ρ', putG t x ρ = some ρ' ∧ vS T Φ b ρ' K) xs (ρ.set i none) (K.put fun ρ => ρ.set i (some (.lst true xs)))) : vS T Φ (.for_ t (.se (.rd i [])) b) ρ K := by
  have e : holdOf (.se (.rd i [])) ρ = some (i, .lst true xs, xs) := by
    have e1 : itemsOf false (.lst true xs) = some xs := if_pos hu
    unfold holdOf
    dsimp only
    rw [h]
    simp [D.fl, e1]
  rw [vS, e]
  exact k
theorem comp_held {elt : CE} {t : CG} {i : Nat} {c : CO} {own : List Nat} {ρ : Rho} {Q : D → Rho → Prop} {E : Nat → Rho → Prop} {xs : List D} (h : ρ.get i = some (.lst true xs)) (hu : unfl xs = true) (ho : ownFl own ρ = false)
    (k : vSeq (fun x ρ₁ P => ∃ ρ₂, putG t x (clr own ρ₁) = some ρ₂ ∧ vO T Φ c ρ₂ (fun b ρ₃ => if b = true then vE T Φ elt ρ₃ (fun y ρ₄ => P (some y) ρ₄) (fun _ _ => False) else P none ρ₃) fun _ _ => False) xs (ρ.set i none) fun ys ρ' => ys.length ≤ lim ∧ Q (.lst true ys) ((unclr ρ own ρ').set i (some (.lst true xs)))) : vE T Φ (.comp elt t (.se (.rd i [])) c own) ρ Q E := by
  have e : holdOf (.se (.rd i [])) ρ = some (i, .lst true xs, xs) := by
    have e1 : itemsOf false (.lst true xs) = some xs := if_pos hu
    unfold holdOf
    dsimp only
    rw [h]
    simp [D.fl, e1]
  rw [vE, e]
  exact ⟨ho, k⟩
/-- a test, both ways to the same rest -/
theorem if_cut {b : Bool} {a c : CS} {ρ : Rho} {K : Ks} (J : Rho → Prop) (h1 : b = true → vS T Φ a ρ { K with nx := J }) (h2 : b = false → vS T Φ c ρ { K with nx := J }) (h3 : ∀ ρ, J ρ → K.nx ρ) : vB (.bl b) (fun k => if k = true then vS T Φ a ρ K else vS T Φ c ρ K) :=
  vB_if (fun e => vS_le a (h1 e) ⟨h3, fun _ _ h => h, fun _ h => h, fun _ h => h, fun _ _ h => h⟩) (fun e => vS_le c (h2 e) ⟨h3, fun _ _ h => h, fun _ h => h, fun _ h => h, fun _ _ h => h⟩)
end
end MP

set_option autoImplicit false
set_option linter.all false
set_option maxRecDepth 100000
/-! MP: turnings put together. -/
namespace MP
open PySem
theorem bls_map (is : List Bool) : bls? (is.map .bl) = some is := by
  induction is with
  | nil => rfl
  | cons i is ih => rw [List.map_cons, bls?, ih]; rfl
theorem all_map {α : Type} {l : List α} {g : α → Bool} {o : Bool} : o_all [.lst o (l.map fun a => .bl (g a))] = some (.bl (l.all g)) := by
  have e : (l.map fun a => D.bl (g a)) = (l.map g).map .bl := by rw [List.map_map]; rfl
  rw [e]
  unfold o_all
  dsimp only
  rw [bls_map]
  show some (D.bl ((l.map g).all id)) = _
  rw [List.all_map]
  rfl
theorem any_map {α : Type} {l : List α} {g : α → Bool} {o : Bool} : o_any [.lst o (l.map fun a => .bl (g a))] = some (.bl (l.any g)) := by
  have e : (l.map fun a => D.bl (g a)) = (l.map g).map .bl := by rw [List.map_map]; rfl
  rw [e]
  unfold o_any
  dsimp only
  rw [bls_map]
  show some (D.bl ((l.map g).any id)) = _
  rw [List.any_map]
  rfl
theorem all_tt {α : Type} {l : List α} {o : Bool} : o_all [.lst o (l.map fun _ => .bl true)] = some (.bl true) := by
  rw [all_map (g := fun _ : α => true)]
  simp
theorem lt8 {P : Nat → Prop} (h0 : P 0) (h1 : P 1) (h2 : P 2) (h3 : P 3) (h4 : P 4) (h5 : P 5) (h6 : P 6) (h7 : P 7) : ∀ t, t < 8 → P t
  | 0, _ => h0 | 1, _ => h1 | 2, _ => h2 | 3, _ => h3 | 4, _ => h4 | 5, _ => h5 | 6, _ => h6 | 7, _ => h7
  | n + 8, h => absurd h (by omega)
theorem sortS_eq {l l' : List Sp} (p : l.Perm l') : sortS l = sortS l' := by
  refine List.Perm.eq_of_pairwise (le := fun a b => ¬ sp3 b a) (fun a b _ _ h1 h2 => ?_) (sortS_pw l) (sortS_pw l') ((sortS_perm l).trans (p.trans (sortS_perm l').symm))
  by_cases e : a = b
  · exact e
  · exact absurd (sp3_total h2 e) h1
theorem sortS_id {l : List Sp} (h : l.Pairwise fun a b => ¬ sp3 b a) : sortS l = l := by
  refine List.Perm.eq_of_pairwise (le := fun a b => ¬ sp3 b a) (fun a b _ _ h1 h2 => ?_) (sortS_pw l) h (sortS_perm l)
  by_cases e : a = b
  · exact e
  · exact absurd (sp3_total h2 e) h1
theorem ne_self {d : D} (h : nice d = true) : (!eqD d d) = false := by rw [eqD_refl h]; rfl
theorem sortS_sortS (l : List Sp) : sortS (sortS l) = sortS l := sortS_eq (sortS_perm l)
theorem Form.sorted {l : List Sp} (f : Form l) : sortS l = l := by
  obtain ⟨l', e⟩ := f.srt
  rw [e, sortS_sortS]
def thenN (t s : Nat) : Nat := if 4 ≤ s then 4 * (1 - t / 4) + (s + 8 - t) % 4 else 4 * (t / 4) + (t + s) % 4
def undoN (t : Nat) : Nat := if 4 ≤ t then t else (4 - t) % 4
theorem thenN_lt : ∀ t, t < 8 → ∀ s, s < 8 → thenN t s < 8 := by decide
theorem undoN_lt : ∀ t, t < 8 → undoN t < 8 := by decide
theorem then_undo : ∀ t, t < 8 → thenN t (undoN t) = 0 := by decide
theorem undo_then : ∀ t, t < 8 → thenN (undoN t) t = 0 := by decide
theorem then_0 : ∀ t, t < 8 → thenN t 0 = t := by decide
theorem zero_then : ∀ t, t < 8 → thenN 0 t = t := by decide
theorem then_assoc : ∀ t, t < 8 → ∀ s, s < 8 → ∀ r, r < 8 → thenN (thenN t s) r = thenN t (thenN s r) := by decide
/-- the box behind a turning -/
def th (t : Nat) (h w : Int) : Int := if t % 2 = 1 then w else h
theorem Box.turn' {l : List Sp} {h w : Int} (b : Box l h w) : ∀ t, t < 8 → Box (l.map (turnS t h w)) (th t h w) (th t w h) := by
  have q : ∀ (n : Nat) {l : List Sp} {h w : Int}, Box l h w → Box (l.map (MP.quaN n h w)) (th n h w) (th n w h) := by
    intro n
    induction n with
    | zero => intro l h w b; rw [show l.map (MP.quaN 0 h w) = l from List.map_id l]; exact b
    | succ n ih =>
      intro l h w b
      have k := ih b.qua
      rw [List.map_map] at k
      have e1 : th (n + 1) h w = th n w h := by unfold th; split <;> split <;> first | rfl | omega
      have e2 : th (n + 1) w h = th n h w := by unfold th; split <;> split <;> first | rfl | omega
      rw [e1, e2]
      exact k
  intro t ht
  have e1 : ∀ a b, th (t % 4) a b = th t a b := by intro a b; unfold th; rw [show t % 4 % 2 = t % 2 by omega]
  by_cases h4 : 4 ≤ t
  · have k := q (t % 4) b.mir
    rw [List.map_map, e1, e1] at k
    have e : turnS t h w = MP.quaN (t % 4) h w ∘ MP.mir w := by funext s; unfold turnS; rw [if_pos h4]; rfl
    rw [e]
    exact k
  · have k := q (t % 4) b
    rw [e1, e1] at k
    have e : turnS t h w = MP.quaN (t % 4) h w := by funext s; unfold turnS; rw [if_neg h4]
    rw [e]
    exact k
theorem cturn_cturn (h w : Int) (p : Ce) : ∀ t, t < 8 → ∀ s, s < 8 → cturn s (th t h w) (th t w h) (cturn t h w p) = cturn (thenN t s) h w p := by
  obtain ⟨r, c⟩ := p
  refine lt8 ?_ ?_ ?_ ?_ ?_ ?_ ?_ ?_ <;> refine lt8 ?_ ?_ ?_ ?_ ?_ ?_ ?_ ?_ <;> simp [cturn, cquaN, cqua, cmir, thenN, th] <;> omega
theorem turnS_turnS (h w : Int) (p : Sp) {t s : Nat} (ht : t < 8) (hs : s < 8) : turnS s (th t h w) (th t w h) (turnS t h w p) = turnS (thenN t s) h w p := by
  rw [turnS_cell s, cell_turnS, cturn_cturn h w _ t ht s hs, turnS_cell (thenN t s), turnS_cell t]
theorem turnF_turnF {l : List Sp} (f : Form l) {t s : Nat} (ht : t < 8) (hs : s < 8) : turnF s (turnF t l) = turnF (thenN t s) l := by
  obtain ⟨h, w, b⟩ := f.box
  have b' := (b.turn' t ht).sort
  have e1 : turnF t l = sortS (l.map (turnS t h w)) := by unfold turnF; rw [b.high, b.wide]
  rw [e1]
  unfold turnF
  rw [b'.high, b'.wide, b.high, b.wide]
  rw [sortS_eq (List.Perm.map _ (sortS_perm _)), List.map_map]
  congr 1
  exact List.map_congr_left fun p _ => turnS_turnS h w p ht hs
theorem turnF_0 {l : List Sp} (f : Form l) : turnF 0 l = l := by
  unfold turnF
  have e : ∀ h w, l.map (turnS 0 h w) = l := fun h w => List.map_id l
  rw [e]
  exact f.sorted
end MP

set_option autoImplicit false
set_option linter.all false
set_option maxRecDepth 100000
/-! MP: texts, comprehensions that draw, floors. -/
namespace MP
open PySem

/-- what is left of a block behind n statements -/
def tailS : Nat → CS → CS
  | 0, c => c
  | n + 1, .seq _ b => tailS n b
  | _, c => c
theorem eqD_str (s t : List Nat) : eqD (.str s) (.str t) = decide (s = t) := by
  simp only [eqD, D.toP, PyData.eqv]
  rw [Bool.eq_iff_iff, beq_iff_eq, decide_eq_true_eq]
  exact ⟨fun h => by have := congrArg (fun z : Str => z.cps.toList) h; simpa using this, fun e => by rw [e]⟩
theorem nice_sign {c : Nat} (h : c < 1114112) : nice (.str [c]) = true := by
  show ([c].all fun c => decide (c < 1114112)) = true
  simp [h]
theorem ne_sign {x y : Nat} (hx : x < 1114112) (hy : y < 1114112) : o_ne [.str [x], .str [y]] = some (.bl (!decide (x = y))) := by
  unfold o_ne
  dsimp only
  rw [nice_sign hx, nice_sign hy, eqD_str]
  simp
theorem eq_sign {x y : Nat} (hx : x < 1114112) (hy : y < 1114112) : o_eq [.str [x], .str [y]] = some (.bl (decide (x = y))) := by
  unfold o_eq
  dsimp only
  rw [nice_sign hx, nice_sign hy, eqD_str]
  simp
theorem eq_same' {d : D} (h : nice d = true) : o_eq [d, d] = some (.bl true) := by
  unfold o_eq
  dsimp only
  rw [h, eqD_refl h]
  rfl
theorem atI_nat {α : Type} {l : List α} {i : Nat} {a : α} (h : l[i]? = some a) : L2.atI l (i : Int) = some a := by
  have hi : i < l.length := (List.getElem?_eq_some_iff.mp h).1
  unfold L2.atI L2.ixN
  rw [if_pos (by omega), if_pos (by omega)]
  show l[((i : Int)).toNat]? = _
  rw [Int.toNat_natCast, h]
theorem ix_str {s : List Nat} {i : Nat} {c : Nat} (h : s[i]? = some c) : o_ix [.str s, .int (i : Int)] = some (.str [c]) := by
  show (L2.atI s (i : Int)).map (fun c => D.str [c]) = _
  rw [atI_nat h]
  rfl
theorem ix_row {o : Bool} {rows : List (List Nat)} {i : Nat} {r : List Nat} (h : rows[i]? = some r) : o_ix [.tup o (rows.map .str), .int (i : Int)] = some (.str r) :=
  ix_nat (f := D.str) (fun _ => rfl) rfl h
theorem ix_rowL {o : Bool} {rows : List (List Nat)} {i : Nat} {r : List Nat} (h : rows[i]? = some r) : o_ix [.lst o (rows.map .str), .int (i : Int)] = some (.str r) :=
  ix_nat (f := D.str) (fun _ => rfl) rfl h
theorem strs_map (ts : List (List Nat)) : strs? (ts.map .str) = some ts := by
  induction ts with
  | nil => rfl
  | cons t ts ih => rw [List.map_cons, strs?, ih]; rfl
theorem joinS_nil : ∀ ts : List (List Nat), joinS [] ts = ts.flatten
  | [] => rfl
  | [t] => by rw [joinS]; simp
  | t :: u :: ts => by
    rw [joinS, joinS_nil (u :: ts)]
    simp
theorem join_ok {o : Bool} {ts : List (List Nat)} (h : ts.flatten.length ≤ lim) : o_join [.str [], .lst o (ts.map .str)] = some (.str ts.flatten) := by
  show ((some (ts.map D.str)).bind strs?).bind (fun ts => if (joinS [] ts).length + 0 ≤ lim then some (D.str (joinS [] ts)) else none) = _
  rw [show (some (ts.map D.str)).bind strs? = strs? (ts.map .str) from rfl, strs_map]
  show (if (joinS [] ts).length + 0 ≤ lim then some (D.str (joinS [] ts)) else none) = _
  rw [joinS_nil]
  exact if_pos h
theorem flat_signs (cs : List Nat) : (cs.map fun c => [c]).flatten = cs := by
  induction cs with
  | nil => rfl
  | cons c cs ih => rw [List.map_cons, List.flatten_cons, ih]; rfl
theorem join_signs {o : Bool} {cs : List Nat} (h : cs.length ≤ lim) : o_join [.str [], .lst o (cs.map fun c => D.str [c])] = some (.str cs) := by
  have e : (cs.map fun c => D.str [c]) = (cs.map fun c => [c]).map .str := by rw [List.map_map]; rfl
  rw [e, join_ok (by rw [flat_signs]; exact h), flat_signs]
/-- xs.extend(a fresh list) -/
theorem ext_ok {ρ : Rho} {i : Nat} {xs ys : List D} {Q : D → Rho → Prop} {E : Nat → Rho → Prop} (h : ρ.get i = some (.lst true xs)) (hl : xs.length + ys.length ≤ lim) (q : Q .non (ρ.set i (some (.lst true (xs ++ ys))))) : okR (ρ.mod i [] (mutF .ext [.lst true ys])) Q E := by
  unfold Rho.mod
  rw [h]
  rw [show (some (D.lst true xs)).bind (modD (mutF .ext [.lst true ys]) []) = modD (mutF .ext [.lst true ys]) [] (.lst true xs) from rfl, modD]
  simp only [D.fl, if_true, mutF, if_pos hl]
  exact q
section
variable {T : Tab} {Φ : Nat → List D → FR}
/-- a comprehension that changes slots on its way -/
theorem comp_st {α β : Type} {t : CG} {elt : CE} {own : List Nat} {l : List α} {e : α → D} {ρ : Rho} {R : List D → Rho → Prop} (y : β → D) (pb : β → Prop) (J : Rho → Prop) (h0 : J ρ)
    (hs : ∀ a ∈ l, ∀ ρ₁, J ρ₁ → ∀ P : Option D → Rho → Prop, (∀ b ρ', pb b → J ρ' → P (some (y b)) ρ') →
      ∃ ρ₂, putG t (e a) (clr own ρ₁) = some ρ₂ ∧ vE T Φ elt ρ₂ (fun y ρ₄ => P (some y) ρ₄) (fun _ _ => False))
    (hq : ∀ (bs : List β) (ρ' : Rho), bs.length = l.length → (∀ b ∈ bs, pb b) → J ρ' → R (bs.map y) ρ') :
    vSeq (fun x ρ₁ P => ∃ ρ₂, putG t x (clr own ρ₁) = some ρ₂ ∧ vO T Φ .none ρ₂ (fun b ρ₃ => if b = true then vE T Φ elt ρ₃ (fun y ρ₄ => P (some y) ρ₄) (fun _ _ => False) else P none ρ₃) fun _ _ => False) (l.map e) ρ R := by
  refine ⟨fun i ys ρ' => ∃ bs : List β, ys = bs.map y ∧ bs.length = i ∧ (∀ b ∈ bs, pb b) ∧ J ρ', ⟨[], rfl, rfl, fun b h => absurd h List.not_mem_nil, h0⟩, fun i x ys ρ₁ hx ⟨bs, hy, hl, hb, hj⟩ => ?_, fun ys ρ' ⟨bs, hy, hl, hb, hj⟩ => ?_⟩
  · rw [List.getElem?_map] at hx
    cases q : l[i]? with
    | none => rw [q] at hx; cases hx
    | some a =>
      rw [q] at hx
      cases hx
      have mem : ∀ b, pb b → ∀ c ∈ bs ++ [b], pb c := fun b h1 c hc => by
        rcases List.mem_append.mp hc with hc | hc
        · exact hb c hc
        · rw [List.mem_singleton.mp hc]; exact h1
      exact hs a (List.mem_of_getElem? q) ρ₁ hj (fun o ρ' => ∃ bs' : List β, ys ++ o.toList = bs'.map y ∧ bs'.length = i + 1 ∧ (∀ b ∈ bs', pb b) ∧ J ρ') (fun b ρ' h1 h2 => ⟨bs ++ [b], by rw [hy]; simp, by simp [hl], mem b h1, h2⟩)
  · rw [hy]
    exact hq bs ρ' (by rw [hl, List.length_map]) hb hj
end

section
variable {T : Tab} {Φ : Nat → List D → FR}
theorem comp_allD {t : CG} {elt : CE} {own : List Nat} {l : List D} {ρ : Rho} {R : List D → Rho → Prop} (y : D → D)
    (hs : ∀ a ∈ l, ∀ P : Option D → Rho → Prop, (∀ ρ', clr own ρ' = clr own ρ → P (some (y a)) ρ') →
      ∃ ρ₂, putG t a (clr own ρ) = some ρ₂ ∧ vE T Φ elt ρ₂ (fun y ρ₄ => P (some y) ρ₄) (fun _ _ => False))
    (hl : l.length ≤ lim) (hq : ∀ ρ', clr own ρ' = clr own ρ → (l.map y).length ≤ lim → R (l.map y) ρ') :
    vSeq (fun x ρ₁ P => ∃ ρ₂, putG t x (clr own ρ₁) = some ρ₂ ∧ vO T Φ .none ρ₂ (fun b ρ₃ => if b = true then vE T Φ elt ρ₃ (fun y ρ₄ => P (some y) ρ₄) (fun _ _ => False) else P none ρ₃) fun _ _ => False) l ρ R := by
  have := comp_all (T := T) (Φ := Φ) (e := id) (R := R) y hs hl hq
  rw [List.map_id] at this
  exact this
theorem for_listD {f : D → Rho → Ks → Prop} {l : List D} {ρ : Rho} {K : Ks} (J : Nat → Rho → Prop) (h0 : J 0 ρ) (hs : ∀ i a ρ, l[i]? = some a → J i ρ → f a ρ { K with nx := J (i + 1), ct := J (i + 1), bk := K.nx }) (hq : ∀ ρ, J l.length ρ → K.nx ρ) : vFor f l ρ K := by
  have := for_list (e := id) J h0 hs hq
  rw [List.map_id] at this
  exact this
end
theorem eqD_int (i j : Int) : eqD (.int i) (.int j) = decide (i = j) := by
  show (i == j) = _
  rw [Bool.eq_iff_iff, beq_iff_eq, decide_eq_true_eq]
/-- xs[j] = v -/
theorem set_ok {ρ : Rho} {i j : Nat} {xs : List D} {v : D} {Q : Unit → Rho → Prop} {E : Nat → Rho → Prop} (h : ρ.get i = some (.lst true xs)) (hj : j < xs.length) (q : Q () (ρ.set i (some (.lst true (xs.set j v))))) : okR (ρ.mod i [] (setixF (.int (j : Int)) v)) Q E := by
  unfold Rho.mod
  rw [h]
  rw [show (some (D.lst true xs)).bind (modD (setixF (.int (j : Int)) v) []) = modD (setixF (.int (j : Int)) v) [] (.lst true xs) from rfl, modD]
  have e : L2.ixN xs.length (j : Int) = some j := by
    unfold L2.ixN
    rw [if_pos (by omega), if_pos (by omega), Int.toNat_natCast]
  simp only [D.fl, if_true, setixF, e, Option.bind_some, if_pos hj]
  exact q
theorem add_str {s t : List Nat} (h : s.length + t.length ≤ lim) : o_add [.str s, .str t] = some (.str (s ++ t)) := if_pos h
theorem cutL_le {α : Type} (xs : List α) (lo hi : Option Int) : (cutL xs lo hi).length ≤ xs.length := by
  unfold cutL
  rw [List.length_take, List.length_drop]
  omega
theorem cutL_mem {α : Type} {xs : List α} {lo hi : Option Int} {a : α} (h : a ∈ cutL xs lo hi) : a ∈ xs := List.mem_of_mem_drop (List.mem_of_mem_take h)
theorem flat_mem {α : Type} {n : Nat} {xs : List α} {a : α} (h : a ∈ (List.replicate n xs).flatten) : a ∈ xs := by
  obtain ⟨l, hl, ha⟩ := List.mem_flatten.mp h
  rw [(List.mem_replicate.mp hl).2] at ha
  exact ha
theorem flat_len {α : Type} (n : Nat) (xs : List α) : (List.replicate n xs).flatten.length = n * xs.length := by
  induction n with
  | zero => simp
  | succ n ih => rw [List.replicate_succ, List.flatten_cons, List.length_append, ih, Nat.add_mul, Nat.one_mul, Nat.add_comm]
theorem mul_str {s : List Nat} {j : Nat} (h : s.length * j ≤ lim) (hj : j < 2 ^ 60) : o_mul [.str s, .int (j : Int)] = some (.str (List.replicate j s).flatten) := by
  show (if (decide (s.length * ((j : Int)).toNat ≤ lim) && decide ((j : Int) < 2 ^ 60) && decide (-(2 ^ 60) < (j : Int))) = true then _ else none) = _
  rw [if_pos]
  · rfl
  · rw [Int.toNat_natCast, decide_eq_true h, decide_eq_true (by omega), decide_eq_true (by omega)]
    rfl
theorem mul_lst {xs : List D} {j : Nat} (h : xs.length * j ≤ lim) (hu : unfl xs = true) (hj : j < 2 ^ 60) : o_mul [.lst true xs, .int (j : Int)] = some (.lst true (List.replicate j xs).flatten) := by
  show (if (decide (xs.length * ((j : Int)).toNat ≤ lim) && unfl xs && decide ((j : Int) < 2 ^ 60) && decide (-(2 ^ 60) < (j : Int))) = true then _ else none) = _
  rw [if_pos]
  · rfl
  · rw [Int.toNat_natCast, decide_eq_true h, hu, decide_eq_true (by omega), decide_eq_true (by omega)]
    rfl
theorem sl_lst {o : Bool} {xs : List D} {lo hi : Option Int} (hu : unfl xs = true) : slD (.lst o xs) lo hi = some (.lst true (cutL xs lo hi)) := if_pos hu
theorem tup_lst {o : Bool} {xs : List D} (hu : unfl xs = true) : o_tuple [.lst o xs] = some (.tup false xs) := if_pos hu
theorem list_tup {o : Bool} {xs : List D} (hu : unfl xs = true) : i_list [.tup o xs] = some (.lst true xs) := if_pos hu
theorem its_tup {o : Bool} {xs : List D} (hu : unfl xs = true) : itemsOf false (.tup o xs) = some xs := if_pos hu
theorem its_lst {o : Bool} {xs : List D} (hu : unfl xs = true) : itemsOf false (.lst o xs) = some xs := if_pos hu
theorem ix_tup {o : Bool} {xs : List D} {i : Nat} {d : D} (h : xs[i]? = some d) (hf : d.fl = false) : o_ix [.tup o xs, .int (i : Int)] = some d := by
  show ((L2.atI xs (i : Int)).bind fun d => if d.fl then none else some d) = _
  rw [atI_nat h]
  show (if d.fl = true then none else some d) = _
  rw [hf]
  rfl
theorem ix_lst {o : Bool} {xs : List D} {i : Nat} {d : D} (h : xs[i]? = some d) (hf : d.fl = false) : o_ix [.lst o xs, .int (i : Int)] = some d := by
  show ((L2.atI xs (i : Int)).bind fun d => if d.fl then none else some d) = _
  rw [atI_nat h]
  show (if d.fl = true then none else some d) = _
  rw [hf]
  rfl
theorem holdOf_eq {i : Nat} {ρ : Rho} {xs : List D} (h : ρ.get i = some (.lst true xs)) (hu : unfl xs = true) : holdOf (.se (.rd i [])) ρ = some (i, .lst true xs, xs) := by
  have e1 : itemsOf false (.lst true xs) = some xs := if_pos hu
  unfold holdOf
  dsimp only
  rw [h]
  simp [D.fl, e1]
theorem add_tup {o p : Bool} {xs ys : List D} (h : xs.length + ys.length ≤ lim) (h1 : unfl xs = true) (h2 : unfl ys = true) : o_add [.tup o xs, .tup p ys] = some (.tup false (xs ++ ys)) := by
  show (if (decide (xs.length + ys.length ≤ lim) && unfl xs && unfl ys) = true then _ else none) = _
  rw [if_pos]
  rw [decide_eq_true h, h1, h2]
  rfl
/-! ### floors -/
def sgn (c : Nat) : Prop := c = 46 ∨ c = 44 ∨ c = 35 ∨ (65 ≤ c ∧ c ≤ 90) ∨ (97 ≤ c ∧ c ≤ 122)
instance (c : Nat) : Decidable (sgn c) := by unfold sgn; infer_instance
theorem sgn_lt {c : Nat} (h : sgn c) : c < 128 := by unfold sgn at h; omega
structure Fl (rows : List (List Nat)) (w : Nat) : Prop where
  h1 : 1 ≤ rows.length
  h8 : rows.length ≤ 8
  w1 : 1 ≤ w
  w8 : w ≤ 8
  rw_ : ∀ r ∈ rows, r.length = w ∧ ∀ c ∈ r, sgn c
abbrev fl (rows : List (List Nat)) : D := .tup false (rows.map .str)
theorem Fl.at {rows : List (List Nat)} {w : Nat} (f : Fl rows w) {i j : Nat} (hi : i < rows.length) (hj : j < w) : ∃ r c, rows[i]? = some r ∧ r[j]? = some c ∧ r.length = w ∧ sgn c := by
  have h1 : rows[i] ∈ rows := List.getElem_mem hi
  obtain ⟨e, k⟩ := f.rw_ _ h1
  have h2 : j < rows[i].length := by rw [e]; exact hj
  exact ⟨rows[i], rows[i][j], List.getElem?_eq_getElem hi, List.getElem?_eq_getElem h2, e, k _ (List.getElem_mem h2)⟩
theorem Fl.row0 {rows : List (List Nat)} {w : Nat} (f : Fl rows w) : ∃ r, rows[0]? = some r ∧ r.length = w := by
  have hi : 0 < rows.length := f.h1
  exact ⟨rows[0], List.getElem?_eq_getElem hi, (f.rw_ _ (List.getElem_mem hi)).1⟩
theorem fl_nice {rows : List (List Nat)} (h : ∀ r ∈ rows, ∀ c ∈ r, c < 1114112) : nice (fl rows) = true := by
  show shs 59 (rows.map .str) = true
  rw [shs_iff]
  intro d hd
  obtain ⟨r, hr, rfl⟩ := List.mem_map.mp hd
  show (r.all fun c => decide (c < 1114112)) = true
  rw [List.all_eq_true]
  intro c hc
  exact decide_eq_true (h r hr c hc)
end MP

set_option autoImplicit false
set_option linter.all false
set_option maxRecDepth 100000
/-! MP: floors turned; a dict of cells. -/
namespace MP
open PySem

/-! ### a dict of cells and signs -/
def getA (p : Ce) : List (Ce × Nat) → Option Nat
  | [] => none
  | x :: A => if x.1 = p then some x.2 else getA p A
def putA (p : Ce) (c : Nat) : List (Ce × Nat) → List (Ce × Nat)
  | [] => [(p, c)]
  | x :: A => if x.1 = p then (x.1, c) :: A else x :: putA p c A
theorem getA_put (p q : Ce) (c : Nat) : ∀ A, getA q (putA p c A) = if p = q then some c else getA q A
  | [] => by simp [putA, getA]
  | x :: A => by
    by_cases h : x.1 = p
    · rw [putA, if_pos h, getA, getA]
      by_cases h2 : p = q
      · rw [if_pos (h.trans h2), if_pos h2]
      · rw [if_neg (fun e => h2 (h.symm.trans e)), if_neg h2, if_neg (fun e => h2 (h.symm.trans e))]
    · rw [putA, if_neg h, getA, getA, getA_put p q c A]
      by_cases h2 : p = q
      · rw [if_pos h2, if_neg (fun e => h (e.trans h2.symm)), if_pos h2]
      · rw [if_neg h2, if_neg h2]
theorem putA_len (p : Ce) (c : Nat) : ∀ A, (putA p c A).length ≤ A.length + 1
  | [] => by simp [putA]
  | x :: A => by
    rw [putA]
    split
    · simp
    · have := putA_len p c A
      simp only [List.length_cons]
      omega
abbrev dA (A : List (Ce × Nat)) : D := .dic true 1 (A.map fun x => ce x.1) (A.map fun x => .str [x.2])
theorem look_A (p : Ce) : ∀ A : List (Ce × Nat), lookD (ce p) (A.map fun x => ce x.1) (A.map fun x => .str [x.2]) = (getA p A).map fun c => .str [c]
  | [] => rfl
  | x :: A => by
    rw [List.map_cons, List.map_cons, lookD, ce_eq, getA, look_A p A]
    by_cases h : x.1 = p
    · rw [decide_eq_true h, if_pos rfl, if_pos h]; rfl
    · rw [decide_eq_false h, if_neg Bool.false_ne_true, if_neg h]
theorem set_A (p : Ce) (c : Nat) : ∀ A : List (Ce × Nat), setD (ce p) (.str [c]) (A.map fun x => ce x.1) (A.map fun x => .str [x.2]) = ((putA p c A).map (fun x => ce x.1), (putA p c A).map fun x => .str [x.2])
  | [] => rfl
  | x :: A => by
    rw [List.map_cons, List.map_cons, setD, ce_eq, putA, set_A p c A]
    by_cases h : x.1 = p
    · rw [decide_eq_true h, if_pos rfl, if_pos h]; rfl
    · rw [decide_eq_false h, if_neg Bool.false_ne_true, if_neg h]; rfl
theorem ce_key (p : Ce) : keyOk 1 (ce p) = true := rfl
theorem dset_ok {ρ : Rho} {i : Nat} {A : List (Ce × Nat)} {p : Ce} {c : Nat} {Q : Unit → Rho → Prop} {E : Nat → Rho → Prop} (h : ρ.get i = some (dA A)) (hl : A.length < lim) (q : Q () (ρ.set i (some (dA (putA p c A))))) : okR (ρ.mod i [] (setixF (ce p) (.str [c]))) Q E := by
  unfold Rho.mod
  rw [h]
  rw [show (some (dA A)).bind (modD (setixF (ce p) (.str [c])) []) = modD (setixF (ce p) (.str [c])) [] (dA A) from rfl, modD]
  have e : setixF (ce p) (.str [c]) (dA A) = some ((), dA (putA p c A)) := by
    show (if (keyOk 1 (ce p) && decide ((A.map fun x => ce x.1).length < lim) && !false) = true then _ else none) = _
    rw [if_pos (by rw [ce_key, List.length_map, decide_eq_true hl]; rfl)]
    rw [set_A]
  rw [show (dA A).fl = true from rfl, if_pos rfl, e]
  exact q
theorem dix_ok {o : Bool} {A : List (Ce × Nat)} {p : Ce} {c : Nat} (h : getA p A = some c) : o_ix [.dic o 1 (A.map fun x => ce x.1) (A.map fun x => .str [x.2]), ce p] = some (.str [c]) := by
  show (if keyOk 1 (ce p) = true then (lookD (ce p) (A.map fun x => ce x.1) (A.map fun x => .str [x.2])).bind (fun d => if d.fl = true then none else some d) else none) = _
  rw [if_pos (ce_key p), look_A, h]
  rfl

theorem join_map {α : Type} {o : Bool} {l : List α} {g : α → Nat} (h : l.length ≤ lim) : o_join [.str [], .lst o (l.map fun a => D.str [g a])] = some (.str (l.map g)) := by
  have e : (l.map fun a => D.str [g a]) = (l.map g).map fun c => D.str [c] := by rw [List.map_map]; rfl
  rw [e]
  exact join_signs (by rw [List.length_map]; exact h)
/-! ### floors by cells -/
def thn (t h w : Nat) : Nat := if t % 2 = 1 then w else h
def fr (h w : Nat) (G : Ce → Nat) : List (List Nat) := (List.range h).map fun (i : Nat) => (List.range w).map fun (j : Nat) => G ((i : Int), (j : Int))
structure Tu (t h w : Nat) (G : Ce → Nat) (h' w' : Nat) (G' : Ce → Nat) : Prop where
  hh : h' = thn t h w
  ww : w' = thn t w h
  gg : ∀ p, G' (cturn t ((h : Int) - 1) ((w : Int) - 1) p) = G p
theorem thn_cast (t h w : Nat) : ((thn t h w : Nat) : Int) - 1 = th t ((h : Int) - 1) ((w : Int) - 1) := by unfold thn th; split <;> rfl
theorem cturn_surj (h w : Int) (q : Ce) : ∀ t, t < 8 → cturn t h w (cturn (undoN t) (th t h w) (th t w h) q) = q := by
  obtain ⟨r, c⟩ := q
  refine lt8 ?_ ?_ ?_ ?_ ?_ ?_ ?_ ?_ <;> simp [cturn, cquaN, cqua, cmir, undoN, th] <;> omega
theorem cturn_back (h w : Int) (p : Ce) : ∀ t, t < 8 → cturn (undoN t) (th t h w) (th t w h) (cturn t h w p) = p := by
  obtain ⟨r, c⟩ := p
  refine lt8 ?_ ?_ ?_ ?_ ?_ ?_ ?_ ?_ <;> simp [cturn, cquaN, cqua, cmir, undoN, th] <;> omega
theorem cturn_box (h w : Int) (r c : Int) : ∀ t, t < 8 → 0 ≤ r → r ≤ th t h w → 0 ≤ c → c ≤ th t w h → 0 ≤ (cturn (undoN t) (th t h w) (th t w h) (r, c)).1 ∧ (cturn (undoN t) (th t h w) (th t w h) (r, c)).1 ≤ h ∧ 0 ≤ (cturn (undoN t) (th t h w) (th t w h) (r, c)).2 ∧ (cturn (undoN t) (th t h w) (th t w h) (r, c)).2 ≤ w := by
  refine lt8 ?_ ?_ ?_ ?_ ?_ ?_ ?_ ?_ <;> simp [cturn, cquaN, cqua, cmir, undoN, th] <;> omega
theorem Tu.made (t h w : Nat) (G : Ce → Nat) (ht : t < 8) : Tu t h w G (thn t h w) (thn t w h) fun q => G (cturn (undoN t) (th t ((h : Int) - 1) ((w : Int) - 1)) (th t ((w : Int) - 1) ((h : Int) - 1)) q) := ⟨rfl, rfl, fun p => congrArg G (cturn_back _ _ p t ht)⟩
theorem Tu.uniq {t h w : Nat} {G : Ce → Nat} {h1 w1 h2 w2 : Nat} {G1 G2 : Ce → Nat} (ht : t < 8) (a : Tu t h w G h1 w1 G1) (b : Tu t h w G h2 w2 G2) : fr h1 w1 G1 = fr h2 w2 G2 := by
  have e : G1 = G2 := by
    funext q
    rw [← cturn_surj ((h : Int) - 1) ((w : Int) - 1) q t ht, a.gg, b.gg]
  rw [a.hh, a.ww, b.hh, b.ww, e]
theorem thenN_par : ∀ t, t < 8 → ∀ s, s < 8 → thenN t s % 2 = (t + s) % 2 := by decide
theorem thn_then (h w : Nat) {t s : Nat} (ht : t < 8) (hs : s < 8) : thn s (thn t h w) (thn t w h) = thn (thenN t s) h w := by
  unfold thn
  rw [thenN_par t ht s hs]
  split <;> split <;> split <;> first | rfl | omega
theorem Tu.comp {t s h w : Nat} {G : Ce → Nat} {h1 w1 h2 w2 : Nat} {G1 G2 : Ce → Nat} (ht : t < 8) (hs : s < 8) (a : Tu t h w G h1 w1 G1) (b : Tu s h1 w1 G1 h2 w2 G2) : Tu (thenN t s) h w G h2 w2 G2 := by
  refine ⟨?_, ?_, fun p => ?_⟩
  · rw [b.hh, a.hh, a.ww, thn_then h w ht hs]
  · rw [b.ww, a.hh, a.ww, thn_then w h ht hs]
  · rw [← cturn_cturn ((h : Int) - 1) ((w : Int) - 1) p t ht s hs, ← thn_cast, ← thn_cast, ← a.hh, ← a.ww, b.gg, a.gg]
theorem Tu.zero (h w : Nat) (G : Ce → Nat) : Tu 0 h w G h w G := ⟨rfl, rfl, fun p => rfl⟩
theorem Tu.good {t h w : Nat} {G : Ce → Nat} {h1 w1 : Nat} {G1 : Ce → Nat} (ht : t < 8) (a : Tu t h w G h1 w1 G1) (g : ∀ p, sgn (G p)) : ∀ p, sgn (G1 p) := fun q => by
  rw [← cturn_surj ((h : Int) - 1) ((w : Int) - 1) q t ht, a.gg]
  exact g _
structure Bd (h w : Nat) : Prop where
  h1 : 1 ≤ h
  h8 : h ≤ 8
  w1 : 1 ≤ w
  w8 : w ≤ 8
theorem Bd.turn {h w : Nat} (b : Bd h w) (t : Nat) : Bd (thn t h w) (thn t w h) := by
  obtain ⟨b1, b2, b3, b4⟩ := b
  unfold thn
  split <;> exact ⟨by omega, by omega, by omega, by omega⟩
theorem fr_len (h w : Nat) (G : Ce → Nat) : (fr h w G).length = h := by unfold fr; rw [List.length_map, List.length_range]
theorem fr_row {h w : Nat} {G : Ce → Nat} {i : Nat} (hi : i < h) : (fr h w G)[i]? = some ((List.range w).map fun (j : Nat) => G ((i : Int), (j : Int))) := by
  unfold fr
  rw [List.getElem?_map, List.getElem?_range hi]
  rfl
theorem row_at {w : Nat} {G : Ce → Nat} {i j : Nat} (hj : j < w) : ((List.range w).map fun (j : Nat) => G ((i : Int), (j : Int)))[j]? = some (G ((i : Int), (j : Int))) := by
  rw [List.getElem?_map, List.getElem?_range hj]
  rfl
theorem fr_Fl {h w : Nat} {G : Ce → Nat} (b : Bd h w) (g : ∀ p, sgn (G p)) : Fl (fr h w G) w := by
  refine ⟨by rw [fr_len]; exact b.h1, by rw [fr_len]; exact b.h8, b.w1, b.w8, fun r hr => ?_⟩
  obtain ⟨i, _, rfl⟩ := List.mem_map.mp hr
  refine ⟨by rw [List.length_map, List.length_range], fun c hc => ?_⟩
  obtain ⟨j, _, rfl⟩ := List.mem_map.mp hc
  exact g _
theorem Fl.fr {rows : List (List Nat)} {w : Nat} (f : Fl rows w) : ∃ h G, rows = fr h w G ∧ Bd h w ∧ ∀ p, sgn (G p) := by
  refine ⟨rows.length, fun p => match (rows[p.1.toNat]?).bind fun r => r[p.2.toNat]? with | some c => c | none => 35, ?_, ⟨f.h1, f.h8, f.w1, f.w8⟩, fun p => ?_⟩
  · apply List.ext_getElem?
    intro i
    by_cases hi : i < rows.length
    · rw [fr_row hi]
      obtain ⟨r, _, hr, _, hl, _⟩ := f.at hi (j := 0) f.w1
      rw [hr]
      congr 1
      apply List.ext_getElem?
      intro j
      by_cases hj : j < w
      · obtain ⟨r', c, hr', hc, _, _⟩ := f.at hi hj
        rw [hr] at hr'
        cases hr'
        rw [row_at (G := fun p => match (rows[p.1.toNat]?).bind fun r => r[p.2.toNat]? with | some c => c | none => 35) hj, hc]
        simp [hr, hc]
      · rw [List.getElem?_eq_none (by omega), List.getElem?_eq_none (by rw [List.length_map, List.length_range]; omega)]
    · rw [List.getElem?_eq_none (by omega), List.getElem?_eq_none (by rw [fr_len]; omega)]
  · show sgn (match (rows[p.1.toNat]?).bind fun r => r[p.2.toNat]? with | some c => c | none => 35)
    split
    · rename_i c e
      obtain ⟨r, hr, hc⟩ := Option.bind_eq_some_iff.mp e
      exact (f.rw_ r (List.mem_of_getElem? hr)).2 c (List.mem_of_getElem? hc)
    · exact .inr (.inr (.inl rfl))
theorem fr_mir (h w : Nat) (G : Ce → Nat) : (fr h w G).map List.reverse = fr h w fun p => G (cmir ((w : Int) - 1) p) := by
  unfold fr
  rw [List.map_map]
  refine List.map_congr_left fun i _ => ?_
  show ((List.range w).map fun (j : Nat) => G ((i : Int), (j : Int))).reverse = _
  apply List.ext_getElem
  · simp
  · intro j h1 h2
    have hj : j < w := by simpa using h2
    rw [List.getElem_reverse]
    simp only [List.getElem_map, List.getElem_range, List.length_map, List.length_range, cmir]
    congr 2
    omega
theorem fr_qua (h w : Nat) (G : Ce → Nat) : ((List.range w).map fun (c : Nat) => (fr h w G).reverse.map fun r => r.getD c 0) = fr w h fun q => G ((h : Int) - 1 - q.2, q.1) := by
  unfold fr
  refine List.map_congr_left fun i hi => ?_
  have hi := List.mem_range.mp hi
  apply List.ext_getElem
  · simp
  · intro j h1 h2
    have hj : j < h := by simpa using h2
    simp only [List.getElem_map, List.getElem_reverse, List.getElem_range, List.length_map, List.length_range]
    rw [List.getD_eq_getElem?_getD, List.getElem?_map, List.getElem?_range hi]
    show G (((h - 1 - j : Nat) : Int), (i : Int)) = _
    congr 2
    omega
theorem rev_rows {o : Bool} (rows : List (List Nat)) : o_rev [.lst o (rows.map .str)] = some (.lst true (rows.reverse.map .str)) := by
  show (if unfl (rows.map D.str) = true then some (D.lst true (rows.map D.str).reverse) else none) = _
  rw [if_pos (unfl_all.mpr fun d hd => by obtain ⟨r, _, rfl⟩ := List.mem_map.mp hd; rfl), List.map_reverse]
theorem its_frz (rows : List (List Nat)) : itemsOf false ((D.lst true (rows.map .str)).frz) = some (rows.map .str) := by
  rw [frz_lst (fun _ => rfl)]
  exact its_lst (unfl_all.mpr fun d hd => by obtain ⟨r, _, rfl⟩ := List.mem_map.mp hd; rfl)
theorem rows_unfl (rows : List (List Nat)) : unfl (rows.map D.str) = true := unfl_all.mpr fun d hd => by obtain ⟨r, _, rfl⟩ := List.mem_map.mp hd; rfl
end MP

set_option autoImplicit false
set_option linter.all false
set_option maxRecDepth 100000
/-! MP: lists of forms, sorted. -/
namespace MP
open PySem

def lxB : List Sp → List Sp → Bool
  | _, [] => false
  | [], _ :: _ => true
  | a :: as, b :: bs => if a = b then lxB as bs else decide (sp3 a b)
theorem lxB_irrefl : ∀ a, lxB a a = false
  | [] => rfl
  | a :: as => by rw [lxB, if_pos rfl]; exact lxB_irrefl as
theorem lxB_total : ∀ a b, lxB a b = false → a ≠ b → lxB b a = true
  | [], [], _, h => absurd rfl h
  | [], _ :: _, h, _ => by cases h
  | _ :: _, [], _, _ => rfl
  | a :: as, b :: bs, h, n => by
    rw [lxB] at h ⊢
    by_cases e : a = b
    · subst e
      rw [if_pos rfl] at h ⊢
      exact lxB_total as bs h fun z => n (by rw [z])
    · rw [if_neg e, decide_eq_false_iff_not] at h
      rw [if_neg (fun z => e z.symm)]
      exact decide_eq_true (sp3_total h e)
theorem lxB_trans : ∀ a b c, lxB a b = true → lxB b c = true → lxB a c = true
  | _, [], _, h, _ => by rw [lxB] at h; cases h
  | _, _ :: _, [], _, k => by cases k
  | [], _ :: _, _ :: _, _, _ => rfl
  | a :: as, b :: bs, c :: cs, h, k => by
    rw [lxB] at h k ⊢
    by_cases e : a = b
    · subst e
      rw [if_pos rfl] at h
      by_cases e2 : a = c
      · subst e2
        rw [if_pos rfl] at k ⊢
        exact lxB_trans as bs cs h k
      · rw [if_neg e2] at k ⊢
        exact k
    · rw [if_neg e, decide_eq_true_eq] at h
      by_cases e2 : b = c
      · subst e2
        rw [if_neg e]
        exact decide_eq_true h
      · rw [if_neg e2, decide_eq_true_eq] at k
        have t := sp3_trans h k
        rw [if_neg (fun z => sp3_irrefl a (by rw [← z] at t; exact t))]
        exact decide_eq_true t
theorem lxB_asymm {a b : List Sp} (h : lxB a b = true) : lxB b a = false := by
  cases q : lxB b a with
  | false => rfl
  | true =>
    have := lxB_trans a b a h q
    rw [lxB_irrefl] at this
    cases this
abbrev tfm (l : List Sp) : D := .tup false (l.map sp)
theorem sp_eqv (a b : Sp) : PyData.eqv (sp a).toP (sp b).toP = decide (a = b) := by
  show (a.1 == b.1 && (a.2.1 == b.2.1 && ((⟨a.2.2.toArray⟩ : Str) == ⟨b.2.2.toArray⟩ && true))) = _
  rw [Bool.eq_iff_iff]
  simp only [Bool.and_eq_true, beq_iff_eq, decide_eq_true_eq, and_true]
  constructor
  · rintro ⟨h1, h2, h3⟩
    exact Prod.ext h1 (Prod.ext h2 (by have := congrArg (fun z : Str => z.cps.toList) h3; simpa using this))
  · intro h
    rw [h]
    exact ⟨rfl, rfl, rfl⟩
theorem tfm_lt : ∀ {a b : List Sp}, a.length = b.length → PyProof.Rows.lexLt PyProof.Rows.itemOrd (PySem.W.keyToksAll (toPs (a.map sp))) (PySem.W.keyToksAll (toPs (b.map sp))) = lxB a b
  | [], [], _ => PyProof.Rows.lex_irrefl _
  | [], _ :: _, h => by cases h
  | _ :: _, [], h => by cases h
  | a :: as, b :: bs, h => by
    rw [List.map_cons, List.map_cons, toPs, toPs, PySem.W.dataLt_cons (sp_alike a b), sp_eqv, tfm_lt (by simpa using h), lxB]
    by_cases e : a = b
    · simp [e]
    · rw [decide_eq_false e, if_neg Bool.false_ne_true, if_neg e]
      exact sp_lt a b
theorem tfm_ltD {a b : List Sp} (h : a.length = b.length) : ltD (tfm a) (tfm b) = lxB a b := by
  show PySem.W.dataLt (.tuple (toPs (a.map sp))) (.tuple (toPs (b.map sp))) = _
  rw [PySem.W.dataLt_tuple, tfm_lt h]
theorem tfm_eqv : ∀ (a b : List Sp), PyData.eqvAll (toPs (a.map sp)) (toPs (b.map sp)) = decide (a = b)
  | [], [] => by simp [toPs, PyData.eqvAll]
  | [], _ :: _ => by simp [toPs, PyData.eqvAll]
  | _ :: _, [] => by simp [toPs, PyData.eqvAll]
  | a :: as, b :: bs => by
    rw [List.map_cons, List.map_cons, toPs, toPs, PyData.eqvAll, sp_eqv, tfm_eqv as bs, Bool.eq_iff_iff]
    simp
theorem tfm_eq (a b : List Sp) : eqD (tfm a) (tfm b) = decide (a = b) := by
  show PyData.eqv (.tuple (toPs (a.map sp))) (.tuple (toPs (b.map sp))) = _
  rw [PyData.eqv, tfm_eqv]
theorem tfm_inj {a b : List Sp} (h : tfm a = tfm b) : a = b := by
  have e := tfm_eq a b
  rw [h] at e
  have : eqD (tfm b) (tfm b) = decide (b = b) := tfm_eq b b
  rw [this, decide_eq_true rfl] at e
  exact of_decide_eq_true e.symm
theorem tfm_keyable : ∀ l : List Sp, keyables (l.map sp) = true
  | [] => rfl
  | a :: l => by rw [List.map_cons, keyables, tfm_keyable l]; rfl
theorem tfm_alike : ∀ a b : List Sp, PySem.W.alikeAll (toPs (a.map sp)) (toPs (b.map sp)) = true
  | [], _ => by rw [List.map_nil, toPs]; simp [PySem.W.alikeAll]
  | _ :: _, [] => by rw [List.map_nil, toPs]; simp [toPs, PySem.W.alikeAll]
  | a :: as, b :: bs => by
    rw [List.map_cons, List.map_cons, toPs, toPs, PySem.W.alikeAll, sp_alike, tfm_alike as bs]
    rfl
/-- forms of one size -/
structure Fs (A : List (List Sp)) (m : Nat) : Prop where
  len : ∀ a ∈ A, a.length = m
  m1 : 1 ≤ m
  z : ∀ a ∈ A, okz a
theorem Fs.setable {A : List (List Sp)} {m : Nat} (f : Fs A m) {d : D} (h : d ∈ A.map tfm) : setable d = true := by
  obtain ⟨a, ha, rfl⟩ := List.mem_map.mp h
  show ((true && keyables (a.map sp)) && shs 7 (a.map sp)) = true
  rw [tfm_keyable, sps_shs (f.z a ha) 6]
  rfl
theorem Fs.sortOk {A : List (List Sp)} {m : Nat} (f : Fs A m) : sortOk (A.map tfm) = true := by
  unfold MP.sortOk
  rw [Bool.and_eq_true, Bool.and_eq_true, Bool.or_eq_true]
  refine ⟨⟨?_, ?_⟩, .inl ?_⟩
  · rw [List.all_eq_true]
    intro d hd
    obtain ⟨a, ha, rfl⟩ := List.mem_map.mp hd
    exact spt_nice (f.z a ha)
  · rw [List.all_eq_true]
    intro d hd
    rw [List.all_eq_true]
    intro e he
    obtain ⟨a, ha, rfl⟩ := List.mem_map.mp hd
    obtain ⟨b, hb, rfl⟩ := List.mem_map.mp he
    exact tfm_alike a b
  · rw [List.all_eq_true]
    intro d hd
    obtain ⟨a, ha, rfl⟩ := List.mem_map.mp hd
    have := f.len a ha
    have := f.m1
    cases a with
    | nil => simp at *; omega
    | cons x xs => rfl
def sortL (B : List (List Sp)) : List (List Sp) := B.mergeSort fun a b => !lxB b a
theorem sortL_mem {B : List (List Sp)} {a : List Sp} : a ∈ sortL B ↔ a ∈ B := List.mem_mergeSort
theorem sortL_strict {B : List (List Sp)} {m : Nat} (f : Fs B m) (nd : B.Nodup) : ((sortL B).map tfm).Pairwise fun a b => ltD a b = true ∧ ltD b a = false := by
  have pw : (sortL B).Pairwise fun a b => (!lxB b a) = true := List.pairwise_mergeSort (le := fun a b => !lxB b a) (fun a b c h1 h2 => by
      rw [Bool.not_eq_true'] at *
      cases q : lxB c a with
      | false => rfl
      | true =>
        by_cases e : a = b
        · subst e; rw [q] at h2; cases h2
        · have := lxB_trans c a b q (lxB_total b a h1 (fun z => e z.symm))
          rw [this] at h2; cases h2) (fun a b => by
      rw [Bool.or_eq_true, Bool.not_eq_true', Bool.not_eq_true']
      cases q : lxB b a with
      | false => exact .inl rfl
      | true => exact .inr (lxB_asymm q)) B
  have nd2 : (sortL B).Nodup := (List.mergeSort_perm B _).nodup_iff.mpr nd
  rw [List.pairwise_map]
  refine (List.Pairwise.and pw nd2).imp_of_mem fun {a b} ha hb h => ?_
  have la := f.len a (sortL_mem.mp ha)
  have lb := f.len b (sortL_mem.mp hb)
  have h1 : lxB b a = false := by
    have := h.1
    rwa [Bool.not_eq_true'] at this
  rw [tfm_ltD (by omega), tfm_ltD (by omega)]
  exact ⟨lxB_total b a h1 (fun z => h.2 z.symm), h1⟩
theorem strict_of : ∀ {M : List D}, M.Pairwise (fun a b => ltD a b = true ∧ ltD b a = false) → strictD M = true
  | [], _ => rfl
  | d :: M, h => by
    rw [List.pairwise_cons] at h
    rw [strictD, Bool.and_eq_true, List.all_eq_true]
    exact ⟨fun e he => by rw [(h.1 e he).1, (h.1 e he).2]; rfl, strict_of h.2⟩
theorem sorted_due {B : List (List Sp)} {m : Nat} (f : Fs B m) (nd : B.Nodup) {o : Bool} : i_sorted [.lst o (B.map tfm)] = some (.lst true ((sortL B).map tfm)) := by
  show (if (sortOk (B.map tfm) && unfl (B.map tfm)) = true then some (D.lst true (sortD (B.map tfm))) else none) = _
  rw [if_pos]
  · rw [sort_strict (sortL_strict f nd) ((List.mergeSort_perm B _).symm.map tfm)]
  · rw [f.sortOk]
    exact unfl_all.mpr fun d hd => by obtain ⟨a, _, rfl⟩ := List.mem_map.mp hd; rfl
theorem sorted_set {A B : List (List Sp)} {m : Nat} (f : Fs A m) (few : A.length < 64) (nd : B.Nodup) (me : ∀ a, a ∈ B ↔ a ∈ A) {o : Bool} : o_sortset [.lst o (A.map tfm)] = some (.lst true ((sortL B).map tfm)) := by
  have fB : Fs B m := ⟨fun a ha => f.len a ((me a).mp ha), f.m1, fun a ha => f.z a ((me a).mp ha)⟩
  have dn := dedup_ok (ds := A.map tfm) fun e he => f.setable he
  have st := sortL_strict fB nd
  have pm : (dedup (A.map tfm)).Perm ((sortL B).map tfm) := by
    refine (List.perm_ext_iff_of_nodup dn.1 ?_).mpr fun d => ?_
    · have nd2 : (sortL B).Nodup := (List.mergeSort_perm B _).nodup_iff.mpr nd
      refine List.pairwise_map.mpr (nd2.imp fun h z => h (tfm_inj z))
    · rw [dn.2]
      constructor
      · intro h
        obtain ⟨a, ha, rfl⟩ := List.mem_map.mp h
        exact List.mem_map.mpr ⟨a, sortL_mem.mpr ((me a).mpr ha), rfl⟩
      · intro h
        obtain ⟨a, ha, rfl⟩ := List.mem_map.mp h
        exact List.mem_map.mpr ⟨a, (me a).mp (sortL_mem.mp ha), rfl⟩
  have e := sort_strict st pm
  show (if ((((A.map tfm).all MP.setable && decide ((A.map tfm).length < 64)) && sortOk (A.map tfm)) && strictD (sortD (dedup (A.map tfm)))) = true then some (D.lst true (sortD (dedup (A.map tfm)))) else none) = _
  rw [e, if_pos]
  rw [f.sortOk, strict_of st, List.length_map, decide_eq_true few, List.all_eq_true.mpr fun d hd => f.setable hd]
  rfl
theorem mem_due {B : List (List Sp)} {x : List Sp} (zx : okz x) (zB : ∀ a ∈ B, okz a) {o : Bool} : o_nmem [tfm x, .lst o (B.map tfm)] = some (.bl (!decide (x ∈ B))) := by
  show (if (nice (tfm x) && (B.map tfm).all nice) = true then some (D.bl (!(B.map tfm).any fun y => eqD y (tfm x))) else none) = _
  rw [if_pos]
  · congr 3
    rw [Bool.eq_iff_iff, List.any_eq_true, decide_eq_true_eq]
    constructor
    · rintro ⟨d, hd, h⟩
      obtain ⟨a, ha, rfl⟩ := List.mem_map.mp hd
      rw [tfm_eq] at h
      rw [← of_decide_eq_true h]
      exact ha
    · intro h
      exact ⟨tfm x, List.mem_map.mpr ⟨x, h, rfl⟩, by rw [tfm_eq]; exact decide_eq_true rfl⟩
  · rw [spt_nice zx, Bool.true_and, List.all_eq_true]
    intro d hd
    obtain ⟨a, ha, rfl⟩ := List.mem_map.mp hd
    exact spt_nice (zB a ha)
end MP

set_option autoImplicit false
set_option linter.all false
set_option maxRecDepth 100000
/-! MP: zip, grown cells, forms put. -/
namespace MP
open PySem
section
variable {T : Tab} {Φ : Nat → List D → FR}
/-- for x, y in zip(a, b) -/
theorem zip_v {a b : CE} {ρ : Rho} {Q : List D → Rho → Prop} {E : Nat → Rho → Prop} (h : vE T Φ a ρ (fun d ρ => vE T Φ b ρ (fun e ρ => ∃ o xs p ys, d = .lst o xs ∧ e = .lst p ys ∧ (unfl xs && unfl ys) = true ∧ Q (xs.zipWith (fun x y => .tup false [x, y]) ys) ρ) E) E) : okR (evi T Φ (.zip a b) ρ) Q E := by
  rw [evi, okR_bind]
  refine okR_mono (vE_ok a h) fun d ρ1 h1 => ?_
  rw [okR_bind]
  refine okR_mono (vE_ok b h1) fun e ρ2 h2 => ?_
  obtain ⟨o, xs, p, ys, rfl, rfl, hu, h2⟩ := h2
  dsimp only
  rw [if_pos hu]
  exact h2
end
theorem zip_map {α β : Type} (f : α → D) (g : β → D) : ∀ (l : List α) (m : List β), (l.map f).zipWith (fun x y => D.tup false [x, y]) (m.map g) = (l.zip m).map fun p => .tup false [f p.1, g p.2]
  | [], _ => by simp
  | _ :: _, [] => by simp
  | a :: l, b :: m => by
    rw [List.map_cons, List.map_cons, List.zipWith_cons_cons, List.zip_cons_cons, List.map_cons, zip_map f g l m]
theorem zip_fst' {α β : Type} : ∀ (l : List α) (m : List β), l.length ≤ m.length → (l.zip m).map (·.1) = l
  | [], _, _ => by simp
  | _ :: _, [], h => by simp at h
  | a :: l, b :: m, h => by
    rw [List.zip_cons_cons, List.map_cons, zip_fst' l m (by simpa using h)]
theorem map_unfl {α : Type} {f : α → D} (h : ∀ a, (f a).fl = false) (l : List α) : unfl (l.map f) = true := unfl_all.mpr fun d hd => by
  obtain ⟨a, _, rfl⟩ := List.mem_map.mp hd
  exact h a
/-- cells put to the least row and column, with signs: a form -/
theorem Form.formed {l : List Sp} (gl : GL l) (ne : l ≠ []) (nd : (l.map cell).Nodup) (hang : Hang (l.map cell)) : Form (formedS l) := by
  have hsh : (l.map fun s => (s.1 - minL (l.map (·.1)), s.2.1 - minL (l.map (·.2.1)), s.2.2)).map cell = (l.map cell).map fun p => (p.1 - minL (l.map (·.1)), p.2 - minL (l.map (·.2.1))) := by
    rw [List.map_map, List.map_map]
    rfl
  have bx := formed_box ne
  have bx' : ∃ h w, Box (l.map fun s => (s.1 - minL (l.map (·.1)), s.2.1 - minL (l.map (·.2.1)), s.2.2)) h w := by
    obtain ⟨h, w, b⟩ := bx
    exact ⟨h, w, b.perm (sortS_perm _).symm⟩
  refine Form.of_sort (fun s hs => ?_) ?_ ?_ bx'
  · obtain ⟨t, ht, rfl⟩ := List.mem_map.mp hs
    exact gl t ht
  · rw [hsh]
    exact nodup_map (fun a b e => by
      have e1 := congrArg Prod.fst e
      have e2 := congrArg Prod.snd e
      simp only at e1 e2
      exact Prod.ext (by omega) (by omega)) nd
  · rw [hsh]
    refine hang.map _ fun a b k => ?_
    unfold nb at *
    dsimp only at *
    omega
theorem formedS_len (l : List Sp) : (formedS l).length = l.length := by
  unfold formedS
  rw [sortS_len, List.length_map]
def dirs4 : List Ce := [(0, 1), (1, 0), (0, -1), (-1, 0)]
theorem dirs4_nb {p q : Ce} (h : q ∈ dirs4) : nb p (p.1 + q.1, p.2 + q.2) := by
  unfold dirs4 at h
  simp only [List.mem_cons, List.not_mem_nil, or_false] at h
  unfold nb
  rcases h with rfl | rfl | rfl | rfl <;> dsimp only <;> omega
/-- cells grown one beside another -/
structure Grw (l : List Ce) (most : Nat) : Prop where
  ne : l ≠ []
  few : l.length ≤ most
  nd : l.Nodup
  hang : Hang l
theorem Grw.one : Grw [(0, 0)] 1 := ⟨by simp, by simp, by simp, Hang.one _⟩
theorem Grw.more {l : List Ce} {m : Nat} (g : Grw l m) : Grw l (m + 1) := ⟨g.ne, Nat.le_succ_of_le g.few, g.nd, g.hang⟩
theorem Grw.snoc {l : List Ce} {m : Nat} (g : Grw l m) {p q : Ce} (hp : p ∈ l) (hq : q ∈ dirs4) (hn : (p.1 + q.1, p.2 + q.2) ∉ l) : Grw (l ++ [(p.1 + q.1, p.2 + q.2)]) (m + 1) :=
  ⟨by simp, by have := g.few; simp; omega, List.nodup_append.mpr ⟨g.nd, List.nodup_cons.mpr ⟨List.not_mem_nil, List.nodup_nil⟩, fun a ha b hb e => hn (by rw [← List.mem_singleton.mp hb, ← e]; exact ha)⟩, g.hang.snoc hp (dirs4_nb hq)⟩
theorem Grw.le {l : List Ce} {m m' : Nat} (g : Grw l m) (h : m ≤ m') : Grw l m' := ⟨g.ne, Nat.le_trans g.few h, g.nd, g.hang⟩
theorem mod_ok {i j : Int} (h : 0 < j) : o_mod [.int i, .int j] = some (.int (i % j)) := if_pos h
theorem sIx_n (n d k : Nat) : HT.sIx n d (some (k : Int)) = min k n := by
  unfold HT.sIx
  have : ¬ ((k : Int) < 0) := by omega
  simp only [if_neg this, Int.toNat_natCast]
theorem cut_lo {α : Type} (xs : List α) (k : Nat) : cutL xs (some (k : Int)) none = xs.drop k := by
  unfold cutL
  rw [sIx_n]
  have e : HT.sIx xs.length xs.length none = xs.length := rfl
  rw [e, List.take_of_length_le (by rw [List.length_drop]; omega)]
  by_cases h : k ≤ xs.length
  · rw [Nat.min_eq_left h]
  · rw [Nat.min_eq_right (by omega), List.drop_eq_nil_of_le (Nat.le_refl _), List.drop_eq_nil_of_le (by omega)]
theorem cut_hi {α : Type} (xs : List α) (k : Nat) : cutL xs none (some (k : Int)) = xs.take k := by
  unfold cutL
  rw [sIx_n]
  have e : HT.sIx xs.length 0 none = 0 := rfl
  rw [e, List.drop_zero, Nat.sub_zero]
  by_cases h : k ≤ xs.length
  · rw [Nat.min_eq_left h]
  · rw [Nat.min_eq_right (by omega), List.take_of_length_le (Nat.le_refl _), List.take_of_length_le (by omega)]
theorem cut_mid {α : Type} (xs : List α) (j k : Nat) : cutL xs (some (j : Int)) (some (k : Int)) = (xs.drop (min j xs.length)).take (min k xs.length - min j xs.length) := by
  unfold cutL
  rw [sIx_n, sIx_n]
theorem sl_map {α : Type} {f : α → D} (hf : ∀ a, (f a).fl = false) (o : Bool) (l : List α) (lo hi : Option Int) : slD (.lst o (l.map f)) lo hi = some (.lst true ((cutL l lo hi).map f)) := by
  rw [← cutL_map]
  exact if_pos (map_unfl hf l)
/-- each once -/
def nub : List (List Sp) → List (List Sp)
  | [] => []
  | a :: l => if a ∈ l then nub l else a :: nub l
theorem mem_nub {a : List Sp} : ∀ {l : List (List Sp)}, a ∈ nub l ↔ a ∈ l
  | [] => Iff.rfl
  | b :: l => by
    rw [nub]
    split
    · rename_i h
      rw [mem_nub, List.mem_cons]
      exact ⟨.inr, fun z => z.elim (fun e => by rw [e]; exact h) id⟩
    · rw [List.mem_cons, mem_nub, List.mem_cons]
theorem nub_nodup : ∀ l : List (List Sp), (nub l).Nodup
  | [] => List.nodup_nil
  | b :: l => by
    rw [nub]
    split
    · exact nub_nodup l
    · rename_i h
      exact List.nodup_cons.mpr ⟨fun z => h (mem_nub.mp z), nub_nodup l⟩
/-- the least of some cells -/
theorem ces_sort (l : List Ce) : sortOk (l.map ce) = true := by
  unfold sortOk
  rw [Bool.and_eq_true, Bool.and_eq_true, Bool.or_eq_true]
  refine ⟨⟨ces_nice l, ?_⟩, .inl ?_⟩
  · refine List.all_eq_true.mpr fun d hd => List.all_eq_true.mpr fun e he => ?_
    obtain ⟨a, _, rfl⟩ := List.mem_map.mp hd
    obtain ⟨b, _, rfl⟩ := List.mem_map.mp he
    simp [ce, D.toP, toPs, PySem.W.alike, PySem.W.alikeAll]
  · refine List.all_eq_true.mpr fun d hd => ?_
    obtain ⟨a, _, rfl⟩ := List.mem_map.mp hd
    rfl
theorem minD_mem : ∀ (xs : List D) (x : D), minD xs x ∈ x :: xs
  | [], x => by simp [minD]
  | y :: ys, x => by
    rw [minD]
    have := minD_mem ys (if ltD y x then y else x)
    rcases List.mem_cons.mp this with e | e
    · rw [e]
      split <;> simp
    · simp [e]
theorem min1_ces {l : List Ce} {o : Bool} (h : l ≠ []) : ∃ p ∈ l, o_min1 [.lst o (l.map ce)] = some (ce p) := by
  cases l with
  | nil => exact absurd rfl h
  | cons a l =>
    have hmm : minD (l.map ce) (ce a) ∈ (a :: l).map ce := by rw [List.map_cons]; exact minD_mem (l.map ce) (ce a)
    obtain ⟨p, hp, e⟩ := List.mem_map.mp hmm
    refine ⟨p, hp, ?_⟩
    show (match ints? ((a :: l).map ce) with | some (i :: is) => some (D.int (minI is i)) | _ => match (a :: l).map ce with | x :: ys => if (sortOk (x :: ys) && unfl (x :: ys)) = true then some (minD ys x) else none | [] => none) = _
    have e1 : ints? ((a :: l).map ce) = none := rfl
    rw [e1]
    show (if (sortOk ((a :: l).map ce) && unfl ((a :: l).map ce)) = true then some (minD (l.map ce) (ce a)) else none) = _
    rw [ces_sort, ces_unfl, e]; rfl
def sgE (c : Nat) : D := .str [c]
theorem sg_ix {cs : List Nat} {o : Bool} {v : Int} (h0 : 0 ≤ v) (h1 : v < ((cs.map sgE).length : Int)) : ∃ c ∈ cs, o_ix [.lst o (cs.map sgE), .int v] = some (.str [c]) := by
  obtain ⟨c, hc, e⟩ := ix_map (f := sgE) (fun _ => rfl) h0 (by rw [List.length_map] at h1; exact h1)
  exact ⟨c, hc, e⟩
theorem ix_mod {α : Type} {l : List α} {f : α → D} (hf : ∀ a, (f a).fl = false) (hl : l ≠ []) (o : Bool) (y : Int) : ∃ a ∈ l, o_ix [.lst o (l.map f), .int (y % (l.length : Int))] = some (f a) := by
  have h : 0 < (l.length : Int) := by have := List.length_pos_iff.mpr hl; omega
  exact ix_map hf (Int.emod_nonneg _ (by omega)) (Int.emod_lt_of_pos _ h)
theorem sl_tup {o : Bool} {xs : List D} (hu : unfl xs = true) (lo hi : Option Int) : slD (.tup o xs) lo hi = some (.tup false (cutL xs lo hi)) := if_pos hu
theorem sl_tup_hi {o : Bool} {xs : List D} (hu : unfl xs = true) {k : Nat} (h : k < xs.length) : slD (.tup o xs) none (some (k : Int)) = some (.tup false (xs.take k)) := by
  rw [sl_tup hu, cut_hi]
theorem sl_tup_lo {o : Bool} {xs : List D} (hu : unfl xs = true) {k : Nat} (h : 0 < k) (hn : 0 < xs.length) : slD (.tup o xs) (some (k : Int)) none = some (.tup false (xs.drop k)) := by
  rw [sl_tup hu, cut_lo]
theorem eqD_toP {a b : D} (h : a.toP = b.toP) (n : nice b = true) : eqD a b = true := by
  have := eqD_refl n
  unfold eqD at this ⊢
  rw [h]
  exact this
theorem ne_toP {a b : D} (h : a.toP = b.toP) (na : nice a = true) (nb : nice b = true) : o_ne [a, b] = some (.bl false) := by
  show (if (nice a && nice b) = true then some (D.bl (!eqD a b)) else if neLen a b = true then some (D.bl true) else none) = _
  rw [na, nb, eqD_toP h nb]
  rfl
theorem eq_toP {a b : D} (h : a.toP = b.toP) (na : nice a = true) (nb : nice b = true) : o_eq [a, b] = some (.bl true) := by
  show (if (nice a && nice b) = true then some (D.bl (eqD a b)) else if neLen a b = true then some (D.bl false) else none) = _
  rw [na, nb, eqD_toP h nb]
  rfl
theorem ints_nice (o : Bool) (l : List Int) : nice (.lst o (l.map .int)) = true := by
  show shs 59 _ = true
  rw [shs_iff]
  intro d hd
  obtain ⟨a, _, rfl⟩ := List.mem_map.mp hd
  rfl
theorem lower_ok {c : Nat} (h : c < 128) : o_lower [.str [c]] = some (.str [lo1 c]) := by
  show (if (ascii [c] && decide ([c].length ≤ 5592405)) = true then some (D.str ([c].map lo1)) else none) = _
  have e : ascii [c] = true := by simp [ascii, h]
  rw [e]
  rfl
theorem lo1_great {c : Nat} (h : 65 ≤ c ∧ c ≤ 90) : lo1 c = c + 32 := by
  unfold lo1
  rw [if_pos (by simp; omega)]
theorem great_sgn {c : Nat} (h : 65 ≤ c ∧ c ≤ 90) : sgn c := by unfold sgn; omega
theorem small_sgn {c : Nat} (h : 65 ≤ c ∧ c ≤ 90) : sgn (lo1 c) := by rw [lo1_great h]; unfold sgn; omega
theorem chr_ix' {z : List Nat} {v : Int} (h0 : 0 ≤ v) (h1 : v < z.length) : ∃ c ∈ z, o_ix [.str z, .int v] = some (.str [c]) := by
  obtain ⟨c, hc, hm⟩ := atI_get (xs := z) h0 h1
  refine ⟨c, hm, ?_⟩
  unfold o_ix
  dsimp only
  rw [hc]
  rfl
end MP

set_option autoImplicit false
set_option linter.all false
set_option maxRecDepth 100000
/-! MP: more rules: held lists, insert, pop, any data. -/
namespace MP
open PySem

theorem unclr_held {own : List Nat} {ρ ρ' : Rho} {i : Nat} {d : D} (h : clr own ρ' = clr own (ρ.set i none)) (hi : ρ.get i = some d) (no : i ∉ own) : (unclr ρ own ρ').set i (some d) = ρ := by
  have hl : ρ.length = ρ'.length := by
    have := congrArg List.length h
    rw [clr_len', clr_len', List.length_set] at this
    exact this.symm
  have hi' : ρ[i]? = some (some d) := by
    unfold Rho.get at hi
    cases q : ρ[i]? with
    | none => rw [q] at hi; cases hi
    | some x => rw [q] at hi; simp only [Option.getD_some] at hi; rw [hi]
  apply List.ext_getElem?
  intro j
  by_cases e : i = j
  · subst e
    rw [List.getElem?_set_self (by rw [unclr_len', ← hl]; exact (List.getElem?_eq_some_iff.mp hi').1), hi']
  · rw [List.getElem?_set_ne e, unclr_get' ρ own ρ' j hl]
    by_cases hj : j ∈ own
    · rw [if_pos hj]
    · rw [if_neg hj, ← clr_get' own ρ' j hj, h, clr_get' own _ j hj, List.getElem?_set_ne e]
theorem mut_ins {xs : List D} {e : D} {k : Nat} (hl : xs.length < lim) (hk : (k : Int) < 2 ^ 60) : mutF .ins [.int (k : Int), e] (.lst true xs) = some (.non, .lst true (xs.take k ++ e :: xs.drop k)) := by
  rw [mutF]
  rw [if_pos]
  · rw [Int.toNat_natCast]
  · rw [Bool.and_eq_true, Bool.and_eq_true]
    exact ⟨⟨decide_eq_true (Int.natCast_nonneg k), decide_eq_true hk⟩, decide_eq_true hl⟩
theorem mut_pop {xs : List D} {e : D} {k : Nat} (he : xs[k]? = some e) (hf : e.fl = false) (hk : (k : Int) < 2 ^ 60) (hk2 : -(2 ^ 60) < (k : Int)) : mutF .pop1 [.int (k : Int)] (.lst true xs) = some (e, .lst true (xs.eraseIdx k)) := by
  have hlt := (List.getElem?_eq_some_iff.mp he).1
  have e4 : L2.ixN xs.length (k : Int) = some k := by
    unfold L2.ixN
    rw [if_pos (Int.natCast_nonneg k), if_pos (Int.ofNat_lt.mpr hlt), Int.toNat_natCast]
  rw [mutF]
  rw [if_pos]
  · rw [e4, Option.bind_some, he, Option.bind_some, if_neg (by rw [hf]; exact Bool.false_ne_true)]
  · rw [Bool.and_eq_true]
    exact ⟨decide_eq_true hk, decide_eq_true hk2⟩
theorem mod_mut {ρ : Rho} {i : Nat} {m : MO} {as : List D} {xs : List D} {r d : D} {Q : D → Rho → Prop} {E : Nat → Rho → Prop} (h : ρ.get i = some (.lst true xs)) (hm : mutF m as (.lst true xs) = some (r, d)) (q : Q r (ρ.set i (some d))) : okR (ρ.mod i [] (mutF m as)) Q E := by
  unfold Rho.mod
  rw [h, Option.bind_some, modD, if_pos (show (D.lst true xs).fl = true from rfl), hm]
  exact q
theorem mod_any {ρ : Rho} {i : Nat} {G : D → Option (D × D)} {xs : List D} {r d : D} {Q : D → Rho → Prop} {E : Nat → Rho → Prop} (h : ρ.get i = some (.lst true xs)) (hm : G (.lst true xs) = some (r, d)) (q : Q r (ρ.set i (some d))) : okR (ρ.mod i [] G) Q E := by
  unfold Rho.mod
  rw [h, Option.bind_some, modD, if_pos (show (D.lst true xs).fl = true from rfl), hm]
  exact q
theorem ins_ok {ρ : Rho} {i : Nat} {xs : List D} {e : D} {k : Nat} {Q : D → Rho → Prop} {E : Nat → Rho → Prop} (h : ρ.get i = some (.lst true xs)) (hl : xs.length < lim) (hk : (k : Int) < 2 ^ 60) (q : Q .non (ρ.set i (some (.lst true (xs.take k ++ e :: xs.drop k))))) : okR (ρ.mod i [] (mutF .ins [.int (k : Int), e])) Q E := mod_mut h (mut_ins hl hk) q
theorem pop_ok {ρ : Rho} {i : Nat} {xs : List D} {e : D} {k : Nat} {Q : D → Rho → Prop} {E : Nat → Rho → Prop} (h : ρ.get i = some (.lst true xs)) (he : xs[k]? = some e) (hf : e.fl = false) (hk : (k : Int) < 2 ^ 60) (hk2 : -(2 ^ 60) < (k : Int)) (q : Q e (ρ.set i (some (.lst true (xs.eraseIdx k))))) : okR (ρ.mod i [] (mutF .pop1 [.int (k : Int)])) Q E := mod_mut h (mut_pop he hf hk hk2) q
section
variable {T : Tab} {Φ : Nat → List D → FR}
theorem comp_pureD {t : CG} {elt : CE} {c : CO} {own : List Nat} {l : List D} {ρ : Rho} {R : List D → Rho → Prop} (y : D → D) (p : D → Bool)
    (hs : ∀ a ∈ l, ∀ P : Option D → Rho → Prop, (p a = true → ∀ ρ', clr own ρ' = clr own ρ → P (some (y a)) ρ') → (p a = false → ∀ ρ', clr own ρ' = clr own ρ → P none ρ') →
      ∃ ρ₂, putG t a (clr own ρ) = some ρ₂ ∧ vO T Φ c ρ₂ (fun b ρ₃ => if b = true then vE T Φ elt ρ₃ (fun y ρ₄ => P (some y) ρ₄) (fun _ _ => False) else P none ρ₃) fun _ _ => False)
    (hl : l.length ≤ lim) (hq : ∀ ρ', clr own ρ' = clr own ρ → ((l.filter p).map y).length ≤ lim → R ((l.filter p).map y) ρ') :
    vSeq (fun x ρ₁ P => ∃ ρ₂, putG t x (clr own ρ₁) = some ρ₂ ∧ vO T Φ c ρ₂ (fun b ρ₃ => if b = true then vE T Φ elt ρ₃ (fun y ρ₄ => P (some y) ρ₄) (fun _ _ => False) else P none ρ₃) fun _ _ => False) l ρ R := by
  have := comp_pure (T := T) (Φ := Φ) (e := id) (R := R) y p hs hl hq
  rw [List.map_id] at this
  exact this
end
/-- unlike the empty list -/
theorem ne_nil {o p : Bool} {xs : List D} (h : xs ≠ []) : o_ne [.lst o xs, .lst p []] = some (.bl true) := by
  have h2 : neLen (.lst o xs) (.lst p []) = true := decide_eq_true (by
    have := List.length_pos_iff.mpr h
    simp only [List.length_nil]
    omega)
  show (if (nice (.lst o xs) && nice (.lst p [])) = true then some (D.bl (!eqD (.lst o xs) (.lst p []))) else if neLen (.lst o xs) (.lst p []) = true then some (D.bl true) else none) = _
  by_cases hn : (nice (.lst o xs) && nice (.lst p [])) = true
  · rw [if_pos hn]
    obtain ⟨x, l, rfl⟩ := List.exists_cons_of_ne_nil h
    have : eqD (.lst o (x :: l)) (.lst p []) = false := by
      show PyData.eqv (.list (x.toP :: toPs l)) (.list []) = false
      simp [PyData.eqv, PyData.eqvAll]
    rw [this]
    rfl
  · rw [if_neg hn, if_pos h2]
/-- an item of any list -/
theorem ix_any {o : Bool} {xs : List D} {v : Int} (h0 : 0 ≤ v) (h1 : v < xs.length) (hu : unfl xs = true) : ∃ x ∈ xs, o_ix [.lst o xs, .int v] = some x := by
  obtain ⟨x, e, hm⟩ := atI_get h0 h1
  refine ⟨x, hm, ?_⟩
  show ((L2.atI xs v).bind fun d => if d.fl then none else some d) = _
  rw [e]
  show (if x.fl = true then none else some x) = _
  rw [unfl_all.mp hu x hm]
  rfl
theorem int_ne (i j : Int) : o_ne [.int i, .int j] = some (.bl (!decide (i = j))) := by
  show some (D.bl (!eqD (.int i) (.int j))) = _
  rw [eqD_int]
theorem int_eq (i j : Int) : o_eq [.int i, .int j] = some (.bl (decide (i = j))) := by
  show some (D.bl (eqD (.int i) (.int j))) = _
  rw [eqD_int]
end MP

set_option autoImplicit false
set_option linter.all false
set_option maxRecDepth 100000
/-! MP: sorting of any alike data; boards; placements. -/
namespace MP
open PySem

theorem ltD_self (a : D) : ltD a a = false := PyProof.Rows.lex_irrefl _
theorem ltD_trans {a b c : D} (h1 : ltD a b = true) (h2 : ltD b c = true) : ltD a c = true := PyProof.Rows.lex_trans _ _ _ h1 h2
theorem ltD_neg {a b c : D} (h : ltD a c = true) : ltD a b = true ∨ ltD b c = true := PyProof.Rows.lex_negTrans _ _ _ h
theorem ltD_tie {a b : D} (al : PySem.W.alike a.toP b.toP = true) (h1 : ltD a b = false) (h2 : ltD b a = false) : eqD a b = true := by
  have e := PyProof.Rows.lex_total _ _ h1 h2
  cases q : eqD a b with
  | true => rfl
  | false =>
    have k := (PySem.W.toks_eqv a.toP b.toP al).2 q [] [Sum.inl 0]
    rw [List.append_nil, ← e] at k
    have k1 := PySem.W.lex_pre (PySem.W.keyToks a.toP) [] [Sum.inl 0]
    rw [List.append_nil] at k1
    rw [k1] at k
    have k2 : PyProof.Rows.lexLt PyProof.Rows.itemOrd (PySem.W.keyToks a.toP) (PySem.W.keyToks a.toP) = false := PyProof.Rows.lex_irrefl _
    rw [k2] at k
    cases k
theorem sortD_pw (l : List D) : (sortD l).Pairwise fun a b => ltD b a = false := by
  have k := List.pairwise_mergeSort (le := fun a b : D => !ltD b a) (fun a b c h1 h2 => ?_) (fun a b => ?_) l
  · exact k.imp fun {a b} h => by simpa using h
  · simp only [Bool.not_eq_true'] at *
    cases q : ltD c a with
    | false => rfl
    | true =>
      rcases ltD_neg (b := b) q with z | z
      · rw [z] at h2; cases h2
      · rw [z] at h1; cases h1
  · cases q : ltD b a with
    | false => rfl
    | true =>
      cases q2 : ltD a b with
      | false => rfl
      | true =>
        have := ltD_trans q q2
        rw [ltD_self] at this
        cases this
/-- the same things sort alike -/
theorem sortD_perm {l l' : List D} (p : l.Perm l') (al : ∀ a ∈ l, ∀ b ∈ l, PySem.W.alike a.toP b.toP = true) (inj : ∀ a ∈ l, ∀ b ∈ l, eqD a b = true → a = b) : sortD l = sortD l' := by
  refine List.Perm.eq_of_pairwise (le := fun a b => ltD b a = false) (fun a b ha hb h1 h2 => ?_) (sortD_pw l) (sortD_pw l') ((List.mergeSort_perm l _).trans (p.trans (List.mergeSort_perm l' _).symm))
  have ha : a ∈ l := sort_mem.mp ha
  have hb : b ∈ l := p.mem_iff.mpr (sort_mem.mp hb)
  exact inj a ha b hb (ltD_tie (al a ha b hb) h2 h1)
/-- a permuted map is a map of a permutation -/
theorem perm_map {α β : Type} {f : α → β} : ∀ {m : List β} {l : List α}, m.Perm (l.map f) → ∃ l' : List α, m = l'.map f ∧ l'.Perm l := by
  intro m l h
  generalize hr : l.map f = r at h
  induction h generalizing l with
  | nil =>
    have : l = [] := List.map_eq_nil_iff.mp hr
    subst this
    exact ⟨[], rfl, List.Perm.refl _⟩
  | @cons x m1 m2 p ih =>
    cases l with
    | nil => cases hr
    | cons a l =>
      rw [List.map_cons] at hr
      injection hr with e1 e2
      obtain ⟨l', e3, p3⟩ := ih e2
      exact ⟨a :: l', by rw [List.map_cons, e1, e3], p3.cons a⟩
  | @swap x y m1 =>
    cases l with
    | nil => cases hr
    | cons a l =>
      cases l with
      | nil => cases hr
      | cons b l =>
        simp only [List.map_cons, List.cons.injEq] at hr
        obtain ⟨e1, e2, e3⟩ := hr
        exact ⟨b :: a :: l, by rw [List.map_cons, List.map_cons, e1, e2, e3], .swap a b l⟩
  | @trans m1 m2 m3 p1 p2 ih1 ih2 =>
    obtain ⟨l1, e1, q1⟩ := ih2 hr
    obtain ⟨l2, e2, q2⟩ := ih1 e1.symm
    exact ⟨l2, e2, q2.trans q1⟩
theorem sortD_of {α : Type} (f : α → D) (l : List α) : ∃ l' : List α, sortD (l.map f) = l'.map f ∧ l'.Perm l := perm_map (List.mergeSort_perm _ _)

/-! ### placements: spots, a number -/
abbrev Pl := List Sp × Int
def plD (p : Pl) : D := .tup false [tfm p.1, .int p.2]
theorem pl_alike (a b : Pl) : PySem.W.alike (plD a).toP (plD b).toP = true := by
  show PySem.W.alike (.tuple [.tuple (toPs (a.1.map sp)), .int a.2]) (.tuple [.tuple (toPs (b.1.map sp)), .int b.2]) = true
  simp [PySem.W.alike, PySem.W.alikeAll, tfm_alike]
theorem pl_eq (a b : Pl) : eqD (plD a) (plD b) = decide (a = b) := by
  show PyData.eqv (.tuple [.tuple (toPs (a.1.map sp)), .int a.2]) (.tuple [.tuple (toPs (b.1.map sp)), .int b.2]) = _
  simp only [PyData.eqv, PyData.eqvAll, Bool.and_true]
  rw [tfm_eqv]
  obtain ⟨a1, a2⟩ := a
  obtain ⟨b1, b2⟩ := b
  rw [Bool.eq_iff_iff]
  simp
theorem pl_sh {p : Pl} (h : okz p.1) (n : Nat) : (plD p).sh (n + 3) = true := by
  show (shs (n + 1) (p.1.map sp) && (true && true)) = true
  rw [sps_shs h]
  rfl
theorem pls_nice {l : List Pl} (h : ∀ p ∈ l, okz p.1) (o : Bool) : nice (.lst o (l.map plD)) = true := by
  show shs 59 _ = true
  rw [shs_iff]
  intro d hd
  obtain ⟨p, hp, rfl⟩ := List.mem_map.mp hd
  exact pl_sh (h p hp) 56
theorem pls_unfl (l : List Pl) : unfl (l.map plD) = true := map_unfl (fun _ => rfl) l
theorem pls_sortOk {l : List Pl} (h : ∀ p ∈ l, okz p.1) : sortOk (l.map plD) = true := by
  unfold sortOk
  simp only [Bool.and_eq_true, Bool.or_eq_true]
  refine ⟨⟨List.all_eq_true.mpr fun d hd => ?_, List.all_eq_true.mpr fun d hd => List.all_eq_true.mpr fun e he => ?_⟩, .inl (List.all_eq_true.mpr fun d hd => ?_)⟩
  · obtain ⟨p, hp, rfl⟩ := List.mem_map.mp hd
    exact pl_sh (h p hp) 57
  · obtain ⟨p, hp, rfl⟩ := List.mem_map.mp hd
    obtain ⟨q, hq, rfl⟩ := List.mem_map.mp he
    exact pl_alike p q
  · obtain ⟨p, hp, rfl⟩ := List.mem_map.mp hd
    rfl
theorem pls_sort {l : List Pl} (h : ∀ p ∈ l, okz p.1) (o : Bool) : i_sorted [.lst o (l.map plD)] = some (.lst true (sortD (l.map plD))) := by
  show (if (sortOk (l.map plD) && unfl (l.map plD)) = true then some (D.lst true (sortD (l.map plD))) else none) = _
  rw [pls_sortOk h, pls_unfl]
  rfl
theorem pls_perm {l l' : List Pl} (p : l.Perm l') : sortD (l.map plD) = sortD (l'.map plD) := sortD_perm (p.map plD) (fun a ha b hb => by
    obtain ⟨p, hp, rfl⟩ := List.mem_map.mp ha
    obtain ⟨q, hq, rfl⟩ := List.mem_map.mp hb
    exact pl_alike p q) fun a ha b hb e => by
    obtain ⟨p, hp, rfl⟩ := List.mem_map.mp ha
    obtain ⟨q, hq, rfl⟩ := List.mem_map.mp hb
    rw [pl_eq] at e
    rw [of_decide_eq_true e]

/-! ### boards: lists of lists of signs -/
def bd (h w : Nat) (G : Nat → Nat → Nat) : D := .lst true ((List.range h).map fun i => .lst true ((List.range w).map fun j => .str [G i j]))
def updG (G : Nat → Nat → Nat) (r c v : Nat) : Nat → Nat → Nat := fun i j => if i = r ∧ j = c then v else G i j
theorem range_set {α : Type} (f : Nat → α) (n k : Nat) (v : α) (hk : k < n) : ((List.range n).map f).set k v = (List.range n).map fun i => if i = k then v else f i := by
  apply List.ext_getElem?
  intro j
  by_cases hj : j < n
  · rw [List.getElem?_map, List.getElem?_range hj]
    by_cases e : k = j
    · subst e
      rw [List.getElem?_set_self (by rw [List.length_map, List.length_range]; exact hj)]
      simp
    · rw [List.getElem?_set_ne e, List.getElem?_map, List.getElem?_range hj]
      simp [Ne.symm e]
  · rw [List.getElem?_eq_none (by rw [List.length_set, List.length_map, List.length_range]; omega), List.getElem?_eq_none (by rw [List.length_map, List.length_range]; omega)]
theorem setix_str {xs : List D} {j : Nat} {v : D} (hj : j < xs.length) : setixF (.int (j : Int)) v (.lst true xs) = some ((), .lst true (xs.set j v)) := by
  have e : L2.ixN xs.length (j : Int) = some j := by
    unfold L2.ixN
    rw [if_pos (Int.natCast_nonneg j), if_pos (Int.ofNat_lt.mpr hj), Int.toNat_natCast]
  show ((L2.ixN xs.length (j : Int)).bind fun j => if j < xs.length then some ((), D.lst true (xs.set j v)) else none) = _
  rw [e, Option.bind_some, if_pos hj]
theorem bd_set {h w : Nat} {G : Nat → Nat → Nat} {r c v : Nat} (hr : r < h) (hc : c < w) : modD (setixF (.int (c : Int)) (.str [v])) [.k (.int (r : Int))] (bd h w G) = some ((), bd h w (updG G r c v)) := by
  have l1 : ((List.range h).map fun i => D.lst true ((List.range w).map fun j => D.str [G i j])).length = h := by rw [List.length_map, List.length_range]
  have e : L2.ixN h (r : Int) = some r := by
    unfold L2.ixN
    rw [if_pos (Int.natCast_nonneg r), if_pos (Int.ofNat_lt.mpr hr), Int.toNat_natCast]
  have e2 : ((List.range h).map fun i => D.lst true ((List.range w).map fun j => D.str [G i j]))[r]? = some (.lst true ((List.range w).map fun j => D.str [G r j])) := by
    rw [List.getElem?_map, List.getElem?_range hr]; rfl
  unfold bd
  rw [modD, l1, e, Option.bind_some, e2, Option.bind_some, modD, if_pos (show (D.lst true _).fl = true from rfl), setix_str (by rw [List.length_map, List.length_range]; exact hc)]
  show some ((), D.lst true _) = _
  rw [range_set _ _ _ _ hr]
  refine congrArg (fun z => some ((), D.lst true z)) ?_
  refine List.map_congr_left fun i hi => ?_
  by_cases e3 : i = r
  · subst e3
    rw [if_pos rfl, range_set _ _ _ _ hc]
    refine congrArg (D.lst true) ?_
    refine List.map_congr_left fun j hj => ?_
    unfold updG
    by_cases e4 : j = c
    · subst e4
      rw [if_pos rfl, if_pos ⟨rfl, rfl⟩]
    · rw [if_neg e4, if_neg fun x => e4 x.2]
  · rw [if_neg e3]
    refine congrArg (D.lst true) ?_
    refine List.map_congr_left fun j hj => ?_
    unfold updG
    rw [if_neg fun x => e3 x.1]
/-- a mark laid on a board -/
theorem bd_ok {ρ : Rho} {i : Nat} {h w : Nat} {G : Nat → Nat → Nat} {r c v : Nat} {Q : Unit → Rho → Prop} {E : Nat → Rho → Prop} (hg : ρ.get i = some (bd h w G)) (hr : r < h) (hc : c < w) (q : Q () (ρ.set i (some (bd h w (updG G r c v))))) : okR (ρ.mod i [.k (.int (r : Int))] (setixF (.int (c : Int)) (.str [v]))) Q E := by
  unfold Rho.mod
  rw [hg, Option.bind_some, bd_set hr hc]
  exact q
theorem dnm_ok {o : Bool} (A : List (Ce × Nat)) (p : Ce) : o_nmem [ce p, .dic o 1 (A.map fun x => ce x.1) (A.map fun x => .str [x.2])] = some (.bl (!(getA p A).isSome)) := by
  show (if keyOk 1 (ce p) = true then some (D.bl (!(lookD (ce p) (A.map fun x => ce x.1) (A.map fun x => .str [x.2])).isSome)) else none) = _
  rw [if_pos (ce_key p), look_A]
  cases getA p A <;> rfl
theorem dmem_ok {o : Bool} (A : List (Ce × Nat)) (p : Ce) : o_mem [ce p, .dic o 1 (A.map fun x => ce x.1) (A.map fun x => .str [x.2])] = some (.bl (getA p A).isSome) := by
  show (if keyOk 1 (ce p) = true then some (D.bl (lookD (ce p) (A.map fun x => ce x.1) (A.map fun x => .str [x.2])).isSome) else none) = _
  rw [if_pos (ce_key p), look_A]
  cases getA p A <;> rfl
theorem aug_str {s t : List Nat} (h : s.length + t.length ≤ lim) : augF .add (.str s) (.str t) = some (.str (s ++ t)) := if_pos h
theorem dget2_ok {o : Bool} (A : List (Ce × Nat)) (p : Ce) (c : Nat) : o_get2 [.dic o 1 (A.map fun x => ce x.1) (A.map fun x => .str [x.2]), ce p, .str [c]] = some (.str [(getA p A).getD c]) := by
  show (if keyOk 1 (ce p) = true then match lookD (ce p) (A.map fun x => ce x.1) (A.map fun x => .str [x.2]) with | some d => if d.fl then none else some d | none => some (.str [c]) else none) = _
  rw [if_pos (ce_key p), look_A]
  cases getA p A <;> rfl
/-- for k, x in enumerate(..) -/
theorem for_enu {α : Type} {f : D → Rho → Ks → Prop} {l : List α} {e : α → D} {ρ : Rho} {K : Ks} (J : Nat → Rho → Prop) (h0 : J 0 ρ) (hs : ∀ i a ρ, l[i]? = some a → J i ρ → f (.tup false [.int (i : Int), e a]) ρ { K with nx := J (i + 1), ct := J (i + 1), bk := K.nx }) (hq : ∀ ρ, J l.length ρ → K.nx ρ) : vFor f (itemsOf.numb (l.map e)) ρ K := by
  have len : (itemsOf.numb (l.map e)).length = l.length := by
    unfold itemsOf.numb
    rw [List.length_zipWith, List.length_range, List.length_map, Nat.min_self]
  refine ⟨J, h0, fun i d ρ hx hj => ?_, fun ρ hj => hq ρ (by rw [len] at hj; exact hj)⟩
  have hi : i < l.length := by rw [← len]; exact (List.getElem?_eq_some_iff.mp hx).1
  unfold itemsOf.numb at hx
  rw [List.getElem?_zipWith, List.getElem?_range (by rw [List.length_map]; exact hi), List.getElem?_map, List.getElem?_eq_getElem hi] at hx
  have e1 : D.tup false [.int (i : Int), e l[i]] = d := by simpa using hx
  rw [← e1]
  exact hs i l[i] ρ (List.getElem?_eq_getElem hi) hj
theorem enu_tup {α : Type} {l : List α} {f : α → D} (hf : ∀ a, (f a).fl = false) (o : Bool) : itemsOf true (.lst o (l.map f)) = some (itemsOf.numb (l.map f)) := if_pos (map_unfl hf l)
theorem frzs_mapG {α : Type} (f : α → D) : ∀ l : List α, frzs (l.map f) = l.map fun a => (f a).frz
  | [] => rfl
  | a :: l => by rw [List.map_cons, frzs, frzs_mapG f l]; rfl
theorem bd_frz (h w : Nat) (G : Nat → Nat → Nat) : (bd h w G).frz = .lst false ((List.range h).map fun i => .lst false ((List.range w).map fun j => .str [G i j])) := by
  unfold bd
  rw [D.frz, if_pos rfl, frzs_mapG]
  refine congrArg (D.lst false) (List.map_congr_left fun i _ => ?_)
  rw [frz_lst (fun _ => rfl)]
theorem bd_congr {h w : Nat} {G G' : Nat → Nat → Nat} (e : ∀ i, i < h → ∀ j, j < w → G i j = G' i j) : bd h w G = bd h w G' := by
  unfold bd
  refine congrArg (D.lst true) (List.map_congr_left fun i hi => congrArg (D.lst true) (List.map_congr_left fun j hj => ?_))
  rw [e i (List.mem_range.mp hi) j (List.mem_range.mp hj)]
theorem bd_mut {ρ : Rho} {i : Nat} {h w : Nat} {G : Nat → Nat → Nat} {r : Nat} (hg : ρ.get i = some (bd h w G)) (hr : r < h) : mutAt ρ i [.k (.int (r : Int))] = true := by
  have l1 : ((List.range h).map fun i => D.lst true ((List.range w).map fun j => D.str [G i j])).length = h := by rw [List.length_map, List.length_range]
  have e : L2.ixN h (r : Int) = some r := by
    unfold L2.ixN
    rw [if_pos (Int.natCast_nonneg r), if_pos (Int.ofNat_lt.mpr hr), Int.toNat_natCast]
  have e2 : ((List.range h).map fun i => D.lst true ((List.range w).map fun j => D.str [G i j]))[r]? = some (.lst true ((List.range w).map fun j => D.str [G r j])) := by
    rw [List.getElem?_map, List.getElem?_range hr]; rfl
  unfold mutAt
  rw [hg, Option.bind_some]
  unfold bd
  rw [modD, l1, e, Option.bind_some, e2, Option.bind_some, modD, if_pos (show (D.lst true _).fl = true from rfl)]
  rfl
end MP

set_option autoImplicit false
set_option linter.all false
set_option maxRecDepth 100000
/-! MP: dicts of cells and anything. -/
namespace MP
open PySem

section
variable {β : Type} (e : β → D)
def getB (p : Ce) : List (Ce × β) → Option β
  | [] => none
  | x :: A => if x.1 = p then some x.2 else getB p A
def putB (p : Ce) (c : β) : List (Ce × β) → List (Ce × β)
  | [] => [(p, c)]
  | x :: A => if x.1 = p then (x.1, c) :: A else x :: putB p c A
theorem getB_put (p q : Ce) (c : β) : ∀ A, getB q (putB p c A) = if p = q then some c else getB q A
  | [] => by simp [putB, getB]
  | x :: A => by
    by_cases h : x.1 = p
    · rw [putB, if_pos h, getB, getB]
      by_cases h2 : p = q
      · rw [if_pos (h.trans h2), if_pos h2]
      · rw [if_neg (fun e => h2 (h.symm.trans e)), if_neg h2, if_neg (fun e => h2 (h.symm.trans e))]
    · rw [putB, if_neg h, getB, getB, getB_put p q c A]
      by_cases h2 : p = q
      · rw [if_pos h2, if_neg (fun e => h (e.trans h2.symm)), if_pos h2]
      · rw [if_neg h2, if_neg h2]
theorem putB_len (p : Ce) (c : β) : ∀ A, (putB p c A).length ≤ A.length + 1
  | [] => by simp [putB]
  | x :: A => by
    rw [putB]
    split
    · simp
    · have := putB_len p c A
      simp only [List.length_cons]
      omega
theorem putB_vals {B : β → Prop} (p : Ce) (c : β) (hc : B c) : ∀ A : List (Ce × β), (∀ x ∈ A, B x.2) → ∀ x ∈ putB p c A, B x.2
  | [], _, x, hx => by rw [show x = (p, c) from List.mem_singleton.mp hx]; exact hc
  | y :: A, h, x, hx => by
    rw [putB] at hx
    split at hx
    · rcases List.mem_cons.mp hx with q | q
      · rw [q]; exact hc
      · exact h x (List.mem_cons_of_mem _ q)
    · rcases List.mem_cons.mp hx with q | q
      · rw [q]; exact h y List.mem_cons_self
      · exact putB_vals p c hc A (fun z hz => h z (List.mem_cons_of_mem _ hz)) x q
theorem getB_mem {p : Ce} {c : β} : ∀ {A : List (Ce × β)}, getB p A = some c → (p, c) ∈ A
  | x :: A, h => by
    rw [getB] at h
    split at h
    · rename_i q
      cases h
      rw [← q]
      exact List.mem_cons_self
    · exact List.mem_cons_of_mem _ (getB_mem h)
theorem getB_key {p : Ce} : ∀ {A : List (Ce × β)}, (∃ x ∈ A, x.1 = p) → ∃ c, getB p A = some c
  | x :: A, ⟨y, hy, e⟩ => by
    rw [getB]
    by_cases q : x.1 = p
    · rw [if_pos q]; exact ⟨_, rfl⟩
    · rw [if_neg q]
      rcases List.mem_cons.mp hy with z | z
      · rw [z] at e; exact absurd e q
      · exact getB_key ⟨y, z, e⟩
abbrev dB (o : Bool) (A : List (Ce × β)) : D := .dic o 1 (A.map fun x => ce x.1) (A.map fun x => e x.2)
variable {e}
theorem look_B (p : Ce) : ∀ A : List (Ce × β), lookD (ce p) (A.map fun x => ce x.1) (A.map fun x => e x.2) = (getB p A).map e
  | [] => rfl
  | x :: A => by
    rw [List.map_cons, List.map_cons, lookD, ce_eq, getB, look_B p A]
    by_cases h : x.1 = p
    · rw [decide_eq_true h, if_pos rfl, if_pos h]; rfl
    · rw [decide_eq_false h, if_neg Bool.false_ne_true, if_neg h]
theorem set_B (p : Ce) (c : β) : ∀ A : List (Ce × β), setD (ce p) (e c) (A.map fun x => ce x.1) (A.map fun x => e x.2) = ((putB p c A).map (fun x => ce x.1), (putB p c A).map fun x => e x.2)
  | [] => rfl
  | x :: A => by
    rw [List.map_cons, List.map_cons, setD, ce_eq, putB, set_B p c A]
    by_cases h : x.1 = p
    · rw [decide_eq_true h, if_pos rfl, if_pos h]; rfl
    · rw [decide_eq_false h, if_neg Bool.false_ne_true, if_neg h]; rfl
theorem setB_ok (he : ∀ c, (e c).fl = false) {ρ : Rho} {i : Nat} {A : List (Ce × β)} {p : Ce} {c : β} {Q : Unit → Rho → Prop} {E : Nat → Rho → Prop} (h : ρ.get i = some (dB e true A)) (hl : A.length < lim) (q : Q () (ρ.set i (some (dB e true (putB p c A))))) : okR (ρ.mod i [] (setixF (ce p) (e c))) Q E := by
  unfold Rho.mod
  have e1 : setixF (ce p) (e c) (dB e true A) = some ((), dB e true (putB p c A)) := by
    show (if (keyOk 1 (ce p) && decide ((A.map fun x => ce x.1).length < lim) && !(e c).fl) = true then _ else none) = _
    rw [if_pos (by rw [ce_key, List.length_map, decide_eq_true hl, he]; rfl)]
    rw [set_B]
  rw [h, Option.bind_some, modD, if_pos (show (dB e true A).fl = true from rfl), e1]
  exact q
theorem ixB_ok (he : ∀ c, (e c).fl = false) {o : Bool} {A : List (Ce × β)} {p : Ce} {c : β} (h : getB p A = some c) : o_ix [dB e o A, ce p] = some (e c) := by
  show (if keyOk 1 (ce p) = true then (lookD (ce p) (A.map fun x => ce x.1) (A.map fun x => e x.2)).bind (fun d => if d.fl = true then none else some d) else none) = _
  rw [if_pos (ce_key p), look_B, h]
  show (if (e c).fl = true then none else some (e c)) = _
  rw [he]
  rfl
theorem memB_ok {o : Bool} (A : List (Ce × β)) (p : Ce) : o_mem [ce p, dB e o A] = some (.bl (getB p A).isSome) := by
  show (if keyOk 1 (ce p) = true then some (D.bl (lookD (ce p) (A.map fun x => ce x.1) (A.map fun x => e x.2)).isSome) else none) = _
  rw [if_pos (ce_key p), look_B]
  cases getB p A <;> rfl
theorem nmemB_ok {o : Bool} (A : List (Ce × β)) (p : Ce) : o_nmem [ce p, dB e o A] = some (.bl (!(getB p A).isSome)) := by
  show (if keyOk 1 (ce p) = true then some (D.bl (!(lookD (ce p) (A.map fun x => ce x.1) (A.map fun x => e x.2)).isSome)) else none) = _
  rw [if_pos (ce_key p), look_B]
  cases getB p A <;> rfl
theorem get2B_ok (he : ∀ c, (e c).fl = false) {o : Bool} (A : List (Ce × β)) (p : Ce) {d : D} (hd : d.fl = false) : o_get2 [dB e o A, ce p, d] = some (((getB p A).map e).getD d) := by
  show (if keyOk 1 (ce p) = true then match lookD (ce p) (A.map fun x => ce x.1) (A.map fun x => e x.2) with | some d => if d.fl then none else some d | none => if d.fl then none else some d else none) = _
  rw [if_pos (ce_key p), look_B]
  cases getB p A with
  | none =>
    show (if d.fl = true then none else some d) = _
    rw [hd]
    rfl
  | some c =>
    show (if (e c).fl = true then none else some (e c)) = _
    rw [he]
    rfl
/-- the cells of a dict, in order -/
theorem sortB_ok {o : Bool} (A : List (Ce × β)) : i_sorted [dB e o A] = some (.lst true (sortD ((A.map (·.1)).map ce))) := by
  have e1 : (A.map fun x => ce x.1) = (A.map (·.1)).map ce := by rw [List.map_map]; rfl
  show (if (sortOk (A.map fun x => ce x.1) && (A.map fun x => ce x.1).all intKey) = true then some (D.lst true (sortD (A.map fun x => ce x.1))) else none) = _
  rw [e1, ces_sort, Bool.true_and, if_pos]
  rw [List.all_eq_true]
  intro d hd
  obtain ⟨p, _, rfl⟩ := List.mem_map.mp hd
  rfl
end
/-- pairs of signs -/
def prD (p : Nat × Nat) : D := .tup false [.str [p.1], .str [p.2]]
theorem pr_alike (a b : Nat × Nat) : PySem.W.alike (prD a).toP (prD b).toP = true := by simp [prD, D.toP, toPs, PySem.W.alike, PySem.W.alikeAll]
theorem pr_sh {p : Nat × Nat} (h : p.1 < 1114112 ∧ p.2 < 1114112) (n : Nat) : (prD p).sh (n + 1) = true := by
  show (([p.1].all fun c => decide (c < 1114112)) && (([p.2].all fun c => decide (c < 1114112)) && true)) = true
  simp [h.1, h.2]
theorem prs_sort {l : List (Nat × Nat)} (h : ∀ p ∈ l, p.1 < 1114112 ∧ p.2 < 1114112) (o : Bool) : i_sorted [.lst o (l.map prD)] = some (.lst true (sortD (l.map prD))) := by
  show (if (sortOk (l.map prD) && unfl (l.map prD)) = true then some (D.lst true (sortD (l.map prD))) else none) = _
  rw [map_unfl (fun _ => rfl), Bool.and_true, if_pos]
  unfold sortOk
  simp only [Bool.and_eq_true, Bool.or_eq_true]
  refine ⟨⟨List.all_eq_true.mpr fun d hd => ?_, List.all_eq_true.mpr fun d hd => List.all_eq_true.mpr fun e he => ?_⟩, .inl (List.all_eq_true.mpr fun d hd => ?_)⟩
  · obtain ⟨p, hp, rfl⟩ := List.mem_map.mp hd
    exact pr_sh (h p hp) 59
  · obtain ⟨p, hp, rfl⟩ := List.mem_map.mp hd
    obtain ⟨q, hq, rfl⟩ := List.mem_map.mp he
    exact pr_alike p q
  · obtain ⟨p, hp, rfl⟩ := List.mem_map.mp hd
    rfl
theorem prs_nice {l : List (Nat × Nat)} (h : ∀ p ∈ l, p.1 < 1114112 ∧ p.2 < 1114112) : (l.map prD).all nice = true := List.all_eq_true.mpr fun d hd => by
  obtain ⟨p, hp, rfl⟩ := List.mem_map.mp hd
  exact pr_sh (h p hp) 59
theorem sgs_sort {l : List Nat} (h : ∀ c ∈ l, c < 1114112) (o : Bool) : i_sorted [.lst o (l.map sgE)] = some (.lst true (sortD (l.map sgE))) := by
  show (if (sortOk (l.map sgE) && unfl (l.map sgE)) = true then some (D.lst true (sortD (l.map sgE))) else none) = _
  rw [map_unfl (fun _ => rfl), Bool.and_true, if_pos]
  unfold sortOk
  simp only [Bool.and_eq_true, Bool.or_eq_true]
  refine ⟨⟨List.all_eq_true.mpr fun d hd => ?_, List.all_eq_true.mpr fun d hd => List.all_eq_true.mpr fun e he => ?_⟩, .inr (List.all_eq_true.mpr fun d hd => ?_)⟩
  · obtain ⟨c, hc, rfl⟩ := List.mem_map.mp hd
    exact nice_sign (h c hc)
  · obtain ⟨c, hc, rfl⟩ := List.mem_map.mp hd
    obtain ⟨k, hk, rfl⟩ := List.mem_map.mp he
    simp [sgE, D.toP, PySem.W.alike]
  · obtain ⟨c, hc, rfl⟩ := List.mem_map.mp hd
    rfl
/-- nothing but going on -/
def Ks.only (J : Rho → Prop) : Ks := ⟨J, fun _ _ => False, fun _ => False, fun _ => False, fun _ _ => False⟩
/-- a statement that goes on, then the rest: what stands behind is kept out of sight -/
theorem only {T : Tab} {Φ : Nat → List D → FR} {a b : CS} {ρ : Rho} {K : Ks} (J : Rho → Prop) (h1 : vS T Φ a ρ (Ks.only J)) (h2 : ∀ ρ, J ρ → vS T Φ b ρ K) : vS T Φ (.seq a b) ρ K := by
  rw [vS]
  exact vS_le a h1 ⟨h2, fun _ _ h => h.elim, fun _ h => h.elim, fun _ h => h.elim, fun _ _ h => h.elim⟩
end MP

set_option linter.all false
namespace MP.k15
open PySem MP
set_option maxRecDepth 100000
def f_formed : Fn := { name := "formed", kind := 0, cls := "", np := 1, ref := [false], dfl := [], names := ["spots", "top", "left", "spot", "row", "column", "sign"], body :=
  (.seq (.asg (.nm 1) (.op .min1 (.cons (.comp (.op .ix (.cons (.rd 3 []) (.cons (.k (.int 0)) .nil))) (.nm 3) (.se (.rd 0 [])) .none [3]) .nil))) (.seq (.asg (.nm 2) (.op .min1 (.cons (.comp (.op .ix (.cons (.rd 3 []) (.cons (.k (.int 1)) .nil))) (.nm 3) (.se (.rd 0 [])) .none [3]) .nil))) (.seq (.ret (.op .tuple (.cons (.op .sorted (.cons (.comp (.tup (.cons (.op .sub (.cons (.rd 4 []) (.cons (.rd 1 []) .nil))) (.cons (.op .sub (.cons (.rd 5 []) (.cons (.rd 2 []) .nil))) (.cons (.rd 6 []) .nil)))) (.cons (.nm 4) (.cons (.nm 5) (.cons (.nm 6) .nil))) (.se (.rd 0 [])) .none [4, 5, 6]) .nil)) .nil))) .nil))) }
def f_height : Fn := { name := "height", kind := 0, cls := "", np := 1, ref := [false], dfl := [], names := ["spots", "spot"], body :=
  (.seq (.ret (.op .add (.cons (.op .max1 (.cons (.comp (.op .ix (.cons (.rd 1 []) (.cons (.k (.int 0)) .nil))) (.nm 1) (.se (.rd 0 [])) .none [1]) .nil)) (.cons (.k (.int 1)) .nil)))) .nil) }
def f_width : Fn := { name := "width", kind := 0, cls := "", np := 1, ref := [false], dfl := [], names := ["spots", "spot"], body :=
  (.seq (.ret (.op .add (.cons (.op .max1 (.cons (.comp (.op .ix (.cons (.rd 1 []) (.cons (.k (.int 1)) .nil))) (.nm 1) (.se (.rd 0 [])) .none [1]) .nil)) (.cons (.k (.int 1)) .nil)))) .nil) }
def f_cell_turned : Fn := { name := "cell_turned", kind := 0, cls := "", np := 4, ref := [false, false, false, false], dfl := [], names := ["cell", "t", "high", "wide", "row", "column", "quarter"], body :=
  (.seq (.asg (.cons (.nm 4) (.cons (.nm 5) .nil)) (.rd 0 [])) (.seq (.ife (.op .ge (.cons (.rd 1 []) (.cons (.k (.int 4)) .nil))) (.seq (.asg (.nm 5) (.op .sub (.cons (.op .sub (.cons (.rd 3 []) (.cons (.k (.int 1)) .nil))) (.cons (.rd 5 []) .nil)))) .nil) .nil) (.seq (.for_ (.nm 6) (.rng1 (.op .mod (.cons (.rd 1 []) (.cons (.k (.int 4)) .nil)))) (.seq (.asg (.cons (.nm 4) (.cons (.nm 5) .nil)) (.tup (.cons (.rd 5 []) (.cons (.op .sub (.cons (.op .sub (.cons (.rd 2 []) (.cons (.k (.int 1)) .nil))) (.cons (.rd 4 []) .nil))) .nil)))) (.seq (.asg (.cons (.nm 2) (.cons (.nm 3) .nil)) (.tup (.cons (.rd 3 []) (.cons (.rd 2 []) .nil)))) (.seq (.kill [6]) .nil)))) (.seq (.kill [2, 3, 6]) (.seq (.ret (.tup (.cons (.rd 4 []) (.cons (.rd 5 []) .nil)))) .nil))))) }
def f_turned : Fn := { name := "turned", kind := 0, cls := "", np := 2, ref := [false, false], dfl := [], names := ["form", "t", "high", "wide", "spot"], body :=
  (.seq (.asg (.nm 2) (.call 1 (.cons (.rd 0 []) .nil))) (.seq (.asg (.nm 3) (.call 2 (.cons (.rd 0 []) .nil))) (.seq (.ret (.call 0 (.cons (.fz (.comp (.op .add (.cons (.call 3 (.cons (.fz (.op (.sl false true) (.cons (.rd 4 []) (.cons (.k (.int 2)) .nil)))) (.cons (.rd 1 []) (.cons (.rd 2 []) (.cons (.rd 3 []) .nil))))) (.cons (.tup (.cons (.op .ix (.cons (.rd 4 []) (.cons (.k (.int 2)) .nil))) .nil)) .nil))) (.nm 4) (.se (.rd 0 [])) .none [4])) .nil))) .nil))) }
def f_forms_of : Fn := { name := "forms_of", kind := 0, cls := "", np := 2, ref := [false, false], dfl := [], names := ["form", "mode", "many", "t"], body :=
  (.seq (.asg (.nm 2) (.op .ix (.cons (.dic 0 (.cons (.k (.str [115, 116, 105, 108, 108])) (.cons (.k (.int 1)) (.cons (.k (.str [116, 117, 114, 110])) (.cons (.k (.int 4)) (.cons (.k (.str [102, 108, 105, 112])) (.cons (.k (.int 8)) .nil))))))) (.cons (.rd 1 []) .nil)))) (.seq (.ret (.op .sortset (.cons (.comp (.call 4 (.cons (.rd 0 []) (.cons (.rd 3 []) .nil))) (.nm 3) (.rng1 (.rd 2 [])) .none [3]) .nil))) .nil)) }
def f_is_open : Fn := { name := "is_open", kind := 0, cls := "", np := 2, ref := [false, false], dfl := [], names := ["floor", "cell", "row", "column"], body :=
  (.seq (.asg (.cons (.nm 2) (.cons (.nm 3) .nil)) (.rd 1 [])) (.seq (.ife (.or_ (.not_ (.chain .le .lt (.k (.int 0)) (.rd 2 []) (.op .len (.cons (.rd 0 []) .nil)))) (.not_ (.chain .le .lt (.k (.int 0)) (.rd 3 []) (.op .len (.cons (.op .ix (.cons (.rd 0 []) (.cons (.k (.int 0)) .nil))) .nil))))) (.seq (.ret (.k (.bl false))) .nil) .nil) (.seq (.ret (.op .ne (.cons (.op .ix (.cons (.op .ix (.cons (.rd 0 []) (.cons (.rd 2 []) .nil))) (.cons (.rd 3 []) .nil))) (.cons (.k (.str [35])) .nil)))) .nil))) }
def f_wanted : Fn := { name := "wanted", kind := 0, cls := "", np := 2, ref := [false, false], dfl := [], names := ["floor", "cell", "sign"], body :=
  (.seq (.asg (.nm 2) (.op .ix (.cons (.op .ix (.cons (.rd 0 []) (.cons (.op .ix (.cons (.rd 1 []) (.cons (.k (.int 0)) .nil))) .nil))) (.cons (.op .ix (.cons (.rd 1 []) (.cons (.k (.int 1)) .nil))) .nil)))) (.seq (.ife (.op .mem (.cons (.rd 2 []) (.cons (.k (.str [35, 46, 44])) .nil))) (.seq (.ret (.k .non)) .nil) .nil) (.seq (.ret (.meth .upper (.rd 2 []) .nil)) .nil))) }
def f_may_lie : Fn := { name := "may_lie", kind := 0, cls := "", np := 2, ref := [false, false], dfl := [], names := ["floor", "spots", "row", "column", "sign"], body :=
  (.seq (.for_ (.cons (.nm 2) (.cons (.nm 3) (.cons (.nm 4) .nil))) (.se (.rd 1 [])) (.seq (.ife (.or_ (.not_ (.call 6 (.cons (.rd 0 []) (.cons (.tup (.cons (.rd 2 []) (.cons (.rd 3 []) .nil))) .nil)))) (.op .nmem (.cons (.call 7 (.cons (.rd 0 []) (.cons (.tup (.cons (.rd 2 []) (.cons (.rd 3 []) .nil))) .nil))) (.cons (.tup (.cons (.k .non) (.cons (.rd 4 []) .nil))) .nil)))) (.seq (.ret (.k (.bl false))) .nil) .nil) (.seq (.kill [2, 3, 4]) .nil))) (.seq (.kill [2, 3, 4]) (.seq (.ret (.k (.bl true))) .nil))) }
def f_shifted : Fn := { name := "shifted", kind := 0, cls := "", np := 3, ref := [false, false, false], dfl := [], names := ["form", "down", "right", "row", "column", "sign"], body :=
  (.seq (.ret (.op .tuple (.cons (.comp (.fz (.tup (.cons (.fz (.op .add (.cons (.rd 3 []) (.cons (.rd 1 []) .nil)))) (.cons (.fz (.op .add (.cons (.rd 4 []) (.cons (.rd 2 []) .nil)))) (.cons (.rd 5 []) .nil))))) (.cons (.nm 3) (.cons (.nm 4) (.cons (.nm 5) .nil))) (.se (.rd 0 [])) .none [3, 4, 5]) .nil))) .nil) }
def f_placements : Fn := { name := "placements", kind := 0, cls := "", np := 1, ref := [false], dfl := [], names := ["puzzle", "floor", "kinds", "found", "number", "kind", "form", "down", "right", "spots"], body :=
  (.seq (.asg (.cons (.nm 1) (.cons (.nm 2) .nil)) (.tup (.cons (.op .ix (.cons (.rd 0 []) (.cons (.k (.int 0)) .nil))) (.cons (.op .ix (.cons (.rd 0 []) (.cons (.k (.int 1)) .nil))) .nil)))) (.seq (.asg (.nm 3) (.lst .nil)) (.seq (.for_ (.cons (.nm 4) (.cons (.nm 5) .nil)) (.enu (.rd 2 [])) (.seq (.for_ (.nm 6) (.se (.fz (.call 5 (.cons (.op .ix (.cons (.rd 5 []) (.cons (.k (.int 4)) .nil))) (.cons (.op .ix (.cons (.rd 5 []) (.cons (.k (.int 3)) .nil))) .nil))))) (.seq (.for_ (.nm 7) (.rng1 (.op .len (.cons (.rd 1 []) .nil))) (.seq (.for_ (.nm 8) (.rng1 (.op .len (.cons (.op .ix (.cons (.rd 1 []) (.cons (.k (.int 0)) .nil))) .nil))) (.seq (.asg (.nm 9) (.call 9 (.cons (.rd 6 []) (.cons (.rd 7 []) (.cons (.rd 8 []) .nil))))) (.seq (.ife (.call 8 (.cons (.rd 1 []) (.cons (.rd 9 []) .nil))) (.seq (.ex (.mut (.sl 3) .app (.cons (.tup (.cons (.rd 9 []) (.cons (.rd 4 []) .nil))) .nil))) .nil) .nil) (.seq (.kill [8, 9]) .nil)))) (.seq (.kill [8, 9]) (.seq (.kill [7, 8, 9]) .nil)))) (.seq (.kill [7, 8, 9]) (.seq (.kill [6, 7, 8, 9]) .nil)))) (.seq (.kill [6, 7, 8, 9]) (.seq (.kill [4, 5, 6, 7, 8, 9]) .nil)))) (.seq (.kill [4, 5, 6, 7, 8, 9]) (.seq (.ret (.op .sorted (.cons (.rd 3 []) .nil))) .nil))))) }
def f__law_cell_at : Fn := { name := "_law_cell_at", kind := 0, cls := "", np := 2, ref := [false, false], dfl := [], names := ["_law_script", "_law_k"], body :=
  (.seq (.ife (.op .lt (.cons (.rd 1 []) (.cons (.op .len (.cons (.rd 0 []) .nil)) .nil))) (.seq (.ret (.op .ix (.cons (.rd 0 []) (.cons (.rd 1 []) .nil)))) .nil) .nil) (.seq (.ret (.k (.int 0))) .nil)) }
def f__law_mixed : Fn := { name := "_law_mixed", kind := 0, cls := "", np := 2, ref := [false, false], dfl := [], names := ["_law_cell", "_law_many", "_law_found", "_law_number", "_law_k"], body :=
  (.seq (.asg (.nm 2) (.lst .nil)) (.seq (.asg (.nm 3) (.op .add (.cons (.op .mul (.cons (.op .mod (.cons (.rd 0 []) (.cons (.k (.int 2305843009213693951)) .nil))) (.cons (.k (.int 1000000007)) .nil))) (.cons (.k (.int 15485863)) .nil)))) (.seq (.for_ (.nm 4) (.rng1 (.rd 1 [])) (.seq (.asg (.nm 3) (.op .mod (.cons (.op .add (.cons (.op .add (.cons (.op .mul (.cons (.rd 3 []) (.cons (.op .add (.cons (.rd 3 []) (.cons (.k (.int 32452843)) .nil))) .nil))) (.cons (.op .mul (.cons (.k (.int 17)) (.cons (.rd 4 []) .nil))) .nil))) (.cons (.k (.int 7)) .nil))) (.cons (.k (.int 2305843009213693951)) .nil)))) (.seq (.ex (.mut (.sl 2) .app (.cons (.rd 3 []) .nil))) (.seq (.kill [4]) .nil)))) (.seq (.kill [3, 4]) (.seq (.ret (.mv 2)) .nil))))) }
def f__law_formed : Fn := { name := "_law_formed", kind := 0, cls := "", np := 1, ref := [false], dfl := [], names := ["_law_spots", "_law_top", "_law_left", "_law_row", "_law_column", "_law_sign"], body :=
  (.seq (.asg (.nm 1) (.op .min1 (.cons (.comp (.rd 3 []) (.cons (.nm 3) (.cons (.nm 4) (.cons (.nm 5) .nil))) (.se (.rd 0 [])) .none [3, 4, 5]) .nil))) (.seq (.asg (.nm 2) (.op .min1 (.cons (.comp (.rd 4 []) (.cons (.nm 3) (.cons (.nm 4) (.cons (.nm 5) .nil))) (.se (.rd 0 [])) .none [3, 4, 5]) .nil))) (.seq (.ret (.op .tuple (.cons (.op .sorted (.cons (.comp (.tup (.cons (.op .sub (.cons (.rd 3 []) (.cons (.rd 1 []) .nil))) (.cons (.op .sub (.cons (.rd 4 []) (.cons (.rd 2 []) .nil))) (.cons (.rd 5 []) .nil)))) (.cons (.nm 3) (.cons (.nm 4) (.cons (.nm 5) .nil))) (.se (.rd 0 [])) .none [3, 4, 5]) .nil)) .nil))) .nil))) }
def f__law_form : Fn := { name := "_law_form", kind := 0, cls := "", np := 3, ref := [false, false, false], dfl := [], names := ["_law_x", "_law_letters_here", "_law_most", "_law_xs", "_law_cells", "_law_y", "_law_cell", "_law_step"], body :=
  (.seq (.asg (.nm 3) (.fz (.call 12 (.cons (.rd 0 []) (.cons (.k (.int 13)) .nil))))) (.seq (.asg (.nm 4) (.lst (.cons (.tup (.cons (.k (.int 0)) (.cons (.k (.int 0)) .nil))) .nil))) (.seq (.for_ (.nm 5) (.se (.fz (.op (.sl true true) (.cons (.rd 3 []) (.cons (.k (.int 1)) (.cons (.op .add (.cons (.k (.int 1)) (.cons (.op .mod (.cons (.op .ix (.cons (.rd 3 []) (.cons (.k (.int 0)) .nil))) (.cons (.rd 2 []) .nil))) .nil))) .nil)))))) (.seq (.asg (.nm 6) (.op .ix (.cons (.rd 4 []) (.cons (.op .mod (.cons (.rd 5 []) (.cons (.op .len (.cons (.rd 4 []) .nil)) .nil))) .nil)))) (.seq (.asg (.nm 7) (.op .ix (.cons (.lst (.cons (.tup (.cons (.k (.int 0)) (.cons (.k (.int 1)) .nil))) (.cons (.tup (.cons (.k (.int 1)) (.cons (.k (.int 0)) .nil))) (.cons (.tup (.cons (.k (.int 0)) (.cons (.op .neg (.cons (.k (.int 1)) .nil)) .nil))) (.cons (.tup (.cons (.op .neg (.cons (.k (.int 1)) .nil)) (.cons (.k (.int 0)) .nil))) .nil))))) (.cons (.op .mod (.cons (.op .fdiv (.cons (.rd 5 []) (.cons (.k (.int 8)) .nil))) (.cons (.k (.int 4)) .nil))) .nil)))) (.seq (.asg (.nm 6) (.fz (.tup (.cons (.fz (.op .add (.cons (.op .ix (.cons (.rd 6 []) (.cons (.k (.int 0)) .nil))) (.cons (.op .ix (.cons (.rd 7 []) (.cons (.k (.int 0)) .nil))) .nil)))) (.cons (.fz (.op .add (.cons (.op .ix (.cons (.rd 6 []) (.cons (.k (.int 1)) .nil))) (.cons (.op .ix (.cons (.rd 7 []) (.cons (.k (.int 1)) .nil))) .nil)))) .nil))))) (.seq (.ife (.op .nmem (.cons (.rd 6 []) (.cons (.rd 4 []) .nil))) (.seq (.ex (.mut (.sl 4) .app (.cons (.rd 6 []) .nil))) .nil) .nil) (.seq (.kill [7]) .nil)))))) (.seq (.kill [7]) (.seq (.frz 4 []) (.seq (.ret (.call 13 (.cons (.fz (.comp (.tup (.cons (.op .ix (.cons (.rd 6 []) (.cons (.k (.int 0)) .nil))) (.cons (.op .ix (.cons (.rd 6 []) (.cons (.k (.int 1)) .nil))) (.cons (.op .ix (.cons (.rd 1 []) (.cons (.op .mod (.cons (.rd 5 []) (.cons (.op .len (.cons (.rd 1 []) .nil)) .nil))) .nil))) .nil)))) (.cons (.nm 6) (.cons (.nm 5) .nil)) (.zip (.rd 4 []) (.fz (.op (.sl true false) (.cons (.rd 3 []) (.cons (.k (.int 7)) .nil))))) .none [6, 5])) .nil))) .nil)))))) }
def f__law_turned : Fn := { name := "_law_turned", kind := 0, cls := "", np := 2, ref := [false, false], dfl := [], names := ["_law_spots", "_law_t", "_law_quarter", "_law_row", "_law_column", "_law_sign"], body :=
  (.seq (.ife (.op .ge (.cons (.rd 1 []) (.cons (.k (.int 4)) .nil))) (.seq (.asg (.nm 0) (.fz (.comp (.tup (.cons (.rd 3 []) (.cons (.op .neg (.cons (.rd 4 []) .nil)) (.cons (.rd 5 []) .nil)))) (.cons (.nm 3) (.cons (.nm 4) (.cons (.nm 5) .nil))) (.se (.rd 0 [])) .none [3, 4, 5]))) .nil) .nil) (.seq (.for_ (.nm 2) (.rng1 (.op .mod (.cons (.rd 1 []) (.cons (.k (.int 4)) .nil)))) (.seq (.asg (.nm 0) (.fz (.comp (.tup (.cons (.rd 4 []) (.cons (.op .neg (.cons (.rd 3 []) .nil)) (.cons (.rd 5 []) .nil)))) (.cons (.nm 3) (.cons (.nm 4) (.cons (.nm 5) .nil))) (.se (.rd 0 [])) .none [3, 4, 5]))) (.seq (.kill [2]) .nil))) (.seq (.kill [2]) (.seq (.ret (.call 13 (.cons (.rd 0 []) .nil))) .nil)))) }
def f__law_forms : Fn := { name := "_law_forms", kind := 0, cls := "", np := 1, ref := [false], dfl := [], names := ["_law_kind", "_law_many", "_law_t"], body :=
  (.seq (.asg (.nm 1) (.op .ix (.cons (.dic 0 (.cons (.k (.str [115, 116, 105, 108, 108])) (.cons (.k (.int 1)) (.cons (.k (.str [116, 117, 114, 110])) (.cons (.k (.int 4)) (.cons (.k (.str [102, 108, 105, 112])) (.cons (.k (.int 8)) .nil))))))) (.cons (.op .ix (.cons (.rd 0 []) (.cons (.k (.int 3)) .nil))) .nil)))) (.seq (.ret (.op .sortset (.cons (.comp (.call 15 (.cons (.op .ix (.cons (.rd 0 []) (.cons (.k (.int 4)) .nil))) (.cons (.rd 2 []) .nil))) (.nm 2) (.rng1 (.rd 1 [])) .none [2]) .nil))) .nil)) }
def f__law_letters : Fn := { name := "_law_letters", kind := 0, cls := "", np := 1, ref := [false], dfl := [], names := ["_law_x", "_law_some", "_law_k"], body :=
  (.seq (.asg (.nm 1) (.k (.str [65, 66, 67, 68, 69, 70, 71, 72, 73, 74, 75, 76, 77, 78, 79, 80, 81, 82, 83, 84, 85, 86, 87, 88, 89, 90]))) (.seq (.ret (.comp (.op .ix (.cons (.rd 1 []) (.cons (.op .mod (.cons (.op .add (.cons (.rd 0 []) (.cons (.op .mul (.cons (.rd 2 []) (.cons (.op .add (.cons (.k (.int 1)) (.cons (.op .mod (.cons (.op .fdiv (.cons (.rd 0 []) (.cons (.k (.int 26)) .nil))) (.cons (.k (.int 8)) .nil))) .nil))) .nil))) .nil))) (.cons (.k (.int 26)) .nil))) .nil))) (.nm 2) (.rng1 (.k (.int 3))) .none [2])) .nil)) }
def f__law_kinds : Fn := { name := "_law_kinds", kind := 0, cls := "", np := 3, ref := [false, false, false], dfl := [], names := ["_law_x", "_law_letters_here", "_law_most", "_law_xs", "_law_some", "_law_one", "_law_other", "_law_names", "_law_kinds_here", "_law_k", "_law_mode"], body :=
  (.seq (.asg (.nm 3) (.fz (.call 12 (.cons (.rd 0 []) (.cons (.k (.int 10)) .nil))))) (.seq (.asg (.nm 4) (.k (.str [97, 98, 99, 100, 101, 102, 103, 104, 105, 106, 107, 108, 109, 110, 111, 112, 113, 114, 115, 116, 117, 118, 119, 120, 121, 122]))) (.seq (.asg (.nm 5) (.op .ix (.cons (.rd 4 []) (.cons (.op .mod (.cons (.op .ix (.cons (.rd 3 []) (.cons (.k (.int 0)) .nil))) (.cons (.k (.int 26)) .nil))) .nil)))) (.seq (.asg (.nm 6) (.op .ix (.cons (.rd 4 []) (.cons (.op .mod (.cons (.op .add (.cons (.op .add (.cons (.op .ix (.cons (.rd 3 []) (.cons (.k (.int 0)) .nil))) (.cons (.k (.int 1)) .nil))) (.cons (.op .mod (.cons (.op .ix (.cons (.rd 3 []) (.cons (.k (.int 1)) .nil))) (.cons (.k (.int 25)) .nil))) .nil))) (.cons (.k (.int 26)) .nil))) .nil)))) (.seq (.asg (.nm 7) (.fz (.lst (.cons (.fz (.op .add (.cons (.rd 5 []) (.cons (.rd 6 []) .nil)))) (.cons (.rd 5 []) (.cons (.rd 6 []) (.cons (.fz (.op .add (.cons (.rd 6 []) (.cons (.rd 5 []) .nil)))) (.cons (.fz (.op .add (.cons (.rd 5 []) (.cons (.rd 5 []) .nil)))) (.cons (.fz (.op .add (.cons (.rd 6 []) (.cons (.rd 6 []) .nil)))) .nil))))))))) (.seq (.asg (.nm 8) (.lst .nil)) (.seq (.for_ (.nm 9) (.rng1 (.op .add (.cons (.k (.int 1)) (.cons (.op .mod (.cons (.op .ix (.cons (.rd 3 []) (.cons (.k (.int 2)) .nil))) (.cons (.k (.int 6)) .nil))) .nil)))) (.seq (.asg (.nm 10) (.op .ix (.cons (.lst (.cons (.k (.str [115, 116, 105, 108, 108])) (.cons (.k (.str [116, 117, 114, 110])) (.cons (.k (.str [102, 108, 105, 112])) .nil)))) (.cons (.op .mod (.cons (.op .fdiv (.cons (.op .ix (.cons (.rd 3 []) (.cons (.k (.int 3)) .nil))) (.cons (.op .add (.cons (.rd 9 []) (.cons (.k (.int 1)) .nil))) .nil))) (.cons (.k (.int 3)) .nil))) .nil)))) (.seq (.ex (.mut (.sl 8) .app (.cons (.tup (.cons (.op .ix (.cons (.rd 7 []) (.cons (.rd 9 []) .nil))) (.cons (.k (.int 0)) (.cons (.k .non) (.cons (.rd 10 []) (.cons (.call 14 (.cons (.op .ix (.cons (.rd 3 []) (.cons (.op .add (.cons (.k (.int 4)) (.cons (.rd 9 []) .nil))) .nil))) (.cons (.rd 1 []) (.cons (.rd 2 []) .nil)))) .nil)))))) .nil))) (.seq (.kill [9, 10]) .nil)))) (.seq (.kill [9, 10]) (.seq (.ret (.mv 8)) .nil))))))))) }
def f__law_laid : Fn := { name := "_law_laid", kind := 0, cls := "", np := 4, ref := [false, false, false, false], dfl := [], names := ["_law_kinds_here", "_law_high", "_law_wide", "_law_cells", "_law_laid_here", "_law_taken", "_law_cell", "_law_xs", "_law_number", "_law_forms_here", "_law_spots", "_law_row", "_law_column", "_law_sign", "_law_free", "_law_spot"], body :=
  (.seq (.asg (.nm 4) (.lst .nil)) (.seq (.asg (.nm 5) (.dic 1 .nil)) (.seq (.for_ (.nm 6) (.se (.rd 3 [])) (.seq (.asg (.nm 7) (.fz (.call 12 (.cons (.rd 6 []) (.cons (.k (.int 4)) .nil))))) (.seq (.asg (.nm 8) (.op .mod (.cons (.op .ix (.cons (.rd 7 []) (.cons (.k (.int 0)) .nil))) (.cons (.op .len (.cons (.rd 0 []) .nil)) .nil)))) (.seq (.asg (.nm 9) (.fz (.call 16 (.cons (.op .ix (.cons (.rd 0 []) (.cons (.rd 8 []) .nil))) .nil)))) (.seq (.asg (.nm 10) (.lst .nil)) (.seq (.for_ (.cons (.nm 11) (.cons (.nm 12) (.cons (.nm 13) .nil))) (.se (.op .ix (.cons (.rd 9 []) (.cons (.op .mod (.cons (.op .ix (.cons (.rd 7 []) (.cons (.k (.int 1)) .nil))) (.cons (.op .len (.cons (.rd 9 []) .nil)) .nil))) .nil)))) (.seq (.ex (.mut (.sl 10) .app (.cons (.tup (.cons (.op .add (.cons (.rd 11 []) (.cons (.op .mod (.cons (.op .ix (.cons (.rd 7 []) (.cons (.k (.int 2)) .nil))) (.cons (.rd 1 []) .nil))) .nil))) (.cons (.op .add (.cons (.rd 12 []) (.cons (.op .mod (.cons (.op .ix (.cons (.rd 7 []) (.cons (.k (.int 3)) .nil))) (.cons (.rd 2 []) .nil))) .nil))) (.cons (.rd 13 []) .nil)))) .nil))) (.seq (.kill [11, 12, 13]) .nil))) (.seq (.kill [11, 12, 13]) (.seq (.asg (.nm 14) (.fz (.comp (.rd 15 []) (.nm 15) (.se (.rd 10 [])) (.some (.and_ (.op .lt (.cons (.op .ix (.cons (.rd 15 []) (.cons (.k (.int 0)) .nil))) (.cons (.rd 1 []) .nil))) (.and_ (.op .lt (.cons (.op .ix (.cons (.rd 15 []) (.cons (.k (.int 1)) .nil))) (.cons (.rd 2 []) .nil))) (.op .nmem (.cons (.op (.sl false true) (.cons (.rd 15 []) (.cons (.k (.int 2)) .nil))) (.cons (.rd 5 []) .nil)))))) [15]))) (.seq (.ife (.op .eq (.cons (.op .len (.cons (.rd 14 []) .nil)) (.cons (.op .len (.cons (.rd 10 []) .nil)) .nil))) (.seq (.ex (.mut (.sl 4) .app (.cons (.tup (.cons (.op .tuple (.cons (.rd 10 []) .nil)) (.cons (.rd 8 []) .nil))) .nil))) (.seq (.for_ (.cons (.nm 11) (.cons (.nm 12) (.cons (.nm 13) .nil))) (.se (.rd 10 [])) (.seq (.setix (.sl 5) (.tup (.cons (.rd 11 []) (.cons (.rd 12 []) .nil))) (.rd 13 [])) (.seq (.kill [11, 12, 13]) .nil))) (.seq (.kill [11, 12, 13]) .nil))) .nil) (.seq (.kill [6, 7, 8, 9, 10, 11, 12, 13, 14]) .nil)))))))))) (.seq (.kill [6, 7, 8, 9, 10, 11, 12, 13, 14]) (.seq (.ret (.tup (.cons (.mv 4) (.cons (.mv 5) .nil)))) .nil))))) }
def f__law_floor : Fn := { name := "_law_floor", kind := 0, cls := "", np := 5, ref := [false, false, false, false, false], dfl := [], names := ["_law_taken", "_law_high", "_law_wide", "_law_x", "_law_letters_here", "_law_rows", "_law_row", "_law_signs", "_law_y", "_law_sign"], body :=
  (.seq (.asg (.nm 5) (.lst .nil)) (.seq (.for_ (.nm 6) (.rng1 (.rd 1 [])) (.seq (.asg (.nm 7) (.k (.str []))) (.seq (.for_ (.nm 8) (.se (.fz (.call 12 (.cons (.op .fdiv (.cons (.rd 3 []) (.cons (.op .add (.cons (.rd 6 []) (.cons (.k (.int 1)) .nil))) .nil))) (.cons (.rd 2 []) .nil))))) (.seq (.asg (.nm 9) (.meth .get2 (.rd 0 []) (.cons (.tup (.cons (.rd 6 []) (.cons (.op .len (.cons (.rd 7 []) .nil)) .nil))) (.cons (.k (.str [])) .nil)))) (.seq (.ife (.op .eq (.cons (.rd 9 []) (.cons (.k (.str [])) .nil))) (.seq (.asg (.nm 7) (.fz (.op .add (.cons (.rd 7 []) (.cons (.op .ix (.cons (.lst (.cons (.k (.str [35])) (.cons (.k (.str [44])) (.cons (.k (.str [35])) (.cons (.meth .lower (.op .ix (.cons (.rd 4 []) (.cons (.op .mod (.cons (.op .fdiv (.cons (.rd 8 []) (.cons (.k (.int 5)) .nil))) (.cons (.k (.int 3)) .nil))) .nil))) .nil) (.cons (.k (.str [44])) .nil)))))) (.cons (.op .mod (.cons (.rd 8 []) (.cons (.k (.int 5)) .nil))) .nil))) .nil))))) .nil) (.seq (.asg (.nm 7) (.fz (.op .add (.cons (.rd 7 []) (.cons (.op .ix (.cons (.lst (.cons (.k (.str [46])) (.cons (.k (.str [44])) (.cons (.rd 9 []) (.cons (.meth .lower (.rd 9 []) .nil) (.cons (.k (.str [46])) .nil)))))) (.cons (.op .mod (.cons (.rd 8 []) (.cons (.k (.int 5)) .nil))) .nil))) .nil))))) .nil)) (.seq (.kill [8, 9]) .nil)))) (.seq (.kill [8, 9]) (.seq (.ex (.mut (.sl 5) .app (.cons (.rd 7 []) .nil))) (.seq (.kill [6, 7, 8, 9]) .nil)))))) (.seq (.kill [6, 7, 8, 9]) (.seq (.ret (.op .tuple (.cons (.rd 5 []) .nil))) .nil)))) }
def f__law_touching : Fn := { name := "_law_touching", kind := 0, cls := "", np := 1, ref := [false], dfl := [], names := ["_law_laid_here", "_law_whose", "_law_k", "_law_placement", "_law_row", "_law_column", "_law_sign", "_law_pairs", "_law_cell", "_law_other", "_law_signs"], body :=
  (.seq (.asg (.nm 1) (.dic 1 .nil)) (.seq (.for_ (.cons (.nm 2) (.cons (.nm 3) .nil)) (.enu (.rd 0 [])) (.seq (.for_ (.cons (.nm 4) (.cons (.nm 5) (.cons (.nm 6) .nil))) (.se (.op .ix (.cons (.rd 3 []) (.cons (.k (.int 0)) .nil)))) (.seq (.setix (.sl 1) (.tup (.cons (.rd 4 []) (.cons (.rd 5 []) .nil))) (.tup (.cons (.rd 6 []) (.cons (.rd 2 []) .nil)))) (.seq (.kill [4, 5, 6]) .nil))) (.seq (.kill [4, 5, 6]) (.seq (.kill [2, 3, 4, 5, 6]) .nil)))) (.seq (.kill [2, 3, 4, 5, 6]) (.seq (.asg (.nm 7) (.lst .nil)) (.seq (.for_ (.nm 8) (.se (.fz (.op .sorted (.cons (.rd 1 []) .nil)))) (.seq (.for_ (.nm 9) (.se (.fz (.lst (.cons (.tup (.cons (.op .ix (.cons (.rd 8 []) (.cons (.k (.int 0)) .nil))) (.cons (.op .add (.cons (.op .ix (.cons (.rd 8 []) (.cons (.k (.int 1)) .nil))) (.cons (.k (.int 1)) .nil))) .nil))) (.cons (.tup (.cons (.op .add (.cons (.op .ix (.cons (.rd 8 []) (.cons (.k (.int 0)) .nil))) (.cons (.k (.int 1)) .nil))) (.cons (.op .ix (.cons (.rd 8 []) (.cons (.k (.int 1)) .nil))) .nil))) .nil))))) (.seq (.ife (.and_ (.op .mem (.cons (.rd 9 []) (.cons (.rd 1 []) .nil))) (.op .ne (.cons (.op .ix (.cons (.op .ix (.cons (.rd 1 []) (.cons (.rd 9 []) .nil))) (.cons (.k (.int 1)) .nil))) (.cons (.op .ix (.cons (.op .ix (.cons (.rd 1 []) (.cons (.rd 8 []) .nil))) (.cons (.k (.int 1)) .nil))) .nil)))) (.seq (.asg (.nm 10) (.fz (.op .sorted (.cons (.lst (.cons (.op .ix (.cons (.op .ix (.cons (.rd 1 []) (.cons (.rd 8 []) .nil))) (.cons (.k (.int 0)) .nil))) (.cons (.op .ix (.cons (.op .ix (.cons (.rd 1 []) (.cons (.rd 9 []) .nil))) (.cons (.k (.int 0)) .nil))) .nil))) .nil)))) (.seq (.ex (.mut (.sl 7) .app (.cons (.tup (.cons (.rd 8 []) (.cons (.rd 9 []) (.cons (.tup (.cons (.op .ix (.cons (.rd 10 []) (.cons (.k (.int 0)) .nil))) (.cons (.op .ix (.cons (.rd 10 []) (.cons (.k (.int 1)) .nil))) .nil))) .nil)))) .nil))) .nil)) .nil) (.seq (.kill [9, 10]) .nil))) (.seq (.kill [9, 10]) (.seq (.kill [8, 9, 10]) .nil)))) (.seq (.kill [8, 9, 10]) (.seq (.ret (.mv 7)) .nil))))))) }
def f__law_apart : Fn := { name := "_law_apart", kind := 0, cls := "", np := 3, ref := [false, false, false], dfl := [], names := ["_law_laid_here", "_law_letters_here", "_law_x", "_law_some", "_law_met", "_law_signs", "_law_k", "_law_pair", "_law_cell", "_law_other"], body :=
  (.seq (.asg (.nm 3) (.lst .nil)) (.seq (.asg (.nm 4) (.fz (.comp (.rd 7 []) (.cons (.nm 8) (.cons (.nm 9) (.cons (.nm 7) .nil))) (.se (.fz (.call 21 (.cons (.rd 0 []) .nil)))) .none [8, 9, 7]))) (.seq (.asg (.nm 5) (.fz (.op .sorted (.cons (.rd 1 []) .nil)))) (.seq (.for_ (.nm 6) (.rng1 (.k (.int 6))) (.seq (.asg (.nm 7) (.tup (.cons (.op .ix (.cons (.rd 5 []) (.cons (.op .ix (.cons (.lst (.cons (.k (.int 0)) (.cons (.k (.int 0)) (.cons (.k (.int 0)) (.cons (.k (.int 1)) (.cons (.k (.int 1)) (.cons (.k (.int 2)) .nil))))))) (.cons (.rd 6 []) .nil))) .nil))) (.cons (.op .ix (.cons (.rd 5 []) (.cons (.op .ix (.cons (.lst (.cons (.k (.int 0)) (.cons (.k (.int 1)) (.cons (.k (.int 2)) (.cons (.k (.int 1)) (.cons (.k (.int 2)) (.cons (.k (.int 2)) .nil))))))) (.cons (.rd 6 []) .nil))) .nil))) .nil)))) (.seq (.ife (.and_ (.op .eq (.cons (.op .mod (.cons (.op .fdiv (.cons (.rd 2 []) (.cons (.op .add (.cons (.op .mul (.cons (.k (.int 4)) (.cons (.rd 6 []) .nil))) (.cons (.k (.int 3)) .nil))) .nil))) (.cons (.k (.int 3)) .nil))) (.cons (.k (.int 0)) .nil))) (.or_ (.op .nmem (.cons (.rd 7 []) (.cons (.rd 4 []) .nil))) (.op .eq (.cons (.op .mod (.cons (.rd 2 []) (.cons (.k (.int 4)) .nil))) (.cons (.k (.int 0)) .nil))))) (.seq (.ex (.mut (.sl 3) .app (.cons (.rd 7 []) .nil))) .nil) .nil) (.seq (.kill [6, 7]) .nil)))) (.seq (.kill [6, 7]) (.seq (.ret (.op .tuple (.cons (.op .sorted (.cons (.rd 3 []) .nil)) .nil))) .nil)))))) }
def f__law_bounded : Fn := { name := "_law_bounded", kind := 0, cls := "", np := 3, ref := [false, false, false], dfl := [], names := ["_law_kinds_here", "_law_laid_here", "_law_x", "_law_found", "_law_k", "_law_kind", "_law_many", "_law_least", "_law_most", "_law_placement"], body :=
  (.seq (.asg (.nm 3) (.lst .nil)) (.seq (.for_ (.cons (.nm 4) (.cons (.nm 5) .nil)) (.enu (.rd 0 [])) (.seq (.asg (.nm 6) (.op .len (.cons (.comp (.rd 9 []) (.nm 9) (.se (.rd 1 [])) (.some (.op .eq (.cons (.op .ix (.cons (.rd 9 []) (.cons (.k (.int 1)) .nil))) (.cons (.rd 4 []) .nil)))) [9]) .nil))) (.seq (.asg (.nm 7) (.op .max2 (.cons (.k (.int 0)) (.cons (.op .sub (.cons (.rd 6 []) (.cons (.op .ix (.cons (.lst (.cons (.k (.int 0)) (.cons (.k (.int 0)) (.cons (.k (.int 1)) (.cons (.k (.int 2)) .nil))))) (.cons (.op .mod (.cons (.op .fdiv (.cons (.rd 2 []) (.cons (.op .add (.cons (.op .mul (.cons (.k (.int 5)) (.cons (.rd 4 []) .nil))) (.cons (.k (.int 2)) .nil))) .nil))) (.cons (.k (.int 4)) .nil))) .nil))) .nil))) .nil)))) (.seq (.asg (.nm 8) (.op .ix (.cons (.lst (.cons (.k .non) (.cons (.rd 6 []) (.cons (.op .add (.cons (.rd 6 []) (.cons (.k (.int 1)) .nil))) (.cons (.rd 6 []) .nil))))) (.cons (.op .mod (.cons (.op .fdiv (.cons (.rd 2 []) (.cons (.op .add (.cons (.op .mul (.cons (.k (.int 7)) (.cons (.rd 4 []) .nil))) (.cons (.k (.int 3)) .nil))) .nil))) (.cons (.k (.int 4)) .nil))) .nil)))) (.seq (.ex (.mut (.sl 3) .app (.cons (.tup (.cons (.op .ix (.cons (.rd 5 []) (.cons (.k (.int 0)) .nil))) (.cons (.rd 7 []) (.cons (.rd 8 []) (.cons (.op .ix (.cons (.rd 5 []) (.cons (.k (.int 3)) .nil))) (.cons (.op .ix (.cons (.rd 5 []) (.cons (.k (.int 4)) .nil))) .nil)))))) .nil))) (.seq (.kill [4, 5, 6, 7, 8]) .nil)))))) (.seq (.kill [4, 5, 6, 7, 8]) (.seq (.ret (.op .tuple (.cons (.rd 3 []) .nil))) .nil)))) }
def f__law_built : Fn := { name := "_law_built", kind := 0, cls := "", np := 3, ref := [false, false, false], dfl := [], names := ["_law_head", "_law_cells", "_law_small", "_law_hs", "_law_letters_here", "_law_kinds_here", "_law_high", "_law_wide", "_law_laid_here", "_law_taken", "_law_floor_here"], body :=
  (.seq (.asg (.nm 3) (.fz (.call 12 (.cons (.rd 0 []) (.cons (.k (.int 10)) .nil))))) (.seq (.asg (.nm 4) (.fz (.call 17 (.cons (.op .ix (.cons (.rd 3 []) (.cons (.k (.int 0)) .nil))) .nil)))) (.seq (.asg (.nm 5) (.fz (.call 18 (.cons (.op .ix (.cons (.rd 3 []) (.cons (.k (.int 1)) .nil))) (.cons (.rd 4 []) (.cons (.op .ix (.cons (.lst (.cons (.k (.int 6)) (.cons (.k (.int 3)) .nil))) (.cons (.op .int (.cons (.rd 2 []) .nil)) .nil))) .nil)))))) (.seq (.asg (.nm 6) (.op .add (.cons (.k (.int 1)) (.cons (.op .mod (.cons (.op .ix (.cons (.rd 3 []) (.cons (.k (.int 2)) .nil))) (.cons (.k (.int 4)) .nil))) .nil)))) (.seq (.asg (.nm 7) (.op .add (.cons (.k (.int 1)) (.cons (.op .mod (.cons (.op .ix (.cons (.rd 3 []) (.cons (.k (.int 3)) .nil))) (.cons (.k (.int 5)) .nil))) .nil)))) (.seq (.ife (.and_ (.not_ (.rd 2 [])) (.op .eq (.cons (.op .mod (.cons (.op .ix (.cons (.rd 3 []) (.cons (.k (.int 4)) .nil))) (.cons (.k (.int 8)) .nil))) (.cons (.k (.int 0)) .nil)))) (.seq (.asg (.nm 6) (.k (.int 8))) (.seq (.asg (.nm 7) (.k (.int 8))) .nil)) .nil) (.seq (.asg (.cons (.nm 8) (.cons (.nm 9) .nil)) (.fz (.call 19 (.cons (.rd 5 []) (.cons (.rd 6 []) (.cons (.rd 7 []) (.cons (.rd 1 []) .nil))))))) (.seq (.asg (.nm 10) (.call 20 (.cons (.rd 9 []) (.cons (.rd 6 []) (.cons (.rd 7 []) (.cons (.op .ix (.cons (.rd 3 []) (.cons (.k (.int 5)) .nil))) (.cons (.rd 4 []) .nil))))))) (.seq (.ret (.tup (.cons (.tup (.cons (.rd 10 []) (.cons (.call 23 (.cons (.rd 5 []) (.cons (.rd 8 []) (.cons (.op .ix (.cons (.rd 3 []) (.cons (.k (.int 6)) .nil))) .nil)))) (.cons (.call 22 (.cons (.rd 8 []) (.cons (.rd 4 []) (.cons (.op .ix (.cons (.rd 3 []) (.cons (.k (.int 7)) .nil))) .nil)))) .nil)))) (.cons (.rd 8 []) .nil)))) .nil))))))))) }
def f__law_room : Fn := { name := "_law_room", kind := 0, cls := "", np := 2, ref := [false, false], dfl := [], names := ["_law_floor_here", "_law_spots", "_law_row", "_law_column", "_law_sign"], body :=
  (.seq (.for_ (.cons (.nm 2) (.cons (.nm 3) (.cons (.nm 4) .nil))) (.se (.rd 1 [])) (.seq (.ife (.or_ (.not_ (.chain .le .lt (.k (.int 0)) (.rd 2 []) (.op .len (.cons (.rd 0 []) .nil)))) (.not_ (.chain .le .lt (.k (.int 0)) (.rd 3 []) (.op .len (.cons (.op .ix (.cons (.rd 0 []) (.cons (.k (.int 0)) .nil))) .nil))))) (.seq (.ret (.k (.bl false))) .nil) .nil) (.seq (.ife (.op .nmem (.cons (.op .ix (.cons (.op .ix (.cons (.rd 0 []) (.cons (.rd 2 []) .nil))) (.cons (.rd 3 []) .nil))) (.cons (.tup (.cons (.k (.str [46])) (.cons (.k (.str [44])) (.cons (.rd 4 []) (.cons (.meth .lower (.rd 4 []) .nil) .nil))))) .nil))) (.seq (.ret (.k (.bl false))) .nil) .nil) (.seq (.kill [2, 3, 4]) .nil)))) (.seq (.kill [2, 3, 4]) (.seq (.ret (.k (.bl true))) .nil))) }
def f__law_is_placement : Fn := { name := "_law_is_placement", kind := 0, cls := "", np := 1, ref := [false], dfl := [], names := ["_law_found", "_law_spot", "_law_part"], body :=
  (.seq (.ife (.or_ (.not_ (.op (.isi [.tuple]) (.cons (.rd 0 []) .nil))) (.or_ (.op .ne (.cons (.op .len (.cons (.rd 0 []) .nil)) (.cons (.k (.int 2)) .nil))) (.not_ (.op (.isi [.tuple]) (.cons (.op .ix (.cons (.rd 0 []) (.cons (.k (.int 0)) .nil))) .nil))))) (.seq (.ret (.k (.bl false))) .nil) .nil) (.seq (.ife (.or_ (.not_ (.op (.isi [.int]) (.cons (.op .ix (.cons (.rd 0 []) (.cons (.k (.int 1)) .nil))) .nil))) (.op (.isi [.bool]) (.cons (.op .ix (.cons (.rd 0 []) (.cons (.k (.int 1)) .nil))) .nil))) (.seq (.ret (.k (.bl false))) .nil) .nil) (.seq (.for_ (.nm 1) (.se (.op .ix (.cons (.rd 0 []) (.cons (.k (.int 0)) .nil)))) (.seq (.ife (.or_ (.not_ (.op (.isi [.tuple]) (.cons (.rd 1 []) .nil))) (.or_ (.op .ne (.cons (.op .len (.cons (.rd 1 []) .nil)) (.cons (.k (.int 3)) .nil))) (.not_ (.op (.isi [.str]) (.cons (.op .ix (.cons (.rd 1 []) (.cons (.k (.int 2)) .nil))) .nil))))) (.seq (.ret (.k (.bl false))) .nil) .nil) (.seq (.ife (.not_ (.op .all (.cons (.comp (.and_ (.op (.isi [.int]) (.cons (.rd 2 []) .nil)) (.not_ (.op (.isi [.bool]) (.cons (.rd 2 []) .nil)))) (.nm 2) (.se (.fz (.op (.sl false true) (.cons (.rd 1 []) (.cons (.k (.int 2)) .nil))))) .none [2]) .nil))) (.seq (.ret (.k (.bl false))) .nil) .nil) (.seq (.kill [1]) .nil)))) (.seq (.kill [1]) (.seq (.ret (.k (.bl true))) .nil))))) }
def f__law_due : Fn := { name := "_law_due", kind := 0, cls := "", np := 1, ref := [false], dfl := [], names := ["_law_puzzle", "_law_floor_here", "_law_due_here", "_law_number", "_law_kind", "_law_form_here", "_law_down", "_law_right", "_law_spots", "_law_row", "_law_column", "_law_sign"], body :=
  (.seq (.asg (.nm 1) (.op .ix (.cons (.rd 0 []) (.cons (.k (.int 0)) .nil)))) (.seq (.asg (.nm 2) (.lst .nil)) (.seq (.for_ (.cons (.nm 3) (.cons (.nm 4) .nil)) (.enu (.op .ix (.cons (.rd 0 []) (.cons (.k (.int 1)) .nil)))) (.seq (.for_ (.nm 5) (.se (.fz (.call 16 (.cons (.rd 4 []) .nil)))) (.seq (.for_ (.nm 6) (.rng1 (.op .len (.cons (.rd 1 []) .nil))) (.seq (.for_ (.nm 7) (.rng1 (.op .len (.cons (.op .ix (.cons (.rd 1 []) (.cons (.k (.int 0)) .nil))) .nil))) (.seq (.asg (.nm 8) (.op .tuple (.cons (.comp (.fz (.tup (.cons (.fz (.op .add (.cons (.rd 9 []) (.cons (.rd 6 []) .nil)))) (.cons (.fz (.op .add (.cons (.rd 10 []) (.cons (.rd 7 []) .nil)))) (.cons (.rd 11 []) .nil))))) (.cons (.nm 9) (.cons (.nm 10) (.cons (.nm 11) .nil))) (.se (.rd 5 [])) .none [9, 10, 11]) .nil))) (.seq (.ife (.call 25 (.cons (.rd 1 []) (.cons (.rd 8 []) .nil))) (.seq (.ex (.mut (.sl 2) .app (.cons (.tup (.cons (.rd 8 []) (.cons (.rd 3 []) .nil))) .nil))) .nil) .nil) (.seq (.kill [7, 8]) .nil)))) (.seq (.kill [7, 8]) (.seq (.kill [6, 7, 8]) .nil)))) (.seq (.kill [6, 7, 8]) (.seq (.kill [5, 6, 7, 8]) .nil)))) (.seq (.kill [5, 6, 7, 8]) (.seq (.kill [3, 4, 5, 6, 7, 8]) .nil)))) (.seq (.kill [3, 4, 5, 6, 7, 8]) (.seq (.ret (.op .sorted (.cons (.rd 2 []) .nil))) .nil))))) }
def f_law : Fn := { name := "law", kind := 0, cls := "", np := 1, ref := [false], dfl := [], names := ["_law_script", "_law_puzzle", "_law_laid_here", "_law_due_here", "_law_found", "_law_one", "_law_placement"], body :=
  (.seq (.asg (.cons (.nm 1) (.cons (.nm 2) .nil)) (.call 24 (.cons (.call 11 (.cons (.rd 0 []) (.cons (.k (.int 0)) .nil))) (.cons (.fz (.op (.sl true true) (.cons (.rd 0 []) (.cons (.k (.int 1)) (.cons (.k (.int 13)) .nil))))) (.cons (.k (.bl false)) .nil))))) (.seq (.asg (.nm 3) (.fz (.call 27 (.cons (.rd 1 []) .nil)))) (.seq (.asg (.nm 4) (.call 10 (.cons (.rd 1 []) .nil))) (.seq (.ife (.or_ (.not_ (.op (.isi [.list]) (.cons (.rd 4 []) .nil))) (.or_ (.not_ (.op .all (.cons (.comp (.call 26 (.cons (.rd 5 []) .nil)) (.nm 5) (.se (.rd 4 [])) .none [5]) .nil))) (.op .ne (.cons (.rd 4 []) (.cons (.rd 3 []) .nil))))) (.seq (.ret (.k (.bl false))) .nil) .nil) (.seq (.ife (.not_ (.op .all (.cons (.comp (.op .mem (.cons (.rd 6 []) (.cons (.rd 4 []) .nil))) (.nm 6) (.se (.rd 2 [])) .none [6]) .nil))) (.seq (.ret (.k (.bl false))) .nil) .nil) (.seq (.ex (.mut (.sl 4) .clear .nil)) (.seq (.ret (.op .eq (.cons (.call 10 (.cons (.rd 1 []) .nil)) (.cons (.rd 3 []) .nil)))) .nil))))))) }
def sub (a b : Nat) : Bool := ([] : List (Nat × Nat)).contains (a, b)
def tab : Tab := { fns := [f_formed, f_height, f_width, f_cell_turned, f_turned, f_forms_of, f_is_open, f_wanted, f_may_lie, f_shifted, f_placements, f__law_cell_at, f__law_mixed, f__law_formed, f__law_form, f__law_turned, f__law_forms, f__law_letters, f__law_kinds, f__law_laid, f__law_floor, f__law_touching, f__law_apart, f__law_bounded, f__law_built, f__law_room, f__law_is_placement, f__law_due, f_law], sub := sub }
def lawIx : Nat := 28
end MP.k15

set_option autoImplicit false
set_option linter.all false
set_option maxRecDepth 100000
set_option maxHeartbeats 0
namespace MP.k15
open PySem MP
theorem mulOk_mid {i j : Int} (h0 : 0 ≤ i) (h1 : i < 2 ^ 200) (h2 : 0 ≤ j) (h3 : j < 2 ^ 200) : mulOk i j = true := by
  have e : ((2 : Int) ^ 200) = ((2 ^ 200 : Nat) : Int) := by decide +kernel
  have k : (2 : Nat) ^ 200 ≤ 2 ^ 4000 := Nat.pow_le_pow_right (by decide) (by decide)
  rw [e] at h1 h3
  have a : i.natAbs < 2 ^ 4000 := Nat.lt_of_lt_of_le (by omega) k
  have b : j.natAbs < 2 ^ 4000 := Nat.lt_of_lt_of_le (by omega) k
  unfold mulOk
  rw [decide_eq_true a, decide_eq_true b]
  simp
theorem mixed (n : Nat) (c : Int) (many : Nat) (hm : many ≤ 1000) : ∃ xs : List Int, xs.length = many ∧ (∀ x ∈ xs, 0 ≤ x) ∧ runF tab (n + 1) 12 [.int c, .int (many : Int)] = .ok (.lst true (xs.map .int)) [none, none] := by
  refine run_ok (F := f__law_mixed) (P := fun r => ∃ xs : List Int, xs.length = many ∧ (∀ x ∈ xs, 0 ≤ x) ∧ r = .ok (.lst true (xs.map .int)) [none, none]) rfl rfl ?_
  repeat (first | refine ⟨_, rfl, ?_⟩ | refine ⟨rfl, ?_⟩)
  refine ⟨_, if_pos (mulOk_r (by decide) (by decide)), ?_⟩
  repeat (first | refine ⟨_, rfl, ?_⟩ | refine ⟨rfl, ?_⟩)
  refine ⟨rng_ok (by omega) (by omega), ?_⟩
  have b0 := Int.emod_nonneg c (show (2305843009213693951 : Int) ≠ 0 by decide)
  have b1 := Int.emod_lt_of_pos c (show (0 : Int) < 2305843009213693951 by decide)
  rw [Int.toNat_natCast]
  refine for_rng (fun i ρ => ∃ (xs : List Int) (x : Int), xs.length = i ∧ (∀ x ∈ xs, 0 ≤ x) ∧ 0 ≤ x ∧ x < 2 ^ 100 ∧ ρ = [some (.int c), some (.int (many : Int)), some (.lst true (xs.map .int)), some (.int x), none]) ⟨[], c % 2305843009213693951 * 1000000007 + 15485863, rfl, (fun x h => absurd h List.not_mem_nil), by omega, by omega, rfl⟩ ?_ ?_
  · rintro i ρ hi ⟨xs, x, hl, hp, x0, x1, rfl⟩
    repeat (first | refine ⟨_, rfl, ?_⟩ | refine ⟨rfl, ?_⟩)
    refine ⟨_, if_pos (mulOk_mid x0 (by omega) (by omega) (by omega)), ?_⟩
    repeat (first | refine ⟨_, rfl, ?_⟩ | refine ⟨rfl, ?_⟩)
    refine ⟨_, if_pos (mulOk_l (by decide) (by decide)), ?_⟩
    repeat (first | refine ⟨_, rfl, ?_⟩ | refine ⟨rfl, ?_⟩)
    have y0 := Int.emod_nonneg (x * (x + 32452843) + 17 * (i : Int) + 7) (show (2305843009213693951 : Int) ≠ 0 by decide)
    have y1 := Int.emod_lt_of_pos (x * (x + 32452843) + 17 * (i : Int) + 7) (show (0 : Int) < 2305843009213693951 by decide)
    generalize (x * (x + 32452843) + 17 * (i : Int) + 7) % 2305843009213693951 = y at y0 y1
    refine app_ok rfl (by rw [List.length_map]; show _ < 16777216; omega) ?_
    repeat (first | refine ⟨_, rfl, ?_⟩ | refine ⟨rfl, ?_⟩)
    refine ⟨xs ++ [y], y, by simp [hl], fun z hz => ?_, y0, by omega, by rw [List.map_append]; rfl⟩
    rcases List.mem_append.mp hz with hz | hz
    · exact hp z hz
    · rw [List.mem_singleton.mp hz]; exact y0
  · rintro ρ ⟨xs, x, hl, hp, x0, x1, rfl⟩
    repeat (first | refine ⟨_, rfl, ?_⟩ | refine ⟨rfl, ?_⟩)
    exact ⟨xs, hl, hp, rfl⟩

def shS (a b : Int) (s : Sp) : Sp := (s.1 + a, s.2.1 + b, s.2.2)
theorem minL_add {l : List Int} (h : l ≠ []) (a : Int) : minL (l.map (· + a)) = minL l + a := by
  refine minL_eq (List.mem_map.mpr ⟨_, minL_mem h, rfl⟩) fun x hx => ?_
  obtain ⟨y, hy, rfl⟩ := List.mem_map.mp hx
  have := minL_le hy
  omega
theorem formed_sh {l : List Sp} (h : l ≠ []) (a b : Int) : formedS (l.map (shS a b)) = formedS l := by
  unfold formedS
  have e1 : (l.map (shS a b)).map (·.1) = (l.map (·.1)).map (· + a) := by rw [List.map_map, List.map_map]; rfl
  have e2 : (l.map (shS a b)).map (·.2.1) = (l.map (·.2.1)).map (· + b) := by rw [List.map_map, List.map_map]; rfl
  have n1 : l.map (·.1) ≠ [] := fun e => h (List.map_eq_nil_iff.mp e)
  have n2 : l.map (·.2.1) ≠ [] := fun e => h (List.map_eq_nil_iff.mp e)
  rw [e1, e2, minL_add n1, minL_add n2, List.map_map]
  congr 1
  refine List.map_congr_left fun s _ => ?_
  show ((s.1 + a) - _, (s.2.1 + b) - _, s.2.2) = _
  rw [show s.1 + a - (minL (l.map (·.1)) + a) = s.1 - minL (l.map (·.1)) by omega, show s.2.1 + b - (minL (l.map (·.2.1)) + b) = s.2.1 - minL (l.map (·.2.1)) by omega]
def srcD (d : D) (l : List Sp) : Prop := d = .lst false (l.map sp) ∨ d = .tup false (l.map sp)
theorem lformed (n : Nat) {l : List Sp} {d : D} (hd : srcD d l) (hl : l ≠ []) (hn : l.length ≤ 1000) (hz : okz l) : runF tab (n + 1) 13 [d] = .ok (.tup false ((formedS l).map sp)) [none] := by
  have hlim : l.length ≤ lim := by show _ ≤ 16777216; omega
  have e : (l.map fun s => sp (s.1 - minL (l.map (·.1)), s.2.1 - minL (l.map (·.2.1)), s.2.2)) = (l.map fun s => (s.1 - minL (l.map (·.1)), s.2.1 - minL (l.map (·.2.1)), s.2.2)).map sp := by rw [List.map_map]; rfl
  have hz' : okz (l.map fun s => (s.1 - minL (l.map (·.1)), s.2.1 - minL (l.map (·.2.1)), s.2.2)) := fun s hs => by
    obtain ⟨t, ht, rfl⟩ := List.mem_map.mp hs
    exact hz t ht
  rcases hd with rfl | rfl
  all_goals
    refine run_ok (F := f__law_formed) (P := fun r => r = .ok (.tup false ((formedS l).map sp)) [none]) rfl rfl ?_
    repeat (first | refine ⟨_, rfl, ?_⟩ | refine ⟨rfl, ?_⟩)
    refine ⟨_, if_pos (sps_unfl l), rfl, ?_⟩
    refine comp_all (fun s => .int s.1) (fun s hs P hP => ?_) hlim (fun ρ' h' hl' => ⟨hl', ?_⟩)
    · repeat (first | refine ⟨_, rfl, ?_⟩ | refine ⟨rfl, ?_⟩)
      exact hP _ rfl
    rw [unclr_same h']
    refine ⟨_, min1_map (o := true) (g := fun s : Sp => s.1) hl, ?_⟩
    repeat (first | refine ⟨_, rfl, ?_⟩ | refine ⟨rfl, ?_⟩)
    refine ⟨_, if_pos (sps_unfl l), rfl, ?_⟩
    refine comp_all (fun s => .int s.2.1) (fun s hs P hP => ?_) hlim (fun ρ' h' hl' => ⟨hl', ?_⟩)
    · repeat (first | refine ⟨_, rfl, ?_⟩ | refine ⟨rfl, ?_⟩)
      exact hP _ rfl
    rw [unclr_same h']
    refine ⟨_, min1_map (o := true) (g := fun s : Sp => s.2.1) hl, ?_⟩
    repeat (first | refine ⟨_, rfl, ?_⟩ | refine ⟨rfl, ?_⟩)
    refine ⟨_, if_pos (sps_unfl l), rfl, ?_⟩
    refine comp_all (fun s => sp (s.1 - minL (l.map (·.1)), s.2.1 - minL (l.map (·.2.1)), s.2.2)) (fun s hs P hP => ?_) hlim (fun ρ' h' hl' => ⟨hl', ?_⟩)
    · repeat (first | refine ⟨_, rfl, ?_⟩ | refine ⟨rfl, ?_⟩)
      exact hP _ rfl
    rw [unclr_same h', e]
    refine ⟨_, if_pos (sps_sort hz'), ?_⟩
    rw [sortD_map]
    refine ⟨_, if_pos (sps_unfl _), ?_⟩
    rfl

theorem srcD_ne {l l2 : List Sp} (h : l2.length = l.length) (hl : l ≠ []) : l2 ≠ [] := fun e => hl (List.length_eq_zero_iff.mp (by rw [← h, e]; rfl))
theorem lturned (n : Nat) {l : List Sp} (f : Form l) (hn : l.length ≤ 1000) {t : Nat} (ht : t < 8) : runF tab (n + 2) 15 [.tup false (l.map sp), .int (t : Int)] = .ok (.tup false ((turnF t l).map sp)) [none, none] := by
  refine run_ok (F := f__law_turned) (P := fun r => r = .ok (.tup false ((turnF t l).map sp)) [none, none]) rfl rfl ?_
  obtain ⟨h, w, b⟩ := f.box
  have hlim : l.length ≤ lim := by show _ ≤ 16777216; omega
  have e3 : turnF t l = formedS (l.map (turnS t h w)) := by
    obtain ⟨h', w', b'⟩ := b.turn t
    unfold turnF
    rw [b.high, b.wide, b'.formed]
  repeat (first | refine ⟨_, rfl, ?_⟩ | refine ⟨rfl, ?_⟩)
  refine if_cut (fun ρ => ∃ (d : D) (l1 : List Sp) (a c : Int), srcD d l1 ∧ ρ = [some d, some (.int (t : Int)), none, none, none, none] ∧ l1.length = l.length ∧ okz l1 ∧ (l1.map (shS a c)).map (quaN (t % 4) h w) = l.map (turnS t h w)) (fun hh => ?_) (fun hh => ?_) ?_
  · have h4 : 4 ≤ t := by have := of_decide_eq_true hh; omega
    repeat (first | refine ⟨_, rfl, ?_⟩ | refine ⟨rfl, ?_⟩)
    refine ⟨_, if_pos (sps_unfl l), rfl, ?_⟩
    refine comp_all (fun s => sp (s.1, -s.2.1, s.2.2)) (fun s hs P hP => ?_) hlim (fun ρ' h' hl' => ⟨hl', ?_⟩)
    · repeat (first | refine ⟨_, rfl, ?_⟩ | refine ⟨rfl, ?_⟩)
      exact hP _ rfl
    rw [unclr_same h', show (l.map fun s => sp (s.1, -s.2.1, s.2.2)) = (l.map fun s => (s.1, -s.2.1, s.2.2)).map sp by rw [List.map_map]; rfl]
    dsimp only
    rw [frz_lst (fun _ => rfl)]
    repeat (first | refine ⟨_, rfl, ?_⟩ | refine ⟨rfl, ?_⟩)
    refine ⟨_, l.map fun s => (s.1, -s.2.1, s.2.2), 0, w, .inl rfl, rfl, List.length_map .., fun s hs => ?_, ?_⟩
    · obtain ⟨s', hs', rfl⟩ := List.mem_map.mp hs
      exact f.okz s' hs'
    · rw [List.map_map, List.map_map]
      refine List.map_congr_left fun s _ => ?_
      unfold turnS
      rw [if_pos h4]
      show quaN (t % 4) h w (s.1 + 0, -s.2.1 + w, s.2.2) = _
      rw [show s.1 + 0 = s.1 by omega, show -s.2.1 + w = w - s.2.1 by omega]
      rfl
  · have h4 : ¬ 4 ≤ t := by have := of_decide_eq_false hh; omega
    refine ⟨_, l, 0, 0, .inr rfl, rfl, rfl, f.okz, ?_⟩
    rw [List.map_map]
    refine List.map_congr_left fun s _ => ?_
    unfold turnS
    rw [if_neg h4]
    show quaN (t % 4) h w (s.1 + 0, s.2.1 + 0, s.2.2) = _
    rw [show s.1 + 0 = s.1 by omega, show s.2.1 + 0 = s.2.1 by omega]
  rintro ρ ⟨d, l1, a, c, hd, rfl, hl1, hz1, e1⟩
  repeat (first | refine ⟨_, rfl, ?_⟩ | refine ⟨rfl, ?_⟩)
  refine ⟨rng_ok (by omega) (by omega), ?_⟩
  have e4 : ((t : Int) % 4).toNat = t % 4 := by omega
  rw [e4]
  refine for_rng (fun i ρ => ∃ (d : D) (l2 : List Sp) (a c h' w' : Int), srcD d l2 ∧ ρ = [some d, some (.int (t : Int)), none, none, none, none] ∧ l2.length = l.length ∧ okz l2 ∧ (l2.map (shS a c)).map (quaN (t % 4 - i) h' w') = l.map (turnS t h w)) ⟨d, l1, a, c, h, w, hd, rfl, hl1, hz1, e1⟩ ?_ ?_
  · rintro i ρ hi ⟨d, l2, a, c, h', w', hd, rfl, hl2, hz2, e2⟩
    have hlim2 : l2.length ≤ lim := by rw [hl2]; exact hlim
    have step : ∃ (a' c' h2 w2 : Int), ((l2.map fun s => (s.2.1, -s.1, s.2.2)).map (shS a' c')).map (quaN (t % 4 - (i + 1)) h2 w2) = l.map (turnS t h w) := by
      refine ⟨c, h' - a, w', h', ?_⟩
      rw [← e2, List.map_map, List.map_map, List.map_map]
      refine List.map_congr_left fun s _ => ?_
      rw [show t % 4 - i = t % 4 - (i + 1) + 1 by omega]
      show quaN _ w' h' (s.2.1 + c, -s.1 + (h' - a), s.2.2) = quaN _ w' h' (s.2.1 + c, h' - (s.1 + a), s.2.2)
      rw [show -s.1 + (h' - a) = h' - (s.1 + a) by omega]
    obtain ⟨a', c', h2, w2, step⟩ := step
    rcases hd with rfl | rfl
    all_goals
      repeat (first | refine ⟨_, rfl, ?_⟩ | refine ⟨rfl, ?_⟩)
      refine ⟨_, if_pos (sps_unfl l2), rfl, ?_⟩
      refine comp_all (fun s => sp (s.2.1, -s.1, s.2.2)) (fun s hs P hP => ?_) hlim2 (fun ρ' hc hl' => ⟨hl', ?_⟩)
      · repeat (first | refine ⟨_, rfl, ?_⟩ | refine ⟨rfl, ?_⟩)
        exact hP _ rfl
      rw [unclr_same hc, show (l2.map fun s => sp (s.2.1, -s.1, s.2.2)) = (l2.map fun s => (s.2.1, -s.1, s.2.2)).map sp by rw [List.map_map]; rfl]
      dsimp only
      rw [frz_lst (fun _ => rfl)]
      repeat (first | refine ⟨_, rfl, ?_⟩ | refine ⟨rfl, ?_⟩)
      refine ⟨_, l2.map fun s => (s.2.1, -s.1, s.2.2), a', c', h2, w2, .inl rfl, rfl, by rw [List.length_map]; exact hl2, fun s hs => ?_, step⟩
      obtain ⟨s', hs', rfl⟩ := List.mem_map.mp hs
      exact hz2 s' hs'
  · rintro ρ ⟨d, l2, a, c, h', w', hd, rfl, hl2, hz2, e2⟩
    rw [Nat.sub_self] at e2
    have e2 : l2.map (shS a c) = l.map (turnS t h w) := by rw [← e2]; exact (List.map_id _).symm
    have k := lformed n hd (srcD_ne hl2 f.ne) (by omega) hz2
    rw [← formed_sh (srcD_ne hl2 f.ne) a c, e2, ← e3] at k
    rcases hd with rfl | rfl
    all_goals
      repeat (first | refine ⟨_, rfl, ?_⟩ | refine ⟨rfl, ?_⟩)
      refine ⟨_, ?_, k⟩
      repeat (first | refine ⟨_, rfl, ?_⟩ | refine ⟨rfl, ?_⟩)
      rfl

theorem lform (n : Nat) (x : Int) {cs : List Nat} (hc : cs ≠ []) (hc2 : cs.length ≤ 1000) (hcs : ∀ c ∈ cs, 65 ≤ c ∧ c ≤ 90) {most : Nat} (m0 : 1 ≤ most) (m6 : most ≤ 6) : ∃ l : List Sp, Form l ∧ l.length ≤ most ∧ (∀ s ∈ l, ∃ c ∈ cs, s.2.2 = [c]) ∧ runF tab (n + 2) 14 [.int x, .lst false (cs.map sgE), .int (most : Int)] = .ok (.tup false (l.map sp)) [none, none, none] := by
  obtain ⟨xs, lx, px, hx⟩ := mixed n x 13 (by decide)
  refine run_ok (F := f__law_form) (P := fun r => ∃ l : List Sp, Form l ∧ l.length ≤ most ∧ (∀ s ∈ l, ∃ c ∈ cs, s.2.2 = [c]) ∧ r = .ok (.tup false (l.map sp)) [none, none, none]) rfl rfl ?_
  repeat (first | refine ⟨_, rfl, ?_⟩ | refine ⟨rfl, ?_⟩)
  refine ⟨_, ?_, hx⟩
  refine ⟨rfl, _, rfl, ?_⟩
  refine at_ (ρ' := [some (.int x), some (.lst false (cs.map sgE)), some (.int (most : Int)), some (.lst false (xs.map .int)), none, none, none, none]) (by rw [frz_lst (fun _ => rfl)]; rfl) ?_
  obtain ⟨x0, hx0⟩ : ∃ x0, xs[0]? = some x0 := ⟨xs[0], List.getElem?_eq_getElem (by omega)⟩
  have v0 := Int.emod_nonneg x0 (show (most : Int) ≠ 0 by omega)
  have v1 := Int.emod_lt_of_pos x0 (show (0 : Int) < most by omega)
  obtain ⟨v, hv⟩ := Int.eq_ofNat_of_zero_le v0
  have lv : (cutL xs (some 1) (some (1 + (v : Int)))).length ≤ v := by
    rw [show (1 + (v : Int)) = ((1 + v : Nat) : Int) by omega, show (1 : Int) = ((1 : Nat) : Int) from rfl, cut_mid, List.length_take]
    omega
  repeat (first | refine ⟨_, rfl, ?_⟩ | refine ⟨rfl, ?_⟩)
  refine ⟨_, ix_lst (o := false) (i := 0) (d := .int x0) (by rw [List.getElem?_map, hx0]; rfl) rfl, ?_⟩
  repeat (first | refine ⟨_, rfl, ?_⟩ | refine ⟨rfl, ?_⟩)
  refine ⟨_, mod_ok (by omega), ?_⟩
  rw [hv]
  repeat (first | refine ⟨_, rfl, ?_⟩ | refine ⟨rfl, ?_⟩)
  refine ⟨_, sl_map (f := D.int) (fun _ => rfl) false xs (some 1) (some (1 + (v : Int))), ?_⟩
  dsimp only
  rw [frz_lst (fun _ => rfl)]
  refine ⟨_, items_data (map_unfl (fun _ => rfl) _), ?_⟩
  refine for_list (l := cutL xs (some 1) (some (1 + (v : Int)))) (e := D.int) (fun i ρ => ∃ (l : List Ce) (X : Option Int) (Y : Option Ce), Grw l (i + 1) ∧ ρ = [some (.int x), some (.lst false (cs.map sgE)), some (.int (most : Int)), some (.lst false (xs.map .int)), some (.lst true (l.map ce)), X.map D.int, Y.map ce, none]) ⟨[(0, 0)], none, none, Grw.one, rfl⟩ ?_ ?_
  · rintro i y ρ hy ⟨l, X, Y, g, rfl⟩
    have y0 : 0 ≤ y := px y (cutL_mem (List.mem_of_getElem? hy))
    have hlp : 0 < ((l.map ce).length : Int) := by
      rw [List.length_map]
      have := List.length_pos_iff.mpr g.ne
      omega
    have hi : i < v := Nat.lt_of_lt_of_le (List.getElem?_eq_some_iff.mp hy).1 lv
    obtain ⟨p, hp, ep⟩ := ix_map (l := l) (f := ce) (fun _ => rfl) (v := y % ((l.map ce).length : Int)) (Int.emod_nonneg _ (by omega)) (by have := Int.emod_lt_of_pos y hlp; rw [List.length_map] at this ⊢; exact this)
    obtain ⟨q, hq, eq⟩ := ix_map (l := dirs4) (f := ce) (fun _ => rfl) (v := y / 8 % 4) (Int.emod_nonneg _ (by decide)) (Int.emod_lt_of_pos _ (by decide))
    repeat (first | refine ⟨_, rfl, ?_⟩ | refine ⟨rfl, ?_⟩)
    refine ⟨_, mod_ok hlp, ?_⟩
    repeat (first | refine ⟨_, rfl, ?_⟩ | refine ⟨rfl, ?_⟩)
    refine ⟨_, ep, ?_⟩
    repeat (first | refine ⟨_, rfl, ?_⟩ | refine ⟨rfl, ?_⟩)
    refine ⟨_, fdiv_s (by decide) (by decide), ?_⟩
    repeat (first | refine ⟨_, rfl, ?_⟩ | refine ⟨rfl, ?_⟩)
    refine ⟨_, eq, ?_⟩
    repeat (first | refine ⟨_, rfl, ?_⟩ | refine ⟨rfl, ?_⟩)
    refine ⟨_, ce_nmemL (a := (p.1 + q.1, p.2 + q.2)) (o := true), ?_⟩
    refine vB_if (fun hn => ?_) (fun _ => ?_)
    · have hn : (p.1 + q.1, p.2 + q.2) ∉ l := by simpa using hn
      repeat (first | refine ⟨_, rfl, ?_⟩ | refine ⟨rfl, ?_⟩)
      refine app_ok rfl (by rw [List.length_map]; show _ < 16777216; have := g.few; omega) ?_
      exact ⟨l ++ [(p.1 + q.1, p.2 + q.2)], some y, some (p.1 + q.1, p.2 + q.2), g.snoc hp hq hn, by rw [List.map_append]; rfl⟩
    · exact ⟨l, some y, some (p.1 + q.1, p.2 + q.2), g.more, rfl⟩
  · rintro ρ ⟨l, X, Y, g, rfl⟩
    have few : l.length ≤ most := Nat.le_trans g.few (by omega)
    have hcl : 0 < ((cs.map sgE).length : Int) := by
      rw [List.length_map]
      have := List.length_pos_iff.mpr hc
      omega
    refine at_ (ρ' := [some (.int x), some (.lst false (cs.map sgE)), some (.int (most : Int)), some (.lst false (xs.map .int)), some (.lst true (l.map ce)), X.map D.int, Y.map ce, none]) rfl ?_
    repeat (first | refine ⟨_, rfl, ?_⟩ | refine ⟨rfl, ?_⟩)
    refine at_ (ρ' := [some (.int x), some (.lst false (cs.map sgE)), some (.int (most : Int)), some (.lst false (xs.map .int)), some (.lst false (l.map ce)), X.map D.int, Y.map ce, none]) (by rw [frz_lst (fun _ => rfl)]; rfl) ?_
    repeat (first | refine ⟨_, rfl, ?_⟩ | refine ⟨rfl, ?_⟩)
    refine ⟨by cases X <;> cases Y <;> rfl, ?_⟩
    refine zip_v ?_
    repeat (first | refine ⟨_, rfl, ?_⟩ | refine ⟨rfl, ?_⟩)
    refine ⟨_, sl_map (f := D.int) (fun _ => rfl) false xs (some 7) none, ?_⟩
    dsimp only
    rw [frz_lst (fun _ => rfl)]
    refine ⟨_, _, _, _, rfl, rfl, by rw [map_unfl (fun _ => rfl), map_unfl (fun _ => rfl)]; rfl, ?_⟩
    refine ⟨by cases X <;> cases Y <;> rfl, ?_⟩
    rw [zip_map]
    have ecut : cutL xs (some 7) none = xs.drop 7 := cut_lo xs 7
    rw [ecut]
    let cf : Int → Nat := fun y => cs.getD (y % ((cs.map sgE).length : Int)).toNat 0
    have cfm : ∀ y, cf y ∈ cs ∧ o_ix [.lst false (cs.map sgE), .int (y % ((cs.map sgE).length : Int))] = some (sgE (cf y)) := by
      intro y
      have u0 := Int.emod_nonneg y (show ((cs.map sgE).length : Int) ≠ 0 by omega)
      have u1 := Int.emod_lt_of_pos y hcl
      obtain ⟨k, hk⟩ := Int.eq_ofNat_of_zero_le u0
      have hkl : k < cs.length := by rw [hk, List.length_map] at u1; omega
      have e1 : cs[k]? = some (cf y) := by
        show _ = some (cs.getD (y % ((cs.map sgE).length : Int)).toNat 0)
        rw [hk, Int.toNat_natCast, List.getD_eq_getElem?_getD, List.getElem?_eq_getElem hkl]
        rfl
      exact ⟨List.mem_of_getElem? e1, ix_nat (f := sgE) (fun _ => rfl) hk e1⟩
    refine comp_all (l := l.zip (xs.drop 7)) (e := fun p => D.tup false [ce p.1, .int p.2]) (fun p => sp (p.1.1, p.1.2, [cf p.2])) (fun p hp P hP => ?_) (by rw [List.length_zip]; show _ ≤ 16777216; omega) (fun ρ' h' hl' => ⟨hl', ?_⟩)
    · repeat (first | refine ⟨_, rfl, ?_⟩ | refine ⟨rfl, ?_⟩)
      refine ⟨_, mod_ok hcl, ?_⟩
      repeat (first | refine ⟨_, rfl, ?_⟩ | refine ⟨rfl, ?_⟩)
      refine ⟨_, (cfm p.2).2, ?_⟩
      exact hP _ rfl
    rw [unclr_same h']
    have eL : ((l.zip (xs.drop 7)).map fun p => sp (p.1.1, p.1.2, [cf p.2])) = ((l.zip (xs.drop 7)).map fun p => (p.1.1, p.1.2, [cf p.2])).map sp := by rw [List.map_map]; rfl
    have lz : (l.zip (xs.drop 7)).map (·.1) = l := zip_fst' _ _ (by rw [List.length_drop]; omega)
    have lc : (((l.zip (xs.drop 7)).map fun p => ((p.1.1, p.1.2, [cf p.2]) : Sp))).map cell = l := by
      rw [List.map_map]
      exact lz
    have ll : ((l.zip (xs.drop 7)).map fun p => ((p.1.1, p.1.2, [cf p.2]) : Sp)).length = l.length := by
      have := congrArg List.length lc
      rwa [List.length_map] at this
    have gl : ∀ s ∈ ((l.zip (xs.drop 7)).map fun p => ((p.1.1, p.1.2, [cf p.2]) : Sp)), ∃ c ∈ cs, s.2.2 = [c] := fun s hs => by
      obtain ⟨p, hp, rfl⟩ := List.mem_map.mp hs
      exact ⟨_, (cfm p.2).1, rfl⟩
    rw [eL]
    rw [frz_lst (fun _ => rfl)]
    generalize ((l.zip (xs.drop 7)).map fun p => ((p.1.1, p.1.2, [cf p.2]) : Sp)) = L at lc ll gl
    have ne : L ≠ [] := fun e => g.ne (by rw [← lc, e]; rfl)
    have GLL : GL L := fun s hs => by
      obtain ⟨c, hc, e⟩ := gl s hs
      exact ⟨c, e, hcs c hc⟩
    have k := lformed n (d := .lst false (L.map sp)) (.inl rfl) ne (by omega) GLL.okz
    refine ⟨_, ?_, k⟩
    repeat (first | refine ⟨_, rfl, ?_⟩ | refine ⟨rfl, ?_⟩)
    refine ⟨formedS L, Form.formed GLL ne (by rw [lc]; exact g.nd) (by rw [lc]; exact g.hang), by rw [formedS_len, ll]; exact few, fun s hs => ?_, rfl⟩
    unfold formedS at hs
    obtain ⟨t, ht, rfl⟩ := List.mem_map.mp (sortS_mem.mp hs)
    exact gl t ht

end MP.k15

set_option autoImplicit false
set_option linter.all false
set_option maxRecDepth 100000
set_option maxHeartbeats 0
namespace MP.k15
open PySem MP
abbrev modes : List (List Nat × Nat) := [([115, 116, 105, 108, 108], 1), ([116, 117, 114, 110], 4), ([102, 108, 105, 112], 8)]
theorem mode_ix {p : List Nat × Nat} (h : p ∈ modes) : o_ix [.dic true 0 [.str [115, 116, 105, 108, 108], .str [116, 117, 114, 110], .str [102, 108, 105, 112]] [.int 1, .int 4, .int 8], .str p.1] = some (.int (p.2 : Nat)) := by
  simp only [List.mem_cons, List.not_mem_nil, or_false] at h
  rcases h with rfl | rfl | rfl <;> simp [o_ix, lookD, eqD_str, keyOk, nice, D.sh, D.fl, keyK]
theorem mode_8 {p : List Nat × Nat} (h : p ∈ modes) : p.2 ≤ 8 := by
  have : ∀ p ∈ modes, p.2 ≤ 8 := by decide
  exact this p h
abbrev turns (l : List Sp) (m : Nat) : List (List Sp) := (List.range m).map fun t => turnF t l
theorem turns_fs {l : List Sp} (f : Form l) (m : Nat) : Fs (turns l m) l.length := by
  refine ⟨fun a ha => ?_, ?_, fun a ha => ?_⟩
  · obtain ⟨t, _, rfl⟩ := List.mem_map.mp ha
    exact turnF_len t l
  · exact List.length_pos_iff.mpr f.ne
  · obtain ⟨t, _, rfl⟩ := List.mem_map.mp ha
    exact (f.turn t).okz
theorem due_nice {B : List (List Sp)} {m : Nat} (f : Fs B m) {o : Bool} : nice (.lst o ((sortL B).map tfm)) = true := by
  show shs 59 _ = true
  rw [shs_iff]
  intro d hd
  obtain ⟨a, ha, rfl⟩ := List.mem_map.mp hd
  exact sps_shs (f.z a (sortL_mem.mp ha)) 57

abbrev kdD (nm : List Nat) (lo : Int) (hi : D) (p : List Nat × Nat) (F : List Sp) : D := .tup false [.str nm, .int lo, hi, .str p.1, tfm F]
abbrev fms (F : List Sp) (p : List Nat × Nat) : List (List Sp) := sortL (nub (turns F p.2))
theorem nub_fs {F : List Sp} (f : Form F) (m : Nat) : Fs (nub (turns F m)) F.length := ⟨fun a ha => (turns_fs f m).len a (mem_nub.mp ha), (turns_fs f m).m1, fun a ha => (turns_fs f m).z a (mem_nub.mp ha)⟩
theorem lforms (n : Nat) {nm : List Nat} {lo : Int} {hi : D} {F : List Sp} (f : Form F) (hn : F.length ≤ 1000) {p : List Nat × Nat} (hp : p ∈ modes) (hh : argsOk [false] [kdD nm lo hi p F] = true) : runF tab (n + 3) 16 [kdD nm lo hi p F] = .ok (.lst true ((fms F p).map tfm)) [none] := by
  have h8 := mode_8 hp
  refine run_ok (F := f__law_forms) (P := fun r => r = .ok (.lst true ((fms F p).map tfm)) [none]) rfl rfl ?_
  repeat (first | refine ⟨_, rfl, ?_⟩ | refine ⟨rfl, ?_⟩)
  refine ⟨_, mode_ix hp, ?_⟩
  repeat (first | refine ⟨_, rfl, ?_⟩ | refine ⟨rfl, ?_⟩)
  refine ⟨rng_ok (by omega) (by omega), ?_⟩
  rw [Int.toNat_natCast]
  refine ⟨rfl, ?_⟩
  refine comp_all (l := List.range p.2) (e := fun (k : Nat) => .int (k : Int)) (fun t => tfm (turnF t F)) (fun t ht P hP => ?_) (by rw [List.length_range]; show _ ≤ 16777216; omega) (fun ρ' h' hl' => ⟨hl', ?_⟩)
  · have ht := List.mem_range.mp ht
    have k := lturned n f hn (t := t) (by omega)
    repeat (first | refine ⟨_, rfl, ?_⟩ | refine ⟨rfl, ?_⟩)
    refine ⟨_, ?_, k⟩
    repeat (first | refine ⟨_, rfl, ?_⟩ | refine ⟨rfl, ?_⟩)
    exact hP _ rfl
  rw [unclr_same h']
  have e : ((List.range p.2).map fun t => tfm (turnF t F)) = (turns F p.2).map tfm := by rw [List.map_map]; rfl
  rw [e]
  refine ⟨_, sorted_set (o := true) (turns_fs f p.2) (by rw [List.length_map, List.length_range]; omega) (nub_nodup _) (fun a => mem_nub), ?_⟩
  rfl

theorem formed (n : Nat) (l : List Sp) (o : Bool) (ha : argsOk [false] [D.lst o (l.map sp)] = true) (hl : l ≠ []) (hn : l.length ≤ 1000) (hz : okz l) : runF tab (n + 1) 0 [.lst o (l.map sp)] = .ok (.tup false ((formedS l).map sp)) [none] := by
  have ho : o = false := by cases o with | false => rfl | true => cases ha
  subst ho
  refine run_ok (F := f_formed) (P := fun r => r = .ok (.tup false ((formedS l).map sp)) [none]) rfl rfl ?_
  have hlim : l.length ≤ lim := by show _ ≤ 16777216; omega
  repeat (first | refine ⟨_, rfl, ?_⟩ | refine ⟨rfl, ?_⟩)
  refine ⟨_, items_data (sps_unfl l), rfl, ?_⟩
  refine comp_all (fun s => .int s.1) (fun s hs P hP => ?_) hlim (fun ρ' h' hl' => ⟨hl', ?_⟩)
  · repeat (first | refine ⟨_, rfl, ?_⟩ | refine ⟨rfl, ?_⟩)
    exact hP _ rfl
  rw [unclr_same h']
  refine ⟨_, min1_map (o := true) (g := fun s : Sp => s.1) hl, ?_⟩
  repeat (first | refine ⟨_, rfl, ?_⟩ | refine ⟨rfl, ?_⟩)
  refine ⟨_, items_data (sps_unfl l), rfl, ?_⟩
  refine comp_all (fun s => .int s.2.1) (fun s hs P hP => ?_) hlim (fun ρ' h' hl' => ⟨hl', ?_⟩)
  · repeat (first | refine ⟨_, rfl, ?_⟩ | refine ⟨rfl, ?_⟩)
    exact hP _ rfl
  rw [unclr_same h']
  refine ⟨_, min1_map (o := true) (g := fun s : Sp => s.2.1) hl, ?_⟩
  repeat (first | refine ⟨_, rfl, ?_⟩ | refine ⟨rfl, ?_⟩)
  refine ⟨_, items_data (sps_unfl l), rfl, ?_⟩
  refine comp_all (fun s => sp (s.1 - minL (l.map (·.1)), s.2.1 - minL (l.map (·.2.1)), s.2.2)) (fun s hs P hP => ?_) hlim (fun ρ' h' hl' => ⟨hl', ?_⟩)
  · repeat (first | refine ⟨_, rfl, ?_⟩ | refine ⟨rfl, ?_⟩)
    exact hP _ rfl
  rw [unclr_same h']
  have e : (l.map fun s => sp (s.1 - minL (l.map (·.1)), s.2.1 - minL (l.map (·.2.1)), s.2.2)) = (l.map fun s => (s.1 - minL (l.map (·.1)), s.2.1 - minL (l.map (·.2.1)), s.2.2)).map sp := by rw [List.map_map]; rfl
  have hz' : okz (l.map fun s => (s.1 - minL (l.map (·.1)), s.2.1 - minL (l.map (·.2.1)), s.2.2)) := fun s hs => by
    obtain ⟨t, ht, rfl⟩ := List.mem_map.mp hs
    exact hz t ht
  rw [e]
  refine ⟨_, if_pos (sps_sort hz'), ?_⟩
  rw [sortD_map]
  refine ⟨_, if_pos (sps_unfl _), ?_⟩
  rfl

theorem cell_turned (n : Nat) (p : Ce) {t : Nat} (ht : t < 8) (high wide : Int) : runF tab (n + 1) 3 [ce p, .int (t : Int), .int high, .int wide] = .ok (ce (cturn t (high - 1) (wide - 1) p)) [none, none, none, none] := by
  refine run_ok (F := f_cell_turned) (P := fun r => r = .ok (ce (cturn t (high - 1) (wide - 1) p)) [none, none, none, none]) rfl rfl ?_
  repeat (first | refine ⟨_, rfl, ?_⟩ | refine ⟨rfl, ?_⟩)
  refine if_cut (fun ρ => ∃ q : Ce, ρ = [some (ce p), some (.int (t : Int)), some (.int high), some (.int wide), some (.int q.1), some (.int q.2), none] ∧ cquaN (t % 4) (high - 1) (wide - 1) q = cturn t (high - 1) (wide - 1) p) (fun h => ?_) (fun h => ?_) ?_
  · have h4 : 4 ≤ t := by have := of_decide_eq_true h; omega
    repeat (first | refine ⟨_, rfl, ?_⟩ | refine ⟨rfl, ?_⟩)
    refine ⟨(p.1, wide - 1 - p.2), rfl, ?_⟩
    unfold cturn
    rw [if_pos h4]
    rfl
  · have h4 : ¬ 4 ≤ t := by have := of_decide_eq_false h; omega
    refine ⟨p, rfl, ?_⟩
    unfold cturn
    rw [if_neg h4]
  rintro ρ ⟨q, rfl, hq⟩
  repeat (first | refine ⟨_, rfl, ?_⟩ | refine ⟨rfl, ?_⟩)
  refine ⟨rng_ok (by omega) (by omega), ?_⟩
  have e4 : ((t : Int) % 4).toNat = t % 4 := by omega
  rw [e4]
  refine for_rng (fun i ρ => ∃ (r : Ce) (hh ww : Int), ρ = [some (ce p), some (.int (t : Int)), some (.int hh), some (.int ww), some (.int r.1), some (.int r.2), none] ∧ cquaN (t % 4 - i) (hh - 1) (ww - 1) r = cturn t (high - 1) (wide - 1) p) ⟨q, high, wide, rfl, hq⟩ ?_ ?_
  · rintro i ρ hi ⟨r, hh, ww, rfl, e⟩
    repeat (first | refine ⟨_, rfl, ?_⟩ | refine ⟨rfl, ?_⟩)
    refine ⟨(r.2, hh - 1 - r.1), ww, hh, rfl, ?_⟩
    rw [← e, show t % 4 - i = (t % 4 - (i + 1)) + 1 by omega]
    rfl
  · rintro ρ ⟨r, hh, ww, rfl, e⟩
    rw [Nat.sub_self] at e
    have e : r = _ := e
    rw [← e]
    repeat (first | refine ⟨_, rfl, ?_⟩ | refine ⟨rfl, ?_⟩)
    rfl

theorem height (n : Nat) {l : List Sp} (hl : l ≠ []) (hn : l.length ≤ 1000) : runF tab (n + 1) 1 [.tup false (l.map sp)] = .ok (.int (maxL (l.map (·.1)) + 1)) [none] := by
  refine run_ok (F := f_height) (P := fun r => r = .ok (.int (maxL (l.map (·.1)) + 1)) [none]) rfl rfl ?_
  have hlim : l.length ≤ lim := by show _ ≤ 16777216; omega
  repeat (first | refine ⟨_, rfl, ?_⟩ | refine ⟨rfl, ?_⟩)
  refine ⟨_, if_pos (sps_unfl l), rfl, ?_⟩
  refine comp_all (fun s => .int s.1) (fun s hs P hP => ?_) hlim (fun ρ' h' hl' => ⟨hl', ?_⟩)
  · repeat (first | refine ⟨_, rfl, ?_⟩ | refine ⟨rfl, ?_⟩)
    exact hP _ rfl
  rw [unclr_same h']
  refine ⟨_, max1_map (o := true) (g := fun s : Sp => s.1) hl, ?_⟩
  repeat (first | refine ⟨_, rfl, ?_⟩ | refine ⟨rfl, ?_⟩)
  rfl
theorem width (n : Nat) {l : List Sp} (hl : l ≠ []) (hn : l.length ≤ 1000) : runF tab (n + 1) 2 [.tup false (l.map sp)] = .ok (.int (maxL (l.map (·.2.1)) + 1)) [none] := by
  refine run_ok (F := f_width) (P := fun r => r = .ok (.int (maxL (l.map (·.2.1)) + 1)) [none]) rfl rfl ?_
  have hlim : l.length ≤ lim := by show _ ≤ 16777216; omega
  repeat (first | refine ⟨_, rfl, ?_⟩ | refine ⟨rfl, ?_⟩)
  refine ⟨_, if_pos (sps_unfl l), rfl, ?_⟩
  refine comp_all (fun s => .int s.2.1) (fun s hs P hP => ?_) hlim (fun ρ' h' hl' => ⟨hl', ?_⟩)
  · repeat (first | refine ⟨_, rfl, ?_⟩ | refine ⟨rfl, ?_⟩)
    exact hP _ rfl
  rw [unclr_same h']
  refine ⟨_, max1_map (o := true) (g := fun s : Sp => s.2.1) hl, ?_⟩
  repeat (first | refine ⟨_, rfl, ?_⟩ | refine ⟨rfl, ?_⟩)
  rfl

theorem turned (n : Nat) {l : List Sp} (f : Form l) (hn : l.length ≤ 1000) {t : Nat} (ht : t < 8) : runF tab (n + 2) 4 [.tup false (l.map sp), .int (t : Int)] = .ok (.tup false ((turnF t l).map sp)) [none, none] := by
  refine run_ok (F := f_turned) (P := fun r => r = .ok (.tup false ((turnF t l).map sp)) [none, none]) rfl rfl ?_
  have hlim : l.length ≤ lim := by show _ ≤ 16777216; omega
  obtain ⟨h, w, b⟩ := f.box
  have e1 := height n f.ne hn
  have e2 := width n f.ne hn
  rw [b.high] at e1
  rw [b.wide] at e2
  have hb := b.turn t
  have e3 : turnF t l = formedS (l.map (turnS t h w)) := by
    obtain ⟨h', w', b'⟩ := hb
    unfold turnF
    rw [b.high, b.wide, b'.formed]
  have e4 := formed n (l.map (turnS t h w)) false rfl (fun e => f.ne (List.map_eq_nil_iff.mp e)) (by rw [List.length_map]; exact hn) (f.gl.turn t h w).okz
  rw [← e3] at e4
  repeat (first | refine ⟨_, rfl, ?_⟩ | refine ⟨rfl, ?_⟩)
  refine ⟨_, ?_, e1⟩
  repeat (first | refine ⟨_, rfl, ?_⟩ | refine ⟨rfl, ?_⟩)
  refine ⟨_, ?_, e2⟩
  repeat (first | refine ⟨_, rfl, ?_⟩ | refine ⟨rfl, ?_⟩)
  refine ⟨_, if_pos (sps_unfl l), rfl, ?_⟩
  refine comp_all (fun s => sp (turnS t h w s)) (fun s hs P hP => ?_) hlim (fun ρ' h' hl' => ⟨hl', ?_⟩)
  · have e5 := cell_turned n (cell s) ht (h + 1) (w + 1)
    rw [show h + 1 - 1 = h by omega, show w + 1 - 1 = w by omega] at e5
    repeat (first | refine ⟨_, rfl, ?_⟩ | refine ⟨rfl, ?_⟩)
    refine ⟨_, ?_, e5⟩
    repeat (first | refine ⟨_, rfl, ?_⟩ | refine ⟨rfl, ?_⟩)
    rw [turnS_cell] at hP
    exact hP _ rfl
  rw [unclr_same h']
  have e6 : (l.map fun s => sp (turnS t h w s)) = (l.map (turnS t h w)).map sp := by rw [List.map_map]; rfl
  rw [e6]
  refine ⟨_, ?_, eq_args e4 (by rw [frz_lst (fun _ => rfl)]; rfl)⟩
  repeat (first | refine ⟨_, rfl, ?_⟩ | refine ⟨rfl, ?_⟩)
  rfl

theorem forms_of (n : Nat) {l : List Sp} (f : Form l) (hn : l.length ≤ 1000) {p : List Nat × Nat} (hp : p ∈ modes) {B : List (List Sp)} (nd : B.Nodup) (me : ∀ a, a ∈ B ↔ a ∈ turns l p.2) : runF tab (n + 3) 5 [.tup false (l.map sp), .str p.1] = .ok (.lst true ((sortL B).map tfm)) [none, none] := by
  have h8 := mode_8 hp
  refine run_ok (F := f_forms_of) (P := fun r => r = .ok (.lst true ((sortL B).map tfm)) [none, none]) rfl rfl ?_
  repeat (first | refine ⟨_, rfl, ?_⟩ | refine ⟨rfl, ?_⟩)
  refine ⟨_, mode_ix hp, ?_⟩
  repeat (first | refine ⟨_, rfl, ?_⟩ | refine ⟨rfl, ?_⟩)
  refine ⟨rng_ok (by omega) (by omega), ?_⟩
  rw [Int.toNat_natCast]
  refine ⟨rfl, ?_⟩
  refine comp_all (l := List.range p.2) (e := fun (k : Nat) => .int (k : Int)) (fun t => tfm (turnF t l)) (fun t ht P hP => ?_) (by rw [List.length_range]; show _ ≤ 16777216; omega) (fun ρ' h' hl' => ⟨hl', ?_⟩)
  · have ht := List.mem_range.mp ht
    have k := turned n f hn (t := t) (by omega)
    repeat (first | refine ⟨_, rfl, ?_⟩ | refine ⟨rfl, ?_⟩)
    refine ⟨_, ?_, k⟩
    repeat (first | refine ⟨_, rfl, ?_⟩ | refine ⟨rfl, ?_⟩)
    exact hP _ rfl
  rw [unclr_same h']
  have e : ((List.range p.2).map fun t => tfm (turnF t l)) = (turns l p.2).map tfm := by rw [List.map_map]; rfl
  rw [e]
  refine ⟨_, sorted_set (o := true) (turns_fs f p.2) (by rw [List.length_map, List.length_range]; omega) nd me, ?_⟩
  rfl

end MP.k15

set_option autoImplicit false
set_option linter.all false
set_option maxRecDepth 100000
set_option maxHeartbeats 0
namespace MP.k15
open PySem MP
/-- a kind -/
structure Kd where
  nm : List Nat
  p : List Nat × Nat
  F : List Sp
structure Kd.Ok (k : Kd) : Prop where
  f : Form k.F
  few : k.F.length ≤ 6
  p : k.p ∈ modes
  nm : (k.nm.all fun c => decide (c < 1114112)) = true
abbrev Kd.d (k : Kd) : D := kdD k.nm 0 .non k.p k.F
theorem mode_chars {p : List Nat × Nat} (h : p ∈ modes) : (p.1.all fun c => decide (c < 1114112)) = true := by
  have : ∀ p ∈ modes, (p.1.all fun c => decide (c < 1114112)) = true := by decide
  exact this p h
theorem kd_sh {k : Kd} (o : k.Ok) (m : Nat) : (k.d).sh (m + 3) = true := by
  show (k.nm.all _ && (true && (true && (k.p.1.all _ && (shs (m + 1) (k.F.map sp) && true))))) = true
  rw [o.nm, mode_chars o.p, sps_shs o.f.okz]
  rfl
theorem kds_nice {ks : List Kd} (h : ∀ k ∈ ks, k.Ok) (o : Bool) : nice (.lst o (ks.map Kd.d)) = true := by
  show shs 59 _ = true
  rw [shs_iff]
  intro d hd
  obtain ⟨k, hk, rfl⟩ := List.mem_map.mp hd
  exact kd_sh (h k hk) 56
/-- whether a kind's forms turned are the same -/
def kf (k : Kd) (t : Nat) : Bool := eqD (.lst true (sortD ((fms k.F k.p).map fun a => tfm (turnF t a)))) (.lst false ((fms k.F k.p).map tfm))
theorem fms_form {k : Kd} (o : k.Ok) {a : List Sp} (h : a ∈ fms k.F k.p) : Form a ∧ a.length = k.F.length := by
  obtain ⟨t, _, rfl⟩ := List.mem_map.mp (mem_nub.mp (sortL_mem.mp h))
  exact ⟨o.f.turn t, turnF_len t k.F⟩
theorem fms_len (k : Kd) (hp : k.p ∈ modes) : (fms k.F k.p).length ≤ 8 := by
  have h : (nub (turns k.F k.p.2)).length ≤ k.p.2 := by
    have : ∀ l : List (List Sp), (nub l).length ≤ l.length := by
      intro l
      induction l with
      | nil => exact Nat.le_refl _
      | cons a l ih => rw [nub]; split <;> simp <;> omega
    refine Nat.le_trans (this _) ?_
    rw [List.length_map, List.length_range]
    exact Nat.le_refl _
  have : (fms k.F k.p).length = (nub (turns k.F k.p.2)).length := List.length_mergeSort _
  rw [this]
  exact Nat.le_trans h (mode_8 hp)
theorem tfm_srt {k : Kd} (o : k.Ok) (t : Nat) : i_sorted [.lst true ((fms k.F k.p).map fun a => tfm (turnF t a))] = some (.lst true (sortD ((fms k.F k.p).map fun a => tfm (turnF t a)))) := by
  have e : ((fms k.F k.p).map fun a => tfm (turnF t a)) = ((fms k.F k.p).map fun a => turnF t a).map tfm := by rw [List.map_map]; rfl
  have fs : Fs ((fms k.F k.p).map fun a => turnF t a) k.F.length := by
    refine ⟨fun a ha => ?_, List.length_pos_iff.mpr o.f.ne, fun a ha => ?_⟩
    · obtain ⟨b, hb, rfl⟩ := List.mem_map.mp ha
      rw [turnF_len]
      exact (fms_form o hb).2
    · obtain ⟨b, hb, rfl⟩ := List.mem_map.mp ha
      exact ((fms_form o hb).1.turn t).okz
  rw [e]
  show (if (sortOk _ && unfl _) = true then some (D.lst true (sortD _)) else none) = _
  rw [fs.sortOk, map_unfl (fun _ => rfl)]
  rfl
theorem srt_nice {k : Kd} (o : k.Ok) (t : Nat) : nice (.lst true (sortD ((fms k.F k.p).map fun a => tfm (turnF t a)))) = true := by
  show shs 59 _ = true
  rw [shs_iff]
  intro d hd
  obtain ⟨a, ha, rfl⟩ := List.mem_map.mp (sort_mem.mp hd)
  exact sps_shs ((fms_form o ha).1.turn t).okz 57
theorem fms_nice {k : Kd} (o : k.Ok) : nice (.lst false ((fms k.F k.p).map tfm)) = true := due_nice (nub_fs o.f k.p.2)

abbrev GRT : List Nat := [65, 66, 67, 68, 69, 70, 71, 72, 73, 74, 75, 76, 77, 78, 79, 80, 81, 82, 83, 84, 85, 86, 87, 88, 89, 90]
abbrev SML : List Nat := [97, 98, 99, 100, 101, 102, 103, 104, 105, 106, 107, 108, 109, 110, 111, 112, 113, 114, 115, 116, 117, 118, 119, 120, 121, 122]
theorem grt_ok {c : Nat} (h : c ∈ GRT) : 65 ≤ c ∧ c ≤ 90 := by
  have : ∀ c ∈ GRT, 65 ≤ c ∧ c ≤ 90 := by decide
  exact this c h
theorem sml_ok {c : Nat} (h : c ∈ SML) : 97 ≤ c ∧ c ≤ 122 := by
  have : ∀ c ∈ SML, 97 ≤ c ∧ c ≤ 122 := by decide
  exact this c h
theorem letters (n : Nat) (x : Int) : ∃ cs : List Nat, cs.length = 3 ∧ (∀ c ∈ cs, 65 ≤ c ∧ c ≤ 90) ∧ runF tab (n + 1) 17 [.int x] = .ok (.lst true (cs.map sgE)) [none] := by
  refine run_ok (F := f__law_letters) (P := fun r => ∃ cs : List Nat, cs.length = 3 ∧ (∀ c ∈ cs, 65 ≤ c ∧ c ≤ 90) ∧ r = .ok (.lst true (cs.map sgE)) [none]) rfl rfl ?_
  repeat (first | refine ⟨_, rfl, ?_⟩ | refine ⟨rfl, ?_⟩)
  refine ⟨rng_ok (by omega) (by omega), rfl, ?_⟩
  refine comp_st (l := List.range 3) (e := fun (k : Nat) => .int (k : Int)) sgE (fun c => 65 ≤ c ∧ c ≤ 90) (fun ρ' => clr [2] ρ' = clr [2] [some (.int x), some (.str GRT), none]) rfl (fun k hk ρ₁ hJ P hP => ?_) (fun cs ρ' hl hc hJ => ?_)
  · have hk := List.mem_range.mp hk
    rw [hJ]
    refine ⟨_, rfl, ?_⟩
    obtain ⟨c, hc, ec⟩ := chr_ix' (z := GRT) (v := (x + (k : Int) * (1 + x / 26 % 8)) % 26) (Int.emod_nonneg _ (by decide)) (Int.emod_lt_of_pos _ (by decide))
    repeat (first | refine ⟨_, rfl, ?_⟩ | refine ⟨rfl, ?_⟩)
    refine ⟨_, fdiv_s (by decide) (by decide), ?_⟩
    repeat (first | refine ⟨_, rfl, ?_⟩ | refine ⟨rfl, ?_⟩)
    refine ⟨_, if_pos (mulOk_l (by omega) (by omega)), ?_⟩
    repeat (first | refine ⟨_, rfl, ?_⟩ | refine ⟨rfl, ?_⟩)
    refine ⟨_, ec, ?_⟩
    exact hP c _ (grt_ok hc) rfl
  · refine ⟨by rw [List.length_map, hl]; exact Nat.le_of_ble_eq_true rfl, cs, by rw [hl]; rfl, hc, ?_⟩
    have e := unclr_same hJ
    show FR.ok _ (outsR [false] (unclr [some (.int x), some (.str GRT), none] [2] ρ')) = _
    rw [e]
    rfl
theorem kinds (n : Nat) (x : Int) {cs : List Nat} (hc : cs ≠ []) (hc2 : cs.length ≤ 1000) (hcs : ∀ c ∈ cs, 65 ≤ c ∧ c ≤ 90) {most : Nat} (m0 : 1 ≤ most) (m6 : most ≤ 6) : ∃ ks : List Kd, 1 ≤ ks.length ∧ ks.length ≤ 6 ∧ (∀ k ∈ ks, k.Ok) ∧ runF tab (n + 3) 18 [.int x, .lst false (cs.map sgE), .int (most : Int)] = .ok (.lst true (ks.map Kd.d)) [none, none, none] := by
  obtain ⟨xs, lx, px, hx⟩ := mixed (n + 1) x 10 (by decide)
  refine run_ok (F := f__law_kinds) (P := fun r => ∃ ks : List Kd, 1 ≤ ks.length ∧ ks.length ≤ 6 ∧ (∀ k ∈ ks, k.Ok) ∧ r = .ok (.lst true (ks.map Kd.d)) [none, none, none]) rfl rfl ?_
  have at_x : ∀ i : Nat, i < 10 → ∃ y, o_ix [.lst false (xs.map D.int), .int (i : Int)] = some (.int y) ∧ 0 ≤ y := fun i hi => by
    have e : xs[i]? = some (xs[i]'(by omega)) := List.getElem?_eq_getElem (by omega)
    exact ⟨_, ix_lst (by rw [List.getElem?_map, e]; rfl) rfl, px _ (List.mem_of_getElem? e)⟩
  obtain ⟨x0, ix0, p0⟩ := at_x 0 (by decide)
  obtain ⟨x1, ix1, p1⟩ := at_x 1 (by decide)
  obtain ⟨x2, ix2, p2⟩ := at_x 2 (by decide)
  obtain ⟨x3, ix3, p3⟩ := at_x 3 (by decide)
  obtain ⟨a, ha, ea⟩ := chr_ix' (z := SML) (v := x0 % 26) (Int.emod_nonneg _ (by decide)) (Int.emod_lt_of_pos _ (by decide))
  obtain ⟨b, hb, eb⟩ := chr_ix' (z := SML) (v := (x0 + 1 + x1 % 25) % 26) (Int.emod_nonneg _ (by decide)) (Int.emod_lt_of_pos _ (by decide))
  have ha := sml_ok ha
  have hb := sml_ok hb
  let nms : List (List Nat) := [[a, b], [a], [b], [b, a], [a, a], [b, b]]
  have nms_ok : ∀ z ∈ nms, (z.all fun c => decide (c < 1114112)) = true := by
    have a1 : decide (a < 1114112) = true := decide_eq_true (by omega)
    have b1 : decide (b < 1114112) = true := decide_eq_true (by omega)
    intro z hz
    simp only [nms, List.mem_cons, List.not_mem_nil, or_false] at hz
    rcases hz with rfl | rfl | rfl | rfl | rfl | rfl <;> simp [a1, b1] <;> omega
  repeat (first | refine ⟨_, rfl, ?_⟩ | refine ⟨rfl, ?_⟩)
  refine ⟨_, ?_, hx⟩
  refine ⟨rfl, _, rfl, ?_⟩
  refine at_ (ρ' := [some (.int x), some (.lst false (cs.map sgE)), some (.int (most : Int)), some (.lst false (xs.map .int)), none, none, none, none, none, none, none]) (by rw [frz_lst (fun _ => rfl)]; rfl) ?_
  repeat (first | refine ⟨_, rfl, ?_⟩ | refine ⟨rfl, ?_⟩)
  refine ⟨_, ix0, ?_⟩
  repeat (first | refine ⟨_, rfl, ?_⟩ | refine ⟨rfl, ?_⟩)
  refine ⟨_, ea, ?_⟩
  repeat (first | refine ⟨_, rfl, ?_⟩ | refine ⟨rfl, ?_⟩)
  refine ⟨_, ix0, ?_⟩
  repeat (first | refine ⟨_, rfl, ?_⟩ | refine ⟨rfl, ?_⟩)
  refine ⟨_, ix1, ?_⟩
  repeat (first | refine ⟨_, rfl, ?_⟩ | refine ⟨rfl, ?_⟩)
  refine ⟨_, eb, ?_⟩
  refine ⟨_, rfl, ?_⟩
  refine at_ (ρ' := [some (.int x), some (.lst false (cs.map sgE)), some (.int (most : Int)), some (.lst false (xs.map .int)), some (.str SML), some (.str [a]), some (.str [b]), none, none, none, none]) rfl ?_
  repeat (first | refine ⟨_, rfl, ?_⟩ | refine ⟨rfl, ?_⟩)
  refine ⟨_, ix2, ?_⟩
  repeat (first | refine ⟨_, rfl, ?_⟩ | refine ⟨rfl, ?_⟩)
  have u0 := Int.emod_nonneg x2 (show (6 : Int) ≠ 0 by decide)
  have u1 := Int.emod_lt_of_pos x2 (show (0 : Int) < 6 by decide)
  obtain ⟨u, hu⟩ := Int.eq_ofNat_of_zero_le u0
  rw [hu] at u1 ⊢
  refine ⟨rng_ok (by omega) (by omega), ?_⟩
  rw [show (1 + (u : Int)).toNat = 1 + u by omega]
  refine for_rng (fun i ρ => ∃ ks : List Kd, ks.length = i ∧ (∀ k ∈ ks, k.Ok) ∧ ρ = [some (.int x), some (.lst false (cs.map sgE)), some (.int (most : Int)), some (.lst false (xs.map .int)), some (.str SML), some (.str [a]), some (.str [b]), some (.lst false (nms.map .str)), some (.lst true (ks.map Kd.d)), none, none]) ⟨[], rfl, (fun q h => absurd h List.not_mem_nil), rfl⟩ ?_ ?_
  · rintro i ρ hi ⟨ks, lk, ok, rfl⟩
    have i6 : i < 6 := by omega
    obtain ⟨p, hp, ep⟩ := ix_map (l := modes) (f := fun p => D.str p.1) (fun _ => rfl) (v := x3 / ((i : Int) + 1) % 3) (Int.emod_nonneg _ (by decide)) (Int.emod_lt_of_pos _ (by decide))
    have en : nms[i]? = some (nms[i]'(by show i < 6; exact i6)) := List.getElem?_eq_getElem (by show i < 6; exact i6)
    have inm : o_ix [.lst false (nms.map D.str), .int (i : Int)] = some (.str (nms[i]'(by show i < 6; exact i6))) := ix_lst (by rw [List.getElem?_map, en]; rfl) rfl
    have nok := nms_ok _ (List.mem_of_getElem? en)
    generalize nms[i]'(by show i < 6; exact i6) = nm at inm nok
    obtain ⟨y, iy, _⟩ := at_x (4 + i) (by omega)
    rw [show ((4 + i : Nat) : Int) = 4 + (i : Int) by omega] at iy
    obtain ⟨F, f, lF, _, kF⟩ := lform n y hc hc2 hcs m0 m6
    repeat (first | refine ⟨_, rfl, ?_⟩ | refine ⟨rfl, ?_⟩)
    refine ⟨_, ix3, ?_⟩
    repeat (first | refine ⟨_, rfl, ?_⟩ | refine ⟨rfl, ?_⟩)
    refine ⟨_, fdiv_s (by omega) (by omega), ?_⟩
    repeat (first | refine ⟨_, rfl, ?_⟩ | refine ⟨rfl, ?_⟩)
    refine ⟨_, ep, ?_⟩
    repeat (first | refine ⟨_, rfl, ?_⟩ | refine ⟨rfl, ?_⟩)
    refine ⟨_, inm, ?_⟩
    repeat (first | refine ⟨_, rfl, ?_⟩ | refine ⟨rfl, ?_⟩)
    refine ⟨_, iy, ?_⟩
    repeat (first | refine ⟨_, rfl, ?_⟩ | refine ⟨rfl, ?_⟩)
    refine ⟨_, ?_, kF⟩
    repeat (first | refine ⟨_, rfl, ?_⟩ | refine ⟨rfl, ?_⟩)
    refine app_ok rfl (by rw [List.length_map]; show _ < 16777216; omega) ?_
    repeat (first | refine ⟨_, rfl, ?_⟩ | refine ⟨rfl, ?_⟩)
    refine ⟨ks ++ [⟨nm, p, F⟩], by simp [lk], fun k hk => ?_, by rw [List.map_append]; rfl⟩
    rcases List.mem_append.mp hk with hk | hk
    · exact ok k hk
    · rw [List.mem_singleton.mp hk]; exact ⟨f, by show F.length ≤ 6; omega, hp, nok⟩
  · rintro ρ ⟨ks, lk, ok, rfl⟩
    repeat (first | refine ⟨_, rfl, ?_⟩ | refine ⟨rfl, ?_⟩)
    exact ⟨ks, by omega, by omega, ok, rfl⟩

theorem cell_at (n : Nat) (ns : List Int) (k : Nat) : ∃ c, runF tab (n + 1) 11 [.lst false (ns.map .int), .int k] = .ok (.int c) [none, none] := by
  refine run_ok (F := f__law_cell_at) (P := fun r => ∃ c, r = .ok (.int c) [none, none]) rfl rfl ?_
  repeat (first | refine ⟨_, rfl, ?_⟩ | refine ⟨rfl, ?_⟩)
  refine vB_if (fun hk => ?_) (fun _ => ⟨_, rfl⟩)
  have hk : (k : Int) < ((ns.map D.int).length : Nat) := of_decide_eq_true hk
  obtain ⟨x, hx, hm⟩ := ix_map (l := ns) (f := D.int) (fun _ => rfl) (Int.natCast_nonneg k) (by rw [List.length_map] at hk; exact hk)
  repeat (first | refine ⟨_, rfl, ?_⟩ | refine ⟨rfl, ?_⟩)
  exact ⟨D.int x, hm, x, rfl⟩

end MP.k15

set_option autoImplicit false
set_option linter.all false
set_option maxRecDepth 100000
set_option maxHeartbeats 0
namespace MP.k15
open PySem MP
/-! placements laid -/
def sg (s : Sp) : Nat := s.2.2.headD 0
def putS (A : List (Ce × Nat)) (l : List Sp) : List (Ce × Nat) := l.foldl (fun A s => putA (cell s) (sg s) A) A
theorem putS_snoc (A : List (Ce × Nat)) (l : List Sp) (s : Sp) : putS A (l ++ [s]) = putA (cell s) (sg s) (putS A l) := by unfold putS; rw [List.foldl_append]; rfl
theorem putA_keep {p q : Ce} {c : Nat} {A : List (Ce × Nat)} (h : getA q A ≠ none) : getA q (putA p c A) ≠ none := by
  rw [getA_put]
  split
  · simp
  · exact h
theorem putS_keep {q : Ce} : ∀ (l : List Sp) {A : List (Ce × Nat)}, getA q A ≠ none → getA q (putS A l) ≠ none
  | [], A, h => h
  | s :: l, A, h => putS_keep l (A := putA (cell s) (sg s) A) (putA_keep h)
theorem putS_has : ∀ (l : List Sp) {A : List (Ce × Nat)} {s : Sp}, s ∈ l → getA (cell s) (putS A l) ≠ none
  | a :: l, A, s, h => by
    rcases List.mem_cons.mp h with e | h
    · subst e
      refine putS_keep l (A := putA (cell s) (sg s) A) ?_
      rw [getA_put, if_pos rfl]
      simp
    · exact putS_has l (A := putA (cell a) (sg a) A) h
theorem putS_val {B : Nat → Prop} : ∀ (l : List Sp) {A : List (Ce × Nat)}, (∀ s ∈ l, B (sg s)) → (∀ q c, getA q A = some c → B c) → ∀ q c, getA q (putS A l) = some c → B c
  | [], A, _, h => h
  | s :: l, A, hl, h => putS_val l (A := putA (cell s) (sg s) A) (fun t ht => hl t (List.mem_cons_of_mem _ ht)) fun q c e => by
    rw [getA_put] at e
    split at e
    · cases e; exact hl s List.mem_cons_self
    · exact h q c e
theorem putS_len : ∀ (l : List Sp) (A : List (Ce × Nat)), (putS A l).length ≤ A.length + l.length
  | [], A => Nat.le_refl _
  | s :: l, A => by
    have k := putS_len l (putA (cell s) (sg s) A)
    have k2 := putA_len (cell s) (sg s) A
    show (putS (putA (cell s) (sg s) A) l).length ≤ _
    rw [List.length_cons]
    omega
def great (c : Nat) : Prop := 65 ≤ c ∧ c ≤ 90
theorem gl_sg {s : Sp} (h : ∃ c, s.2.2 = [c] ∧ 65 ≤ c ∧ c ≤ 90) : s.2.2 = [sg s] ∧ great (sg s) := by
  obtain ⟨c, e, h1, h2⟩ := h
  unfold sg
  rw [e]
  exact ⟨rfl, h1, h2⟩

/-! placements laid -/
structure Laid (A : List (Ce × Nat)) (P : List Pl) (ks : List Kd) (h w : Nat) : Prop where
  gl : ∀ p ∈ P, ∀ s ∈ p.1, s.2.2 = [sg s] ∧ great (sg s)
  in_ : ∀ p ∈ P, ∀ s ∈ p.1, 0 ≤ s.1 ∧ s.1 < h ∧ 0 ≤ s.2.1 ∧ s.2.1 < w ∧ getA (cell s) A = some (sg s)
  val : ∀ q c, getA q A = some c → great c
  few : ∀ p ∈ P, p.1.length ≤ 6
  src : ∀ p ∈ P, ∃ (i : Nat) (k : Kd) (a : List Sp) (d r : Nat), p.2 = (i : Int) ∧ ks[i]? = some k ∧ a ∈ fms k.F k.p ∧ d < h ∧ r < w ∧ p.1 = a.map (shS (d : Int) (r : Int))
theorem putS_else : ∀ (l : List Sp) (B : List (Ce × Nat)) (q : Ce), (∀ s ∈ l, cell s ≠ q) → getA q (putS B l) = getA q B
  | [], B, q, _ => rfl
  | b :: l, B, q, hq => by
    show getA q (putS (putA (cell b) (sg b) B) l) = _
    rw [putS_else l _ q fun s hs => hq s (List.mem_cons_of_mem _ hs), getA_put, if_neg (hq b List.mem_cons_self)]
theorem putS_own : ∀ (l : List Sp) {A : List (Ce × Nat)}, (l.map cell).Nodup → ∀ s ∈ l, getA (cell s) (putS A l) = some (sg s)
  | a :: l, A, nd, s, hs => by
    rw [List.map_cons, List.nodup_cons] at nd
    show getA (cell s) (putS (putA (cell a) (sg a) A) l) = _
    rcases List.mem_cons.mp hs with e | hs
    · subst e
      rw [putS_else l _ _ fun t ht e => nd.1 (by rw [← e]; exact List.mem_map.mpr ⟨t, ht, rfl⟩), getA_put, if_pos rfl]
    · exact putS_own l nd.2 s hs
theorem laid (n : Nat) {ks : List Kd} (hk : ∀ k ∈ ks, k.Ok) (kne : ks ≠ []) (k6 : ks.length ≤ 6) {h w : Nat} (b : Bd h w) {zs : List Int} (hz : zs.length ≤ 12) :
    ∃ A P, Laid A P ks h w ∧ P.length ≤ 12 ∧ runF tab (n + 4) 19 [.lst false (ks.map Kd.d), .int (h : Int), .int (w : Int), .lst false (zs.map .int)] = .ok (.tup true [.lst true (P.map plD), dA A]) [none, none, none, none] := by
  obtain ⟨b1, b2, b3, b4⟩ := b
  have l1 := List.length_pos_iff.mpr kne
  refine run_ok (F := f__law_laid) (P := fun r => ∃ A P, Laid A P ks h w ∧ P.length ≤ 12 ∧ r = .ok (.tup true [.lst true (P.map plD), dA A]) [none, none, none, none]) rfl rfl ?_
  repeat (first | refine ⟨_, rfl, ?_⟩ | refine ⟨rfl, ?_⟩)
  refine ⟨_, items_data (map_unfl (fun _ => rfl) zs), ?_⟩
  refine for_list (l := zs) (e := D.int) (fun i ρ => ∃ A P, Laid A P ks h w ∧ P.length ≤ i ∧ A.length ≤ 6 * i ∧ ρ = [some (.lst false (ks.map Kd.d)), some (.int (h : Int)), some (.int (w : Int)), some (.lst false (zs.map .int)), some (.lst true (P.map plD)), some (dA A), none, none, none, none, none, none, none, none, none, none])
    ⟨[], [], ⟨fun p hp => absurd hp List.not_mem_nil, fun p hp => absurd hp List.not_mem_nil, (fun q c e => nomatch e), fun p hp => absurd hp List.not_mem_nil, fun p hp => absurd hp List.not_mem_nil⟩, Nat.le_refl _, Nat.le_refl _, rfl⟩ ?_ ?_
  · rintro i z ρ hiz ⟨A, P, L, hP, hA, rfl⟩
    have hi12 : i < 12 := by have := (List.getElem?_eq_some_iff.mp hiz).1; omega
    obtain ⟨xs, lx, px, hx⟩ := mixed (n + 2) z 4 (by decide)
    have at_x : ∀ i : Nat, i < 4 → ∃ y, o_ix [.lst false (xs.map D.int), .int (i : Int)] = some (.int y) ∧ 0 ≤ y := fun i hi => by
      have e : xs[i]? = some (xs[i]'(by omega)) := List.getElem?_eq_getElem (by omega)
      exact ⟨_, ix_lst (by rw [List.getElem?_map, e]; rfl) rfl, px _ (List.mem_of_getElem? e)⟩
    obtain ⟨x0, ix0, p0⟩ := at_x 0 (by decide)
    obtain ⟨x1, ix1, p1⟩ := at_x 1 (by decide)
    obtain ⟨x2, ix2, p2⟩ := at_x 2 (by decide)
    obtain ⟨x3, ix3, p3⟩ := at_x 3 (by decide)
    -- the kind
    have m0 : 0 ≤ x0 % (ks.length : Int) := Int.emod_nonneg _ (by omega)
    have m1 : x0 % (ks.length : Int) < ks.length := Int.emod_lt_of_pos _ (by omega)
    obtain ⟨j, ej⟩ : ∃ j : Nat, x0 % (ks.length : Int) = (j : Int) := ⟨(x0 % (ks.length : Int)).toNat, (Int.toNat_of_nonneg m0).symm⟩
    have hj : j < ks.length := by omega
    obtain ⟨k, hkj⟩ : ∃ k, ks[j]? = some k := ⟨_, List.getElem?_eq_getElem hj⟩
    have ok := hk k (List.mem_of_getElem? hkj)
    have kF := lforms n ok.f (by have := ok.few; omega) (nm := k.nm) (lo := 0) (hi := .non) ok.p rfl
    have fne : fms k.F k.p ≠ [] := fun e => by
      have : turnF 0 k.F ∈ fms k.F k.p := sortL_mem.mpr (mem_nub.mpr (List.mem_map.mpr ⟨0, List.mem_range.mpr (by
        have : ∀ p ∈ modes, 0 < p.2 := by decide
        exact this _ ok.p), rfl⟩))
      rw [e] at this
      cases this
    obtain ⟨a, ha, ea⟩ := ix_mod (l := fms k.F k.p) (f := tfm) (fun _ => rfl) fne false x1
    obtain ⟨fa, la⟩ := fms_form ok ha
    have la6 : a.length ≤ 6 := by rw [la]; exact ok.few
    obtain ⟨d, ed⟩ : ∃ d : Nat, x2 % (h : Int) = (d : Int) := ⟨(x2 % (h : Int)).toNat, (Int.toNat_of_nonneg (Int.emod_nonneg _ (by omega))).symm⟩
    obtain ⟨r, er⟩ : ∃ d : Nat, x3 % (w : Int) = (d : Int) := ⟨(x3 % (w : Int)).toNat, (Int.toNat_of_nonneg (Int.emod_nonneg _ (by omega))).symm⟩
    have hd : d < h := by have := Int.emod_lt_of_pos x2 (show (0 : Int) < h by omega); omega
    have hr : r < w := by have := Int.emod_lt_of_pos x3 (show (0 : Int) < w by omega); omega
    repeat (first | refine ⟨_, rfl, ?_⟩ | refine ⟨rfl, ?_⟩)
    refine ⟨_, ?_, hx⟩
    refine ⟨rfl, _, rfl, ?_⟩
    refine at_ (ρ' := [some (.lst false (ks.map Kd.d)), some (.int (h : Int)), some (.int (w : Int)), some (.lst false (zs.map .int)), some (.lst true (P.map plD)), some (dA A), some (.int z), some (.lst false (xs.map .int)), none, none, none, none, none, none, none, none]) (by rw [frz_lst (fun _ => rfl)]; rfl) ?_
    repeat (first | refine ⟨_, rfl, ?_⟩ | refine ⟨rfl, ?_⟩)
    refine ⟨_, ix0, ?_⟩
    repeat (first | refine ⟨_, rfl, ?_⟩ | refine ⟨rfl, ?_⟩)
    refine ⟨_, mod_ok (by rw [List.length_map]; omega), ?_⟩
    rw [List.length_map, ej]
    repeat (first | refine ⟨_, rfl, ?_⟩ | refine ⟨rfl, ?_⟩)
    refine ⟨_, ix_nat (fun _ => rfl) (i := j) rfl hkj, ?_⟩
    repeat (first | refine ⟨_, rfl, ?_⟩ | refine ⟨rfl, ?_⟩)
    refine ⟨_, ?_, kF⟩
    refine ⟨rfl, _, rfl, ?_⟩
    refine at_ (ρ' := [some (.lst false (ks.map Kd.d)), some (.int (h : Int)), some (.int (w : Int)), some (.lst false (zs.map .int)), some (.lst true (P.map plD)), some (dA A), some (.int z), some (.lst false (xs.map .int)), some (.int (j : Int)), some (.lst false ((fms k.F k.p).map tfm)), none, none, none, none, none, none]) (by rw [frz_lst (fun _ => rfl)]; rfl) ?_
    repeat (first | refine ⟨_, rfl, ?_⟩ | refine ⟨rfl, ?_⟩)
    refine ⟨_, ix1, ?_⟩
    repeat (first | refine ⟨_, rfl, ?_⟩ | refine ⟨rfl, ?_⟩)
    refine ⟨_, mod_ok (by rw [List.length_map]; have := List.length_pos_iff.mpr fne; omega), ?_⟩
    rw [List.length_map]
    repeat (first | refine ⟨_, rfl, ?_⟩ | refine ⟨rfl, ?_⟩)
    refine ⟨_, ea, ?_⟩
    repeat (first | refine ⟨_, rfl, ?_⟩ | refine ⟨rfl, ?_⟩)
    refine ⟨_, its_tup (sps_unfl _), ?_⟩
    refine for_list (l := a) (e := sp) (fun m ρ => ρ = [some (.lst false (ks.map Kd.d)), some (.int (h : Int)), some (.int (w : Int)), some (.lst false (zs.map .int)), some (.lst true (P.map plD)), some (dA A), some (.int z), some (.lst false (xs.map .int)), some (.int (j : Int)), some (.lst false ((fms k.F k.p).map tfm)), some (.lst true (((a.take m).map (shS (d : Int) (r : Int))).map sp)), none, none, none, none, none]) rfl ?_ ?_
    · rintro m s ρ hs rfl
      have hm := (List.getElem?_eq_some_iff.mp hs).1
      have et : a.take (m + 1) = a.take m ++ [s] := by rw [List.take_add_one, hs]; rfl
      repeat (first | refine ⟨_, rfl, ?_⟩ | refine ⟨rfl, ?_⟩)
      refine ⟨_, ix2, ?_⟩
      repeat (first | refine ⟨_, rfl, ?_⟩ | refine ⟨rfl, ?_⟩)
      refine ⟨_, mod_ok (by omega), ?_⟩
      rw [ed]
      repeat (first | refine ⟨_, rfl, ?_⟩ | refine ⟨rfl, ?_⟩)
      refine ⟨_, ix3, ?_⟩
      repeat (first | refine ⟨_, rfl, ?_⟩ | refine ⟨rfl, ?_⟩)
      refine ⟨_, mod_ok (by omega), ?_⟩
      rw [er]
      repeat (first | refine ⟨_, rfl, ?_⟩ | refine ⟨rfl, ?_⟩)
      refine app_ok (xs := ((a.take m).map (shS (d : Int) (r : Int))).map sp) rfl (by rw [List.length_map, List.length_map, List.length_take]; show _ < 16777216; omega) ?_
      repeat (first | refine ⟨_, rfl, ?_⟩ | refine ⟨rfl, ?_⟩)
      rw [et, List.map_append, List.map_append]
      rfl
    rintro ρ rfl
    rw [List.take_length]
    generalize hS : a.map (shS (d : Int) (r : Int)) = Ss
    have lS : Ss.length ≤ 6 := by rw [← hS, List.length_map]; exact la6
    have gS : ∀ s ∈ Ss, s.2.2 = [sg s] ∧ great (sg s) := fun s hs => by
      rw [← hS] at hs
      obtain ⟨q, hq, rfl⟩ := List.mem_map.mp hs
      obtain ⟨c, e, g1, g2⟩ := fa.gl q hq
      exact gl_sg ⟨c, e, g1, g2⟩
    have posS : ∀ s ∈ Ss, 0 ≤ s.1 ∧ 0 ≤ s.2.1 := fun s hs => by
      rw [← hS] at hs
      obtain ⟨q, hq, rfl⟩ := List.mem_map.mp hs
      obtain ⟨bh, bw, bx⟩ := fa.box
      have := bx.all q hq
      exact ⟨by show 0 ≤ q.1 + (d : Int); omega, by show 0 ≤ q.2.1 + (r : Int); omega⟩
    have ndS : (Ss.map cell).Nodup := by
      rw [← hS, List.map_map, show (cell ∘ shS (d : Int) (r : Int)) = (fun p : Ce => (p.1 + (d : Int), p.2 + (r : Int))) ∘ cell from rfl, ← List.map_map]
      exact nodup_map (fun p q e => by
        have e1 := congrArg Prod.fst e
        have e2 := congrArg Prod.snd e
        simp only at e1 e2
        exact Prod.ext (by omega) (by omega)) fa.nd
    repeat (first | refine ⟨_, rfl, ?_⟩ | refine ⟨rfl, ?_⟩)
    rw [show holdOf (.se (.rd 10 [])) _ = some (10, D.lst true (Ss.map sp), Ss.map sp) from holdOf_eq rfl (sps_unfl Ss)]
    dsimp only
    refine comp_pure (l := Ss) (e := sp) (fun s => sp s) (fun s => decide (s.1 < (h : Int)) && (decide (s.2.1 < (w : Int)) && !(getA (cell s) A).isSome)) (fun q hq P hY hN => ?_) (by show _ ≤ 16777216; omega) (fun ρ' h' hl' => ⟨hl', ?_⟩)
    · repeat (first | refine ⟨_, rfl, ?_⟩ | refine ⟨rfl, ?_⟩)
      refine vB_if (fun q1 => ?_) (fun q1 => ?_)
      · repeat (first | refine ⟨_, rfl, ?_⟩ | refine ⟨rfl, ?_⟩)
        refine vB_if (fun q2 => ?_) (fun q2 => ?_)
        · iterate 7 (first | refine ⟨_, rfl, ?_⟩ | refine ⟨rfl, ?_⟩)
          refine ⟨_, dnm_ok (o := true) A (cell q), ?_⟩
          refine vB_if (fun q3 => ?_) (fun q3 => ?_)
          · repeat (first | refine ⟨_, rfl, ?_⟩ | refine ⟨rfl, ?_⟩)
            exact hY (by rw [q1, q2, q3]; rfl) _ rfl
          · exact hN (by rw [q1, q2, q3]; rfl) _ rfl
        · exact hN (by rw [q1, q2]; rfl) _ rfl
      · exact hN (by rw [q1]; rfl) _ rfl
    rw [unclr_held h' rfl (by decide)]
    refine ⟨_, rfl, ?_⟩
    generalize hR : D.lst false ((Ss.filter fun s => decide (s.1 < (h : Int)) && (decide (s.2.1 < (w : Int)) && !(getA (cell s) A).isSome)).map sp) = R
    refine at_ (ρ' := [some (.lst false (ks.map Kd.d)), some (.int (h : Int)), some (.int (w : Int)), some (.lst false (zs.map .int)), some (.lst true (P.map plD)), some (dA A), some (.int z), some (.lst false (xs.map .int)), some (.int (j : Int)), some (.lst false ((fms k.F k.p).map tfm)), some (.lst true (Ss.map sp)), none, none, none, some R, none]) (by rw [← hR]; rw [frz_lst (f := fun s : Sp => sp s) (fun _ => rfl)]; rfl) ?_
    refine cut (fun ρ => ∃ A P, Laid A P ks h w ∧ P.length ≤ i + 1 ∧ A.length ≤ 6 * (i + 1) ∧ ρ = [some (.lst false (ks.map Kd.d)), some (.int (h : Int)), some (.int (w : Int)), some (.lst false (zs.map .int)), some (.lst true (P.map plD)), some (dA A), some (.int z), some (.lst false (xs.map .int)), some (.int (j : Int)), some (.lst false ((fms k.F k.p).map tfm)), some (.lst true (Ss.map sp)), none, none, none, some R, none]) ?_ ?_
    · rw [← hR]
      repeat (first | refine ⟨_, rfl, ?_⟩ | refine ⟨rfl, ?_⟩)
      refine vB_if (fun q => ?_) (fun q => ?_)
      · rw [eqD_int, decide_eq_true_iff] at q
        have q : (Ss.filter fun s => decide (s.1 < (h : Int)) && (decide (s.2.1 < (w : Int)) && !(getA (cell s) A).isSome)).length = Ss.length := by
          rw [List.length_map, List.length_map] at q
          omega
        have fit : ∀ s ∈ Ss, (s.1 < (h : Int) ∧ s.2.1 < (w : Int)) ∧ getA (cell s) A = none := fun s hs => by
          have := List.length_filter_eq_length_iff.mp q s hs
          simp only [Bool.and_eq_true, decide_eq_true_eq, Bool.not_eq_true'] at this
          refine ⟨⟨this.1, this.2.1⟩, ?_⟩
          cases e : getA (cell s) A with
          | none => rfl
          | some c => rw [e] at this; exact absurd this.2.2 (by simp)
        repeat (first | refine ⟨_, rfl, ?_⟩ | refine ⟨rfl, ?_⟩)
        refine ⟨_, tup_lst (o := true) (sps_unfl _), ?_⟩
        repeat (first | refine ⟨_, rfl, ?_⟩ | refine ⟨rfl, ?_⟩)
        refine app_ok (xs := P.map plD) rfl (by rw [List.length_map]; show _ < 16777216; omega) ?_
        refine at_ (ρ' := [some (.lst false (ks.map Kd.d)), some (.int (h : Int)), some (.int (w : Int)), some (.lst false (zs.map .int)), some (.lst true ((P ++ [(Ss, (j : Int))]).map plD)), some (dA A), some (.int z), some (.lst false (xs.map .int)), some (.int (j : Int)), some (.lst false ((fms k.F k.p).map tfm)), some (.lst true (Ss.map sp)), none, none, none, some (D.lst false ((Ss.filter fun s => decide (s.1 < (h : Int)) && (decide (s.2.1 < (w : Int)) && !(getA (cell s) A).isSome)).map sp)), none]) (by rw [List.map_append]; rfl) ?_
        rw [vS]
        refine for_held (xs := Ss.map sp) rfl (sps_unfl Ss) ?_
        refine for_list (l := Ss) (e := sp) (fun m ρ => ρ = [some (.lst false (ks.map Kd.d)), some (.int (h : Int)), some (.int (w : Int)), some (.lst false (zs.map .int)), some (.lst true ((P ++ [(Ss, (j : Int))]).map plD)), some (dA (putS A (Ss.take m))), some (.int z), some (.lst false (xs.map .int)), some (.int (j : Int)), some (.lst false ((fms k.F k.p).map tfm)), none, none, none, none, some (D.lst false ((Ss.filter fun s => decide (s.1 < (h : Int)) && (decide (s.2.1 < (w : Int)) && !(getA (cell s) A).isSome)).map sp)), none]) rfl ?_ ?_
        · rintro m s ρ hs rfl
          have hsm := List.mem_of_getElem? hs
          have lA := putS_len (Ss.take m) A
          rw [List.length_take] at lA
          have et : Ss.take (m + 1) = Ss.take m ++ [s] := by rw [List.take_add_one, hs]; rfl
          repeat (first | refine ⟨_, rfl, ?_⟩ | refine ⟨rfl, ?_⟩)
          show okR (Rho.mod _ 5 [] (setixF (ce (cell s)) (.str s.2.2))) _ _
          rw [(gS s hsm).1]
          refine dset_ok (A := putS A (Ss.take m)) (p := cell s) (c := sg s) rfl (by show _ < 16777216; omega) ?_
          repeat (first | refine ⟨_, rfl, ?_⟩ | refine ⟨rfl, ?_⟩)
          rw [et, putS_snoc]
          rfl
        · rintro ρ rfl
          rw [List.take_length]
          repeat (first | refine ⟨_, rfl, ?_⟩ | refine ⟨rfl, ?_⟩)
          refine ⟨putS A Ss, P ++ [(Ss, (j : Int))], ⟨fun p hp => ?_, fun p hp s hs => ?_, putS_val Ss (fun s hs => (gS s hs).2) L.val, fun p hp => ?_, fun p hp => ?_⟩, by rw [List.length_append]; exact Nat.succ_le_succ hP, by have := putS_len Ss A; omega, rfl⟩
          · rcases List.mem_append.mp hp with z | z
            · exact L.gl p z
            · rw [List.mem_singleton.mp z]
              exact gS
          · rcases List.mem_append.mp hp with z | z
            · obtain ⟨r1, r2, r3, r4, r5⟩ := L.in_ p z s hs
              refine ⟨r1, r2, r3, r4, ?_⟩
              rw [putS_else Ss A _ fun t ht e => by
                have := (fit t ht).2
                rw [e, r5] at this
                cases this]
              exact r5
            · rw [List.mem_singleton.mp z] at hs
              exact ⟨(posS s hs).1, (fit s hs).1.1, (posS s hs).2, (fit s hs).1.2, putS_own Ss ndS s hs⟩
          · rcases List.mem_append.mp hp with z | z
            · exact L.few p z
            · rw [List.mem_singleton.mp z]
              exact lS
          · rcases List.mem_append.mp hp with z | z
            · exact L.src p z
            · rw [List.mem_singleton.mp z]
              exact ⟨j, k, a, d, r, rfl, hkj, ha, hd, hr, hS.symm⟩
      · exact ⟨A, P, L, by omega, by omega, rfl⟩
    · rintro ρ ⟨A', P', L', hP', hA', rfl⟩
      repeat (first | refine ⟨_, rfl, ?_⟩ | refine ⟨rfl, ?_⟩)
      exact ⟨A', P', L', hP', hA', rfl⟩
  · rintro ρ ⟨A, P, L, hP, hA, rfl⟩
    repeat (first | refine ⟨_, rfl, ?_⟩ | refine ⟨rfl, ?_⟩)
    exact ⟨A, P, L, by omega, rfl⟩

end MP.k15

set_option autoImplicit false
set_option linter.all false
set_option maxRecDepth 100000
set_option maxHeartbeats 0
namespace MP.k15
open PySem MP
theorem dget0_ok {o : Bool} (A : List (Ce × Nat)) (p : Ce) : o_get2 [.dic o 1 (A.map fun x => ce x.1) (A.map fun x => .str [x.2]), ce p, .str []] = some (match getA p A with | some c => .str [c] | none => .str []) := by
  show (if keyOk 1 (ce p) = true then match lookD (ce p) (A.map fun x => ce x.1) (A.map fun x => .str [x.2]) with | some d => if d.fl then none else some d | none => some (.str []) else none) = _
  rw [if_pos (ce_key p), look_A]
  cases getA p A <;> rfl
theorem law_floor (n : Nat) {A : List (Ce × Nat)} (val : ∀ q c, getA q A = some c → great c) {h w : Nat} (b : Bd h w) (x : Int) {cs : List Nat} (hc3 : cs.length = 3) (hcs : ∀ c ∈ cs, 65 ≤ c ∧ c ≤ 90) :
    ∃ rows, Fl rows w ∧ rows.length = h ∧ (∀ (i j c g : Nat) (r : List Nat), rows[i]? = some r → r[j]? = some c → getA ((i : Int), (j : Int)) A = some g → c = 46 ∨ c = 44 ∨ c = g ∨ c = lo1 g) ∧
      runF tab (n + 2) 20 [.dic false 1 (A.map fun x => ce x.1) (A.map fun x => .str [x.2]), .int (h : Int), .int (w : Int), .int x, .lst false (cs.map sgE)] = .ok (fl rows) [none, none, none, none, none] := by
  obtain ⟨b1, b2, b3, b4⟩ := b
  refine run_ok (F := f__law_floor) (P := fun r => ∃ rows, Fl rows w ∧ rows.length = h ∧ (∀ (i j c g : Nat) (r : List Nat), rows[i]? = some r → r[j]? = some c → getA ((i : Int), (j : Int)) A = some g → c = 46 ∨ c = 44 ∨ c = g ∨ c = lo1 g) ∧ r = .ok (fl rows) [none, none, none, none, none]) rfl rfl ?_
  repeat (first | refine ⟨_, rfl, ?_⟩ | refine ⟨rfl, ?_⟩)
  refine ⟨rng_ok (by omega) (by omega), ?_⟩
  rw [Int.toNat_natCast]
  refine for_rng (fun i ρ => ∃ rows : List (List Nat), rows.length = i ∧ (∀ r ∈ rows, r.length = w ∧ ∀ c ∈ r, sgn c) ∧ (∀ (k j c g : Nat) (r : List Nat), rows[k]? = some r → r[j]? = some c → getA ((k : Int), (j : Int)) A = some g → c = 46 ∨ c = 44 ∨ c = g ∨ c = lo1 g) ∧ ρ = [some (.dic false 1 (A.map fun x => ce x.1) (A.map fun x => .str [x.2])), some (.int (h : Int)), some (.int (w : Int)), some (.int x), some (.lst false (cs.map sgE)), some (.lst true (rows.map .str)), none, none, none, none])
    ⟨[], rfl, (fun r h => absurd h List.not_mem_nil), (fun k j c g r e => by simp at e), rfl⟩ ?_ ?_
  · rintro i ρ hi ⟨rows, lr, hr, cv, rfl⟩
    obtain ⟨ys, ly, py, hy⟩ := mixed n (x / ((i : Int) + 1)) w (by omega)
    repeat (first | refine ⟨_, rfl, ?_⟩ | refine ⟨rfl, ?_⟩)
    refine ⟨_, fdiv_s (by omega) (by omega), ?_⟩
    repeat (first | refine ⟨_, rfl, ?_⟩ | refine ⟨rfl, ?_⟩)
    refine ⟨_, ?_, hy⟩
    refine ⟨rfl, ?_⟩
    show ∃ xs, itemsOf false (D.lst true (ys.map .int)).frz = some xs ∧ _
    rw [frz_lst (fun _ => rfl)]
    refine ⟨_, items_data (map_unfl (fun _ => rfl) ys), ?_⟩
    refine for_list (l := ys) (e := D.int) (fun j ρ => ∃ t : List Nat, t.length = j ∧ (∀ c ∈ t, sgn c) ∧ (∀ (j c g : Nat), t[j]? = some c → getA ((i : Int), (j : Int)) A = some g → c = 46 ∨ c = 44 ∨ c = g ∨ c = lo1 g) ∧ ρ = [some (.dic false 1 (A.map fun x => ce x.1) (A.map fun x => .str [x.2])), some (.int (h : Int)), some (.int (w : Int)), some (.int x), some (.lst false (cs.map sgE)), some (.lst true (rows.map .str)), some (.int (i : Int)), some (.str t), none, none])
      ⟨[], rfl, (fun r h => absurd h List.not_mem_nil), (fun j c g e => by simp at e), rfl⟩ ?_ ?_
    · rintro j y ρ hj ⟨t, lt, ht, cvt, rfl⟩
      have hjw : j < w := by rw [← ly]; exact (List.getElem?_eq_some_iff.mp hj).1
      have snoc : ∀ c, sgn c → (∀ g, getA ((i : Int), (j : Int)) A = some g → c = 46 ∨ c = 44 ∨ c = g ∨ c = lo1 g) → (∀ z ∈ t ++ [c], sgn z) ∧ ∀ (k z g : Nat), (t ++ [c])[k]? = some z → getA ((i : Int), (k : Int)) A = some g → z = 46 ∨ z = 44 ∨ z = g ∨ z = lo1 g := fun c hc h35 => by
        refine ⟨fun z hz => ?_, fun k z g e q => ?_⟩
        · rcases List.mem_append.mp hz with q | q
          · exact ht z q
          · rw [List.mem_singleton.mp q]; exact hc
        · by_cases hk : k < t.length
          · rw [List.getElem?_append_left hk] at e
            exact cvt k z g e q
          · have ek : k = j := by
              have := (List.getElem?_eq_some_iff.mp e).1
              rw [List.length_append, List.length_singleton] at this
              omega
            subst ek
            rw [List.getElem?_append_right (by omega), lt, Nat.sub_self] at e
            cases e
            exact h35 g q
      have m0 : 0 ≤ y % 5 := Int.emod_nonneg _ (by decide)
      have m1 : y % 5 < 5 := Int.emod_lt_of_pos _ (by decide)
      have q0 : 0 ≤ y / 5 % 3 := Int.emod_nonneg _ (by decide)
      have q1 : y / 5 % 3 < 3 := Int.emod_lt_of_pos _ (by decide)
      obtain ⟨z, hz, ez⟩ := sg_ix (cs := cs) (o := false) q0 (by rw [List.length_map, hc3]; exact q1)
      have gz := hcs z hz
      have step : ∀ c : Nat, sgn c → (∀ g, getA ((i : Int), (j : Int)) A = some g → c = 46 ∨ c = 44 ∨ c = g ∨ c = lo1 g) → ∃ t' : List Nat, t'.length = j + 1 ∧ (∀ c ∈ t', sgn c) ∧ (∀ (j c g : Nat), t'[j]? = some c → getA ((i : Int), (j : Int)) A = some g → c = 46 ∨ c = 44 ∨ c = g ∨ c = lo1 g) ∧ t ++ [c] = t' := fun c h1 h2 => ⟨t ++ [c], by simp [lt], (snoc c h1 h2).1, (snoc c h1 h2).2, rfl⟩
      iterate 2 (first | refine ⟨_, rfl, ?_⟩ | refine ⟨rfl, ?_⟩)
      iterate 9 (first | refine ⟨_, rfl, ?_⟩ | refine ⟨rfl, ?_⟩)
      refine ⟨_, dget0_ok (o := false) A ((i : Int), ((t.length : Nat) : Int)), ?_⟩
      rw [lt]
      cases eg : getA ((i : Int), (j : Int)) A with
      | none =>
        dsimp only
        repeat (first | refine ⟨_, rfl, ?_⟩ | refine ⟨rfl, ?_⟩)
        refine ⟨_, fdiv_s (by decide) (by decide), ?_⟩
        repeat (first | refine ⟨_, rfl, ?_⟩ | refine ⟨rfl, ?_⟩)
        refine ⟨_, ez, ?_⟩
        repeat (first | refine ⟨_, rfl, ?_⟩ | refine ⟨rfl, ?_⟩)
        refine ⟨_, lower_ok (by omega), ?_⟩
        repeat (first | refine ⟨_, rfl, ?_⟩ | refine ⟨rfl, ?_⟩)
        obtain ⟨c, hc, ec⟩ := sg_ix (cs := [35, 44, 35, lo1 z, 44]) (o := true) m0 (by show y % 5 < ((5 : Nat) : Int); omega)
        refine ⟨_, ec, ?_⟩
        repeat (first | refine ⟨_, rfl, ?_⟩ | refine ⟨rfl, ?_⟩)
        refine ⟨_, add_str (by show t.length + 1 ≤ 16777216; omega), ?_⟩
        repeat (first | refine ⟨_, rfl, ?_⟩ | refine ⟨rfl, ?_⟩)
        have low := lo1_great gz
        obtain ⟨t', k1, k2, k3, k4⟩ := step c (by
          simp only [List.mem_cons, List.not_mem_nil, or_false] at hc
          unfold sgn
          omega) (fun g e => by rw [eg] at e; cases e)
        rw [k4]
        exact ⟨t', k1, k2, k3, rfl⟩
      | some g =>
        have gg := val _ _ eg
        unfold great at gg
        have low := lo1_great gg
        have e0 : o_eq [.str [g], .str []] = some (.bl false) := by
          show (if (nice (.str [g]) && nice (.str [])) = true then some (D.bl (eqD (.str [g]) (.str []))) else _) = _
          rw [nice_sign (by omega), eqD_str]
          rfl
        dsimp only
        repeat (first | refine ⟨_, rfl, ?_⟩ | refine ⟨rfl, ?_⟩)
        refine ⟨_, e0, ?_⟩
        repeat (first | refine ⟨_, rfl, ?_⟩ | refine ⟨rfl, ?_⟩)
        refine ⟨_, lower_ok (by omega), ?_⟩
        repeat (first | refine ⟨_, rfl, ?_⟩ | refine ⟨rfl, ?_⟩)
        obtain ⟨c, hc, ec⟩ := sg_ix (cs := [46, 44, g, lo1 g, 46]) (o := true) m0 (by show y % 5 < ((5 : Nat) : Int); omega)
        refine ⟨_, ec, ?_⟩
        repeat (first | refine ⟨_, rfl, ?_⟩ | refine ⟨rfl, ?_⟩)
        refine ⟨_, add_str (by show t.length + 1 ≤ 16777216; omega), ?_⟩
        repeat (first | refine ⟨_, rfl, ?_⟩ | refine ⟨rfl, ?_⟩)
        simp only [List.mem_cons, List.not_mem_nil, or_false] at hc
        obtain ⟨t', k1, k2, k3, k4⟩ := step c (by
          unfold sgn
          omega) (fun g' e => by rw [eg] at e; cases e; omega)
        rw [k4]
        exact ⟨t', k1, k2, k3, rfl⟩
    · rintro ρ ⟨t, lt, ht, cvt, rfl⟩
      repeat (first | refine ⟨_, rfl, ?_⟩ | refine ⟨rfl, ?_⟩)
      refine app_ok (xs := rows.map .str) rfl (by rw [List.length_map]; show _ < 16777216; omega) ?_
      repeat (first | refine ⟨_, rfl, ?_⟩ | refine ⟨rfl, ?_⟩)
      refine ⟨rows ++ [t], by simp [lr], fun r hr' => ?_, fun k j c g r e1 e2 q => ?_, by rw [List.map_append]; rfl⟩
      · rcases List.mem_append.mp hr' with hr' | hr'
        · exact hr r hr'
        · rw [List.mem_singleton.mp hr']; exact ⟨lt.trans ly, ht⟩
      · by_cases hk : k < rows.length
        · rw [List.getElem?_append_left hk] at e1
          exact cv k j c g r e1 e2 q
        · have ek : k = i := by
            have := (List.getElem?_eq_some_iff.mp e1).1
            rw [List.length_append, List.length_singleton] at this
            omega
          subst ek
          rw [List.getElem?_append_right (by omega), lr, Nat.sub_self] at e1
          cases e1
          exact cvt j c g e2 q
  · rintro ρ ⟨rows, lr, hr, cv, rfl⟩
    repeat (first | refine ⟨_, rfl, ?_⟩ | refine ⟨rfl, ?_⟩)
    refine ⟨_, tup_lst (o := true) (rows_unfl rows), ?_⟩
    exact ⟨rows, ⟨by omega, by omega, b3, b4, hr⟩, lr, cv, rfl⟩

end MP.k15

set_option autoImplicit false
set_option linter.all false
set_option maxRecDepth 100000
set_option maxHeartbeats 0
namespace MP.k15
open PySem MP
def wsE (c : Nat × Nat) : D := .tup false [.str [c.1], .int (c.2 : Int)]
def trD (t : Ce × Ce × (Nat × Nat)) : D := .tup false [ce t.1, ce t.2.1, prD t.2.2]
theorem two_of {α : Type} {l : List α} (h : l.length = 2) : ∃ a b, l = [a, b] := by
  match l, h with
  | [a, b], _ => exact ⟨a, b, rfl⟩
theorem touching (n : Nat) {P : List Pl} (gl : ∀ p ∈ P, ∀ s ∈ p.1, s.2.2 = [sg s] ∧ great (sg s)) (sf : ∀ p ∈ P, p.1.length ≤ 6) (few : P.length ≤ 12) :
    ∃ ts : List (Ce × Ce × (Nat × Nat)), (∀ t ∈ ts, great t.2.2.1 ∧ great t.2.2.2) ∧ ts.length ≤ 1000 ∧ runF tab (n + 1) 21 [.lst false (P.map plD)] = .ok (.lst true (ts.map trD)) [none] := by
  refine run_ok (F := f__law_touching) (P := fun r => ∃ ts : List (Ce × Ce × (Nat × Nat)), (∀ t ∈ ts, great t.2.2.1 ∧ great t.2.2.2) ∧ ts.length ≤ 1000 ∧ r = .ok (.lst true (ts.map trD)) [none]) rfl rfl ?_
  repeat (first | refine ⟨_, rfl, ?_⟩ | refine ⟨rfl, ?_⟩)
  refine ⟨_, enu_tup (fun _ => rfl) false, ?_⟩
  refine for_enu (l := P) (e := plD) (fun k ρ => ∃ A : List (Ce × (Nat × Nat)), (∀ x ∈ A, great x.2.1) ∧ A.length ≤ 6 * k ∧ ρ = [some (.lst false (P.map plD)), some (dB wsE true A), none, none, none, none, none, none, none, none, none]) ⟨[], (fun x hx => absurd hx List.not_mem_nil), Nat.le_refl _, rfl⟩ ?_ ?_
  · rintro k p ρ hp ⟨A, hA, lA, rfl⟩
    have hpm := List.mem_of_getElem? hp
    have hk : k < 12 := Nat.lt_of_lt_of_le (List.getElem?_eq_some_iff.mp hp).1 few
    repeat (first | refine ⟨_, rfl, ?_⟩ | refine ⟨rfl, ?_⟩)
    refine ⟨_, its_tup (sps_unfl _), ?_⟩
    refine for_list (l := p.1) (e := sp) (fun j ρ => ∃ A : List (Ce × (Nat × Nat)), (∀ x ∈ A, great x.2.1) ∧ A.length ≤ 6 * k + j ∧ ρ = [some (.lst false (P.map plD)), some (dB wsE true A), some (.int (k : Int)), some (plD p), none, none, none, none, none, none, none]) ⟨A, hA, lA, rfl⟩ ?_ ?_
    · rintro j s ρ hs ⟨A, hA, lA, rfl⟩
      have hj := (List.getElem?_eq_some_iff.mp hs).1
      have h6 := sf p hpm
      obtain ⟨e1, g1⟩ := gl p hpm s (List.mem_of_getElem? hs)
      repeat (first | refine ⟨_, rfl, ?_⟩ | refine ⟨rfl, ?_⟩)
      show okR (Rho.mod _ 1 [] (setixF (ce (cell s)) (.tup false [.str s.2.2, .int (k : Int)]))) _ _
      rw [e1]
      refine setB_ok (e := wsE) (fun _ => rfl) (A := A) (p := cell s) (c := (sg s, k)) rfl (by show _ < 16777216; omega) ?_
      repeat (first | refine ⟨_, rfl, ?_⟩ | refine ⟨rfl, ?_⟩)
      exact ⟨_, putB_vals (B := fun v => great v.1) (cell s) (sg s, k) g1 A hA, by have := putB_len (cell s) (sg s, k) A; omega, rfl⟩
    · rintro ρ ⟨A, hA, lA, rfl⟩
      have h6 := sf p hpm
      repeat (first | refine ⟨_, rfl, ?_⟩ | refine ⟨rfl, ?_⟩)
      exact ⟨A, hA, by omega, rfl⟩
  rintro ρ ⟨A, hA, lA, rfl⟩
  obtain ⟨L, hL, pL⟩ := sortD_of ce (A.map (·.1))
  have lenL : L.length ≤ 72 := by rw [pL.length_eq, List.length_map]; omega
  have keyL : ∀ q ∈ L, ∃ c, getB q A = some c ∧ great c.1 := fun q hq => by
    obtain ⟨x, hx, e⟩ := List.mem_map.mp (pL.mem_iff.mp hq)
    obtain ⟨c, hc⟩ := getB_key ⟨x, hx, e⟩
    exact ⟨c, hc, hA _ (getB_mem hc)⟩
  repeat (first | refine ⟨_, rfl, ?_⟩ | refine ⟨rfl, ?_⟩)
  refine ⟨_, sortB_ok (e := wsE) (o := true) A, ?_⟩
  rw [hL]
  dsimp only
  rw [frz_lst (fun _ => rfl)]
  refine ⟨_, items_data (ces_unfl L), ?_⟩
  refine for_list (l := L) (e := ce) (fun i ρ => ∃ ts : List (Ce × Ce × (Nat × Nat)), (∀ t ∈ ts, great t.2.2.1 ∧ great t.2.2.2) ∧ ts.length ≤ 2 * i ∧ ρ = [some (.lst false (P.map plD)), some (dB wsE true A), none, none, none, none, none, some (.lst true (ts.map trD)), none, none, none]) ⟨[], (fun x hx => absurd hx List.not_mem_nil), Nat.le_refl _, rfl⟩ ?_ ?_
  · rintro i q ρ hq ⟨ts, ht, lt, rfl⟩
    have hi := (List.getElem?_eq_some_iff.mp hq).1
    obtain ⟨c, hc, gc⟩ := keyL q (List.mem_of_getElem? hq)
    repeat (first | refine ⟨_, rfl, ?_⟩ | refine ⟨rfl, ?_⟩)
    show vFor _ ([(q.1, q.2 + 1), (q.1 + 1, q.2)].map ce) _ _
    refine for_list (l := [(q.1, q.2 + 1), (q.1 + 1, q.2)]) (e := ce) (fun m ρ => ∃ ts : List (Ce × Ce × (Nat × Nat)), (∀ t ∈ ts, great t.2.2.1 ∧ great t.2.2.2) ∧ ts.length ≤ 2 * i + m ∧ ρ = [some (.lst false (P.map plD)), some (dB wsE true A), none, none, none, none, none, some (.lst true (ts.map trD)), some (ce q), none, none]) ⟨ts, ht, lt, rfl⟩ ?_ ?_
    · rintro m u ρ hu ⟨ts, ht, lt, rfl⟩
      have hm : m < 2 := (List.getElem?_eq_some_iff.mp hu).1
      refine ⟨_, rfl, ?_⟩
      refine cut (fun ρ => ∃ (ts : List (Ce × Ce × (Nat × Nat))) (X : Option D), (∀ t ∈ ts, great t.2.2.1 ∧ great t.2.2.2) ∧ ts.length ≤ 2 * i + (m + 1) ∧ ρ = [some (.lst false (P.map plD)), some (dB wsE true A), none, none, none, none, none, some (.lst true (ts.map trD)), some (ce q), some (ce u), X]) ?_ ?_
      · iterate 6 (first | refine ⟨_, rfl, ?_⟩ | refine ⟨rfl, ?_⟩)
        refine ⟨_, memB_ok (e := wsE) (o := true) A u, ?_⟩
        refine vB_if (fun k1 => ?_) (fun k1 => ?_)
        · obtain ⟨d, hd⟩ := Option.isSome_iff_exists.mp k1
          have gd : great d.1 := hA _ (getB_mem hd)
          repeat (first | refine ⟨_, rfl, ?_⟩ | refine ⟨rfl, ?_⟩)
          refine ⟨_, ixB_ok (e := wsE) (fun _ => rfl) (o := true) hd, ?_⟩
          repeat (first | refine ⟨_, rfl, ?_⟩ | refine ⟨rfl, ?_⟩)
          refine ⟨_, ixB_ok (e := wsE) (fun _ => rfl) (o := true) hc, ?_⟩
          repeat (first | refine ⟨_, rfl, ?_⟩ | refine ⟨rfl, ?_⟩)
          refine vB_if (fun k2 => ?_) (fun k2 => ?_)
          · obtain ⟨l2, e2, p2⟩ := sortD_of sgE [c.1, d.1]
            obtain ⟨a, b, rfl⟩ := two_of (p2.length_eq.trans rfl)
            have mem2 : ∀ z ∈ [a, b], great z := fun z hz => by
              have := p2.mem_iff.mp hz
              simp only [List.mem_cons, List.not_mem_nil, or_false] at this
              rcases this with rfl | rfl
              · exact gc
              · exact gd
            repeat (first | refine ⟨_, rfl, ?_⟩ | refine ⟨rfl, ?_⟩)
            refine ⟨_, ixB_ok (e := wsE) (fun _ => rfl) (o := true) hc, ?_⟩
            repeat (first | refine ⟨_, rfl, ?_⟩ | refine ⟨rfl, ?_⟩)
            refine ⟨_, ixB_ok (e := wsE) (fun _ => rfl) (o := true) hd, ?_⟩
            repeat (first | refine ⟨_, rfl, ?_⟩ | refine ⟨rfl, ?_⟩)
            refine ⟨_, sgs_sort (l := [c.1, d.1]) (fun z hz => by
              simp only [List.mem_cons, List.not_mem_nil, or_false] at hz
              unfold great at gc gd
              rcases hz with rfl | rfl <;> omega) true, ?_⟩
            rw [e2]
            dsimp only
            rw [frz_lst (fun _ => rfl)]
            repeat (first | refine ⟨_, rfl, ?_⟩ | refine ⟨rfl, ?_⟩)
            refine app_ok (xs := ts.map trD) rfl (by rw [List.length_map]; show _ < 16777216; omega) ?_
            refine ⟨ts ++ [(q, u, (a, b))], _, fun t hz => ?_, by rw [List.length_append, List.length_singleton]; omega, by rw [List.map_append]; rfl⟩
            rcases List.mem_append.mp hz with z | z
            · exact ht t z
            · rw [List.mem_singleton.mp z]
              exact ⟨mem2 a (by simp), mem2 b (by simp)⟩
          · exact ⟨ts, none, ht, by omega, rfl⟩
        · exact ⟨ts, none, ht, by omega, rfl⟩
      · rintro ρ ⟨ts, X, ht, lt, rfl⟩
        repeat (first | refine ⟨_, rfl, ?_⟩ | refine ⟨rfl, ?_⟩)
        exact ⟨ts, ht, lt, rfl⟩
    · rintro ρ ⟨ts, ht, lt, rfl⟩
      repeat (first | refine ⟨_, rfl, ?_⟩ | refine ⟨rfl, ?_⟩)
      exact ⟨ts, ht, lt, rfl⟩
  · rintro ρ ⟨ts, ht, lt, rfl⟩
    repeat (first | refine ⟨_, rfl, ?_⟩ | refine ⟨rfl, ?_⟩)
    exact ⟨ts, ht, by omega, rfl⟩

end MP.k15

set_option autoImplicit false
set_option linter.all false
set_option maxRecDepth 100000
set_option maxHeartbeats 0
namespace MP.k15
open PySem MP
def I0 : List Nat := [0, 0, 0, 1, 1, 2]
def I1 : List Nat := [0, 1, 2, 1, 2, 2]
theorem I_at {I : List Nat} (hl : I.length = 6) (h : ∀ a ∈ I, a < 3) {k : Nat} (hk : k < 6) : ∃ a, I[k]? = some a ∧ a < 3 := by
  have h2 : k < I.length := by omega
  exact ⟨I[k], List.getElem?_eq_getElem h2, h _ (List.getElem_mem h2)⟩
theorem nmem_prs {p : Nat × Nat} (hp : p.1 < 1114112 ∧ p.2 < 1114112) {l : List (Nat × Nat)} (h : ∀ p ∈ l, p.1 < 1114112 ∧ p.2 < 1114112) (o : Bool) : ∃ b, o_nmem [prD p, .lst o (l.map prD)] = some (.bl b) := by
  refine ⟨!(l.map prD).any fun x => eqD x (prD p), ?_⟩
  show (if (nice (prD p) && (l.map prD).all nice) = true then some (D.bl (!(l.map prD).any fun x => eqD x (prD p))) else none) = _
  rw [show nice (prD p) = true from pr_sh hp 59, prs_nice h]
  rfl
theorem apart (n : Nat) {P : List Pl} (gl : ∀ p ∈ P, ∀ s ∈ p.1, s.2.2 = [sg s] ∧ great (sg s)) (sf : ∀ p ∈ P, p.1.length ≤ 6) (few : P.length ≤ 12) {cs : List Nat} (hc3 : cs.length = 3) (hcs : ∀ c ∈ cs, 65 ≤ c ∧ c ≤ 90) (x : Int) :
    ∃ ps : List (Nat × Nat), (∀ p ∈ ps, great p.1 ∧ great p.2) ∧ ps.length ≤ 6 ∧ runF tab (n + 2) 22 [.lst false (P.map plD), .lst false (cs.map sgE), .int x] = .ok (.tup false (ps.map prD)) [none, none, none] := by
  obtain ⟨ts, ht, lt, kt⟩ := touching n gl sf few
  obtain ⟨ls, el, pl⟩ := sortD_of sgE cs
  have l3 : ls.length = 3 := by rw [pl.length_eq, hc3]
  have gls : ∀ c ∈ ls, great c := fun c hc => hcs c (pl.mem_iff.mp hc)
  have small : ∀ p : Nat × Nat, great p.1 ∧ great p.2 → p.1 < 1114112 ∧ p.2 < 1114112 := fun p h => by
    unfold great at h
    omega
  refine run_ok (F := f__law_apart) (P := fun r => ∃ ps : List (Nat × Nat), (∀ p ∈ ps, great p.1 ∧ great p.2) ∧ ps.length ≤ 6 ∧ r = .ok (.tup false (ps.map prD)) [none, none, none]) rfl rfl ?_
  repeat (first | refine ⟨_, rfl, ?_⟩ | refine ⟨rfl, ?_⟩)
  refine ⟨_, ?_, kt⟩
  refine ⟨rfl, ?_⟩
  show ∃ xs, itemsOf false (D.lst true (ts.map trD)).frz = some xs ∧ _
  rw [frz_lst (fun _ => rfl)]
  refine ⟨_, items_data (map_unfl (fun _ => rfl) ts), rfl, ?_⟩
  refine comp_all (l := ts) (e := trD) (fun t => prD t.2.2) (fun t ht2 Q hQ => ?_) (by show _ ≤ 16777216; omega) (fun ρ' h' hl' => ⟨hl', ?_⟩)
  · repeat (first | refine ⟨_, rfl, ?_⟩ | refine ⟨rfl, ?_⟩)
    exact hQ _ rfl
  rw [unclr_same h', show (ts.map fun t => prD t.2.2) = (ts.map fun t => t.2.2).map prD by rw [List.map_map]; rfl]
  generalize hms : (ts.map fun t => t.2.2) = ms
  have gms : ∀ p ∈ ms, great p.1 ∧ great p.2 := fun p hp => by
    rw [← hms] at hp
    obtain ⟨t, ht3, rfl⟩ := List.mem_map.mp hp
    exact ht t ht3
  dsimp only
  rw [frz_lst (fun _ => rfl)]
  refine ⟨_, rfl, ?_⟩
  refine at_ (ρ' := [some (.lst false (P.map plD)), some (.lst false (cs.map sgE)), some (.int x), some (.lst true []), some (.lst false (ms.map prD)), none, none, none, none, none]) rfl ?_
  repeat (first | refine ⟨_, rfl, ?_⟩ | refine ⟨rfl, ?_⟩)
  refine ⟨_, sgs_sort (fun c hc => by have := hcs c hc; omega) false, ?_⟩
  rw [el]
  dsimp only
  rw [frz_lst (fun _ => rfl)]
  refine ⟨_, rfl, ?_⟩
  refine at_ (ρ' := [some (.lst false (P.map plD)), some (.lst false (cs.map sgE)), some (.int x), some (.lst true []), some (.lst false (ms.map prD)), some (.lst false (ls.map sgE)), none, none, none, none]) rfl ?_
  repeat (first | refine ⟨_, rfl, ?_⟩ | refine ⟨rfl, ?_⟩)
  refine ⟨rng_ok (by decide) (by decide), ?_⟩
  refine for_rng (n := 6) (fun k ρ => ∃ ps : List (Nat × Nat), (∀ p ∈ ps, great p.1 ∧ great p.2) ∧ ps.length ≤ k ∧ ρ = [some (.lst false (P.map plD)), some (.lst false (cs.map sgE)), some (.int x), some (.lst true (ps.map prD)), some (.lst false (ms.map prD)), some (.lst false (ls.map sgE)), none, none, none, none]) ⟨[], (fun p hp => absurd hp List.not_mem_nil), Nat.le_refl _, rfl⟩ ?_ ?_
  · rintro k ρ hk ⟨ps, hps, lps, rfl⟩
    obtain ⟨a, ea, ha⟩ := I_at (I := I0) rfl (by decide) hk
    obtain ⟨b, eb, hb⟩ := I_at (I := I1) rfl (by decide) hk
    obtain ⟨c, hc, ec⟩ := sg_ix (cs := ls) (o := false) (v := (a : Int)) (by omega) (by rw [List.length_map, l3]; omega)
    obtain ⟨d, hd, ed⟩ := sg_ix (cs := ls) (o := false) (v := (b : Int)) (by omega) (by rw [List.length_map, l3]; omega)
    have g2 : great c ∧ great d := ⟨gls c hc, gls d hd⟩
    obtain ⟨bb, ebb⟩ := nmem_prs (p := (c, d)) (small (c, d) g2) (fun p hp => small p (gms p hp)) false
    refine ⟨_, rfl, ?_⟩
    refine cut (fun ρ => ρ = [some (.lst false (P.map plD)), some (.lst false (cs.map sgE)), some (.int x), some (.lst true (ps.map prD)), some (.lst false (ms.map prD)), some (.lst false (ls.map sgE)), some (.int (k : Int)), some (prD (c, d)), none, none]) ?_ ?_
    · repeat (first | refine ⟨_, rfl, ?_⟩ | refine ⟨rfl, ?_⟩)
      refine ⟨_, ix_nat (f := fun n : Nat => D.int (n : Int)) (l := I0) (fun _ => rfl) (i := k) rfl ea, ?_⟩
      repeat (first | refine ⟨_, rfl, ?_⟩ | refine ⟨rfl, ?_⟩)
      refine ⟨_, ec, ?_⟩
      repeat (first | refine ⟨_, rfl, ?_⟩ | refine ⟨rfl, ?_⟩)
      refine ⟨_, ix_nat (f := fun n : Nat => D.int (n : Int)) (l := I1) (fun _ => rfl) (i := k) rfl eb, ?_⟩
      repeat (first | refine ⟨_, rfl, ?_⟩ | refine ⟨rfl, ?_⟩)
      refine ⟨_, ed, ?_⟩
      repeat (first | refine ⟨_, rfl, ?_⟩ | refine ⟨rfl, ?_⟩)
      rfl
    rintro ρ rfl
    refine cut (fun ρ => ∃ ps : List (Nat × Nat), (∀ p ∈ ps, great p.1 ∧ great p.2) ∧ ps.length ≤ k + 1 ∧ ρ = [some (.lst false (P.map plD)), some (.lst false (cs.map sgE)), some (.int x), some (.lst true (ps.map prD)), some (.lst false (ms.map prD)), some (.lst false (ls.map sgE)), some (.int (k : Int)), some (prD (c, d)), none, none]) ?_ ?_
    · have add : ∃ ps' : List (Nat × Nat), (∀ p ∈ ps', great p.1 ∧ great p.2) ∧ ps'.length ≤ k + 1 ∧ ps.map prD ++ [prD (c, d)] = ps'.map prD := ⟨ps ++ [(c, d)], fun p hp => by
        rcases List.mem_append.mp hp with z | z
        · exact hps p z
        · rw [List.mem_singleton.mp z]; exact g2, by rw [List.length_append]; exact Nat.succ_le_succ lps, by rw [List.map_append]; rfl⟩
      obtain ⟨ps', h1, h2, h3⟩ := add
      repeat (first | refine ⟨_, rfl, ?_⟩ | refine ⟨rfl, ?_⟩)
      refine ⟨_, if_pos (mulOk_l (by decide) (by decide)), ?_⟩
      repeat (first | refine ⟨_, rfl, ?_⟩ | refine ⟨rfl, ?_⟩)
      refine ⟨_, fdiv_s (by omega) (by omega), ?_⟩
      repeat (first | refine ⟨_, rfl, ?_⟩ | refine ⟨rfl, ?_⟩)
      refine vB_if (fun k1 => ?_) (fun k1 => ⟨ps, hps, by omega, rfl⟩)
      repeat (first | refine ⟨_, rfl, ?_⟩ | refine ⟨rfl, ?_⟩)
      refine ⟨_, ebb, ?_⟩
      refine vB_if (fun k2 => ?_) (fun k2 => ?_)
      · repeat (first | refine ⟨_, rfl, ?_⟩ | refine ⟨rfl, ?_⟩)
        refine app_ok (xs := ps.map prD) rfl (by rw [List.length_map]; show _ < 16777216; omega) ?_
        rw [h3]
        exact ⟨ps', h1, h2, rfl⟩
      · repeat (first | refine ⟨_, rfl, ?_⟩ | refine ⟨rfl, ?_⟩)
        refine vB_if (fun k3 => ?_) (fun k3 => ⟨ps, hps, by omega, rfl⟩)
        repeat (first | refine ⟨_, rfl, ?_⟩ | refine ⟨rfl, ?_⟩)
        refine app_ok (xs := ps.map prD) rfl (by rw [List.length_map]; show _ < 16777216; omega) ?_
        rw [h3]
        exact ⟨ps', h1, h2, rfl⟩
    · rintro ρ ⟨ps, hps, lps, rfl⟩
      repeat (first | refine ⟨_, rfl, ?_⟩ | refine ⟨rfl, ?_⟩)
      exact ⟨ps, hps, lps, rfl⟩
  · rintro ρ ⟨ps, hps, lps, rfl⟩
    obtain ⟨qs, eq, pq⟩ := sortD_of prD ps
    repeat (first | refine ⟨_, rfl, ?_⟩ | refine ⟨rfl, ?_⟩)
    refine ⟨_, prs_sort (fun p hp => small p (hps p hp)) true, ?_⟩
    rw [eq]
    repeat (first | refine ⟨_, rfl, ?_⟩ | refine ⟨rfl, ?_⟩)
    refine ⟨_, tup_lst (o := true) (map_unfl (fun _ => rfl) _), ?_⟩
    exact ⟨qs, fun p hp => hps p (pq.mem_iff.mp hp), by rw [pq.length_eq]; exact lps, rfl⟩

end MP.k15

set_option autoImplicit false
set_option linter.all false
set_option maxRecDepth 100000
set_option maxHeartbeats 0
namespace MP.k15
open PySem MP
/-- a kind with its bounds -/
structure Kb where
  k : Kd
  lo : Nat
  hi : Option Nat
def Kb.hd (b : Kb) : D := match b.hi with
  | none => .non
  | some n => .int (n : Int)
abbrev Kb.d (b : Kb) : D := kdD b.k.nm (b.lo : Int) b.hd b.k.p b.k.F
theorem Kb.hf (b : Kb) : b.hd.fl = false := by
  unfold Kb.hd
  cases b.hi <;> rfl
theorem most_ix {m : Nat} {v : Int} (h0 : 0 ≤ v) (h1 : v < 4) : ∃ o : Option Nat, o_ix [.lst true [.non, .int (m : Int), .int ((m : Int) + 1), .int (m : Int)], .int v] = some (match o with | none => .non | some n => .int (n : Int)) := by
  have : v = 0 ∨ v = 1 ∨ v = 2 ∨ v = 3 := by omega
  rcases this with rfl | rfl | rfl | rfl
  · exact ⟨none, rfl⟩
  · exact ⟨some m, rfl⟩
  · exact ⟨some (m + 1), rfl⟩
  · exact ⟨some m, rfl⟩
theorem least_ix {v : Int} (h0 : 0 ≤ v) (h1 : v < 4) : ∃ a : Nat, a ≤ 2 ∧ o_ix [.lst true [.int 0, .int 0, .int 1, .int 2], .int v] = some (.int (a : Int)) := by
  have : v = 0 ∨ v = 1 ∨ v = 2 ∨ v = 3 := by omega
  rcases this with rfl | rfl | rfl | rfl
  · exact ⟨0, by decide, rfl⟩
  · exact ⟨0, by decide, rfl⟩
  · exact ⟨1, by decide, rfl⟩
  · exact ⟨2, by decide, rfl⟩
theorem bounded (n : Nat) {ks : List Kd} (k6 : ks.length ≤ 6) {P : List Pl} (few : P.length ≤ 12) (x : Int) :
    ∃ bs : List Kb, bs.map (·.k) = ks ∧ runF tab (n + 1) 23 [.lst false (ks.map Kd.d), .lst false (P.map plD), .int x] = .ok (.tup false (bs.map Kb.d)) [none, none, none] := by
  refine run_ok (F := f__law_bounded) (P := fun r => ∃ bs : List Kb, bs.map (·.k) = ks ∧ r = .ok (.tup false (bs.map Kb.d)) [none, none, none]) rfl rfl ?_
  repeat (first | refine ⟨_, rfl, ?_⟩ | refine ⟨rfl, ?_⟩)
  refine ⟨_, enu_tup (fun _ => rfl) false, ?_⟩
  refine for_enu (l := ks) (e := Kd.d) (fun i ρ => ∃ bs : List Kb, bs.map (·.k) = ks.take i ∧ ρ = [some (.lst false (ks.map Kd.d)), some (.lst false (P.map plD)), some (.int x), some (.lst true (bs.map Kb.d)), none, none, none, none, none, none]) ⟨[], rfl, rfl⟩ ?_ ?_
  · rintro i k ρ hk ⟨bs, hb, rfl⟩
    have hi : i < 6 := Nat.lt_of_lt_of_le (List.getElem?_eq_some_iff.mp hk).1 k6
    have lb : bs.length ≤ 6 := by
      have := congrArg List.length hb
      rw [List.length_map, List.length_take] at this
      omega
    have et : ks.take (i + 1) = ks.take i ++ [k] := by rw [List.take_add_one, hk]; rfl
    have m40 : 0 ≤ x / (5 * (i : Int) + 2) % 4 := Int.emod_nonneg _ (by decide)
    have m41 : x / (5 * (i : Int) + 2) % 4 < 4 := Int.emod_lt_of_pos _ (by decide)
    have m50 : 0 ≤ x / (7 * (i : Int) + 3) % 4 := Int.emod_nonneg _ (by decide)
    have m51 : x / (7 * (i : Int) + 3) % 4 < 4 := Int.emod_lt_of_pos _ (by decide)
    obtain ⟨a, ha, ea⟩ := least_ix m40 m41
    repeat (first | refine ⟨_, rfl, ?_⟩ | refine ⟨rfl, ?_⟩)
    refine ⟨_, items_data (pls_unfl P), rfl, ?_⟩
    refine comp_pure (l := P) (e := plD) (fun p => plD p) (fun p => decide (p.2 = (i : Int))) (fun p hp Q hY hN => ?_) (by show _ ≤ 16777216; omega) (fun ρ' h' hl' => ⟨hl', ?_⟩)
    · repeat (first | refine ⟨_, rfl, ?_⟩ | refine ⟨rfl, ?_⟩)
      refine vB_if (fun q => ?_) (fun q => ?_)
      · rw [eqD_int] at q
        repeat (first | refine ⟨_, rfl, ?_⟩ | refine ⟨rfl, ?_⟩)
        exact hY q _ rfl
      · rw [eqD_int] at q
        exact hN q _ rfl
    rw [unclr_same h']
    generalize hm : (P.filter fun p => decide (p.2 = (i : Int))) = R
    obtain ⟨o, eo⟩ := most_ix (m := R.length) m50 m51
    have lr : (R.map fun p => plD p).length = R.length := List.length_map _
    repeat (first | refine ⟨_, rfl, ?_⟩ | refine ⟨rfl, ?_⟩)
    refine ⟨_, if_pos (mulOk_l (by decide) (by decide)), ?_⟩
    repeat (first | refine ⟨_, rfl, ?_⟩ | refine ⟨rfl, ?_⟩)
    refine ⟨_, fdiv_s (by omega) (by omega), ?_⟩
    repeat (first | refine ⟨_, rfl, ?_⟩ | refine ⟨rfl, ?_⟩)
    refine ⟨_, ea, ?_⟩
    rw [lr]
    repeat (first | refine ⟨_, rfl, ?_⟩ | refine ⟨rfl, ?_⟩)
    refine ⟨_, if_pos (mulOk_l (by decide) (by decide)), ?_⟩
    repeat (first | refine ⟨_, rfl, ?_⟩ | refine ⟨rfl, ?_⟩)
    refine ⟨_, fdiv_s (by omega) (by omega), ?_⟩
    repeat (first | refine ⟨_, rfl, ?_⟩ | refine ⟨rfl, ?_⟩)
    refine ⟨_, eo, ?_⟩
    refine ⟨_, rfl, ?_⟩
    refine at_ (ρ' := [some (.lst false (ks.map Kd.d)), some (.lst false (P.map plD)), some (.int x), some (.lst true (bs.map Kb.d)), some (.int (i : Int)), some k.d, some (.int (R.length : Int)), some (.int ((R.length - a : Nat) : Int)), some (Kb.hd ⟨k, R.length - a, o⟩), none]) (by
      have e1 : (if ((R.length : Nat) : Int) - (a : Int) > 0 then ((R.length : Nat) : Int) - (a : Int) else 0) = ((R.length - a : Nat) : Int) := by split <;> omega
      rw [← e1]
      rfl) ?_
    repeat (first | refine ⟨_, rfl, ?_⟩ | refine ⟨rfl, ?_⟩)
    refine ⟨Kb.hf _, ?_⟩
    repeat (first | refine ⟨_, rfl, ?_⟩ | refine ⟨rfl, ?_⟩)
    refine app_ok (xs := bs.map Kb.d) rfl (by rw [List.length_map]; show _ < 16777216; omega) ?_
    repeat (first | refine ⟨_, rfl, ?_⟩ | refine ⟨rfl, ?_⟩)
    refine ⟨bs ++ [⟨k, R.length - a, o⟩], by rw [List.map_append, hb, et]; rfl, ?_⟩
    rw [List.map_append]
    have e2 : ([D.str k.nm, .int ((R.length - a : Nat) : Int), Kb.hd ⟨k, R.length - a, o⟩, .str k.p.1, tfm k.F].any D.fl) = false := by
      show (false || (false || ((Kb.hd ⟨k, R.length - a, o⟩).fl || (false || (false || false))))) = false
      rw [Kb.hf]
      rfl
    show [_, _, _, some (D.lst true (bs.map Kb.d ++ [D.tup ([D.str k.nm, .int ((R.length - a : Nat) : Int), Kb.hd ⟨k, R.length - a, o⟩, .str k.p.1, tfm k.F].any D.fl) [D.str k.nm, .int ((R.length - a : Nat) : Int), Kb.hd ⟨k, R.length - a, o⟩, .str k.p.1, tfm k.F]])), _, _, _, _, _, _] = _
    rw [e2]
    rfl
  · rintro ρ ⟨bs, hb, rfl⟩
    rw [List.take_length] at hb
    repeat (first | refine ⟨_, rfl, ?_⟩ | refine ⟨rfl, ?_⟩)
    refine ⟨_, tup_lst (o := true) (map_unfl (fun _ => rfl) _), ?_⟩
    exact ⟨bs, hb, rfl⟩

end MP.k15

set_option autoImplicit false
set_option linter.all false
set_option maxRecDepth 100000
set_option maxHeartbeats 0
namespace MP.k15
open PySem MP
/-- a puzzle that is built, what is laid on it -/
structure Bt (h w : Nat) (G : Ce → Nat) (bs : List Kb) (ps : List (Nat × Nat)) (P : List Pl) : Prop where
  b : Bd h w
  g : ∀ p, sgn (G p)
  ok : ∀ b ∈ bs, b.k.Ok
  k1 : 1 ≤ bs.length
  k6 : bs.length ≤ 6
  pr : ∀ p ∈ ps, great p.1 ∧ great p.2
  pr6 : ps.length ≤ 6
  few : P.length ≤ 12
  gl : ∀ p ∈ P, ∀ s ∈ p.1, s.2.2 = [sg s] ∧ great (sg s)
  sf : ∀ p ∈ P, p.1.length ≤ 6
  src : ∀ p ∈ P, ∃ (i : Nat) (b : Kb) (a : List Sp) (d r : Nat), p.2 = (i : Int) ∧ bs[i]? = some b ∧ a ∈ fms b.k.F b.k.p ∧ d < h ∧ r < w ∧ p.1 = a.map (shS (d : Int) (r : Int))
  fit : ∀ p ∈ P, ∀ s ∈ p.1, 0 ≤ s.1 ∧ s.1 < h ∧ 0 ≤ s.2.1 ∧ s.2.1 < w ∧ (G (cell s) = 46 ∨ G (cell s) = 44 ∨ G (cell s) = sg s ∨ G (cell s) = lo1 (sg s))
abbrev pzB (h w : Nat) (G : Ce → Nat) (bs : List Kb) (ps : List (Nat × Nat)) : D := .tup false [fl (fr h w G), .tup false (bs.map Kb.d), .tup false (ps.map prD)]
theorem built (n : Nat) (c : Int) {zs : List Int} (hz : zs.length ≤ 12) :
    ∃ h w G bs ps P, Bt h w G bs ps P ∧ runF tab (n + 5) 24 [.int c, .lst false (zs.map .int), .bl false] = .ok (.tup false [pzB h w G bs ps, .lst false (P.map plD)]) [none, none, none] := by
  obtain ⟨xs, lx, px, hx⟩ := mixed (n + 3) c 10 (by decide)
  have at_x : ∀ i : Nat, i < 10 → ∃ y, o_ix [.lst false (xs.map D.int), .int (i : Int)] = some (.int y) ∧ 0 ≤ y := fun i hi => by
    have e : xs[i]? = some (xs[i]'(by omega)) := List.getElem?_eq_getElem (by omega)
    exact ⟨_, ix_lst (by rw [List.getElem?_map, e]; rfl) rfl, px _ (List.mem_of_getElem? e)⟩
  obtain ⟨x0, ix0, p0⟩ := at_x 0 (by decide)
  obtain ⟨x1, ix1, p1⟩ := at_x 1 (by decide)
  obtain ⟨x2, ix2, p2⟩ := at_x 2 (by decide)
  obtain ⟨x3, ix3, p3⟩ := at_x 3 (by decide)
  obtain ⟨x4, ix4, p4⟩ := at_x 4 (by decide)
  obtain ⟨x5, ix5, p5⟩ := at_x 5 (by decide)
  obtain ⟨x6, ix6, p6⟩ := at_x 6 (by decide)
  obtain ⟨x7, ix7, p7⟩ := at_x 7 (by decide)
  obtain ⟨cs, c3, gcs, hl⟩ := letters (n + 3) x0
  have cne : cs ≠ [] := fun e => by rw [e] at c3; cases c3
  obtain ⟨ks, k1, k6, hk, kk⟩ := kinds (n + 1) x1 cne (by omega) gcs (most := 6) (by decide) (by decide)
  have kne : ks ≠ [] := fun e => by rw [e] at k1; simp at k1
  refine run_ok (F := f__law_built) (P := fun r => ∃ h w G bs ps P, Bt h w G bs ps P ∧ r = .ok (.tup false [pzB h w G bs ps, .lst false (P.map plD)]) [none, none, none]) rfl rfl ?_
  repeat (first | refine ⟨_, rfl, ?_⟩ | refine ⟨rfl, ?_⟩)
  refine ⟨_, ?_, hx⟩
  refine ⟨rfl, _, rfl, ?_⟩
  refine at_ (ρ' := [some (.int c), some (.lst false (zs.map .int)), some (.bl false), some (.lst false (xs.map .int)), none, none, none, none, none, none, none]) (by rw [frz_lst (fun _ => rfl)]; rfl) ?_
  repeat (first | refine ⟨_, rfl, ?_⟩ | refine ⟨rfl, ?_⟩)
  refine ⟨_, ix0, ?_⟩
  repeat (first | refine ⟨_, rfl, ?_⟩ | refine ⟨rfl, ?_⟩)
  refine ⟨_, ?_, hl⟩
  refine ⟨rfl, _, rfl, ?_⟩
  refine at_ (ρ' := [some (.int c), some (.lst false (zs.map .int)), some (.bl false), some (.lst false (xs.map .int)), some (.lst false (cs.map sgE)), none, none, none, none, none, none]) (by rw [frz_lst (fun _ => rfl)]; rfl) ?_
  repeat (first | refine ⟨_, rfl, ?_⟩ | refine ⟨rfl, ?_⟩)
  refine ⟨_, ix1, ?_⟩
  repeat (first | refine ⟨_, rfl, ?_⟩ | refine ⟨rfl, ?_⟩)
  refine ⟨_, ?_, kk⟩
  refine ⟨rfl, _, rfl, ?_⟩
  refine at_ (ρ' := [some (.int c), some (.lst false (zs.map .int)), some (.bl false), some (.lst false (xs.map .int)), some (.lst false (cs.map sgE)), some (.lst false (ks.map Kd.d)), none, none, none, none, none]) (by rw [frz_lst (fun _ => rfl)]; rfl) ?_
  repeat (first | refine ⟨_, rfl, ?_⟩ | refine ⟨rfl, ?_⟩)
  refine ⟨_, ix2, ?_⟩
  repeat (first | refine ⟨_, rfl, ?_⟩ | refine ⟨rfl, ?_⟩)
  refine ⟨_, ix3, ?_⟩
  repeat (first | refine ⟨_, rfl, ?_⟩ | refine ⟨rfl, ?_⟩)
  refine ⟨_, ix4, ?_⟩
  repeat (first | refine ⟨_, rfl, ?_⟩ | refine ⟨rfl, ?_⟩)
  refine if_cut (fun ρ => ∃ h w, Bd h w ∧ ρ = [some (.int c), some (.lst false (zs.map .int)), some (.bl false), some (.lst false (xs.map .int)), some (.lst false (cs.map sgE)), some (.lst false (ks.map Kd.d)), some (.int (h : Int)), some (.int (w : Int)), none, none, none]) (fun _ => ?_) (fun _ => ?_) ?_
  · repeat (first | refine ⟨_, rfl, ?_⟩ | refine ⟨rfl, ?_⟩)
    exact ⟨8, 8, ⟨by decide, by decide, by decide, by decide⟩, rfl⟩
  · obtain ⟨h, eh⟩ : ∃ h : Nat, 1 + x2 % 4 = (h : Int) := ⟨(1 + x2 % 4).toNat, by omega⟩
    obtain ⟨w, ew⟩ : ∃ w : Nat, 1 + x3 % 5 = (w : Int) := ⟨(1 + x3 % 5).toNat, by omega⟩
    refine ⟨h, w, ⟨by omega, by omega, by omega, by omega⟩, ?_⟩
    rw [← eh, ← ew]
    rfl
  rintro ρ ⟨h, w, b, rfl⟩
  obtain ⟨A, P, L, hP, kl⟩ := laid n hk kne k6 b hz
  obtain ⟨rows, fF, lr, cv, kf⟩ := law_floor (n + 2) L.val b x5 c3 gcs
  obtain ⟨bs, hb, kb⟩ := bounded (n + 3) k6 (P := P) hP x6
  obtain ⟨ps, gps, lps, ka⟩ := apart (n + 2) L.gl L.few hP c3 gcs x7
  have ef1 : (dA A).frz = .dic false 1 (A.map fun x => ce x.1) (A.map fun x => .str [x.2]) := by
    show D.dic false 1 _ (frzs (A.map fun x => .str [x.2])) = _
    rw [frzs_map (fun _ => rfl)]
  repeat (first | refine ⟨_, rfl, ?_⟩ | refine ⟨rfl, ?_⟩)
  refine ⟨_, ?_, kl⟩
  refine ⟨rfl, _, rfl, ?_⟩
  refine at_ (ρ' := [some (.int c), some (.lst false (zs.map .int)), some (.bl false), some (.lst false (xs.map .int)), some (.lst false (cs.map sgE)), some (.lst false (ks.map Kd.d)), some (.int (h : Int)), some (.int (w : Int)), some (D.lst true (P.map plD)).frz, some (dA A).frz, none]) rfl ?_
  rw [ef1, frz_lst (fun _ => rfl)]
  repeat (first | refine ⟨_, rfl, ?_⟩ | refine ⟨rfl, ?_⟩)
  refine ⟨_, ix5, ?_⟩
  repeat (first | refine ⟨_, rfl, ?_⟩ | refine ⟨rfl, ?_⟩)
  refine ⟨_, ?_, kf⟩
  refine ⟨rfl, _, rfl, ?_⟩
  refine at_ (ρ' := [some (.int c), some (.lst false (zs.map .int)), some (.bl false), some (.lst false (xs.map .int)), some (.lst false (cs.map sgE)), some (.lst false (ks.map Kd.d)), some (.int (h : Int)), some (.int (w : Int)), some (.lst false (P.map plD)), some (.dic false 1 (A.map fun x => ce x.1) (A.map fun x => .str [x.2])), some (fl rows)]) rfl ?_
  repeat (first | refine ⟨_, rfl, ?_⟩ | refine ⟨rfl, ?_⟩)
  refine ⟨_, ix6, ?_⟩
  repeat (first | refine ⟨_, rfl, ?_⟩ | refine ⟨rfl, ?_⟩)
  refine ⟨_, ?_, kb⟩
  repeat (first | refine ⟨_, rfl, ?_⟩ | refine ⟨rfl, ?_⟩)
  refine ⟨_, ix7, ?_⟩
  repeat (first | refine ⟨_, rfl, ?_⟩ | refine ⟨rfl, ?_⟩)
  refine ⟨_, ?_, ka⟩
  repeat (first | refine ⟨_, rfl, ?_⟩ | refine ⟨rfl, ?_⟩)
  obtain ⟨h2, G, er, b2, g⟩ := fF.fr
  have e2 : h2 = h := by
    have := congrArg List.length er
    rw [fr_len] at this
    omega
  subst e2
  have lb : bs.length = ks.length := by rw [← hb, List.length_map]
  refine ⟨h2, w, G, bs, ps, P, ⟨b, g, fun b hbm => hk _ (by rw [← hb]; exact List.mem_map.mpr ⟨b, hbm, rfl⟩), by omega, by omega, gps, lps, hP, L.gl, L.few, fun p hp => ?_, fun p hp s hs => ?_⟩, by rw [er]; rfl⟩
  · obtain ⟨i, k, a, d, r, e1, e2, e3, e4, e5, e6⟩ := L.src p hp
    rw [← hb, List.getElem?_map] at e2
    cases q : bs[i]? with
    | none => rw [q] at e2; cases e2
    | some b3 =>
      rw [q] at e2
      cases e2
      exact ⟨i, b3, a, d, r, e1, q, e3, e4, e5, e6⟩
  · obtain ⟨r1, r2, r3, r4, r5⟩ := L.in_ p hp s hs
    refine ⟨r1, r2, r3, r4, ?_⟩
    obtain ⟨a, c2, z⟩ := s
    obtain ⟨r, rfl⟩ : ∃ r : Nat, a = (r : Int) := ⟨a.toNat, (Int.toNat_of_nonneg r1).symm⟩
    obtain ⟨c2, rfl⟩ : ∃ r : Nat, c2 = (r : Int) := ⟨c2.toNat, (Int.toNat_of_nonneg r3).symm⟩
    exact cv r c2 _ _ _ (by rw [er]; exact fr_row (by dsimp only at r2; omega)) (row_at (by dsimp only at r4; omega)) r5

end MP.k15

set_option autoImplicit false
set_option linter.all false
set_option maxRecDepth 100000
set_option maxHeartbeats 0
namespace MP.k15
open PySem MP
theorem is_open_in (n : Nat) {rows : List (List Nat)} {w : Nat} (f : Fl rows w) {i j c : Nat} {r : List Nat} (hr : rows[i]? = some r) (hc : r[j]? = some c) (hw : r.length = w) (hs : sgn c) : runF tab (n + 1) 6 [fl rows, .tup false [.int (i : Int), .int (j : Int)]] = .ok (.bl (!decide (c = 35))) [none, none] := by
  obtain ⟨r0, e0, w0⟩ := f.row0
  have hi : i < rows.length := (List.getElem?_eq_some_iff.mp hr).1
  have hj : j < r.length := (List.getElem?_eq_some_iff.mp hc).1
  refine run_ok (F := f_is_open) (P := fun r => r = .ok (.bl (!decide (c = 35))) [none, none]) rfl rfl ?_
  repeat (first | refine ⟨_, rfl, ?_⟩ | refine ⟨rfl, ?_⟩)
  refine vB_f (by rw [List.length_map, decide_eq_true (by omega)]; rfl) ?_
  repeat (first | refine ⟨_, rfl, ?_⟩ | refine ⟨rfl, ?_⟩)
  refine ⟨_, ix_row (o := false) (i := 0) e0, ?_⟩
  repeat (first | refine ⟨_, rfl, ?_⟩ | refine ⟨rfl, ?_⟩)
  refine vB_f (by rw [decide_eq_true (by omega)]; rfl) ?_
  repeat (first | refine ⟨_, rfl, ?_⟩ | refine ⟨rfl, ?_⟩)
  refine ⟨_, ix_row (o := false) hr, ?_⟩
  repeat (first | refine ⟨_, rfl, ?_⟩ | refine ⟨rfl, ?_⟩)
  refine ⟨_, ix_str hc, ?_⟩
  repeat (first | refine ⟨_, rfl, ?_⟩ | refine ⟨rfl, ?_⟩)
  refine ⟨_, ne_sign (Nat.lt_trans (sgn_lt hs) (by decide)) (by decide), ?_⟩
  rfl
theorem is_open_out (n : Nat) {rows : List (List Nat)} {w : Nat} (f : Fl rows w) {i j : Int} (h : (i < 0 ∨ (rows.length : Int) ≤ i) ∨ (j < 0 ∨ (w : Int) ≤ j)) : runF tab (n + 1) 6 [fl rows, .tup false [.int i, .int j]] = .ok (.bl false) [none, none] := by
  obtain ⟨r0, e0, w0⟩ := f.row0
  refine run_ok (F := f_is_open) (P := fun r => r = .ok (.bl false) [none, none]) rfl rfl ?_
  repeat (first | refine ⟨_, rfl, ?_⟩ | refine ⟨rfl, ?_⟩)
  refine vB_if (fun q1 => ?_) (fun q1 => ?_)
  · have q1 := of_decide_eq_true q1
    repeat (first | refine ⟨_, rfl, ?_⟩ | refine ⟨rfl, ?_⟩)
    refine vB_if (fun q2 => ?_) (fun q2 => ?_)
    · rfl
    · have q2 : decide (i < ((rows.map D.str).length : Nat)) = true := by
        rw [Bool.not_eq_false'] at q2
        exact q2
      have q2 := of_decide_eq_true q2
      rw [List.length_map] at q2
      repeat (first | refine ⟨_, rfl, ?_⟩ | refine ⟨rfl, ?_⟩)
      refine vB_if (fun q3 => ?_) (fun q3 => ?_)
      · have q3 := of_decide_eq_true q3
        repeat (first | refine ⟨_, rfl, ?_⟩ | refine ⟨rfl, ?_⟩)
        refine ⟨_, ix_row (o := false) (i := 0) e0, ?_⟩
        repeat (first | refine ⟨_, rfl, ?_⟩ | refine ⟨rfl, ?_⟩)
        refine vB_t (by rw [decide_eq_false (by omega)]; rfl) ?_
        rfl
      · rfl
  · rfl

/-! what may lie -/
def fitB (h w : Nat) (G : Ce → Nat) (s : Sp) : Bool := decide (0 ≤ s.1 ∧ s.1 < (h : Int) ∧ 0 ≤ s.2.1 ∧ s.2.1 < (w : Int) ∧ (G (cell s) = 46 ∨ G (cell s) = 44 ∨ G (cell s) = sg s ∨ G (cell s) = lo1 (sg s)))
theorem up_eq {c z : Nat} (hc : sgn c) (h1 : c ≠ 35) (h2 : c ≠ 46) (h3 : c ≠ 44) (hz : great z) : up1 c = z ↔ (c = z ∨ c = lo1 z) := by
  unfold great at hz
  rw [lo1_great hz]
  unfold sgn at hc
  unfold up1
  by_cases q : 97 ≤ c ∧ c ≤ 122
  · rw [if_pos (by simp [q.1, q.2])]
    omega
  · rw [if_neg (by simp; omega)]
    omega
theorem wanted (n : Nat) {h w : Nat} {G : Ce → Nat} (b : Bd h w) (g : ∀ p, sgn (G p)) {r c : Nat} (hr : r < h) (hc : c < w) :
    runF tab (n + 1) 7 [fl (fr h w G), .tup false [.int (r : Int), .int (c : Int)]] = .ok (if G ((r : Int), (c : Int)) = 35 ∨ G ((r : Int), (c : Int)) = 46 ∨ G ((r : Int), (c : Int)) = 44 then .non else .str [up1 (G ((r : Int), (c : Int)))]) [none, none] := by
  have gg := g ((r : Int), (c : Int))
  have mem : ([35, 46, 44] : List Nat).contains (G ((r : Int), (c : Int))) = decide (G ((r : Int), (c : Int)) = 35 ∨ G ((r : Int), (c : Int)) = 46 ∨ G ((r : Int), (c : Int)) = 44) := by
    rw [Bool.eq_iff_iff, List.contains_iff_mem, decide_eq_true_iff]
    simp
  generalize hz : G ((r : Int), (c : Int)) = z at gg mem
  refine run_ok (F := f_wanted) (P := fun q => q = .ok (if z = 35 ∨ z = 46 ∨ z = 44 then .non else .str [up1 z]) [none, none]) rfl rfl ?_
  repeat (first | refine ⟨_, rfl, ?_⟩ | refine ⟨rfl, ?_⟩)
  refine ⟨_, ix_row (o := false) (fr_row hr), ?_⟩
  repeat (first | refine ⟨_, rfl, ?_⟩ | refine ⟨rfl, ?_⟩)
  refine ⟨_, ix_str (row_at hc), ?_⟩
  rw [hz]
  refine ⟨_, rfl, ?_⟩
  refine at_ (ρ' := [some (fl (fr h w G)), some (.tup false [.int (r : Int), .int (c : Int)]), some (.str [z])]) rfl ?_
  iterate 3 (first | refine ⟨_, rfl, ?_⟩ | refine ⟨rfl, ?_⟩)
  refine ⟨_, congrArg (fun b => some (D.bl b)) mem, ?_⟩
  refine vB_if (fun k => ?_) (fun k => ?_)
  · rw [if_pos (of_decide_eq_true k)]
    repeat (first | refine ⟨_, rfl, ?_⟩ | refine ⟨rfl, ?_⟩)
    rfl
  · rw [if_neg (of_decide_eq_false k)]
    have e : o_upper [.str [z]] = some (.str [up1 z]) := by
      have hz128 : z < 128 := sgn_lt gg
      show (if (ascii [z] && decide ([z].length ≤ 5592405)) = true then some (D.str ([z].map up1)) else none) = _
      rw [show ascii [z] = true by unfold ascii; simp [hz128]]
      rfl
    repeat (first | refine ⟨_, rfl, ?_⟩ | refine ⟨rfl, ?_⟩)
    refine ⟨_, e, ?_⟩
    rfl
theorem may_lie (n : Nat) {h w : Nat} {G : Ce → Nat} (b : Bd h w) (g : ∀ p, sgn (G p)) {l : List Sp} (gl : ∀ s ∈ l, s.2.2 = [sg s] ∧ great (sg s)) :
    runF tab (n + 2) 8 [fl (fr h w G), .tup false (l.map sp)] = .ok (.bl (l.all (fitB h w G))) [none, none] := by
  have fF := fr_Fl b g
  refine run_ok (F := f_may_lie) (P := fun q => q = .ok (.bl (l.all (fitB h w G))) [none, none]) rfl rfl ?_
  repeat (first | refine ⟨_, rfl, ?_⟩ | refine ⟨rfl, ?_⟩)
  refine ⟨_, its_tup (sps_unfl _), ?_⟩
  refine for_list (l := l) (e := sp) (fun j ρ => (∀ s ∈ l.take j, fitB h w G s = true) ∧ ρ = [some (fl (fr h w G)), some (.tup false (l.map sp)), none, none, none]) ⟨(fun s hs => by cases hs), rfl⟩ ?_ ?_
  · rintro j s ρ hs ⟨hj, rfl⟩
    have hsm := List.mem_of_getElem? hs
    obtain ⟨e1, gs⟩ := gl s hsm
    have bad : fitB h w G s = false → l.all (fitB h w G) = false := fun k => by
      cases q : l.all (fitB h w G) with
      | false => rfl
      | true => rw [List.all_eq_true.mp q s hsm] at k; cases k
    have step : fitB h w G s = true → ∀ t ∈ l.take (j + 1), fitB h w G t = true := fun k t ht => by
      rw [List.take_add_one, hs] at ht
      rcases List.mem_append.mp ht with z | z
      · exact hj t z
      · rw [List.mem_singleton.mp z]; exact k
    obtain ⟨a, c, z⟩ := s
    by_cases inn : (0 ≤ a ∧ a < (h : Int)) ∧ (0 ≤ c ∧ c < (w : Int))
    · obtain ⟨r, rfl⟩ : ∃ r : Nat, a = (r : Int) := ⟨a.toNat, (Int.toNat_of_nonneg inn.1.1).symm⟩
      obtain ⟨c, rfl⟩ : ∃ r : Nat, c = (r : Int) := ⟨c.toNat, (Int.toNat_of_nonneg inn.2.1).symm⟩
      have hr : r < h := by omega
      have hc : c < w := by omega
      have gG := g ((r : Int), (c : Int))
      have k1 := is_open_in n fF (fr_row hr) (row_at hc) (by rw [List.length_map, List.length_range]) gG
      have k2 := wanted n b g hr hc
      have e1 : z = [sg ((r : Int), (c : Int), z)] := e1
      generalize hsz : sg ((r : Int), (c : Int), z) = y at e1 gs
      subst e1
      have fit : fitB h w G ((r : Int), (c : Int), [y]) = decide (G ((r : Int), (c : Int)) = 46 ∨ G ((r : Int), (c : Int)) = 44 ∨ G ((r : Int), (c : Int)) = y ∨ G ((r : Int), (c : Int)) = lo1 y) := by
        unfold fitB
        rw [hsz]
        refine decide_eq_decide.mpr ?_
        show (0 ≤ (r : Int) ∧ (r : Int) < h ∧ 0 ≤ (c : Int) ∧ (c : Int) < w ∧ _) ↔ _
        exact ⟨fun k => k.2.2.2.2, fun k => ⟨by omega, by omega, by omega, by omega, k⟩⟩
      generalize hG : G ((r : Int), (c : Int)) = x at *
      unfold great at gs
      have low := lo1_great gs
      repeat (first | refine ⟨_, rfl, ?_⟩ | refine ⟨rfl, ?_⟩)
      refine ⟨_, ?_, k1⟩
      refine ⟨rfl, ?_⟩
      refine vB_if (fun q1 => ?_) (fun q1 => ?_)
      · have q1 : x = 35 := by simpa using q1
        rw [bad (by rw [fit, decide_eq_false]; omega)]
        repeat (first | refine ⟨_, rfl, ?_⟩ | refine ⟨rfl, ?_⟩)
        rfl
      · have q1 : ¬ x = 35 := by simpa using q1
        by_cases q2 : x = 46 ∨ x = 44
        · rw [if_pos (.inr q2)] at k2
          repeat (first | refine ⟨_, rfl, ?_⟩ | refine ⟨rfl, ?_⟩)
          refine ⟨_, ?_, k2⟩
          refine ⟨rfl, ?_⟩
          repeat (first | refine ⟨_, rfl, ?_⟩ | refine ⟨rfl, ?_⟩)
          refine ⟨.bl false, ?_, ?_⟩
          · show (if (nice .non && ([D.non, .str [y]] : List D).all nice) = true then some (D.bl (!([D.non, .str [y]] : List D).any fun x => eqD x .non)) else none) = _
            rw [show ([D.non, .str [y]] : List D).all nice = true by
              show (true && (nice (.str [y]) && true)) = true
              rw [nice_sign (by omega)]
              rfl]
            rfl
          refine vB_f rfl ?_
          repeat (first | refine ⟨_, rfl, ?_⟩ | refine ⟨rfl, ?_⟩)
          exact ⟨step (by rw [fit, decide_eq_true]; omega), rfl⟩
        · rw [if_neg (fun k => k.elim q1 q2)] at k2
          have up : up1 x < 1114112 := by
            have := sgn_lt gG
            unfold up1
            split <;> omega
          have en : o_nmem [.str [up1 x], .tup false [.non, .str [y]]] = some (.bl (!decide (up1 x = y))) := by
            show (if (nice (.str [up1 x]) && ([D.non, .str [y]] : List D).all nice) = true then some (D.bl (!(eqD .non (.str [up1 x]) || (eqD (.str [y]) (.str [up1 x]) || false)))) else none) = _
            rw [nice_sign up, show ([D.non, .str [y]] : List D).all nice = true by
              show (true && (nice (.str [y]) && true)) = true
              rw [nice_sign (by omega)]
              rfl, eqD_str]
            show some (D.bl (!(false || (decide ([y] = [up1 x]) || false)))) = _
            rw [Bool.false_or, Bool.or_false]
            congr 3
            refine decide_eq_decide.mpr ?_
            constructor
            · intro h; injection h with h _; exact h.symm
            · intro h; rw [h]
          have eu := up_eq gG q1 (by omega) (by omega) (show great y from gs)
          repeat (first | refine ⟨_, rfl, ?_⟩ | refine ⟨rfl, ?_⟩)
          refine ⟨_, ?_, k2⟩
          refine ⟨rfl, ?_⟩
          repeat (first | refine ⟨_, rfl, ?_⟩ | refine ⟨rfl, ?_⟩)
          refine ⟨_, en, ?_⟩
          refine vB_if (fun q3 => ?_) (fun q3 => ?_)
          · have q3 : ¬ up1 x = y := by simpa using q3
            rw [bad (by rw [fit, decide_eq_false]; intro k; rcases k with k | k | k; exact q2 (.inl k); exact q2 (.inr k); exact q3 (eu.mpr k))]
            repeat (first | refine ⟨_, rfl, ?_⟩ | refine ⟨rfl, ?_⟩)
            rfl
          · have q3 : up1 x = y := by simpa using q3
            repeat (first | refine ⟨_, rfl, ?_⟩ | refine ⟨rfl, ?_⟩)
            exact ⟨step (by rw [fit, decide_eq_true]; exact .inr (.inr (eu.mp q3))), rfl⟩
    · have k1 := is_open_out n fF (i := a) (j := c) (by rw [fr_len]; omega)
      repeat (first | refine ⟨_, rfl, ?_⟩ | refine ⟨rfl, ?_⟩)
      refine ⟨_, ?_, k1⟩
      rw [bad (by unfold fitB; rw [decide_eq_false]; intro k; exact inn ⟨⟨k.1, k.2.1⟩, ⟨k.2.2.1, k.2.2.2.1⟩⟩)]
      repeat (first | refine ⟨_, rfl, ?_⟩ | refine ⟨rfl, ?_⟩)
      rfl
  · rintro ρ ⟨hj, rfl⟩
    rw [List.take_length] at hj
    repeat (first | refine ⟨_, rfl, ?_⟩ | refine ⟨rfl, ?_⟩)
    rw [List.all_eq_true.mpr hj]
    rfl

end MP.k15

set_option autoImplicit false
set_option linter.all false
set_option maxRecDepth 100000
set_option maxHeartbeats 0
namespace MP.k15
open PySem MP
theorem room (n : Nat) {h w : Nat} {G : Ce → Nat} (b : Bd h w) (g : ∀ p, sgn (G p)) {l : List Sp} (gl : ∀ s ∈ l, s.2.2 = [sg s] ∧ great (sg s)) :
    runF tab (n + 1) 25 [fl (fr h w G), .tup false (l.map sp)] = .ok (.bl (l.all (fitB h w G))) [none, none] := by
  have fF := fr_Fl b g
  obtain ⟨r0, e0, w0⟩ := fF.row0
  refine run_ok (F := f__law_room) (P := fun q => q = .ok (.bl (l.all (fitB h w G))) [none, none]) rfl rfl ?_
  repeat (first | refine ⟨_, rfl, ?_⟩ | refine ⟨rfl, ?_⟩)
  refine ⟨_, its_tup (sps_unfl _), ?_⟩
  refine for_list (l := l) (e := sp) (fun j ρ => (∀ s ∈ l.take j, fitB h w G s = true) ∧ ρ = [some (fl (fr h w G)), some (.tup false (l.map sp)), none, none, none]) ⟨(fun s hs => by cases hs), rfl⟩ ?_ ?_
  · rintro j s ρ hs ⟨hj, rfl⟩
    have hsm := List.mem_of_getElem? hs
    obtain ⟨e1, gs⟩ := gl s hsm
    have bad : fitB h w G s = false → l.all (fitB h w G) = false := fun k => by
      cases q : l.all (fitB h w G) with
      | false => rfl
      | true => rw [List.all_eq_true.mp q s hsm] at k; cases k
    have step : fitB h w G s = true → ∀ t ∈ l.take (j + 1), fitB h w G t = true := fun k t ht => by
      rw [List.take_add_one, hs] at ht
      rcases List.mem_append.mp ht with z | z
      · exact hj t z
      · rw [List.mem_singleton.mp z]; exact k
    obtain ⟨a, c, z⟩ := s
    have out : ¬ ((0 ≤ a ∧ a < (h : Int)) ∧ (0 ≤ c ∧ c < (w : Int))) → l.all (fitB h w G) = false := fun inn => bad (by unfold fitB; rw [decide_eq_false]; intro k; exact inn ⟨⟨k.1, k.2.1⟩, ⟨k.2.2.1, k.2.2.2.1⟩⟩)
    have lenR : (((fr h w G).map D.str).length : Int) = (h : Int) := by rw [List.length_map, fr_len]
    have lenC : ((r0.length : Nat) : Int) = (w : Int) := by rw [w0]
    repeat (first | refine ⟨_, rfl, ?_⟩ | refine ⟨rfl, ?_⟩)
    refine vB_if (fun q1 => ?_) (fun q1 => ?_)
    · have q1 := of_decide_eq_true q1
      repeat (first | refine ⟨_, rfl, ?_⟩ | refine ⟨rfl, ?_⟩)
      refine vB_if (fun q2 => ?_) (fun q2 => ?_)
      · have q2 : ¬ a < (((fr h w G).map D.str).length : Int) := by simpa using q2
        rw [lenR] at q2
        rw [out (by omega)]
        repeat (first | refine ⟨_, rfl, ?_⟩ | refine ⟨rfl, ?_⟩)
        rfl
      · have q2 : a < (((fr h w G).map D.str).length : Int) := by simpa using q2
        rw [lenR] at q2
        repeat (first | refine ⟨_, rfl, ?_⟩ | refine ⟨rfl, ?_⟩)
        refine vB_if (fun q3 => ?_) (fun q3 => ?_)
        · have q3 := of_decide_eq_true q3
          repeat (first | refine ⟨_, rfl, ?_⟩ | refine ⟨rfl, ?_⟩)
          refine ⟨_, ix_row (o := false) (i := 0) e0, ?_⟩
          repeat (first | refine ⟨_, rfl, ?_⟩ | refine ⟨rfl, ?_⟩)
          refine vB_if (fun q4 => ?_) (fun q4 => ?_)
          · have q4 : ¬ c < ((r0.length : Nat) : Int) := by simpa using q4
            rw [lenC] at q4
            rw [out (by omega)]
            repeat (first | refine ⟨_, rfl, ?_⟩ | refine ⟨rfl, ?_⟩)
            rfl
          · have q4 : c < ((r0.length : Nat) : Int) := by simpa using q4
            rw [lenC] at q4
            obtain ⟨r, rfl⟩ : ∃ r : Nat, a = (r : Int) := ⟨a.toNat, (Int.toNat_of_nonneg q1).symm⟩
            obtain ⟨c, rfl⟩ : ∃ r : Nat, c = (r : Int) := ⟨c.toNat, (Int.toNat_of_nonneg q3).symm⟩
            have hr : r < h := by omega
            have hc : c < w := by omega
            have gG := g ((r : Int), (c : Int))
            have e1 : z = [sg ((r : Int), (c : Int), z)] := e1
            generalize hsz : sg ((r : Int), (c : Int), z) = y at e1 gs
            subst e1
            have fit : fitB h w G ((r : Int), (c : Int), [y]) = decide (G ((r : Int), (c : Int)) = 46 ∨ G ((r : Int), (c : Int)) = 44 ∨ G ((r : Int), (c : Int)) = y ∨ G ((r : Int), (c : Int)) = lo1 y) := by
              unfold fitB
              rw [hsz]
              refine decide_eq_decide.mpr ?_
              show (0 ≤ (r : Int) ∧ (r : Int) < h ∧ 0 ≤ (c : Int) ∧ (c : Int) < w ∧ _) ↔ _
              exact ⟨fun k => k.2.2.2.2, fun k => ⟨by omega, by omega, by omega, by omega, k⟩⟩
            unfold great at gs
            have low := lo1_great gs
            have x128 := sgn_lt gG
            repeat (first | refine ⟨_, rfl, ?_⟩ | refine ⟨rfl, ?_⟩)
            refine ⟨_, ix_row (o := false) (fr_row hr), ?_⟩
            repeat (first | refine ⟨_, rfl, ?_⟩ | refine ⟨rfl, ?_⟩)
            refine ⟨_, ix_str (row_at hc), ?_⟩
            repeat (first | refine ⟨_, rfl, ?_⟩ | refine ⟨rfl, ?_⟩)
            refine ⟨_, lower_ok (by omega), ?_⟩
            generalize hG : G ((r : Int), (c : Int)) = x at *
            have en : o_nmem [.str [x], .tup false [.str [46], .str [44], .str [y], .str [lo1 y]]] = some (.bl (!decide (x = 46 ∨ x = 44 ∨ x = y ∨ x = lo1 y))) := by
              show (if (nice (.str [x]) && ([D.str [46], .str [44], .str [y], .str [lo1 y]] : List D).all nice) = true then some (D.bl (!(eqD (.str [46]) (.str [x]) || (eqD (.str [44]) (.str [x]) || (eqD (.str [y]) (.str [x]) || (eqD (.str [lo1 y]) (.str [x]) || false)))))) else none) = _
              rw [nice_sign (by omega), show ([D.str [46], .str [44], .str [y], .str [lo1 y]] : List D).all nice = true by
                show (true && (true && (nice (.str [y]) && (nice (.str [lo1 y]) && true)))) = true
                rw [nice_sign (by omega), nice_sign (by omega)]
                rfl, eqD_str, eqD_str, eqD_str, eqD_str]
              have one : ∀ a b : Nat, decide ([a] = [b]) = decide (b = a) := fun a b => decide_eq_decide.mpr (by
                constructor
                · intro h; injection h with h _; exact h.symm
                · intro h; rw [h])
              rw [one, one, one, one]
              show some (D.bl (!(decide (x = 46) || (decide (x = 44) || (decide (x = y) || (decide (x = lo1 y) || false)))))) = _
              congr 3
              simp
            repeat (first | refine ⟨_, rfl, ?_⟩ | refine ⟨rfl, ?_⟩)
            refine ⟨_, en, ?_⟩
            refine vB_if (fun q5 => ?_) (fun q5 => ?_)
            · have q5 : decide (x = 46 ∨ x = 44 ∨ x = y ∨ x = lo1 y) = false := by simpa using q5
              rw [bad (by rw [fit]; exact q5)]
              repeat (first | refine ⟨_, rfl, ?_⟩ | refine ⟨rfl, ?_⟩)
              rfl
            · have q5 : decide (x = 46 ∨ x = 44 ∨ x = y ∨ x = lo1 y) = true := by
                cases q : decide (x = 46 ∨ x = 44 ∨ x = y ∨ x = lo1 y) with
                | true => rfl
                | false => rw [q] at q5; cases q5
              repeat (first | refine ⟨_, rfl, ?_⟩ | refine ⟨rfl, ?_⟩)
              exact ⟨step (by rw [fit]; exact q5), rfl⟩
        · have q3 : ¬ 0 ≤ c := of_decide_eq_false q3
          rw [out (by omega)]
          repeat (first | refine ⟨_, rfl, ?_⟩ | refine ⟨rfl, ?_⟩)
          rfl
    · have q1 := of_decide_eq_false q1
      rw [out (by omega)]
      repeat (first | refine ⟨_, rfl, ?_⟩ | refine ⟨rfl, ?_⟩)
      rfl
  · rintro ρ ⟨hj, rfl⟩
    rw [List.take_length] at hj
    repeat (first | refine ⟨_, rfl, ?_⟩ | refine ⟨rfl, ?_⟩)
    rw [List.all_eq_true.mpr hj]
    rfl
theorem shifted (n : Nat) {l : List Sp} (hl : l.length ≤ 1000) (d r : Int) : runF tab (n + 1) 9 [tfm l, .int d, .int r] = .ok (tfm (l.map (shS d r))) [none, none, none] := by
  refine run_ok (F := f_shifted) (P := fun q => q = .ok (tfm (l.map (shS d r))) [none, none, none]) rfl rfl ?_
  repeat (first | refine ⟨_, rfl, ?_⟩ | refine ⟨rfl, ?_⟩)
  refine ⟨_, its_tup (sps_unfl _), rfl, ?_⟩
  refine comp_all (l := l) (e := sp) (fun s => sp (shS d r s)) (fun q hq P hP => ?_) (by show _ ≤ 16777216; omega) (fun ρ' h' hl' => ⟨hl', ?_⟩)
  · repeat (first | refine ⟨_, rfl, ?_⟩ | refine ⟨rfl, ?_⟩)
    exact hP _ rfl
  rw [unclr_same h', show (l.map fun s => sp (shS d r s)) = (l.map (shS d r)).map sp by rw [List.map_map]; rfl]
  refine ⟨_, tup_lst (o := true) (sps_unfl _), ?_⟩
  rfl

end MP.k15

set_option autoImplicit false
set_option linter.all false
set_option maxRecDepth 100000
set_option maxHeartbeats 0
namespace MP.k15
open PySem MP
/-! placements -/
def lieP (h w : Nat) (G : Ce → Nat) (i : Nat) (a : List Sp) (d r : Nat) : List Pl := if (a.map (shS (d : Int) (r : Int))).all (fitB h w G) = true then [(a.map (shS (d : Int) (r : Int)), (i : Int))] else []
def rowP (h w : Nat) (G : Ce → Nat) (i : Nat) (a : List Sp) (d m : Nat) : List Pl := (List.range m).flatMap (lieP h w G i a d)
def formP (h w : Nat) (G : Ce → Nat) (i : Nat) (a : List Sp) (m : Nat) : List Pl := (List.range m).flatMap fun d => rowP h w G i a d w
def kindP (h w : Nat) (G : Ce → Nat) (i : Nat) (fs : List (List Sp)) : List Pl := fs.flatMap fun a => formP h w G i a h
def allP (h w : Nat) (G : Ce → Nat) (bs : List (Kb × Nat)) : List Pl := bs.flatMap fun x => kindP h w G x.2 (fms x.1.k.F x.1.k.p)
theorem flat_take {α β : Type} {l : List α} {f : α → List β} {j : Nat} {a : α} (h : l[j]? = some a) : (l.take (j + 1)).flatMap f = (l.take j).flatMap f ++ f a := by
  rw [List.take_add_one, h, List.flatMap_append]
  simp
theorem flat_range {β : Type} {f : Nat → List β} (m : Nat) : (List.range (m + 1)).flatMap f = (List.range m).flatMap f ++ f m := by
  rw [List.range_succ, List.flatMap_append]
  simp
theorem len_flat {α β : Type} {f : α → List β} {k : Nat} : ∀ {l : List α}, (∀ a ∈ l, (f a).length ≤ k) → (l.flatMap f).length ≤ l.length * k
  | [], _ => by simp
  | a :: l, h => by
    have h1 := h a List.mem_cons_self
    have h2 := len_flat (l := l) fun b hb => h b (List.mem_cons_of_mem _ hb)
    rw [List.flatMap_cons, List.length_append, List.length_cons, Nat.succ_mul]
    omega
theorem len_lie (h w : Nat) (G : Ce → Nat) (i : Nat) (a : List Sp) (d r : Nat) : (lieP h w G i a d r).length ≤ 1 := by
  unfold lieP
  split
  · exact Nat.le_refl _
  · exact Nat.zero_le _
theorem len_row (h w : Nat) (G : Ce → Nat) (i : Nat) (a : List Sp) (d m : Nat) : (rowP h w G i a d m).length ≤ m := by
  have := len_flat (l := List.range m) (f := lieP h w G i a d) (k := 1) fun r _ => len_lie h w G i a d r
  rw [List.length_range, Nat.mul_one] at this
  exact this
theorem len_form (h w : Nat) (G : Ce → Nat) (i : Nat) (a : List Sp) (m : Nat) : (formP h w G i a m).length ≤ m * w := by
  have := len_flat (l := List.range m) (f := fun d => rowP h w G i a d w) (k := w) fun d _ => len_row h w G i a d w
  rw [List.length_range] at this
  exact this
theorem len_kind {h w : Nat} (b : Bd h w) (G : Ce → Nat) (i : Nat) (fs : List (List Sp)) : (kindP h w G i fs).length ≤ fs.length * 64 := by
  refine len_flat (l := fs) (f := fun a => formP h w G i a h) (k := 64) fun a _ => Nat.le_trans (len_form h w G i a h) ?_
  exact Nat.mul_le_mul b.h8 b.w8
theorem len_all {h w : Nat} (b : Bd h w) (G : Ce → Nat) {bs : List (Kb × Nat)} (hb : ∀ x ∈ bs, x.1.k.Ok) : (allP h w G bs).length ≤ bs.length * 512 := by
  refine len_flat (l := bs) (k := 512) fun x hx => Nat.le_trans (len_kind b G x.2 _) ?_
  have := fms_len x.1.k (hb x hx).p
  omega
theorem enu_tupT {α : Type} {l : List α} {f : α → D} (hf : ∀ a, (f a).fl = false) (o : Bool) : itemsOf true (.tup o (l.map f)) = some (itemsOf.numb (l.map f)) := if_pos (map_unfl hf l)
theorem sh_gl {a : List Sp} (f : Form a) (d r : Int) : ∀ s ∈ a.map (shS d r), s.2.2 = [sg s] ∧ great (sg s) := fun s hs => by
  obtain ⟨q, hq, rfl⟩ := List.mem_map.mp hs
  obtain ⟨c, e, g1, g2⟩ := f.gl q hq
  exact gl_sg ⟨c, e, g1, g2⟩
theorem zip_at {l : List Kb} {i : Nat} {b : Kb} (h : l[i]? = some b) : l.zipIdx[i]? = some (b, i) := by
  rw [List.getElem?_zipIdx, h]
  simp
theorem gl_okz {l : List Sp} (h : ∀ s ∈ l, s.2.2 = [sg s] ∧ great (sg s)) : okz l := fun s hs => by
  rw [(h s hs).1]
  have := (h s hs).2
  unfold great at this
  simp
  omega
theorem mem_lie {h w : Nat} {G : Ce → Nat} {i : Nat} {a : List Sp} {d r : Nat} {p : Pl} (hp : p ∈ lieP h w G i a d r) : p = (a.map (shS (d : Int) (r : Int)), (i : Int)) := by
  unfold lieP at hp
  split at hp
  · exact List.mem_singleton.mp hp
  · cases hp
theorem mem_all {h w : Nat} {G : Ce → Nat} {bs : List (Kb × Nat)} {p : Pl} (hp : p ∈ allP h w G bs) : ∃ x ∈ bs, ∃ a ∈ fms x.1.k.F x.1.k.p, ∃ d r : Nat, p = (a.map (shS (d : Int) (r : Int)), (x.2 : Int)) := by
  obtain ⟨x, hx, h1⟩ := List.mem_flatMap.mp hp
  obtain ⟨a, ha, h2⟩ := List.mem_flatMap.mp h1
  obtain ⟨d, _, h3⟩ := List.mem_flatMap.mp h2
  obtain ⟨r, _, h4⟩ := List.mem_flatMap.mp h3
  exact ⟨x, hx, a, ha, d, r, mem_lie h4⟩
theorem all_gl {h w : Nat} {G : Ce → Nat} {bs : List Kb} (ok : ∀ b ∈ bs, b.k.Ok) : ∀ p ∈ allP h w G bs.zipIdx, ∀ s ∈ p.1, s.2.2 = [sg s] ∧ great (sg s) := fun p hp => by
  obtain ⟨x, hx, a, ha, d, r, rfl⟩ := mem_all hp
  have hb : x.1 ∈ bs := (List.mem_zipIdx' hx).2 ▸ List.getElem_mem _
  exact sh_gl (fms_form (ok _ hb) ha).1 d r
theorem placements (n : Nat) {h w : Nat} {G : Ce → Nat} (b : Bd h w) (g : ∀ p, sgn (G p)) {bs : List Kb} (ok : ∀ b ∈ bs, b.k.Ok) (k6 : bs.length ≤ 6) {Y : D} (hY : Y.fl = false) :
    runF tab (n + 4) 10 [.tup false [fl (fr h w G), .tup false (bs.map Kb.d), Y]] = .ok (.lst true (sortD ((allP h w G bs.zipIdx).map plD))) [none] := by
  have fF := fr_Fl b g
  obtain ⟨r0, e0, w0⟩ := fF.row0
  have b8 := b.h8
  have w8 := b.w8
  refine run_ok (F := f_placements) (P := fun q => q = .ok (.lst true (sortD ((allP h w G bs.zipIdx).map plD))) [none]) rfl rfl ?_
  repeat (first | refine ⟨_, rfl, ?_⟩ | refine ⟨rfl, ?_⟩)
  refine ⟨_, enu_tupT (fun _ => rfl) false, ?_⟩
  refine for_enu (l := bs) (e := Kb.d) (fun i ρ => ρ = [some (.tup false [fl (fr h w G), .tup false (bs.map Kb.d), Y]), some (fl (fr h w G)), some (.tup false (bs.map Kb.d)), some (.lst true ((allP h w G (bs.zipIdx.take i)).map plD)), none, none, none, none, none, none]) rfl ?_ ?_
  · rintro i k ρ hk rfl
    have hkm := List.mem_of_getElem? hk
    have hi : i < 6 := Nat.lt_of_lt_of_le (List.getElem?_eq_some_iff.mp hk).1 k6
    have okk := ok k hkm
    have kF := forms_of n okk.f (by have := okk.few; omega) okk.p (nub_nodup (turns k.k.F k.k.p.2)) (fun a => mem_nub)
    have l8 := fms_len k.k okk.p
    have zt : bs.zipIdx.take (i + 1) = bs.zipIdx.take i ++ [(k, i)] := by rw [List.take_add_one, zip_at hk]; rfl
    have ez : allP h w G (bs.zipIdx.take (i + 1)) = allP h w G (bs.zipIdx.take i) ++ kindP h w G i (fms k.k.F k.k.p) := flat_take (zip_at hk)
    have lenK : (allP h w G (bs.zipIdx.take i)).length ≤ 3072 := by
      have := len_all b G (bs := bs.zipIdx.take i) fun x hx => ok _ (by
        have hx := List.mem_of_mem_take hx
        exact (List.mem_zipIdx' hx).2 ▸ List.getElem_mem _)
      rw [List.length_take] at this
      have m6 : min i bs.zipIdx.length ≤ 6 := by omega
      omega
    refine ⟨_, rfl, ?_⟩
    refine only (fun ρ => ρ = [some (.tup false [fl (fr h w G), .tup false (bs.map Kb.d), Y]), some (fl (fr h w G)), some (.tup false (bs.map Kb.d)), some (.lst true ((allP h w G (bs.zipIdx.take (i + 1))).map plD)), some (.int (i : Int)), some k.d, none, none, none, none]) ?_ (by rintro ρ rfl; rfl)
    repeat (first | refine ⟨_, rfl, ?_⟩ | refine ⟨rfl, ?_⟩)
    refine ⟨_, ?_, kF⟩
    refine ⟨rfl, ?_⟩
    show ∃ xs, itemsOf false (D.lst true ((fms k.k.F k.k.p).map tfm)).frz = some xs ∧ _
    rw [frz_lst (fun _ => rfl)]
    refine ⟨_, items_data (map_unfl (fun _ => rfl) _), ?_⟩
    refine for_list (l := fms k.k.F k.k.p) (e := tfm) (fun j ρ => ρ = [some (.tup false [fl (fr h w G), .tup false (bs.map Kb.d), Y]), some (fl (fr h w G)), some (.tup false (bs.map Kb.d)), some (.lst true ((allP h w G (bs.zipIdx.take i) ++ kindP h w G i ((fms k.k.F k.k.p).take j)).map plD)), some (.int (i : Int)), some k.d, none, none, none, none]) (by
      show _ = [_, _, _, some (D.lst true ((allP h w G (bs.zipIdx.take i) ++ []).map plD)), _, _, _, _, _, _]
      rw [List.append_nil]
      rfl) ?_ ?_
    · rintro j a ρ ha rfl
      have ham := List.mem_of_getElem? ha
      have hj : j < 8 := Nat.lt_of_lt_of_le (List.getElem?_eq_some_iff.mp ha).1 l8
      obtain ⟨fa, la⟩ := fms_form okk ham
      have la6 : a.length ≤ 6 := by rw [la]; exact okk.few
      have ej : kindP h w G i ((fms k.k.F k.k.p).take (j + 1)) = kindP h w G i ((fms k.k.F k.k.p).take j) ++ formP h w G i a h := flat_take ha
      have lenF : (kindP h w G i ((fms k.k.F k.k.p).take j)).length ≤ 512 := by
        have := len_kind b G i ((fms k.k.F k.k.p).take j)
        rw [List.length_take] at this
        have : min j (fms k.k.F k.k.p).length * 64 ≤ 512 := by omega
        omega
      rw [ej, ← List.append_assoc]
      generalize hA : allP h w G (bs.zipIdx.take i) ++ kindP h w G i ((fms k.k.F k.k.p).take j) = A
      have lenA : A.length ≤ 3584 := by rw [← hA, List.length_append]; omega
      refine ⟨_, rfl, ?_⟩
      refine only (fun ρ => ρ = [some (.tup false [fl (fr h w G), .tup false (bs.map Kb.d), Y]), some (fl (fr h w G)), some (.tup false (bs.map Kb.d)), some (.lst true ((A ++ formP h w G i a h).map plD)), some (.int (i : Int)), some k.d, some (tfm a), none, none, none]) ?_ (by rintro ρ rfl; rfl)
      repeat (first | refine ⟨_, rfl, ?_⟩ | refine ⟨rfl, ?_⟩)
      refine ⟨rng_ok (by rw [List.length_map, fr_len]; omega) (by omega), ?_⟩
      rw [List.length_map, fr_len, Int.toNat_natCast]
      refine for_rng (fun d ρ => ρ = [some (.tup false [fl (fr h w G), .tup false (bs.map Kb.d), Y]), some (fl (fr h w G)), some (.tup false (bs.map Kb.d)), some (.lst true ((A ++ formP h w G i a d).map plD)), some (.int (i : Int)), some k.d, some (tfm a), none, none, none]) (by
        show _ = [_, _, _, some (D.lst true ((A ++ []).map plD)), _, _, _, _, _, _]
        rw [List.append_nil]
        rfl) ?_ (fun ρ h => h)
      rintro d ρ hd rfl
      have ed : formP h w G i a (d + 1) = formP h w G i a d ++ rowP h w G i a d w := flat_range d
      have lenD : (formP h w G i a d).length ≤ 64 := Nat.le_trans (len_form h w G i a d) (Nat.mul_le_mul (show d ≤ 8 by omega) w8)
      rw [ed, ← List.append_assoc]
      generalize hB : A ++ formP h w G i a d = B
      have lenB : B.length ≤ 3648 := by rw [← hB, List.length_append]; omega
      refine ⟨_, rfl, ?_⟩
      refine only (fun ρ => ρ = [some (.tup false [fl (fr h w G), .tup false (bs.map Kb.d), Y]), some (fl (fr h w G)), some (.tup false (bs.map Kb.d)), some (.lst true ((B ++ rowP h w G i a d w).map plD)), some (.int (i : Int)), some k.d, some (tfm a), some (.int (d : Int)), none, none]) ?_ (by rintro ρ rfl; rfl)
      repeat (first | refine ⟨_, rfl, ?_⟩ | refine ⟨rfl, ?_⟩)
      refine ⟨_, ix_row (o := false) (i := 0) e0, ?_⟩
      repeat (first | refine ⟨_, rfl, ?_⟩ | refine ⟨rfl, ?_⟩)
      refine ⟨rng_ok (by omega) (by omega), ?_⟩
      rw [w0, Int.toNat_natCast]
      refine for_rng (fun r ρ => ρ = [some (.tup false [fl (fr h w G), .tup false (bs.map Kb.d), Y]), some (fl (fr h w G)), some (.tup false (bs.map Kb.d)), some (.lst true ((B ++ rowP h w G i a d r).map plD)), some (.int (i : Int)), some k.d, some (tfm a), some (.int (d : Int)), none, none]) (by
        show _ = [_, _, _, some (D.lst true ((B ++ []).map plD)), _, _, _, _, _, _]
        rw [List.append_nil]
        rfl) ?_ (fun ρ h => h)
      rintro r ρ hr rfl
      have er : rowP h w G i a d (r + 1) = rowP h w G i a d r ++ lieP h w G i a d r := flat_range r
      have lenR := len_row h w G i a d r
      have k1 := shifted (n + 2) (l := a) (by omega) (d : Int) (r : Int)
      have k2 := may_lie (n + 1) b g (sh_gl fa (d : Int) (r : Int))
      rw [er, ← List.append_assoc]
      generalize hC : B ++ rowP h w G i a d r = C
      have lenC : C.length ≤ 4000 := by rw [← hC, List.length_append]; omega
      refine ⟨_, rfl, ?_⟩
      repeat (first | refine ⟨_, rfl, ?_⟩ | refine ⟨rfl, ?_⟩)
      refine ⟨_, ?_, k1⟩
      refine ⟨rfl, _, rfl, ?_⟩
      refine at_ (ρ' := [some (.tup false [fl (fr h w G), .tup false (bs.map Kb.d), Y]), some (fl (fr h w G)), some (.tup false (bs.map Kb.d)), some (.lst true (C.map plD)), some (.int (i : Int)), some k.d, some (tfm a), some (.int (d : Int)), some (.int (r : Int)), some (tfm (a.map (shS (d : Int) (r : Int))))]) rfl ?_
      repeat (first | refine ⟨_, rfl, ?_⟩ | refine ⟨rfl, ?_⟩)
      refine ⟨_, ?_, k2⟩
      refine ⟨rfl, ?_⟩
      refine vB_if (fun q => ?_) (fun q => ?_)
      · have el : lieP h w G i a d r = [(a.map (shS (d : Int) (r : Int)), (i : Int))] := if_pos q
        rw [el]
        repeat (first | refine ⟨_, rfl, ?_⟩ | refine ⟨rfl, ?_⟩)
        refine app_ok (xs := C.map plD) rfl (by rw [List.length_map]; show _ < 16777216; omega) ?_
        repeat (first | refine ⟨_, rfl, ?_⟩ | refine ⟨rfl, ?_⟩)
        rw [List.map_append]
        rfl
      · have el : lieP h w G i a d r = [] := if_neg (by rw [q]; exact Bool.false_ne_true)
        rw [el, List.append_nil]
        repeat (first | refine ⟨_, rfl, ?_⟩ | refine ⟨rfl, ?_⟩)
        rfl
    · rintro ρ rfl
      rw [List.take_length, ← ez]
      rfl
  rintro ρ rfl
  have el : bs.zipIdx.take bs.length = bs.zipIdx := List.take_of_length_le (by rw [List.length_zipIdx]; exact Nat.le_refl _)
  rw [el]
  repeat (first | refine ⟨_, rfl, ?_⟩ | refine ⟨rfl, ?_⟩)
  refine ⟨_, pls_sort (fun p hp => gl_okz (all_gl ok p hp)) true, ?_⟩
  rfl

end MP.k15

set_option autoImplicit false
set_option linter.all false
set_option maxRecDepth 100000
set_option maxHeartbeats 0
namespace MP.k15
open PySem MP
theorem due (n : Nat) {h w : Nat} {G : Ce → Nat} (b : Bd h w) (g : ∀ p, sgn (G p)) {bs : List Kb} (ok : ∀ b ∈ bs, b.k.Ok) (k6 : bs.length ≤ 6) {Y : D} (hY : Y.fl = false) :
    runF tab (n + 4) 27 [.tup false [fl (fr h w G), .tup false (bs.map Kb.d), Y]] = .ok (.lst true (sortD ((allP h w G bs.zipIdx).map plD))) [none] := by
  have fF := fr_Fl b g
  obtain ⟨r0, e0, w0⟩ := fF.row0
  have b8 := b.h8
  have w8 := b.w8
  refine run_ok (F := f__law_due) (P := fun q => q = .ok (.lst true (sortD ((allP h w G bs.zipIdx).map plD))) [none]) rfl rfl ?_
  repeat (first | refine ⟨_, rfl, ?_⟩ | refine ⟨rfl, ?_⟩)
  refine ⟨_, enu_tupT (fun _ => rfl) false, ?_⟩
  refine for_enu (l := bs) (e := Kb.d) (fun i ρ => ρ = [some (.tup false [fl (fr h w G), .tup false (bs.map Kb.d), Y]), some (fl (fr h w G)), some (.lst true ((allP h w G (bs.zipIdx.take i)).map plD)), none, none, none, none, none, none, none, none, none]) rfl ?_ ?_
  · rintro i k ρ hk rfl
    have hkm := List.mem_of_getElem? hk
    have hi : i < 6 := Nat.lt_of_lt_of_le (List.getElem?_eq_some_iff.mp hk).1 k6
    have okk := ok k hkm
    have kF := lforms n okk.f (by have := okk.few; omega) (nm := k.k.nm) (lo := (k.lo : Int)) (hi := k.hd) okk.p rfl
    have l8 := fms_len k.k okk.p
    have ez : allP h w G (bs.zipIdx.take (i + 1)) = allP h w G (bs.zipIdx.take i) ++ kindP h w G i (fms k.k.F k.k.p) := flat_take (zip_at hk)
    have lenK : (allP h w G (bs.zipIdx.take i)).length ≤ 3072 := by
      have := len_all b G (bs := bs.zipIdx.take i) fun x hx => ok _ (by
        have hx := List.mem_of_mem_take hx
        exact (List.mem_zipIdx' hx).2 ▸ List.getElem_mem _)
      rw [List.length_take] at this
      have m6 : min i bs.zipIdx.length ≤ 6 := by omega
      omega
    refine ⟨_, rfl, ?_⟩
    refine only (fun ρ => ρ = [some (.tup false [fl (fr h w G), .tup false (bs.map Kb.d), Y]), some (fl (fr h w G)), some (.lst true ((allP h w G (bs.zipIdx.take (i + 1))).map plD)), some (.int (i : Int)), some k.d, none, none, none, none, none, none, none]) ?_ (by rintro ρ rfl; rfl)
    repeat (first | refine ⟨_, rfl, ?_⟩ | refine ⟨rfl, ?_⟩)
    refine ⟨_, ?_, kF⟩
    refine ⟨rfl, ?_⟩
    show ∃ xs, itemsOf false (D.lst true ((fms k.k.F k.k.p).map tfm)).frz = some xs ∧ _
    rw [frz_lst (fun _ => rfl)]
    refine ⟨_, items_data (map_unfl (fun _ => rfl) _), ?_⟩
    refine for_list (l := fms k.k.F k.k.p) (e := tfm) (fun j ρ => ρ = [some (.tup false [fl (fr h w G), .tup false (bs.map Kb.d), Y]), some (fl (fr h w G)), some (.lst true ((allP h w G (bs.zipIdx.take i) ++ kindP h w G i ((fms k.k.F k.k.p).take j)).map plD)), some (.int (i : Int)), some k.d, none, none, none, none, none, none, none]) (by
      show _ = [_, _, some (D.lst true ((allP h w G (bs.zipIdx.take i) ++ []).map plD)), _, _, _, _, _, _, _, _, _]
      rw [List.append_nil]
      rfl) ?_ ?_
    · rintro j a ρ ha rfl
      have ham := List.mem_of_getElem? ha
      have hj : j < 8 := Nat.lt_of_lt_of_le (List.getElem?_eq_some_iff.mp ha).1 l8
      obtain ⟨fa, la⟩ := fms_form okk ham
      have la6 : a.length ≤ 6 := by rw [la]; exact okk.few
      have ej : kindP h w G i ((fms k.k.F k.k.p).take (j + 1)) = kindP h w G i ((fms k.k.F k.k.p).take j) ++ formP h w G i a h := flat_take ha
      have lenF : (kindP h w G i ((fms k.k.F k.k.p).take j)).length ≤ 512 := by
        have := len_kind b G i ((fms k.k.F k.k.p).take j)
        rw [List.length_take] at this
        have : min j (fms k.k.F k.k.p).length * 64 ≤ 512 := by omega
        omega
      rw [ej, ← List.append_assoc]
      generalize hA : allP h w G (bs.zipIdx.take i) ++ kindP h w G i ((fms k.k.F k.k.p).take j) = A
      have lenA : A.length ≤ 3584 := by rw [← hA, List.length_append]; omega
      refine ⟨_, rfl, ?_⟩
      refine only (fun ρ => ρ = [some (.tup false [fl (fr h w G), .tup false (bs.map Kb.d), Y]), some (fl (fr h w G)), some (.lst true ((A ++ formP h w G i a h).map plD)), some (.int (i : Int)), some k.d, some (tfm a), none, none, none, none, none, none]) ?_ (by rintro ρ rfl; rfl)
      repeat (first | refine ⟨_, rfl, ?_⟩ | refine ⟨rfl, ?_⟩)
      refine ⟨rng_ok (by rw [List.length_map, fr_len]; omega) (by omega), ?_⟩
      rw [List.length_map, fr_len, Int.toNat_natCast]
      refine for_rng (fun d ρ => ρ = [some (.tup false [fl (fr h w G), .tup false (bs.map Kb.d), Y]), some (fl (fr h w G)), some (.lst true ((A ++ formP h w G i a d).map plD)), some (.int (i : Int)), some k.d, some (tfm a), none, none, none, none, none, none]) (by
        show _ = [_, _, some (D.lst true ((A ++ []).map plD)), _, _, _, _, _, _, _, _, _]
        rw [List.append_nil]
        rfl) ?_ (fun ρ h => h)
      rintro d ρ hd rfl
      have ed : formP h w G i a (d + 1) = formP h w G i a d ++ rowP h w G i a d w := flat_range d
      have lenD : (formP h w G i a d).length ≤ 64 := Nat.le_trans (len_form h w G i a d) (Nat.mul_le_mul (show d ≤ 8 by omega) w8)
      rw [ed, ← List.append_assoc]
      generalize hB : A ++ formP h w G i a d = B
      have lenB : B.length ≤ 3648 := by rw [← hB, List.length_append]; omega
      refine ⟨_, rfl, ?_⟩
      refine only (fun ρ => ρ = [some (.tup false [fl (fr h w G), .tup false (bs.map Kb.d), Y]), some (fl (fr h w G)), some (.lst true ((B ++ rowP h w G i a d w).map plD)), some (.int (i : Int)), some k.d, some (tfm a), some (.int (d : Int)), none, none, none, none, none]) ?_ (by rintro ρ rfl; rfl)
      repeat (first | refine ⟨_, rfl, ?_⟩ | refine ⟨rfl, ?_⟩)
      refine ⟨_, ix_row (o := false) (i := 0) e0, ?_⟩
      repeat (first | refine ⟨_, rfl, ?_⟩ | refine ⟨rfl, ?_⟩)
      refine ⟨rng_ok (by omega) (by omega), ?_⟩
      rw [w0, Int.toNat_natCast]
      refine for_rng (fun r ρ => ρ = [some (.tup false [fl (fr h w G), .tup false (bs.map Kb.d), Y]), some (fl (fr h w G)), some (.lst true ((B ++ rowP h w G i a d r).map plD)), some (.int (i : Int)), some k.d, some (tfm a), some (.int (d : Int)), none, none, none, none, none]) (by
        show _ = [_, _, some (D.lst true ((B ++ []).map plD)), _, _, _, _, _, _, _, _, _]
        rw [List.append_nil]
        rfl) ?_ (fun ρ h => h)
      rintro r ρ hr rfl
      have er : rowP h w G i a d (r + 1) = rowP h w G i a d r ++ lieP h w G i a d r := flat_range r
      have lenR := len_row h w G i a d r
      have k2 := room (n + 2) b g (sh_gl fa (d : Int) (r : Int))
      rw [er, ← List.append_assoc]
      generalize hC : B ++ rowP h w G i a d r = C
      have lenC : C.length ≤ 4000 := by rw [← hC, List.length_append]; omega
      refine ⟨_, rfl, ?_⟩
      repeat (first | refine ⟨_, rfl, ?_⟩ | refine ⟨rfl, ?_⟩)
      refine ⟨_, its_tup (sps_unfl _), rfl, ?_⟩
      refine comp_all (l := a) (e := sp) (fun s => sp (shS (d : Int) (r : Int) s)) (fun q hq P hP => ?_) (by show _ ≤ 16777216; omega) (fun ρ' h' hl' => ⟨hl', ?_⟩)
      · repeat (first | refine ⟨_, rfl, ?_⟩ | refine ⟨rfl, ?_⟩)
        exact hP _ rfl
      rw [unclr_same h', show (a.map fun s => sp (shS (d : Int) (r : Int) s)) = (a.map (shS (d : Int) (r : Int))).map sp by rw [List.map_map]; rfl]
      refine ⟨_, tup_lst (o := true) (sps_unfl _), ?_⟩
      refine ⟨_, rfl, ?_⟩
      refine at_ (ρ' := [some (.tup false [fl (fr h w G), .tup false (bs.map Kb.d), Y]), some (fl (fr h w G)), some (.lst true (C.map plD)), some (.int (i : Int)), some k.d, some (tfm a), some (.int (d : Int)), some (.int (r : Int)), some (tfm (a.map (shS (d : Int) (r : Int)))), none, none, none]) rfl ?_
      repeat (first | refine ⟨_, rfl, ?_⟩ | refine ⟨rfl, ?_⟩)
      refine ⟨_, ?_, k2⟩
      refine ⟨rfl, ?_⟩
      refine vB_if (fun q => ?_) (fun q => ?_)
      · have el : lieP h w G i a d r = [(a.map (shS (d : Int) (r : Int)), (i : Int))] := if_pos q
        rw [el]
        repeat (first | refine ⟨_, rfl, ?_⟩ | refine ⟨rfl, ?_⟩)
        refine app_ok (xs := C.map plD) rfl (by rw [List.length_map]; show _ < 16777216; omega) ?_
        repeat (first | refine ⟨_, rfl, ?_⟩ | refine ⟨rfl, ?_⟩)
        rw [List.map_append]
        rfl
      · have el : lieP h w G i a d r = [] := if_neg (by rw [q]; exact Bool.false_ne_true)
        rw [el, List.append_nil]
        repeat (first | refine ⟨_, rfl, ?_⟩ | refine ⟨rfl, ?_⟩)
        rfl
    · rintro ρ rfl
      rw [List.take_length, ← ez]
      rfl
  rintro ρ rfl
  have el : bs.zipIdx.take bs.length = bs.zipIdx := List.take_of_length_le (by rw [List.length_zipIdx]; exact Nat.le_refl _)
  rw [el]
  repeat (first | refine ⟨_, rfl, ?_⟩ | refine ⟨rfl, ?_⟩)
  refine ⟨_, pls_sort (fun p hp => gl_okz (all_gl ok p hp)) true, ?_⟩
  rfl
theorem is_placement (n : Nat) {p : Pl} (hl : p.1.length ≤ 1000) : runF tab (n + 1) 26 [plD p] = .ok (.bl true) [none] := by
  refine run_ok (F := f__law_is_placement) (P := fun q => q = .ok (.bl true) [none]) rfl rfl ?_
  repeat (first | refine ⟨_, rfl, ?_⟩ | refine ⟨rfl, ?_⟩)
  refine ⟨_, its_tup (sps_unfl _), ?_⟩
  refine for_list (l := p.1) (e := sp) (fun j ρ => ρ = [some (plD p), none, none]) rfl ?_ ?_
  · rintro j s ρ hs rfl
    repeat (first | refine ⟨_, rfl, ?_⟩ | refine ⟨rfl, ?_⟩)
    show vSeq _ ([s.1, s.2.1].map D.int) _ _
    refine comp_all (l := [s.1, s.2.1]) (e := D.int) (fun _ => .bl true) (fun q hq P hP => ?_) (show 2 ≤ 16777216 by decide) (fun ρ' h' hl' => ⟨hl', ?_⟩)
    · repeat (first | refine ⟨_, rfl, ?_⟩ | refine ⟨rfl, ?_⟩)
      exact hP _ rfl
    rw [unclr_same h']
    repeat (first | refine ⟨_, rfl, ?_⟩ | refine ⟨rfl, ?_⟩)
    rfl
  · rintro ρ rfl
    repeat (first | refine ⟨_, rfl, ?_⟩ | refine ⟨rfl, ?_⟩)
    rfl

end MP.k15

set_option autoImplicit false
set_option linter.all false
set_option maxRecDepth 100000
set_option maxHeartbeats 0
namespace MP.k15
open PySem MP
theorem pl_mem {p : Pl} (hp : okz p.1) {M : List Pl} (hM : ∀ q ∈ M, okz q.1) (o : Bool) : o_mem [plD p, .lst o (M.map plD)] = some (.bl (decide (p ∈ M))) := by
  have n1 : nice (plD p) = true := pl_sh hp 57
  have n2 : (M.map plD).all nice = true := List.all_eq_true.mpr fun d hd => by
    obtain ⟨q, hq, rfl⟩ := List.mem_map.mp hd
    exact pl_sh (hM q hq) 57
  show (if (nice (plD p) && (M.map plD).all nice) = true then some (D.bl ((M.map plD).any fun x => eqD x (plD p))) else none) = _
  rw [n1, n2, Bool.and_self, if_pos rfl]
  refine congrArg (fun b => some (D.bl b)) ?_
  rw [Bool.eq_iff_iff, List.any_eq_true, decide_eq_true_iff]
  constructor
  · rintro ⟨d, hd, e⟩
    obtain ⟨q, hq, rfl⟩ := List.mem_map.mp hd
    rw [pl_eq] at e
    rw [← of_decide_eq_true e]
    exact hq
  · intro h
    exact ⟨plD p, List.mem_map.mpr ⟨p, h, rfl⟩, by rw [pl_eq]; exact decide_eq_true rfl⟩
theorem all_mem {h w : Nat} {G : Ce → Nat} {bs : List Kb} {ps : List (Nat × Nat)} {P : List Pl} (t : Bt h w G bs ps P) {p : Pl} (hp : p ∈ P) : p ∈ allP h w G bs.zipIdx := by
  obtain ⟨i, b, a, d, r, e1, e2, e3, e4, e5, e6⟩ := t.src p hp
  refine List.mem_flatMap.mpr ⟨(b, i), List.mem_of_getElem? (zip_at e2), List.mem_flatMap.mpr ⟨a, e3, List.mem_flatMap.mpr ⟨d, List.mem_range.mpr e4, List.mem_flatMap.mpr ⟨r, List.mem_range.mpr e5, ?_⟩⟩⟩⟩
  show p ∈ lieP h w G i a d r
  unfold lieP
  rw [if_pos]
  · rw [List.mem_singleton, ← e6, ← e1]
  · rw [← e6, List.all_eq_true]
    intro s hs
    exact decide_eq_true (t.fit p hp s hs)
theorem law_ok (n : Nat) (ns : List Int) (h : ns.length ≤ 63) : ∃ outs, runF tab (n + 6) 28 [.lst false (ns.map .int)] = .ok (.bl true) outs := by
  obtain ⟨c, hc⟩ := cell_at (n + 4) ns 0
  have ez : cutL (ns.map D.int) (some 1) (some 13) = ((ns.drop (min 1 ns.length)).take (min 13 ns.length - min 1 ns.length)).map D.int := by
    rw [show (some (1 : Int)) = some ((1 : Nat) : Int) from rfl, show (some (13 : Int)) = some ((13 : Nat) : Int) from rfl, cut_mid, List.length_map, ← List.map_drop, ← List.map_take]
  generalize hzs : (ns.drop (min 1 ns.length)).take (min 13 ns.length - min 1 ns.length) = zs at ez
  have lz : zs.length ≤ 12 := by
    rw [← hzs, List.length_take, List.length_drop]
    omega
  obtain ⟨hh, w, G, bs, ps, P, t, kb⟩ := built n c lz
  obtain ⟨M, hM, pM⟩ := sortD_of plD (allP hh w G bs.zipIdx)
  have kd := due (n + 1) t.b t.g t.ok t.k6 (Y := .tup false (ps.map prD)) rfl
  have kp := placements (n + 1) t.b t.g t.ok t.k6 (Y := .tup false (ps.map prD)) rfl
  rw [hM] at kd kp
  have glM : ∀ p ∈ M, okz p.1 := fun p hp => gl_okz (all_gl t.ok p (pM.mem_iff.mp hp))
  have lenM : M.length ≤ 3072 := by
    rw [pM.length_eq]
    have := len_all t.b G (bs := bs.zipIdx) fun x hx => t.ok _ ((List.mem_zipIdx' hx).2 ▸ List.getElem_mem _)
    rw [List.length_zipIdx] at this
    have := t.k6
    omega
  have sfM : ∀ p ∈ M, p.1.length ≤ 1000 := fun p hp => by
    obtain ⟨x, hx, a, ha, d, r, rfl⟩ := mem_all (pM.mem_iff.mp hp)
    have okk := t.ok x.1 ((List.mem_zipIdx' hx).2 ▸ List.getElem_mem _)
    have := (fms_form okk ha).2
    have := okk.few
    show (a.map _).length ≤ 1000
    rw [List.length_map]
    omega
  have nM : ∀ o, nice (.lst o (M.map plD)) = true := fun o => pls_nice glM o
  have few := t.few
  refine run_ok (F := f_law) (P := fun r => ∃ outs, r = .ok (.bl true) outs) rfl rfl ?_
  repeat (first | refine ⟨_, rfl, ?_⟩ | refine ⟨rfl, ?_⟩)
  refine ⟨_, ?_, hc⟩
  repeat (first | refine ⟨_, rfl, ?_⟩ | refine ⟨rfl, ?_⟩)
  refine ⟨_, sl_lst (o := false) (map_unfl (fun _ => rfl) ns), ?_⟩
  rw [ez]
  dsimp only
  rw [frz_lst (fun _ => rfl)]
  repeat (first | refine ⟨_, rfl, ?_⟩ | refine ⟨rfl, ?_⟩)
  refine ⟨_, ?_, kb⟩
  refine ⟨rfl, _, rfl, ?_⟩
  refine at_ (ρ' := [some (.lst false (ns.map .int)), some (pzB hh w G bs ps), some (.lst false (P.map plD)), none, none, none, none]) rfl ?_
  repeat (first | refine ⟨_, rfl, ?_⟩ | refine ⟨rfl, ?_⟩)
  refine ⟨_, ?_, kd⟩
  refine ⟨rfl, _, rfl, ?_⟩
  refine at_ (ρ' := [some (.lst false (ns.map .int)), some (pzB hh w G bs ps), some (.lst false (P.map plD)), some (.lst false (M.map plD)), none, none, none]) (by rw [frz_lst (fun _ => rfl)]; rfl) ?_
  repeat (first | refine ⟨_, rfl, ?_⟩ | refine ⟨rfl, ?_⟩)
  refine ⟨_, ?_, kp⟩
  refine ⟨rfl, _, rfl, ?_⟩
  refine at_ (ρ' := [some (.lst false (ns.map .int)), some (pzB hh w G bs ps), some (.lst false (P.map plD)), some (.lst false (M.map plD)), some (.lst true (M.map plD)), none, none]) rfl ?_
  repeat (first | refine ⟨_, rfl, ?_⟩ | refine ⟨rfl, ?_⟩)
  rw [show holdOf (.se (.rd 4 [])) _ = some (4, D.lst true (M.map plD), M.map plD) from holdOf_eq rfl (pls_unfl M)]
  dsimp only
  refine comp_all (l := M) (e := plD) (fun _ => .bl true) (fun p hp Q hQ => ?_) (by show _ ≤ 16777216; omega) (fun ρ' h' hl' => ⟨hl', ?_⟩)
  · have k1 := is_placement (n + 4) (sfM p hp)
    repeat (first | refine ⟨_, rfl, ?_⟩ | refine ⟨rfl, ?_⟩)
    refine ⟨_, ?_, k1⟩
    repeat (first | refine ⟨_, rfl, ?_⟩ | refine ⟨rfl, ?_⟩)
    exact hQ _ rfl
  rw [unclr_held h' rfl (by decide)]
  refine ⟨_, all_tt (o := true), ?_⟩
  repeat (first | refine ⟨_, rfl, ?_⟩ | refine ⟨rfl, ?_⟩)
  refine ⟨_, ne_toP rfl (nM true) (nM false), ?_⟩
  refine vB_f rfl ?_
  repeat (first | refine ⟨_, rfl, ?_⟩ | refine ⟨rfl, ?_⟩)
  refine ⟨_, items_data (pls_unfl P), rfl, ?_⟩
  refine comp_all (l := P) (e := plD) (fun _ => .bl true) (fun p hp Q hQ => ?_) (by show _ ≤ 16777216; omega) (fun ρ' h' hl' => ⟨hl', ?_⟩)
  · have em := pl_mem (gl_okz (t.gl p hp)) glM true
    rw [decide_eq_true (pM.mem_iff.mpr (all_mem t hp))] at em
    repeat (first | refine ⟨_, rfl, ?_⟩ | refine ⟨rfl, ?_⟩)
    refine ⟨_, em, ?_⟩
    exact hQ _ rfl
  rw [unclr_same h']
  refine ⟨_, all_tt (o := true), ?_⟩
  repeat (first | refine ⟨_, rfl, ?_⟩ | refine ⟨rfl, ?_⟩)
  refine ⟨_, ?_, kp⟩
  repeat (first | refine ⟨_, rfl, ?_⟩ | refine ⟨rfl, ?_⟩)
  refine ⟨_, eq_toP rfl (nM true) (nM false), ?_⟩
  exact ⟨_, rfl⟩

end MP.k15

namespace MP.k15.hd
open PySem L2 MP
def body : List Stmt := PySem.Challenge.pw_coverpieces_k15_placements_are_just_thes.main.body
def top (i : Nat) : Stmt := body.getD i (.Pass ⟨0, 0, 0, 0⟩)
def ds : List He.DefD := [dOf (top 1), dOf (top 3), dOf (top 4), dOf (top 5), dOf (top 6), dOf (top 7), dOf (top 9), dOf (top 10), dOf (top 12), dOf (top 13), dOf (top 14), dOf (top 16), dOf (top 17), dOf (top 18), dOf (top 19), dOf (top 20), dOf (top 21), dOf (top 22), dOf (top 23), dOf (top 24), dOf (top 25), dOf (top 26), dOf (top 27), dOf (top 28), dOf (top 29), dOf (top 30), dOf (top 31), dOf (top 32), dOf (top 33)]
def cs : List (Str × D) := []
def fa : List He.Fa := faOf ds cs
abbrev R : PySem.W.OpenRow := PySem.W.OpenLaw.row PySem.Challenge.rw_coverpieces_k15_placements_are_just_thes
abbrev hk : PySem.W.Hook := He.hookD 4 fa ds
def ob (s : PySem.W.SharedT) : He.AlD := He.obsDG 4 fa ds (HandSHeadRun.getT s)
theorem ob_eq (s : PySem.W.SharedT) : ob s = hk.obs s.abs := He.obsDG_eq (HandSHeadRun.getT_eq s)
theorem run (w : World) : HandSHeadRun.RunEq R (PySem.W.view R.prog [33]) hk ob 6000 ["formed", "height", "width", "cell_turned", "turned", "forms_of", "is_open", "wanted", "may_lie", "shifted", "placements", "_law_cell_at", "_law_mixed", "_law_formed", "_law_form", "_law_turned", "_law_forms", "_law_letters", "_law_kinds", "_law_laid", "_law_floor", "_law_touching", "_law_apart", "_law_bounded", "_law_built", "_law_room", "_law_is_placement", "_law_due"] w := by
  intro os
  kernel_rfl
theorem tabOk : tabC tab cs ds = true := by decide +kernel
theorem binds : BAll ds :=
  .cons (fun _ _ _ _ _ _ us hl => match us, hl with | [_], _ => rfl) <|
  .cons (fun _ _ _ _ _ _ us hl => match us, hl with | [_], _ => rfl) <|
  .cons (fun _ _ _ _ _ _ us hl => match us, hl with | [_], _ => rfl) <|
  .cons (fun _ _ _ _ _ _ us hl => match us, hl with | [_, _, _, _], _ => rfl) <|
  .cons (fun _ _ _ _ _ _ us hl => match us, hl with | [_, _], _ => rfl) <|
  .cons (fun _ _ _ _ _ _ us hl => match us, hl with | [_, _], _ => rfl) <|
  .cons (fun _ _ _ _ _ _ us hl => match us, hl with | [_, _], _ => rfl) <|
  .cons (fun _ _ _ _ _ _ us hl => match us, hl with | [_, _], _ => rfl) <|
  .cons (fun _ _ _ _ _ _ us hl => match us, hl with | [_, _], _ => rfl) <|
  .cons (fun _ _ _ _ _ _ us hl => match us, hl with | [_, _, _], _ => rfl) <|
  .cons (fun _ _ _ _ _ _ us hl => match us, hl with | [_], _ => rfl) <|
  .cons (fun _ _ _ _ _ _ us hl => match us, hl with | [_, _], _ => rfl) <|
  .cons (fun _ _ _ _ _ _ us hl => match us, hl with | [_, _], _ => rfl) <|
  .cons (fun _ _ _ _ _ _ us hl => match us, hl with | [_], _ => rfl) <|
  .cons (fun _ _ _ _ _ _ us hl => match us, hl with | [_, _, _], _ => rfl) <|
  .cons (fun _ _ _ _ _ _ us hl => match us, hl with | [_, _], _ => rfl) <|
  .cons (fun _ _ _ _ _ _ us hl => match us, hl with | [_], _ => rfl) <|
  .cons (fun _ _ _ _ _ _ us hl => match us, hl with | [_], _ => rfl) <|
  .cons (fun _ _ _ _ _ _ us hl => match us, hl with | [_, _, _], _ => rfl) <|
  .cons (fun _ _ _ _ _ _ us hl => match us, hl with | [_, _, _, _], _ => rfl) <|
  .cons (fun _ _ _ _ _ _ us hl => match us, hl with | [_, _, _, _, _], _ => rfl) <|
  .cons (fun _ _ _ _ _ _ us hl => match us, hl with | [_], _ => rfl) <|
  .cons (fun _ _ _ _ _ _ us hl => match us, hl with | [_, _, _], _ => rfl) <|
  .cons (fun _ _ _ _ _ _ us hl => match us, hl with | [_, _, _], _ => rfl) <|
  .cons (fun _ _ _ _ _ _ us hl => match us, hl with | [_, _, _], _ => rfl) <|
  .cons (fun _ _ _ _ _ _ us hl => match us, hl with | [_, _], _ => rfl) <|
  .cons (fun _ _ _ _ _ _ us hl => match us, hl with | [_], _ => rfl) <|
  .cons (fun _ _ _ _ _ _ us hl => match us, hl with | [_], _ => rfl) <|
  .cons (fun _ _ _ _ _ _ us hl => match us, hl with | [_], _ => rfl) .nil
theorem kinds (f : Nat) (F : Fn) (h : tab.fns[f]? = some F) : F.kind = 0 := by
  have : ∀ F ∈ tab.fns, F.kind = 0 := by decide +kernel
  exact this F (List.mem_of_getElem? h)
end MP.k15.hd
open PySem PySem.W PySem.Calls PyProof.Rows
theorem PySem.Challenge.cw_coverpieces_k15_placements_are_just_thes_holds : PySem.Challenge.rw_coverpieces_k15_placements_are_just_thes.Holds := by
  w_on; o_law
  refine HandSHeadRun.head_any (r := OpenLaw.row PySem.Challenge.rw_coverpieces_k15_placements_are_just_thes) (q := view (OpenLaw.row PySem.Challenge.rw_coverpieces_k15_placements_are_just_thes).prog [33]) (H := MP.k15.hd.hk) (ob := MP.k15.hd.ob) (M := 6000) (loose := ["formed", "height", "width", "cell_turned", "turned", "forms_of", "is_open", "wanted", "may_lie", "shifted", "placements", "_law_cell_at", "_law_mixed", "_law_formed", "_law_form", "_law_turned", "_law_forms", "_law_letters", "_law_kinds", "_law_laid", "_law_floor", "_law_touching", "_law_apart", "_law_bounded", "_law_built", "_law_room", "_law_is_placement", "_law_due"]) (d := HandSHeadRun.topDef (OpenLaw.row PySem.Challenge.rw_coverpieces_k15_placements_are_just_thes).prog 33) (kwd := []) MP.k15.hd.ob_eq
    (by kernel_rfl) (fun s => by kernel_rfl) MP.k15.hd.run (by kernel_rfl) (by kernel_rfl) (by kernel_rfl) (by rfl) (by first | assumption | decide +kernel) (by decide +kernel) ⟨rfl, rfl, rfl, rfl, rfl, by decide +kernel⟩ ?hw ?hc
  case hw => w_witness2
  case hc =>
    refine L2.walk_ofE (l := PySem.Challenge.rw_coverpieces_k15_placements_are_just_thes) (n := 63) (k := 5 + 1) (x := "_law_script") (CX := L2.CX0) rfl (by decide) (by kernel_rfl) ⟨rfl, by decide, by decide⟩ ?F (fun _ _ _ _ z => z)
    intro w mg fa h Y G hmg0
    obtain ⟨K, KX, c⟩ := Y
    have hmg : mg ("law" : PySem.Str) = some (.ref fa) := by
      have e : (HandSHeadRun.topDef (OpenLaw.row PySem.Challenge.rw_coverpieces_k15_placements_are_just_thes).prog 33).name = ("law" : PySem.Str) := by kernel_rfl
      rw [← e]
      exact hmg0
    obtain ⟨fd, sp, hb, hs, hF⟩ := MP.law_of (P := (PySem.Challenge.rw_coverpieces_k15_placements_are_just_thes).prog) (w := w) (fa := MP.k15.hd.fa) (T := MP.k15.tab) (ds := MP.k15.hd.ds) (cs := MP.k15.hd.cs) KX G c (fun f hf => hf) MP.k15.hd.tabOk (by decide +kernel) MP.k15.hd.binds 5 (f := 28) (F := MP.k15.f_law) (x := "_law_script") rfl (by decide +kernel) (by decide +kernel) MP.k15.hd.kinds fa hmg 63 (MP.k15.law_ok 0) (by decide)
    exact ⟨K, fd, sp, KX, hb, hs, hF⟩
