import PyProof.Rows.All
import HandS.ForMost
import HandS.IsInst
import HandS.Style
import HandS.TryOnly
import HandS.DeepEq
import PyProof.P3In
import HandS.TupAny
import HandS.Conv
import PyProof.ListStr
import HandS.Codes
import HandS.Flow
import HandS.Defaults
import Wide.All
import OpenK.AllK
import Wide.FinOn
import KE.KStateDown
import HandS.Head0
import HandS.Head1
import HandS.Head2
import HandS.HeadEnd
import HandS.HeadHook1
import HandS.HeadHook2
import PySem.Challenge.RW_harmbound_k01_worths_reckoned
set_option Elab.async false
set_option linter.all false
set_option maxRecDepth 100000
namespace Dp

abbrev Ky := Sum Int (List Nat)

inductive D where
  | non | bl (b : Bool) | int (i : Int) | str (s : List Nat)
  | tup (ds : List D) | lst (ds : List D) | scr (ds : List D)
  | dct (ks : List Ky) (vs : List D)
  | ref (n : Nat) | ty (n : String) | fn (f : Nat)

inductive O where
  | lst (ds : List D) | dct (ks : List Ky) (vs : List D) | ins (c : Nat) (fs : List (Nat × D))

abbrev Hs := List O
abbrev Env := List (Option D)

mutual
def eqD : D → D → Bool
  | .non, .non => true
  | .bl i, .bl j => i == j
  | .bl i, .int j => (if i then 1 else 0) == j
  | .int i, .bl j => i == (if j then 1 else 0)
  | .int i, .int j => i == j
  | .str i, .str j => i == j
  | .tup xs, .tup ys => eqDs xs ys
  | .lst xs, .lst ys => eqDs xs ys
  | _, _ => false
def eqDs : List D → List D → Bool
  | [], [] => true
  | x :: xs, y :: ys => eqD x y && eqDs xs ys
  | _, _ => false
end
/- plain data, texts of small signs -/
mutual
def pur : D → Bool
  | .non => true
  | .bl _ => true
  | .int _ => true
  | .str s => s.all fun c => decide (c < 128)
  | .tup ds => purs ds
  | .lst ds => purs ds
  | _ => false
def purs : List D → Bool
  | [] => true
  | d :: ds => pur d && purs ds
end
mutual
def depD : D → Nat
  | .tup ds => depDs ds + 1
  | .lst ds => depDs ds + 1
  | _ => 0
def depDs : List D → Nat
  | [] => 0
  | d :: ds => max (depD d) (depDs ds)
end
def good (d : D) : Bool := pur d && decide (depD d ≤ 60)

mutual
def beqD : D → D → Bool
  | .non, .non => true
  | .bl i, .bl j => i == j
  | .int i, .int j => i == j
  | .str i, .str j => i == j
  | .tup xs, .tup ys => beqDs xs ys
  | .lst xs, .lst ys => beqDs xs ys
  | .scr xs, .scr ys => beqDs xs ys
  | .dct ks vs, .dct ls ws => decide (ks = ls) && beqDs vs ws
  | .ref i, .ref j => i == j
  | .ty i, .ty j => i == j
  | .fn i, .fn j => i == j
  | _, _ => false
def beqDs : List D → List D → Bool
  | [], [] => true
  | x :: xs, y :: ys => beqD x y && beqDs xs ys
  | _, _ => false
end
mutual
theorem beqD_eq : ∀ (x y : D), beqD x y = true → x = y
  | .non, y, h => by cases y <;> simp_all [beqD]
  | .bl _, y, h => by cases y <;> simp_all [beqD]
  | .int _, y, h => by cases y <;> simp_all [beqD]
  | .str _, y, h => by cases y <;> simp_all [beqD]
  | .tup xs, y, h => by
    cases y with
    | tup ys => rw [beqDs_eq xs ys (by simpa [beqD] using h)]
    | _ => simp [beqD] at h
  | .lst xs, y, h => by
    cases y with
    | lst ys => rw [beqDs_eq xs ys (by simpa [beqD] using h)]
    | _ => simp [beqD] at h
  | .scr xs, y, h => by
    cases y with
    | scr ys => rw [beqDs_eq xs ys (by simpa [beqD] using h)]
    | _ => simp [beqD] at h
  | .dct ks vs, y, h => by
    cases y with
    | dct ls ws =>
      have h' : ks = ls ∧ beqDs vs ws = true := by simpa [beqD] using h
      rw [h'.1, beqDs_eq vs ws h'.2]
    | _ => simp [beqD] at h
  | .ref _, y, h => by cases y <;> simp_all [beqD]
  | .ty _, y, h => by cases y <;> simp_all [beqD]
  | .fn _, y, h => by cases y <;> simp_all [beqD]
theorem beqDs_eq : ∀ (x y : List D), beqDs x y = true → x = y
  | [], [], _ => rfl
  | [], _ :: _, h => by simp [beqDs] at h
  | _ :: _, [], h => by simp [beqDs] at h
  | x :: xs, y :: ys, h => by
    have h' : beqD x y = true ∧ beqDs xs ys = true := by simpa [beqDs] using h
    rw [beqD_eq x y h'.1, beqDs_eq xs ys h'.2]
end
mutual
theorem beqD_rfl : ∀ (x : D), beqD x x = true
  | .non | .bl _ | .int _ | .str _ | .ref _ | .ty _ | .fn _ => by simp [beqD]
  | .tup xs | .lst xs | .scr xs => by simp [beqD, beqDs_rfl xs]
  | .dct ks vs => by simp [beqD, beqDs_rfl vs]
theorem beqDs_rfl : ∀ (x : List D), beqDs x x = true
  | [] => rfl
  | x :: xs => by simp [beqDs, beqD_rfl x, beqDs_rfl xs]
end

/- no mutable object from b on within -/
mutual
def okB (b : Nat) : D → Bool
  | .tup ds => okBs b ds
  | .lst ds => okBs b ds
  | .scr ds => okBs b ds
  | .dct _ vs => okBs b vs
  | .ref n => decide (n < b)
  | _ => true
def okBs (b : Nat) : List D → Bool
  | [] => true
  | d :: ds => okB b d && okBs b ds
end
def okO (b : Nat) : O → Bool
  | .lst ds => okBs b ds
  | .dct _ vs => okBs b vs
  | .ins _ fs => okBs b (fs.map (·.2))

/- freezing what a call hands back -/
mutual
def fz (h : Hs) (b : Nat) : D → Option D
  | .tup ds => (fzs h b ds).map .tup
  | .lst ds => (fzs h b ds).map .lst
  | .scr ds => (fzs h b ds).map .scr
  | .dct ks vs => (fzs h b vs).map (.dct ks)
  | .ref n => if n < b then some (.ref n) else match h[n]? with
    | some (.lst ds) => if okBs b ds then some (.lst ds) else none
    | some (.dct ks vs) => if okBs b vs then some (.dct ks vs) else none
    | _ => none
  | d => some d
def fzs (h : Hs) (b : Nat) : List D → Option (List D)
  | [] => some []
  | d :: ds => (fz h b d).bind fun e => (fzs h b ds).map (e :: ·)
end

/-- what a list reads -/
def seqL (h : Hs) : D → Option (List D)
  | .lst ds => some ds
  | .scr ds => some ds
  | .ref n => match h[n]? with
    | some (.lst ds) => some ds
    | _ => none
  | _ => none
/-- a list that is its own (no script) -/
def seqO (h : Hs) : D → Option (List D)
  | .lst ds => some ds
  | .ref n => match h[n]? with
    | some (.lst ds) => some ds
    | _ => none
  | _ => none
/-- a list or a tuple -/
def seqA (h : Hs) : D → Option (List D)
  | .tup ds => some ds
  | d => seqL h d
def dctD (h : Hs) : D → Option (List Ky × List D)
  | .dct ks vs => some (ks, vs)
  | .ref n => match h[n]? with
    | some (.dct ks vs) => some (ks, vs)
    | _ => none
  | _ => none
def keyD : D → Option Ky
  | .int i => some (.inl i)
  | .str s => some (.inr s)
  | _ => none
def lookK : Ky → List Ky → List D → Option D
  | k, k' :: ks, v :: vs => if k = k' then some v else lookK k ks vs
  | _, _, _ => none
/-- as == sees it -/
def plainD (h : Hs) : D → D
  | .ref n => match h[n]? with
    | some (.lst ds) => .lst ds
    | _ => .ref n
  | d => d

def big (n : Nat) : Bool := decide (n ≤ 1000000)
def truth (h : Hs) : D → Option Bool
  | .bl b => some b
  | .int i => some (i != 0)
  | .non => some false
  | .str s => if big s.length then some (!s.isEmpty) else none
  | .tup ds => some (!ds.isEmpty)
  | d => (seqO h d).map fun ds => !ds.isEmpty

def intsD : List D → Option (List Int)
  | [] => some []
  | .int i :: r => (intsD r).map (i :: ·)
  | _ => none
def strsD : List D → Option (List (List Nat))
  | [] => some []
  | .str s :: r => (strsD r).map (s :: ·)
  | _ => none
def blsD : List D → Option (List Bool)
  | [] => some []
  | .bl s :: r => (blsD r).map (s :: ·)
  | _ => none

/-- insertion sort -/
def insI (x : Int) : List Int → List Int
  | [] => [x]
  | y :: r => if x ≤ y then x :: y :: r else y :: insI x r
def srtI : List Int → List Int
  | [] => []
  | x :: r => insI x (srtI r)
def minI : Int → List Int → Int
  | m, [] => m
  | m, x :: r => minI (if x < m then x else m) r
def maxI : Int → List Int → Int
  | m, [] => m
  | m, x :: r => maxI (if m < x then x else m) r

def sIx (n d : Nat) : Option Int → Nat
  | none => d
  | some v => (if v < 0 then max (v + n) 0 else min v n).toNat
def cutD {α : Type} (xs : List α) (lo hi : Option Int) : List α := (xs.drop (sIx xs.length 0 lo)).take (sIx xs.length xs.length hi - sIx xs.length 0 lo)
def ixD (n : Nat) (i : Int) : Option Nat := if 0 ≤ i then (if i < n then some i.toNat else none) else if -(n : Int) ≤ i then some (i + n).toNat else none
def atD {α : Type} (xs : List α) (i : Int) : Option α := (ixD xs.length i).bind fun j => xs[j]?

def B64 : Int := 18446744073709551616

inductive P where
  | add | sub | mul | fdiv | mod | pow
  | eq | ne | lt | le | gt | ge | isin | notin | isN | isnotN
  | neg | idx | slc (lo hi : Bool) | rev
  | len | toList | toTuple | toInt | isinst
  | min2 | max2 | minL | maxL | sumL | anyL | allL | sorted | join
  | tup | lst
  deriving DecidableEq

def pAdd (h : Hs) (x y : D) : Option D := match x, y with
  | .int i, .int j => some (.int (i + j))
  | .str i, .str j => if big (i.length + j.length) then some (.str (i ++ j)) else none
  | .tup xs, .tup ys => if big (xs.length + ys.length) then some (.tup (xs ++ ys)) else none
  | x, y => (seqO h x).bind fun xs => (seqO h y).bind fun ys => if big (xs.length + ys.length) then some (.lst (xs ++ ys)) else none
def pSub (x y : D) : Option D := match x, y with
  | .int i, .int j => some (.int (i - j))
  | _, _ => none
def pMul (h : Hs) (x y : D) : Option D := match x, y with
  | .int i, .int j => if (-B64 < i && i < B64) || (-B64 < j && j < B64) then some (.int (i * j)) else none
  | .str s, .int k => if 0 ≤ k && k ≤ 1000 && big (s.length * k.toNat) then some (.str (List.replicate k.toNat s).flatten) else none
  | x, .int k => (seqO h x).bind fun xs => if 0 ≤ k && k ≤ 1000 && big (xs.length * k.toNat) then some (.lst (List.replicate k.toNat xs).flatten) else none
  | _, _ => none
def pDiv (x y : D) : Option D := match x, y with
  | .int i, .int j => if 0 < j && j < 1073741824 then some (.int (i / j)) else none
  | _, _ => none
def pMod (x y : D) : Option D := match x, y with
  | .int i, .int j => if 0 < j then some (.int (i % j)) else none
  | _, _ => none
def pPow (x y : D) : Option D := match x, y with
  | .int i, .int j => if 0 ≤ j && j ≤ 1000000 && i.natAbs < 18446744073709551616 then some (.int (i ^ j.toNat)) else none
  | _, _ => none
def pCmp (f : Int → Int → Bool) (x y : D) : Option D := match x, y with
  | .int i, .int j => some (.bl (f i j))
  | _, _ => none
def pEq (h : Hs) (f : Bool → Bool) (x y : D) : Option D := if good (plainD h x) && good (plainD h y) then some (.bl (f (eqD (plainD h x) (plainD h y)))) else none
/-- in a list or a tuple; a sign in a text -/
def pIn (h : Hs) (f : Bool → Bool) (x y : D) : Option D := match x, y with
  | .str [c], .str s => some (.bl (f (decide (c ∈ s))))
  | x, y => (seqA h y).bind fun ds => if good x && good (.tup ds) then some (.bl (f (ds.any fun d => eqD d x))) else none
def isNon : D → Bool
  | .non => true
  | _ => false
def pIs (f : Bool → Bool) (x y : D) : Option D := match y with
  | .non => some (.bl (f (isNon x)))
  | _ => none
def pIdx (h : Hs) (x y : D) : Option D := match dctD h x with
  | some kv => (keyD y).bind fun k => lookK k kv.1 kv.2
  | none => match y with
    | .int i => (match x with
      | .str s => if big s.length then (atD s i).map fun c => .str [c] else none
      | d => (seqA h d).bind fun xs => atD xs i)
    | _ => none
def pSlc (h : Hs) (x : D) (lo hi : Option Int) : Option D := match x with
  | .str s => if big s.length then some (.str (cutD s lo hi)) else none
  | .tup ds => some (.tup (cutD ds lo hi))
  | d => (seqL h d).map fun ds => .lst (cutD ds lo hi)
def pLen (h : Hs) (x : D) : Option D := match x with
  | .str s => if big s.length then some (.int s.length) else none
  | d => match dctD h d with
    | some kv => some (.int kv.1.length)
    | none => (seqA h d).map fun ds => .int ds.length
def pList (h : Hs) (x : D) : Option D := match x with
  | .str s => if big s.length then some (.lst (s.map fun c => .str [c])) else none
  | d => (seqA h d).map .lst
def pTuple (h : Hs) (x : D) : Option D := (seqA h x).map .tup
def pToInt (x : D) : Option D := match x with
  | .int i => some (.int i)
  | .bl b => some (.int (if b then 1 else 0))
  | _ => none
def tyD (h : Hs) : D → Option String
  | .non => some "NoneType"
  | .bl _ => some "bool"
  | .int _ => some "int"
  | .str _ => some "str"
  | .tup _ => some "tuple"
  | .lst _ => some "list"
  | .dct _ _ => some "dict"
  | .ref n => (match h[n]? with | some (.lst _) => some "list" | some (.dct _ _) => some "dict" | _ => none)
  | _ => none
def isTy (u t : String) : Bool := u == t || (u == "bool" && t == "int")
def pIsi (h : Hs) (x y : D) : Option D := match y with
  | .ty t => (tyD h x).bind fun u => if ["int", "bool", "str", "tuple", "list", "dict"].contains t then some (.bl (isTy u t)) else none
  | _ => none
def pInt2 (f : Int → Int → Int) (x y : D) : Option D := match x, y with
  | .int i, .int j => some (.int (f i j))
  | _, _ => none
def pIntL (h : Hs) (f : Int → List Int → Int) (x : D) : Option D := (seqL h x).bind fun ds => (intsD ds).bind fun ns => match ns with | [] => none | n :: r => some (.int (f n r))
def pSum (h : Hs) (x : D) : Option D := (seqL h x).bind fun ds => (intsD ds).map fun ns => .int ns.sum
def pBls (h : Hs) (f : List Bool → Bool) (x : D) : Option D := (seqO h x).bind fun ds => (blsD ds).map fun bs => .bl (f bs)
def pSrt (h : Hs) (x : D) : Option D := (seqL h x).bind fun ds => (intsD ds).bind fun ns => if ns.length < 64 then some (.lst ((srtI ns).map .int)) else none
def joinT (s : List Nat) : List (List Nat) → List Nat
  | [] => []
  | [x] => x
  | x :: y :: r => x ++ (s ++ joinT s (y :: r))
def pJoin (h : Hs) (x y : D) : Option D := match x with
  | .str s => (seqA h y).bind fun ds => (strsD ds).bind fun ys => if ys.length ≤ 1000 && s.length ≤ 1000 && ys.all (·.length ≤ 1000) then some (.str (joinT s ys)) else none
  | _ => none

def pf (h : Hs) (p : P) (ds : List D) : Option D := match p, ds with
  | .add, [x, y] => pAdd h x y
  | .sub, [x, y] => pSub x y
  | .mul, [x, y] => pMul h x y
  | .fdiv, [x, y] => pDiv x y
  | .mod, [x, y] => pMod x y
  | .pow, [x, y] => pPow x y
  | .eq, [x, y] => pEq h (fun b => b) x y
  | .ne, [x, y] => pEq h (fun b => !b) x y
  | .isin, [x, y] => pIn h (fun b => b) x y
  | .notin, [x, y] => pIn h (fun b => !b) x y
  | .lt, [x, y] => pCmp (fun i j => decide (i < j)) x y
  | .le, [x, y] => pCmp (fun i j => decide (i ≤ j)) x y
  | .gt, [x, y] => pCmp (fun i j => decide (j < i)) x y
  | .ge, [x, y] => pCmp (fun i j => decide (j ≤ i)) x y
  | .isN, [x, y] => pIs (fun b => b) x y
  | .isnotN, [x, y] => pIs (fun b => !b) x y
  | .neg, [.int i] => some (.int (-i))
  | .idx, [x, y] => pIdx h x y
  | .slc true true, [x, .int a, .int b] => pSlc h x (some a) (some b)
  | .slc true false, [x, .int a] => pSlc h x (some a) none
  | .slc false true, [x, .int b] => pSlc h x none (some b)
  | .slc false false, [x] => pSlc h x none none
  | .rev, [x] => (seqL h x).map fun ds => .lst ds.reverse
  | .len, [x] => pLen h x
  | .toList, [x] => pList h x
  | .toTuple, [x] => pTuple h x
  | .toInt, [x] => pToInt x
  | .isinst, [x, y] => pIsi h x y
  | .min2, [x, y] => pInt2 (fun i j => if j < i then j else i) x y
  | .max2, [x, y] => pInt2 (fun i j => if j > i then j else i) x y
  | .minL, [x] => pIntL h minI x
  | .maxL, [x] => pIntL h maxI x
  | .sumL, [x] => pSum h x
  | .anyL, [x] => pBls h (fun bs => bs.any id) x
  | .allL, [x] => pBls h (fun bs => bs.all id) x
  | .sorted, [x] => pSrt h x
  | .join, [x, y] => pJoin h x y
  | .tup, ds => if big ds.length then some (.tup ds) else none
  | .lst, ds => if big ds.length then some (.lst ds) else none
  | _, _ => none

inductive Wr where
  | append | extend | pop0 | popI | setI

def putK : Ky → D → List Ky → List D → List Ky × List D
  | k, d, k' :: ks, v :: vs => if k = k' then (k' :: ks, d :: vs) else (k' :: (putK k d ks vs).1, v :: (putK k d ks vs).2)
  | k, d, _, _ => ([k], [d])

def pw (h : Hs) : Wr → List D → Option (D × Hs)
  | .append, [.ref n, d] => match h[n]? with
    | some (.lst ds) => if big ds.length then some (.non, h.set n (.lst (ds ++ [d]))) else none
    | _ => none
  | .extend, [.ref n, d] => match h[n]? with
    | some (.lst ds) => (seqO h d).bind fun es => if big (ds.length + es.length) then some (.non, h.set n (.lst (ds ++ es))) else none
    | _ => none
  | .pop0, [.ref n] => match h[n]? with
    | some (.lst ds) => (ds[ds.length - 1]?).map fun d => (d, h.set n (.lst ds.dropLast))
    | _ => none
  | .popI, [.ref n, .int i] => match h[n]? with
    | some (.lst ds) => (ixD ds.length i).bind fun k => (ds[k]?).map fun d => (d, h.set n (.lst (ds.eraseIdx k)))
    | _ => none
  | .setI, [.ref n, k, d] => match h[n]? with
    | some (.lst ds) => (match k with | .int i => some i | _ => none).bind fun i => (ixD ds.length i).map fun j => (.non, h.set n (.lst (ds.set j d)))
    | some (.dct ks vs) => if big ks.length then (keyD k).map fun k => (.non, h.set n (.dct (putK k d ks vs).1 (putK k d ks vs).2)) else none
    | _ => none
  | _, _ => none

def isLst (h : Hs) : D → Bool
  | .ref n => (match h[n]? with | some (.lst _) => true | _ => false)
  | _ => false
inductive RT where
  | nm (i : Nat) | tp (ts : List RT)
inductive Src where
  | seq | rng1 | rng2 | enum | zip2
mutual
inductive RE where
  | var (i : Nat) | cst (d : D)
  | app (p : P) (es : REs)
  | eff (w : Wr) (o : RE) (es : REs)
  | mk (e : RE)
  | edct
  | no (a : RE) | an (a b : RE) | or (a b : RE) | ite (c a b : RE)
  | call (b : Option Nat) (f : Nat) (es : REs)
  | comp (own : List Nat) (elt : RE) (t : RT) (s : Src) (es : REs) (cs : REs)
inductive REs where
  | nil | cons (e : RE) (es : REs)
end
inductive RS where
  | asg (t : RT) (e : RE)
  | setI (o i e : RE)
  | expr (e : RE)
  | ret (e : RE)
  | iff (c : RE) (a b : List RS)
  | for (t : RT) (s : Src) (es : REs) (body : List RS)
  | while (c : RE) (body : List RS)
  | pass | brk | cnt
inductive Fl where
  | nx (ρ : Env) | rt (d : D) | bk (ρ : Env) | ct (ρ : Env)

abbrev CallT := Nat → List D → Hs → Option (D × Hs)

mutual
def asgT (h : Hs) : RT → D → Env → Option Env
  | .nm i, d, ρ => if i < ρ.length then some (ρ.set i (some d)) else none
  | .tp ts, d, ρ => (seqA h d).bind fun ds => asgTs h ts ds ρ
def asgTs (h : Hs) : List RT → List D → Env → Option Env
  | [], [], ρ => some ρ
  | t :: ts, d :: ds, ρ => (asgT h t d ρ).bind fun ρ => asgTs h ts ds ρ
  | _, _, _ => none
end
def wipeE (ρ : Env) : List Nat → Env
  | [] => ρ
  | v :: vs => (wipeE ρ vs).set v none

def enumD : Int → List D → List D
  | _, [] => []
  | i, d :: ds => .tup [.int i, d] :: enumD (i + 1) ds
def zipD : List D → List D → List D
  | x :: xs, y :: ys => .tup [x, y] :: zipD xs ys
  | _, _ => []
def rngD (a : Int) : Nat → List D
  | 0 => []
  | n + 1 => .int a :: rngD (a + 1) n
def items (h : Hs) : Src → List D → Option (List D)
  | .seq, [d] => seqA h d
  | .rng1, [.int n] => if -1000000 ≤ n && n ≤ 1000000 then some (rngD 0 n.toNat) else none
  | .rng2, [.int a, .int b] => if -1000000 ≤ a && a ≤ 1000000 && -1000000 ≤ b && b ≤ 1000000 then some (rngD a (b - a).toNat) else none
  | .enum, [d] => (seqA h d).map (enumD 0)
  | .zip2, [x, y] => (seqA h x).bind fun xs => (seqA h y).map fun ys => zipD xs ys
  | _, _ => none

/-- a comprehension's loop -/
def loopC (f : D → Hs → Option (Option D × Hs)) (chk : Hs → Bool) : List D → Hs → Option (List D × Hs)
  | [], h => if chk h then some ([], h) else none
  | x :: xs, h => if chk h then (f x h).bind fun r => (loopC f chk xs r.2).map fun q => ((match r.1 with | some d => d :: q.1 | none => q.1), q.2) else none
def loopF (f : D → Env → Hs → Option (Fl × Hs)) (chk : Hs → Bool) : List D → Env → Hs → Option (Fl × Hs)
  | [], ρ, h => if chk h then some (.nx ρ, h) else none
  | x :: xs, ρ, h => if chk h then (f x ρ h).bind fun r => match r.1 with
    | .nx ρ' => loopF f chk xs ρ' r.2
    | .ct ρ' => loopF f chk xs ρ' r.2
    | .bk ρ' => some (.nx ρ', r.2)
    | .rt d => some (.rt d, r.2) else none
def loopW (c : Env → Hs → Option (Bool × Hs)) (f : Env → Hs → Option (Fl × Hs)) : Nat → Env → Hs → Option (Fl × Hs)
  | 0, _, _ => none
  | n + 1, ρ, h => (c ρ h).bind fun b => if b.1 then (f ρ b.2).bind fun r => match r.1 with
    | .nx ρ' => loopW c f n ρ' r.2
    | .ct ρ' => loopW c f n ρ' r.2
    | .bk ρ' => some (.nx ρ', r.2)
    | .rt d => some (.rt d, r.2) else some (.nx ρ, b.2)
/-- what is walked stands as it stood -/
def chkS (s : Src) (ds its : List D) (h : Hs) : Bool :=
  match s, ds with
  | .seq, [.ref n] => (match seqL h (.ref n) with | some xs => beqDs xs its | none => false)
  | .enum, [.ref n] => (match seqL h (.ref n) with | some xs => beqDs (enumD 0 xs) its | none => false)
  | _, _ => true

mutual
def evE (cl : CallT) : RE → Env → Hs → Option (D × Hs)
  | .var i, ρ, h => (ρ.getD i none).map fun d => (d, h)
  | .cst d, _, h => some (d, h)
  | .app p es, ρ, h => (evEs cl es ρ h).bind fun r => (pf r.2 p r.1).map fun d => (d, r.2)
  | .eff w o es, ρ, h => (evE cl o ρ h).bind fun r => if isLst r.2 r.1 then (evEs cl es ρ r.2).bind fun q => pw q.2 w (r.1 :: q.1) else none
  | .mk e, ρ, h => (evE cl e ρ h).bind fun r => match r.1 with
    | .lst ds => some (.ref r.2.length, r.2 ++ [.lst ds])
    | .dct ks vs => some (.ref r.2.length, r.2 ++ [.dct ks vs])
    | _ => none
  | .edct, _, h => some (.dct [] [], h)
  | .no a, ρ, h => (evE cl a ρ h).bind fun r => (truth r.2 r.1).map fun b => (.bl (!b), r.2)
  | .an a b, ρ, h => (evE cl a ρ h).bind fun r => (truth r.2 r.1).bind fun t => if t then evE cl b ρ r.2 else some r
  | .or a b, ρ, h => (evE cl a ρ h).bind fun r => (truth r.2 r.1).bind fun t => if t then some r else evE cl b ρ r.2
  | .ite c a b, ρ, h => (evE cl c ρ h).bind fun r => (truth r.2 r.1).bind fun t => if t then evE cl a ρ r.2 else evE cl b ρ r.2
  | .call none f es, ρ, h => (evEs cl es ρ h).bind fun r => cl f r.1 r.2
  | .call (some b) f es, ρ, h => (evEs cl es ρ h).bind fun r =>
    if okBs b r.1 && decide (b ≤ r.2.length) && (r.2.take b).all (okO b) then
      (cl f r.1 (r.2.take b)).bind fun q =>
        if decide (b ≤ q.2.length) && (q.2.take b).all (okO b) then (fz q.2 b q.1).map fun d => (d, q.2.take b ++ r.2.drop b) else none
    else none
  | .comp own elt t s es cs, ρ, h => (evEs cl es ρ h).bind fun r => (items r.2 s r.1).bind fun its =>
    (loopC (fun x h => (asgT h t x (wipeE ρ own)).bind fun ρ' => (evCs cl cs ρ' h).bind fun q =>
      if q.1 then (evE cl elt ρ' q.2).map fun z => (some z.1, z.2) else some (none, q.2)) (chkS s r.1 its) its r.2).bind fun q =>
        if big q.1.length then some (.lst q.1, q.2) else none
def evEs (cl : CallT) : REs → Env → Hs → Option (List D × Hs)
  | .nil, _, h => some ([], h)
  | .cons e es, ρ, h => (evE cl e ρ h).bind fun r => (evEs cl es ρ r.2).map fun q => (r.1 :: q.1, q.2)
def evCs (cl : CallT) : REs → Env → Hs → Option (Bool × Hs)
  | .nil, _, h => some (true, h)
  | .cons e es, ρ, h => (evE cl e ρ h).bind fun r => (truth r.2 r.1).bind fun t => if t then evCs cl es ρ r.2 else some (false, r.2)
end
def evT (cl : CallT) (e : RE) (ρ : Env) (h : Hs) : Option (Bool × Hs) := (evE cl e ρ h).bind fun r => (truth r.2 r.1).map fun t => (t, r.2)

mutual
def exS (cl : CallT) : RS → Env → Hs → Option (Fl × Hs)
  | .asg t e, ρ, h => (evE cl e ρ h).bind fun r => (asgT r.2 t r.1 ρ).map fun ρ' => (.nx ρ', r.2)
  | .setI o i e, ρ, h => (evE cl e ρ h).bind fun v => (evE cl o ρ v.2).bind fun q => (evE cl i ρ q.2).bind fun k => (pw k.2 .setI [q.1, k.1, v.1]).map fun z => (.nx ρ, z.2)
  | .expr e, ρ, h => (evE cl e ρ h).map fun r => (.nx ρ, r.2)
  | .ret e, ρ, h => (evE cl e ρ h).map fun r => (.rt r.1, r.2)
  | .iff c a b, ρ, h => (evT cl c ρ h).bind fun r => if r.1 then exSs cl a ρ r.2 else exSs cl b ρ r.2
  | .for t s es body, ρ, h => (evEs cl es ρ h).bind fun r => (items r.2 s r.1).bind fun its =>
    loopF (fun x ρ h => (asgT h t x ρ).bind fun ρ' => exSs cl body ρ' h) (chkS s r.1 its) its ρ r.2
  | .while c body, ρ, h => loopW (evT cl c) (exSs cl body) 1000000 ρ h
  | .pass, ρ, h => some (.nx ρ, h)
  | .brk, ρ, h => some (.bk ρ, h)
  | .cnt, ρ, h => some (.ct ρ, h)
def exSs (cl : CallT) : List RS → Env → Hs → Option (Fl × Hs)
  | [], ρ, h => some (.nx ρ, h)
  | s :: ss, ρ, h => (exS cl s ρ h).bind fun r => match r.1 with
    | .nx ρ' => exSs cl ss ρ' r.2
    | f => some (f, r.2)
end

structure RFn where
  np : Nat
  ns : Nat
  body : List RS
abbrev Tab := Nat → Option RFn
def enter (F : RFn) (args : List D) : Env := args.map some ++ List.replicate (F.ns - args.length) none
def out : Fl × Hs → Option (D × Hs)
  | (.rt d, h) => some (d, h)
  | (.nx _, h) => some (.non, h)
  | _ => none
def callF (T : Tab) : Nat → CallT
  | 0 => fun _ _ _ => none
  | k + 1 => fun f args h => (T f).bind fun F => if args.length = F.np then (exSs (callF T k) F.body (enter F args) h).bind out else none
end Dp

set_option Elab.async false
set_option linter.all false
set_option autoImplicit false
set_option maxRecDepth 100000
namespace Dp
open PySem L2

def tS (s : List Nat) : Str := ⟨s.toArray⟩
def kyK : Ky → Key
  | .inl i => .inl i
  | .inr s => .inr (tS s)

/-- the script: frozen, or the module's -/
def ScL (K : PySem.W.Frag) (H : Hp) (p : Addr) (xs : List V) : Prop :=
  (∃ o, H p = some (.frz o (.lst xs))) ∨
    ∃ (o : Obj) (its : Array Value) (n : Nat), K.lookup p = some o ∧ o.cls = .type "list" ∧ o.dict = none ∧ o.data = .seq its n ∧ its.size ≤ sizeLine ∧ Vals xs its.toList
mutual
def Rep (K : PySem.W.Frag) (Z m : List Addr) (H : Hp) : D → V → Prop
  | .non, v => v = .non
  | .bl b, v => v = .bl b
  | .int i, v => v = .int i
  | .str s, v => v = .str (tS s)
  | .tup ds, v => ∃ p vs, v = .ref p ∧ SqT K H p vs ∧ Reps K Z m H ds vs
  | .lst ds, v => ∃ p vs, v = .ref p ∧ H p = some (.lst vs) ∧ p ∉ Z ∧ p ∉ m ∧ Reps K Z m H ds vs
  | .scr ds, v => ∃ p vs, v = .ref p ∧ ScL K H p vs ∧ Reps K Z m H ds vs
  | .dct ks ws, v => ∃ p kvs, v = .ref p ∧ H p = some (.dK kvs) ∧ p ∉ Z ∧ p ∉ m ∧ (kvs.map (·.1)).Nodup ∧ kvs.map (·.1) = ks.map kyK ∧ Reps K Z m H ws (kvs.map (·.2))
  | .ref n, v => ∃ p, m[n]? = some p ∧ v = .ref p
  | .ty n, v => v = .ty n
  | .fn _, _ => False
def Reps (K : PySem.W.Frag) (Z m : List Addr) (H : Hp) : List D → List V → Prop
  | [], vs => vs = []
  | d :: ds, vs => ∃ v r, vs = v :: r ∧ Rep K Z m H d v ∧ Reps K Z m H ds r
end

section
variable {K : PySem.W.Frag} {Z m m' m2 : List Addr} {H H' H2 : Hp}

structure Ext (m : List Addr) (H : Hp) (m' : List Addr) (H' : Hp) : Prop where
  pre : ∃ t, m' = m ++ t
  keep : ∀ a o, a ∉ m → H a = some o → H' a = some o
  new : ∀ a ∈ m', a ∉ m → H a = none
  tup : ∀ a xs, H a = some (.tup xs) → H' a = some (.tup xs)
  frz : ∀ a o u, H a = some (.frz o u) → H' a = some (.frz o u)
  som : ∀ a, H a ≠ none → H' a ≠ none

theorem Ext.refl : Ext m H m H := ⟨⟨[], by simp⟩, fun _ _ _ h => h, fun a h n => absurd h n, fun _ _ h => h, fun _ _ _ h => h, fun _ h => h⟩
theorem Ext.trans (a : Ext m H m' H') (b : Ext m' H' m2 H2) : Ext m H m2 H2 := by
  obtain ⟨t, ht⟩ := a.pre
  obtain ⟨t', ht'⟩ := b.pre
  refine ⟨⟨t ++ t', by rw [ht', ht, List.append_assoc]⟩, fun x o hx e => ?_, fun x hx nx => ?_, fun x xs e => b.tup x xs (a.tup x xs e), fun x o u e => b.frz x o u (a.frz x o u e), fun x e => b.som x (a.som x e)⟩
  · refine b.keep x o (fun hm => ?_) (a.keep x o hx e)
    have := a.new x hm hx
    rw [e] at this; cases this
  · by_cases hm : x ∈ m'
    · exact a.new x hm nx
    · cases q : H x with
      | none => rfl
      | some o =>
        have := b.new x hx hm
        exact absurd this (a.som x (by rw [q]; simp))
theorem Ext.mem (e : Ext m H m' H') {a : Addr} (h : a ∈ m) : a ∈ m' := by
  obtain ⟨t, rfl⟩ := e.pre
  exact List.mem_append_left _ h
theorem Ext.get (e : Ext m H m' H') {n : Nat} {p : Addr} (h : m[n]? = some p) : m'[n]? = some p := by
  obtain ⟨t, rfl⟩ := e.pre
  rw [List.getElem?_append_left (List.getElem?_eq_some_iff.mp h).1]; exact h
theorem Ext.sqT (e : Ext m H m' H') {a : Addr} {xs : List V} (h : SqT K H a xs) : SqT K H' a xs := by
  rcases h with (h | ⟨o, h⟩) | h
  · exact .inl (.inl (e.tup _ _ h))
  · exact .inl (.inr ⟨o, e.frz _ _ _ h⟩)
  · exact .inr h

mutual
theorem Rep.mono (e : Ext m H m' H') : ∀ (d : D) (v : V), Rep K Z m H d v → Rep K Z m' H' d v
  | .non, _, h | .bl _, _, h | .int _, _, h | .str _, _, h | .ty _, _, h => by simpa [Rep] using h
  | .fn _, _, h => by simp [Rep] at h
  | .tup ds, v, h => by
    simp only [Rep] at h ⊢
    obtain ⟨p, vs, rfl, hs, r⟩ := h
    exact ⟨p, vs, rfl, e.sqT hs, Reps.mono e ds vs r⟩
  | .lst ds, v, h => by
    simp only [Rep] at h ⊢
    obtain ⟨p, vs, rfl, hp, hz, hm, r⟩ := h
    exact ⟨p, vs, rfl, e.keep _ _ hm hp, hz, fun q => (by have := e.new p q hm; rw [hp] at this; cases this), Reps.mono e ds vs r⟩
  | .scr ds, v, h => by
    simp only [Rep] at h ⊢
    obtain ⟨p, vs, rfl, hp, r⟩ := h
    exact ⟨p, vs, rfl, hp.imp (fun ⟨o, q⟩ => ⟨o, e.frz _ _ _ q⟩) id, Reps.mono e ds vs r⟩
  | .dct ks ws, v, h => by
    simp only [Rep] at h ⊢
    obtain ⟨p, vs, rfl, hp, hz, hm, hnd, hk, r⟩ := h
    exact ⟨p, vs, rfl, e.keep _ _ hm hp, hz, fun q => (by have := e.new p q hm; rw [hp] at this; cases this), hnd, hk, Reps.mono e ws _ r⟩
  | .ref n, v, h => by
    simp only [Rep] at h ⊢
    obtain ⟨p, hp, rfl⟩ := h
    exact ⟨p, e.get hp, rfl⟩
theorem Reps.mono (e : Ext m H m' H') : ∀ (ds : List D) (vs : List V), Reps K Z m H ds vs → Reps K Z m' H' ds vs
  | [], _, h => by simpa [Reps] using h
  | d :: ds, vs, h => by
    simp only [Reps] at h ⊢
    obtain ⟨v, r, rfl, h1, h2⟩ := h
    exact ⟨v, r, rfl, Rep.mono e d v h1, Reps.mono e ds r h2⟩
end

theorem Reps.len : ∀ {ds : List D} {vs : List V}, Reps K Z m H ds vs → ds.length = vs.length
  | [], _, h => by simp only [Reps] at h; subst h; rfl
  | d :: ds, vs, h => by
    simp only [Reps] at h
    obtain ⟨v, r, rfl, _, h2⟩ := h
    simp [Reps.len h2]
theorem Reps.get : ∀ {ds : List D} {vs : List V} {i : Nat} {d : D}, Reps K Z m H ds vs → ds[i]? = some d → ∃ v, vs[i]? = some v ∧ Rep K Z m H d v
  | [], _, _, _, _, e => by simp at e
  | d :: ds, vs, 0, _, h, e => by
    simp only [Reps] at h
    obtain ⟨v, r, rfl, h1, _⟩ := h
    simp at e; subst e
    exact ⟨v, rfl, h1⟩
  | d :: ds, vs, i + 1, d', h, e => by
    simp only [Reps] at h
    obtain ⟨v, r, rfl, _, h2⟩ := h
    simp only [List.getElem?_cons_succ] at e ⊢
    exact Reps.get h2 e
theorem Reps.nil : Reps K Z m H [] [] := by simp [Reps]
theorem Reps.cons {d : D} {ds : List D} {v : V} {vs : List V} (h : Rep K Z m H d v) (r : Reps K Z m H ds vs) : Reps K Z m H (d :: ds) (v :: vs) := by
  simp only [Reps]; exact ⟨v, vs, rfl, h, r⟩
theorem Reps.append : ∀ {ds es : List D} {vs ws : List V}, Reps K Z m H ds vs → Reps K Z m H es ws → Reps K Z m H (ds ++ es) (vs ++ ws)
  | [], _, _, _, h, r => by simp only [Reps] at h; subst h; exact r
  | d :: ds, _, _, _, h, r => by
    simp only [Reps] at h
    obtain ⟨v, q, rfl, h1, h2⟩ := h
    exact Reps.cons h1 (Reps.append h2 r)
theorem Reps.take : ∀ {ds : List D} {vs : List V} (n : Nat), Reps K Z m H ds vs → Reps K Z m H (ds.take n) (vs.take n)
  | _, _, 0, _ => by simp [Reps]
  | [], _, n + 1, h => by simp only [Reps] at h; subst h; simp [Reps]
  | d :: ds, _, n + 1, h => by
    simp only [Reps] at h
    obtain ⟨v, q, rfl, h1, h2⟩ := h
    simp only [List.take_succ_cons]
    exact Reps.cons h1 (Reps.take n h2)
theorem Reps.drop : ∀ {ds : List D} {vs : List V} (n : Nat), Reps K Z m H ds vs → Reps K Z m H (ds.drop n) (vs.drop n)
  | _, _, 0, h => by simpa using h
  | [], _, n + 1, h => by simp only [Reps] at h; subst h; simp [Reps]
  | d :: ds, _, n + 1, h => by
    simp only [Reps] at h
    obtain ⟨v, q, rfl, h1, h2⟩ := h
    simp only [List.drop_succ_cons]
    exact Reps.drop n h2
theorem Reps.set : ∀ {ds : List D} {vs : List V} {d : D} {v : V} (n : Nat), Rep K Z m H d v → Reps K Z m H ds vs → Reps K Z m H (ds.set n d) (vs.set n v)
  | [], _, _, _, n, _, h => by simp only [Reps] at h; subst h; simp [Reps]
  | d :: ds, _, _, _, 0, r, h => by
    simp only [Reps] at h
    obtain ⟨v, q, rfl, h1, h2⟩ := h
    exact Reps.cons r h2
  | d :: ds, _, _, _, n + 1, r, h => by
    simp only [Reps] at h
    obtain ⟨v, q, rfl, h1, h2⟩ := h
    exact Reps.cons h1 (Reps.set n r h2)
theorem Reps.eraseIdx : ∀ {ds : List D} {vs : List V} (n : Nat), Reps K Z m H ds vs → Reps K Z m H (ds.eraseIdx n) (vs.eraseIdx n)
  | [], _, n, h => by simp only [Reps] at h; subst h; simp [Reps]
  | d :: ds, _, 0, h => by
    simp only [Reps] at h
    obtain ⟨v, q, rfl, h1, h2⟩ := h
    exact h2
  | d :: ds, _, n + 1, h => by
    simp only [Reps] at h
    obtain ⟨v, q, rfl, h1, h2⟩ := h
    exact Reps.cons h1 (Reps.eraseIdx n h2)
theorem Reps.reverse : ∀ {ds : List D} {vs : List V}, Reps K Z m H ds vs → Reps K Z m H ds.reverse vs.reverse
  | [], _, h => by simp only [Reps] at h; subst h; simp [Reps]
  | d :: ds, _, h => by
    simp only [Reps] at h
    obtain ⟨v, q, rfl, h1, h2⟩ := h
    simp only [List.reverse_cons]
    exact Reps.append (Reps.reverse h2) (Reps.cons h1 Reps.nil)
theorem Reps.dropLast {ds : List D} {vs : List V} (h : Reps K Z m H ds vs) : Reps K Z m H ds.dropLast vs.dropLast := by
  rw [List.dropLast_eq_take, List.dropLast_eq_take, h.len]
  exact h.take _
theorem Reps.rep {ds : List D} {vs : List V} (h : Reps K Z m H ds vs) : ∀ k : Nat, Reps K Z m H (List.replicate k ds).flatten (List.replicate k vs).flatten
  | 0 => by simp [Reps]
  | k + 1 => by
    simp only [List.replicate_succ, List.flatten_cons]
    exact Reps.append h (Reps.rep h k)
theorem Reps.ints : ∀ {ds : List D} {vs : List V} {ns : List Int}, Reps K Z m H ds vs → intsD ds = some ns → vs = ns.map V.int
  | [], _, _, h, e => by simp only [Reps] at h; subst h; simp [intsD] at e; subst e; rfl
  | d :: ds, _, ns, h, e => by
    simp only [Reps] at h
    obtain ⟨v, q, rfl, h1, h2⟩ := h
    cases d <;> simp only [intsD] at e <;> try (cases e)
    rename_i i
    cases q' : intsD ds with
    | none => rw [q'] at e; cases e
    | some r =>
      rw [q'] at e
      cases e
      simp only [Rep] at h1
      rw [h1, Reps.ints h2 q']; rfl
theorem Reps.strs : ∀ {ds : List D} {vs : List V} {ns : List (List Nat)}, Reps K Z m H ds vs → strsD ds = some ns → vs = (ns.map tS).map V.str
  | [], _, _, h, e => by simp only [Reps] at h; subst h; simp [strsD] at e; subst e; rfl
  | d :: ds, _, ns, h, e => by
    simp only [Reps] at h
    obtain ⟨v, q, rfl, h1, h2⟩ := h
    cases d <;> simp only [strsD] at e <;> try (cases e)
    rename_i i
    cases q' : strsD ds with
    | none => rw [q'] at e; cases e
    | some r =>
      rw [q'] at e
      cases e
      simp only [Rep] at h1
      rw [h1, Reps.strs h2 q']; rfl
theorem Reps.bls : ∀ {ds : List D} {vs : List V} {ns : List Bool}, Reps K Z m H ds vs → blsD ds = some ns → vs = ns.map V.bl
  | [], _, _, h, e => by simp only [Reps] at h; subst h; simp [blsD] at e; subst e; rfl
  | d :: ds, _, ns, h, e => by
    simp only [Reps] at h
    obtain ⟨v, q, rfl, h1, h2⟩ := h
    cases d <;> simp only [blsD] at e <;> try (cases e)
    rename_i i
    cases q' : blsD ds with
    | none => rw [q'] at e; cases e
    | some r =>
      rw [q'] at e
      cases e
      simp only [Rep] at h1
      rw [h1, Reps.bls h2 q']; rfl
theorem Reps.ofInts : ∀ (ns : List Int), Reps K Z m H (ns.map D.int) (ns.map V.int)
  | [] => by simp [Reps]
  | n :: ns => Reps.cons (by simp [Rep]) (Reps.ofInts ns)

def RepO (K : PySem.W.Frag) (Z m : List Addr) (H : Hp) (p : Addr) : O → Prop
  | .lst ds => ∃ vs, H p = some (.lst vs) ∧ Reps K Z m H ds vs
  | .dct ks ws => ∃ kvs, H p = some (.dK kvs) ∧ (kvs.map (·.1)).Nodup ∧ kvs.map (·.1) = ks.map kyK ∧ Reps K Z m H ws (kvs.map (·.2))
  | .ins _ _ => False

structure HS (K : PySem.W.Frag) (Z m : List Addr) (h : Hs) (H : Hp) : Prop where
  len : m.length = h.length
  nd : m.Nodup
  z : ∀ a ∈ Z, H a ≠ none ∧ a ∉ m
  ob : ∀ (n : Nat) (o : O) (p : Addr), h[n]? = some o → m[n]? = some p → RepO K Z m H p o

theorem HS.at {h : Hs} (s : HS K Z m h H) {p : Addr} (hp : p ∈ m) : ∃ (n : Nat) (o : O), h[n]? = some o ∧ m[n]? = some p ∧ RepO K Z m H p o := by
  obtain ⟨n, hn, e⟩ := List.mem_iff_getElem.mp hp
  have h1 : m[n]? = some p := by rw [List.getElem?_eq_getElem hn, e]
  have hn' : n < h.length := by rw [← s.len]; exact hn
  exact ⟨n, h[n], List.getElem?_eq_getElem hn', h1, s.ob n _ p (List.getElem?_eq_getElem hn') h1⟩
theorem HS.some {h : Hs} (s : HS K Z m h H) {p : Addr} (hp : p ∈ m) : H p ≠ none := by
  obtain ⟨_, o, _, _, r⟩ := s.at hp
  cases o with
  | lst ds => obtain ⟨vs, e, _⟩ := r; rw [e]; simp
  | dct ks ws => obtain ⟨vs, e, _⟩ := r; rw [e]; simp
  | ins c fs => exact r.elim
theorem HS.notIn {h : Hs} (s : HS K Z m h H) {p : Addr} (hp : H p = none) : p ∉ m ∧ p ∉ Z := ⟨fun q => s.some q hp, fun q => (s.z p q).1 hp⟩
/-- neither a tuple nor a frozen thing is a mutable one -/
theorem HS.notTup {h : Hs} (s : HS K Z m h H) {p : Addr} {xs : List V} (hp : H p = .some (.tup xs)) : p ∉ m := fun q => by
  obtain ⟨_, o, _, _, r⟩ := s.at q
  cases o with
  | lst ds => obtain ⟨vs, e, _⟩ := r; rw [e] at hp; cases hp
  | dct ks ws => obtain ⟨vs, e, _⟩ := r; rw [e] at hp; cases hp
  | ins c fs => exact r.elim
theorem HS.notFrz {h : Hs} (s : HS K Z m h H) {p : Addr} {o : Obj} {u : HO} (hp : H p = .some (.frz o u)) : p ∉ m := fun q => by
  obtain ⟨_, o, _, _, r⟩ := s.at q
  cases o with
  | lst ds => obtain ⟨vs, e, _⟩ := r; rw [e] at hp; cases hp
  | dct ks ws => obtain ⟨vs, e, _⟩ := r; rw [e] at hp; cases hp
  | ins c fs => exact r.elim

/-- a new object that is not tracked by number -/
theorem Ext.fresh {p : Addr} {o : HO} (hp : H p = none) : Ext m H m (upd H p o) :=
  ⟨⟨[], by simp⟩, fun a u _ e => by rw [upd_ne (ne_of_none e hp)]; exact e, fun a h n => absurd h n, fun a u e => by rw [upd_ne (ne_of_none e hp)]; exact e,
    fun a u _ e => by rw [upd_ne (ne_of_none e hp)]; exact e, fun a e => by
      by_cases q : a = p
      · subst q; rw [upd_same]; simp
      · rw [upd_ne q]; exact e⟩
theorem RepO.mono (e : Ext m H m' H') {p : Addr} {o : O} (h : RepO K Z m H p o) (k : H' p = H p) : RepO K Z m' H' p o := by
  cases o with
  | lst ds => obtain ⟨vs, q, r⟩ := h; exact ⟨vs, by rw [k]; exact q, r.mono e⟩
  | dct ks ws => obtain ⟨vs, q, q2, q3, r⟩ := h; exact ⟨vs, by rw [k]; exact q, q2, q3, r.mono e⟩
  | ins c fs => exact h
theorem HS.fresh {h : Hs} (s : HS K Z m h H) {p : Addr} {o : HO} (hp : H p = none) : HS K Z m h (upd H p o) := by
  refine ⟨s.len, s.nd, fun a ha => ⟨(Ext.fresh (m := m) hp).som a (s.z a ha).1, (s.z a ha).2⟩, fun n o' q e1 e2 => ?_⟩
  have hq : q ∈ m := List.mem_of_getElem? e2
  exact (s.ob n o' q e1 e2).mono (Ext.fresh hp) (upd_ne fun z => s.some hq (z ▸ hp))
/-- a new object tracked by number -/
theorem Ext.push {p : Addr} {o : HO} (hp : H p = none) : Ext m H (m ++ [p]) (upd H p o) :=
  ⟨⟨[p], rfl⟩, fun a u _ e => by rw [upd_ne (ne_of_none e hp)]; exact e, fun a h n => by
      rcases List.mem_append.mp h with h | h
      · exact absurd h n
      · have : a = p := by simpa using h
        subst this; exact hp, fun a u e => by rw [upd_ne (ne_of_none e hp)]; exact e,
    fun a u _ e => by rw [upd_ne (ne_of_none e hp)]; exact e, fun a e => by
      by_cases q : a = p
      · subst q; rw [upd_same]; simp
      · rw [upd_ne q]; exact e⟩
theorem HS.push {h : Hs} (s : HS K Z m h H) {p : Addr} {o : HO} {d : O} (hp : H p = none) (hd : RepO K Z (m ++ [p]) (upd H p o) p d) : HS K Z (m ++ [p]) (h ++ [d]) (upd H p o) := by
  have np := s.notIn hp
  refine ⟨by simp [s.len], ?_, fun a ha => ⟨(Ext.fresh (m := m) hp).som a (s.z a ha).1, fun q => ?_⟩, fun n o' q e1 e2 => ?_⟩
  · rw [List.nodup_append]
    refine ⟨s.nd, by simp, fun a ha b hb => ?_⟩
    have : b = p := by simpa using hb
    subst this
    exact fun z => np.1 (z ▸ ha)
  · rcases List.mem_append.mp q with q | q
    · exact (s.z a ha).2 q
    · have : a = p := by simpa using q
      subst this; exact np.2 ha
  · by_cases hn : n < h.length
    · rw [List.getElem?_append_left hn] at e1
      rw [List.getElem?_append_left (by rw [s.len]; exact hn)] at e2
      have hq : q ∈ m := List.mem_of_getElem? e2
      exact (s.ob n o' q e1 e2).mono (Ext.push hp) (upd_ne fun z => s.some hq (z ▸ hp))
    · have hn2 : n = h.length := by
        have := (List.getElem?_eq_some_iff.mp e1).1
        simp at this; omega
      subst hn2
      simp at e1
      rw [← s.len] at e2
      simp at e2
      subst e1 e2
      exact hd
/-- a mutable object is written -/
theorem Ext.write {h : Hs} (s : HS K Z m h H) {p : Addr} {o : HO} (hp : p ∈ m) : Ext m H m (upd H p o) :=
  ⟨⟨[], by simp⟩, fun a u n e => by rw [upd_ne (show a ≠ p from fun z => n (by rw [z]; exact hp))]; exact e, fun a h n => absurd h n,
    fun a u e => by rw [upd_ne (show a ≠ p from fun z => s.notTup e (by rw [z]; exact hp))]; exact e,
    fun a u _ e => by rw [upd_ne (show a ≠ p from fun z => s.notFrz e (by rw [z]; exact hp))]; exact e, fun a e => by
      by_cases q : a = p
      · subst q; rw [upd_same]; simp
      · rw [upd_ne q]; exact e⟩
theorem HS.write {h : Hs} (s : HS K Z m h H) {n : Nat} {p : Addr} {o : HO} {d : O} (hn : m[n]? = .some p) (hd : RepO K Z m (upd H p o) p d) : HS K Z m (h.set n d) (upd H p o) := by
  have hp : p ∈ m := List.mem_of_getElem? hn
  have E := Ext.write (o := o) s hp
  refine ⟨by simp [s.len], s.nd, fun a ha => ⟨E.som a (s.z a ha).1, (s.z a ha).2⟩, fun k o' q e1 e2 => ?_⟩
  by_cases hk : k = n
  · subst hk
    rw [hn] at e2; cases e2
    rw [List.getElem?_set_self (by rw [← s.len]; exact (List.getElem?_eq_some_iff.mp hn).1)] at e1
    cases e1
    exact hd
  · rw [List.getElem?_set_ne (Ne.symm hk)] at e1
    refine (s.ob k o' q e1 e2).mono E (upd_ne fun z => hk ?_)
    subst z
    obtain ⟨h1, e1'⟩ := List.getElem?_eq_some_iff.mp e2
    obtain ⟨h2, e2'⟩ := List.getElem?_eq_some_iff.mp hn
    exact (List.getElem_inj s.nd).mp (e1'.trans e2'.symm)

structure Es (K : PySem.W.Frag) (Z m : List Addr) (H : Hp) (ρ : Env) (σ : L2.St) : Prop where
  len : ρ.length = σ.length
  at_ : ∀ (i : Nat) (d : D), ρ[i]? = .some (.some d) → ∃ v, σ[i]? = .some (.some v) ∧ Rep K Z m H d v
theorem Es.mono (e : Ext m H m' H') {ρ : Env} {σ : L2.St} (s : Es K Z m H ρ σ) : Es K Z m' H' ρ σ :=
  ⟨s.len, fun i d q => let ⟨v, h1, h2⟩ := s.at_ i d q; ⟨v, h1, h2.mono e⟩⟩
theorem Es.set {ρ : Env} {σ : L2.St} {i : Nat} {d : D} {v : V} (s : Es K Z m H ρ σ) (r : Rep K Z m H d v) : Es K Z m H (ρ.set i (.some d)) (σ.set i (.some v)) := by
  refine ⟨by simp [s.len], fun j e q => ?_⟩
  by_cases hj : i = j
  · subst hj
    by_cases hi : i < ρ.length
    · rw [List.getElem?_set_self hi] at q
      cases q
      exact ⟨v, by rw [List.getElem?_set_self (by rw [← s.len]; exact hi)], r⟩
    · rw [List.getElem?_eq_none (by simpa using hi)] at q; cases q
  · rw [List.getElem?_set_ne hj] at q ⊢
    exact s.at_ j e q
theorem Es.wipe {ρ : Env} {σ : L2.St} (s : Es K Z m H ρ σ) : ∀ vs : List Nat, Es K Z m H (wipeE ρ vs) (L2.wipe σ vs)
  | [] => s
  | v :: vs => by
    have ih := Es.wipe s vs
    unfold wipeE L2.wipe
    refine ⟨by simp [ih.len], fun j e q => ?_⟩
    by_cases hj : v = j
    · subst hj
      by_cases hi : v < (wipeE ρ vs).length
      · rw [List.getElem?_set_self hi] at q; cases q
      · rw [List.getElem?_eq_none (by simpa using hi)] at q; cases q
    · rw [List.getElem?_set_ne hj] at q ⊢
      exact ih.at_ j e q
end
end Dp

set_option Elab.async false
set_option linter.all false
set_option autoImplicit false
set_option maxRecDepth 100000
set_option maxHeartbeats 2000000
namespace Dp
open PySem L2 PySem.Spec PyProof.Rows PySem.SeqAt PySem.MeetsSeq PySem.MeetsSeq2 PySem.MeetsSeq3

section
variable {K : PySem.W.Frag} {Z m : List Addr} {H : Hp} {h : Hs}
/-- what is wanted of a value -/
def QP (K : PySem.W.Frag) (Z m : List Addr) (h : Hs) (H : Hp) (d : D) (Q : VK) : Prop := ∀ m' v H', Ext m H m' H' → HS K Z m' h H' → Rep K Z m' H' d v → Q v H'
/-- of one that is just made -/
def QF (K : PySem.W.Frag) (Z m : List Addr) (h : Hs) (H : Hp) (d : D) (Q : VK) : Prop := match d with
  | .lst ds => ∀ p vs, H p = none → Reps K Z m H ds vs → Q (.ref p) (upd H p (.lst vs))
  | .dct ks ws => ∀ p kvs, H p = none → (kvs.map (·.1)).Nodup → kvs.map (·.1) = ks.map kyK → Reps K Z m H ws (kvs.map (·.2)) → Q (.ref p) (upd H p (.dK kvs))
  | d => QP K Z m h H d Q
theorem QP.same {d : D} {Q : VK} (q : QP K Z m h H d Q) (s : HS K Z m h H) {v : V} (r : Rep K Z m H d v) : Q v H := q m v H Ext.refl s r
theorem QP.f {d : D} {Q : VK} (q : QP K Z m h H d Q) (s : HS K Z m h H) : QF K Z m h H d Q := by
  unfold QF
  split
  · rename_i ds
    intro p vs hp r
    have np := s.notIn hp
    refine q m _ _ (Ext.fresh hp) (s.fresh hp) ?_
    simp only [Rep]
    exact ⟨p, vs, rfl, upd_same, np.2, np.1, r.mono (Ext.fresh hp)⟩
  · intro p kvs hp nd hk r
    have np := s.notIn hp
    refine q m _ _ (Ext.fresh hp) (s.fresh hp) ?_
    simp only [Rep]
    exact ⟨p, kvs, rfl, upd_same, np.2, np.1, nd, hk, r.mono (Ext.fresh hp)⟩
  · exact q
/-- a new tuple -/
theorem QP.tup {ds : List D} {Q : VK} (q : QP K Z m h H (.tup ds) Q) (s : HS K Z m h H) {vs : List V} (r : Reps K Z m H ds vs) {p : Addr} (hp : H p = none) : Q (.ref p) (upd H p (.tup vs)) := by
  refine q m _ _ (Ext.fresh hp) (s.fresh hp) ?_
  simp only [Rep]
  exact ⟨p, vs, rfl, .inl (.inl upd_same), r.mono (Ext.fresh hp)⟩
theorem QP.lst {ds : List D} {Q : VK} (q : QF K Z m h H (.lst ds) Q) {vs : List V} (r : Reps K Z m H ds vs) {p : Addr} (hp : H p = none) : Q (.ref p) (upd H p (.lst vs)) := q p vs hp r
theorem QP.int {i : Int} {Q : VK} (q : QP K Z m h H (.int i) Q) (s : HS K Z m h H) : Q (.int i) H := QP.same q s (by simp [Rep])
theorem QP.bl {i : Bool} {Q : VK} (q : QP K Z m h H (.bl i) Q) (s : HS K Z m h H) : Q (.bl i) H := QP.same q s (by simp [Rep])
theorem QP.str {i : List Nat} {Q : VK} (q : QP K Z m h H (.str i) Q) (s : HS K Z m h H) : Q (.str (tS i)) H := QP.same q s (by simp [Rep])
theorem QF.int {i : Int} {Q : VK} (q : QF K Z m h H (.int i) Q) (s : HS K Z m h H) : Q (.int i) H := QP.same q s (by simp [Rep])
theorem QF.bl {i : Bool} {Q : VK} (q : QF K Z m h H (.bl i) Q) (s : HS K Z m h H) : Q (.bl i) H := QP.same q s (by simp [Rep])
theorem QF.str {i : List Nat} {Q : VK} (q : QF K Z m h H (.str i) Q) (s : HS K Z m h H) : Q (.str (tS i)) H := QP.same q s (by simp [Rep])
theorem QF.tup {ds : List D} {Q : VK} (q : QF K Z m h H (.tup ds) Q) (s : HS K Z m h H) {vs : List V} (r : Reps K Z m H ds vs) {p : Addr} (hp : H p = none) : Q (.ref p) (upd H p (.tup vs)) := QP.tup q s r hp

/-- whether a primitive that hands back a list has just made it -/
def isF : P → Bool
  | .add => true
  | .mul => true
  | .slc _ _ => true
  | .rev => true
  | .toList => true
  | .sorted => true
  | .lst => true
  | _ => false
def QX (K : PySem.W.Frag) (Z m : List Addr) (h : Hs) (H : Hp) (d : D) (Q : VK) : Bool → Prop
  | true => QF K Z m h H d Q
  | false => QP K Z m h H d Q
theorem QP.x {d : D} {Q : VK} (q : QP K Z m h H d Q) (s : HS K Z m h H) (b : Bool) : QX K Z m h H d Q b := by
  cases b with
  | true => exact q.f s
  | false => exact q
theorem rd_O (s : HS K Z m h H) : ∀ {d : D} {v : V} {xs : List D}, Rep K Z m H d v → seqO h d = some xs → ∃ p vs, v = .ref p ∧ H p = some (.lst vs) ∧ Reps K Z m H xs vs
  | .lst ds, v, xs, r, e => by
    simp only [seqO, Option.some.injEq] at e
    subst e
    simp only [Rep] at r
    obtain ⟨p, vs, rfl, hp, _, _, rr⟩ := r
    exact ⟨p, vs, rfl, hp, rr⟩
  | .ref n, v, xs, r, e => by
    simp only [seqO] at e
    simp only [Rep] at r
    obtain ⟨p, hp, rfl⟩ := r
    split at e
    · rename_i ds hn
      cases e
      obtain ⟨vs, q, rr⟩ := s.ob n _ p hn hp
      exact ⟨p, vs, rfl, q, rr⟩
    · cases e
  | .non, _, _, _, e | .bl _, _, _, _, e | .int _, _, _, _, e | .str _, _, _, _, e | .tup _, _, _, _, e | .scr _, _, _, _, e | .dct _ _, _, _, _, e | .ty _, _, _, _, e | .fn _, _, _, _, e => by simp [seqO] at e
theorem rd_L (s : HS K Z m h H) : ∀ {d : D} {v : V} {xs : List D}, Rep K Z m H d v → seqL h d = some xs → ∃ p vs, v = .ref p ∧ SqL K H p vs ∧ Reps K Z m H xs vs
  | .lst ds, v, xs, r, e => by
    obtain ⟨p, vs, h1, h2, h3⟩ := rd_O s r (xs := xs) (by simpa [seqO, seqL] using e)
    exact ⟨p, vs, h1, SqL.of h2, h3⟩
  | .ref n, v, xs, r, e => by
    obtain ⟨p, vs, h1, h2, h3⟩ := rd_O s r (xs := xs) (by simpa [seqO, seqL] using e)
    exact ⟨p, vs, h1, SqL.of h2, h3⟩
  | .scr ds, v, xs, r, e => by
    simp only [seqL, Option.some.injEq] at e
    subst e
    simp only [Rep] at r
    obtain ⟨p, vs, rfl, hp, rr⟩ := r
    exact ⟨p, vs, rfl, hp.imp (fun q => .inr q) id, rr⟩
  | .non, _, _, _, e | .bl _, _, _, _, e | .int _, _, _, _, e | .str _, _, _, _, e | .tup _, _, _, _, e | .dct _ _, _, _, _, e | .ty _, _, _, _, e | .fn _, _, _, _, e => by simp [seqL] at e
theorem rd_A (s : HS K Z m h H) {d : D} {v : V} {xs : List D} (r : Rep K Z m H d v) (e : seqA h d = some xs) : ∃ p vs, v = .ref p ∧ (SqL K H p vs ∨ SqT K H p vs) ∧ Reps K Z m H xs vs := by
  unfold seqA at e
  split at e
  · cases e
    simp only [Rep] at r
    obtain ⟨p, vs, rfl, hp, rr⟩ := r
    exact ⟨p, vs, rfl, .inr hp, rr⟩
  · obtain ⟨p, vs, h1, h2, h3⟩ := rd_L s r e
    exact ⟨p, vs, h1, .inl h2, h3⟩
end

theorem big_le {n : Nat} (e : big n = true) : n ≤ sizeLine := by
  have : n ≤ 1000000 := by simpa [big] using e
  rw [sizeLine_eq]; omega
theorem big_lt {n : Nat} (e : big n = true) : n < sizeLine := by
  have : n ≤ 1000000 := by simpa [big] using e
  rw [sizeLine_eq]; omega
theorem tS_len (a : List Nat) : (tS a).length = a.length := by simp [tS, Str.length]
theorem tS_cat (a b : List Nat) : tS a ++ tS b = tS (a ++ b) := by
  show Str.mk (a.toArray ++ b.toArray) = Str.mk (a ++ b).toArray
  simp
theorem tS_inj {a b : List Nat} (e : tS a = tS b) : a = b := by
  have := congrArg (fun x : Str => x.cps.toList) e
  simpa [tS] using this

def rA (K : PySem.W.Frag) (p : P) : List V → Hp → VK → Prop := fun vs H Q => ∃ Z m h ds d, HS K Z m h H ∧ Reps K Z m H ds vs ∧ pf h p ds = some d ∧ QX K Z m h H d Q (isF p)
def r2 (K : PySem.W.Frag) (p : P) : R2 := fun x y H Q => rA K p [x, y] H Q

section
variable {K : PySem.W.Frag} {Z m : List Addr} {H : Hp}
theorem two {ds : List D} {x y : V} (r : Reps K Z m H ds [x, y]) : ∃ a b, ds = [a, b] ∧ Rep K Z m H a x ∧ Rep K Z m H b y := by
  match ds, r with
  | [], r => simp [Reps] at r
  | [a], r => simp [Reps] at r
  | [a, b], r =>
    simp only [Reps] at r
    obtain ⟨v, q, e, h1, v', q', e', h2, e''⟩ := r
    subst e''; subst e'
    cases e
    exact ⟨a, b, rfl, h1, h2⟩
  | a :: b :: c :: r', r =>
    have := r.len
    simp at this
theorem one {ds : List D} {x : V} (r : Reps K Z m H ds [x]) : ∃ a, ds = [a] ∧ Rep K Z m H a x := by
  match ds, r with
  | [], r => simp [Reps] at r
  | [a], r =>
    simp only [Reps] at r
    obtain ⟨v, q, e, h1, e'⟩ := r
    subst e'
    cases e
    exact ⟨a, rfl, h1⟩
  | a :: b :: c, r =>
    have := r.len
    simp at this
theorem r2_of {p : P} {x y : V} {Q : VK} (g : r2 K p x y H Q) : ∃ Z m h a b d, HS K Z m h H ∧ Rep K Z m H a x ∧ Rep K Z m H b y ∧ pf h p [a, b] = some d ∧ QX K Z m h H d Q (isF p) := by
  obtain ⟨Z, m, h, ds, d, s, r, e, q⟩ := g
  obtain ⟨a, b, rfl, h1, h2⟩ := two r
  exact ⟨Z, m, h, a, b, d, s, h1, h2, e, q⟩
end

section
variable {X : Cx}
/-- a tuple to an empty one -/
theorem op_catT0 : OpR X (binaryOp .Add) (fun x y H Q => ∃ a b ys, x = .ref a ∧ y = .ref b ∧ SqT X.K H a [] ∧ SqT X.K H b ys ∧ Q (.ref b) H) := by
  intro pins s σ H x y v u Q I rx ry h
  obtain ⟨a, b, ys, rfl, rfl, ha, hb, q⟩ := h
  cases rx
  cases ry
  obtain ⟨vs, r1, t1, _⟩ := I.tuple ha
  obtain ⟨ws, r2, t2, _⟩ := I.tuple hb
  cases r1
  obtain ⟨⟨cls, dd, data, sl⟩, ho, hc, n, hd⟩ := id t1
  obtain ⟨⟨cls2, dd2, data2, sl2⟩, ho2, hc2, n2, hd2⟩ := id t2
  simp only at hc hd hc2 hd2
  subst hc hd hc2 hd2
  exact concat_meets ⟨_, ho, rfl⟩ ⟨_, ho2, rfl⟩ noFill_tuple_add seq_tuple_add PySem.F.slot_tuple_add PySem.F.entry_tuple_add (PySem.F.args_tuple_add_2 _ _)
      (PyProof.Rows.tuple_addW0 a b _ ws.toArray n n2 dd dd2 sl sl2 (by simp)) ⟨ho, ho2, ⟨.ref b, H, I, rfl, q⟩⟩

theorem o_add : OpR X (binaryOp .Add) (r2 X.K .add) := by
  intro pins s σ H x y v u Q I rx ry g
  obtain ⟨Z, m, h, a, b, d, hs, ra, rb, e, q⟩ := r2_of g
  have q : QF X.K Z m h H d Q := q
  simp only [pf] at e
  unfold pAdd at e
  split at e
  · cases e
    simp only [Rep] at ra rb
    exact op_add pins s σ H x y v u Q I rx ry ⟨_, _, ra, rb, q.int hs⟩
  · split at e
    · rename_i hb
      cases e
      simp only [Rep] at ra rb
      refine op_add_str pins s σ H x y v u Q I rx ry ⟨_, _, ra, rb, ?_, ?_⟩
      · rw [tS_len, tS_len]; exact big_le hb
      · rw [tS_cat]; exact q.str hs
    · cases e
  · split at e
    · rename_i xs ys hb
      cases e
      simp only [Rep] at ra rb
      obtain ⟨p1, vs, rfl, h1, r1⟩ := ra
      obtain ⟨p2, ws, rfl, h2, r2⟩ := rb
      by_cases hv : vs = []
      · subst hv
        have : xs = [] := by
          have := r1.len
          simpa using this
        subst this
        refine op_catT0 pins s σ H _ _ v u Q I rx ry ⟨_, _, ws, rfl, rfl, h1, h2, ?_⟩
        refine QP.same q hs ?_
        simp only [Rep]
        exact ⟨p2, ws, rfl, h2, by simpa using r2⟩
      · refine op_catT pins s σ H _ _ v u Q I rx ry ⟨_, _, vs, ws, rfl, rfl, h1, h2, hv, ?_, fun hw => ?_, fun hw p hp => ?_⟩
        · rw [← r1.len, ← r2.len]; exact big_le hb
        · subst hw
          have : ys = [] := by
            have := r2.len
            simpa using this
          subst this
          refine QP.same q hs ?_
          simp only [Rep]
          exact ⟨p1, vs, rfl, h1, by simpa using r1⟩
        · exact q.tup hs (r1.append r2) hp
    · cases e
  · cases e1 : seqO h a with
    | none => rw [e1] at e; cases e
    | some xs =>
      cases e2 : seqO h b with
      | none => rw [e1, e2] at e; cases e
      | some ys =>
        rw [e1, e2] at e
        simp only [Option.bind_some] at e
        split at e
        · rename_i hb
          cases e
          obtain ⟨p1, vs, rfl, h1, r1⟩ := rd_O hs ra e1
          obtain ⟨p2, ws, rfl, h2, r2⟩ := rd_O hs rb e2
          exact op_cat pins s σ H _ _ v u Q I rx ry ⟨_, _, _, _, rfl, rfl, h1, h2, by rw [← r1.len, ← r2.len]; exact big_le hb, fun p hp => q p _ hp (r1.append r2)⟩
        · cases e
theorem o_sub : OpR X (binaryOp .Sub) (r2 X.K .sub) := by
  intro pins s σ H x y v u Q I rx ry g
  obtain ⟨Z, m, h, a, b, d, hs, ra, rb, e, q⟩ := r2_of g
  have q : QP X.K Z m h H d Q := q
  simp only [pf] at e
  unfold pSub at e
  split at e
  · cases e
    simp only [Rep] at ra rb
    exact op_sub pins s σ H x y v u Q I rx ry ⟨_, _, ra, rb, q.int hs⟩
  · cases e
theorem o_div : OpR X (binaryOp .FloorDiv) (r2 X.K .fdiv) := by
  intro pins s σ H x y v u Q I rx ry g
  obtain ⟨Z, m, h, a, b, d, hs, ra, rb, e, q⟩ := r2_of g
  have q : QP X.K Z m h H d Q := q
  simp only [pf] at e
  unfold pDiv at e
  split at e
  · split at e
    · rename_i hb
      cases e
      simp only [Rep] at ra rb
      exact op_fdiv pins s σ H x y v u Q I rx ry ⟨_, _, ra, rb, by simpa [CDiv] using hb, q.int hs⟩
    · cases e
  · cases e
theorem o_mod : OpR X (binaryOp .Mod) (r2 X.K .mod) := by
  intro pins s σ H x y v u Q I rx ry g
  obtain ⟨Z, m, h, a, b, d, hs, ra, rb, e, q⟩ := r2_of g
  have q : QP X.K Z m h H d Q := q
  simp only [pf] at e
  unfold pMod at e
  split at e
  · split at e
    · rename_i hb
      cases e
      simp only [Rep] at ra rb
      exact op_mod pins s σ H x y v u Q I rx ry ⟨_, _, ra, rb, hb, q.int hs⟩
    · cases e
  · cases e
theorem o_pow : OpR X (binaryOp .Pow) (r2 X.K .pow) := by
  intro pins s σ H x y v u Q I rx ry g
  obtain ⟨Z, m, h, a, b, d, hs, ra, rb, e, q⟩ := r2_of g
  have q : QP X.K Z m h H d Q := q
  simp only [pf] at e
  unfold pPow at e
  split at e
  · split at e
    · rename_i hb
      cases e
      simp only [Rep] at ra rb
      exact op_pow pins s σ H x y v u Q I rx ry ⟨_, _, ra, rb, by simpa [CPow, and_assoc] using hb, q.int hs⟩
    · cases e
  · cases e
theorem flat_rep (s : List Nat) : ∀ k : Nat, (⟨(List.replicate k (tS s).cps).foldl (· ++ ·) #[]⟩ : Str) = tS (List.replicate k s).flatten := by
  have : ∀ (k : Nat) (acc : List Nat), (List.replicate k (tS s).cps).foldl (· ++ ·) acc.toArray = (acc ++ (List.replicate k s).flatten).toArray := by
    intro k
    induction k with
    | zero => intro acc; simp
    | succ k ih =>
      intro acc
      simp only [List.replicate_succ, List.foldl_cons, List.flatten_cons]
      have : acc.toArray ++ (tS s).cps = (acc ++ s).toArray := by simp [tS]
      rw [this, ih, List.append_assoc]
  intro k
  have e := this k []
  simp only [List.nil_append] at e
  show Str.mk _ = Str.mk _
  rw [← e]
theorem o_mul : OpR X (binaryOp .Mult) (r2 X.K .mul) := by
  intro pins s σ H x y v u Q I rx ry g
  obtain ⟨Z, m, h, a, b, d, hs, ra, rb, e, q⟩ := r2_of g
  have q : QF X.K Z m h H d Q := q
  simp only [pf] at e
  unfold pMul at e
  split at e
  · split at e
    · rename_i hb
      cases e
      simp only [Rep] at ra rb
      refine op_mul pins s σ H x y v u Q I rx ry ⟨_, _, ra, rb, ?_, q.int hs⟩
      simp only [Bool.or_eq_true, Bool.and_eq_true, decide_eq_true_eq] at hb
      unfold B64 at hb
      unfold CMul
      have e64 : (2 : Int) ^ 64 = 18446744073709551616 := by decide
      rw [e64]
      omega
    · cases e
  · split at e
    · rename_i t k hb
      cases e
      simp only [Rep] at ra rb
      subst ra rb
      obtain ⟨t1, rfl⟩ := rx
      obtain ⟨t2, rfl⟩ := ry
      simp only [Bool.and_eq_true, decide_eq_true_eq] at hb
      have hl : (tS t).length = t.length := tS_len t
      have hbig : t.length * k.toNat ≤ 1000000 := by simpa [big] using hb.2
      refine PySem.P.mul_str (by simp; omega) (fun h1 h2 => ?_) (fun h1 h2 => ?_) ?_
      · rw [hl]
        have hk : (1 : Int) ≤ k := by omega
        have h3 : (t.length : Int) * k ≤ 1000000 := by
          have : ((t.length * k.toNat : Nat) : Int) ≤ 1000000 := by omega
          rw [Int.natCast_mul, Int.toNat_of_nonneg (by omega)] at this
          exact this
        intro h4
        have h5 : (t.length : Int) ≤ (t.length : Int) * k := by
          have := Int.mul_le_mul_of_nonneg_left hk (Int.natCast_nonneg t.length)
          simpa using this
        have h6 : (2 ^ 63 - 1) / k ≥ (2 ^ 63 - 1) / 1000 := by
          apply Int.le_ediv_of_mul_le (by omega)
          have : k ≤ 1000 := hb.1.2
          have h8 : ((2 : Int) ^ 63 - 1) / 1000 * k ≤ (2 ^ 63 - 1) / 1000 * 1000 := Int.mul_le_mul_of_nonneg_left this (by decide)
          have h9 : ((2 : Int) ^ 63 - 1) / 1000 * 1000 ≤ 2 ^ 63 - 1 := by decide
          omega
        have h7 : ((2 : Int) ^ 63 - 1) / 1000 ≥ 1000000 := by decide
        omega
      · rw [hl]
        have := sizeLine_eq
        show decide (t.length * k.toNat > sizeLine) = false
        rw [decide_eq_false_iff_not]
        omega
      · have key : ∀ st : Shared, EP X pins σ Q (.str (tS (List.replicate k.toNat t).flatten) st.toks) { st with toks := st.toks + 1 } → True := fun _ _ => trivial
        have I1 : ∀ tk, Inv X pins σ H { s with toks := tk } := fun tk => I.tok tk
        by_cases c1 : k < 1
        · rw [if_pos c1]
          have hk0 : k.toNat = 0 := by omega
          refine ⟨by decide, ?_⟩
          refine ⟨.str Str.empty, H, I1 _, ⟨_, rfl⟩, ?_⟩
          have := q.str hs
          rw [hk0] at this
          exact this
        · rw [if_neg c1]
          by_cases c2 : (k == 1 || (tS t).length == 0) = true
          · rw [if_pos c2]
            refine ⟨.str (tS t), H, I1 _, ⟨_, rfl⟩, ?_⟩
            have := q.str hs
            have e2 : (List.replicate k.toNat t).flatten = t := by
              simp only [Bool.or_eq_true, beq_iff_eq] at c2
              rcases c2 with c2 | c2
              · subst c2; simp
              · rw [tS_len] at c2
                have : t = [] := List.eq_nil_of_length_eq_zero c2
                subst this
                simp
            rw [e2] at this
            exact this
          · rw [if_neg c2]
            rw [flat_rep]
            refine ⟨?_, ⟨.str _, H, I1 _, ⟨_, rfl⟩, q.str hs⟩⟩
            rw [tS_len]
            have e3 : (List.replicate k.toNat t).flatten.length = t.length * k.toNat := by simp [Nat.mul_comm]
            rw [e3]
            have := sizeLine_eq
            omega
    · cases e
  · rename_i k hne
    cases e1 : seqO h a with
    | none => rw [e1] at e; cases e
    | some xs =>
      rw [e1] at e
      simp only [Option.bind_some] at e
      split at e
      · rename_i hb
        cases e
        obtain ⟨p1, vs, rfl, h1, r1⟩ := rd_O hs ra e1
        simp only [Rep] at rb
        simp only [Bool.and_eq_true, decide_eq_true_eq] at hb
        exact op_rep pins s σ H _ _ v u Q I rx ry ⟨_, _, _, rfl, rb, h1, by omega, by omega, by rw [← r1.len]; exact big_le hb.2, fun p hp => q p _ hp (r1.rep _)⟩
      · cases e
  · cases e
end
end Dp

set_option Elab.async false
set_option linter.all false
set_option autoImplicit false
set_option maxRecDepth 100000
set_option maxHeartbeats 2000000
namespace Dp
open PySem L2 PySem.Spec PyProof.Rows PySem.SeqAt PySem.P3

mutual
def toPy : D → PyData
  | .bl b => .bool b
  | .int i => .int i
  | .str s => .str (tS s)
  | .tup ds => .tuple (toPys ds)
  | .lst ds => .list (toPys ds)
  | _ => .none
def toPys : List D → List PyData
  | [] => []
  | d :: ds => toPy d :: toPys ds
end
mutual
theorem py_lay : ∀ d, pur d = true → (toPy d).canLay0 = true
  | .non, _ | .bl _, _ | .int _, _ => by simp [toPy, PyData.canLay0]
  | .str s, h => by
    simp only [toPy, PyData.canLay0, PyData.strOk, tS]
    simp only [pur, List.all_eq_true, decide_eq_true_eq] at h
    rw [Array.all_eq_true_iff_forall_mem]
    intro x hx
    have := h x (by simpa using hx)
    simp; omega
  | .tup ds, h => by simp only [toPy, PyData.canLay0]; exact pys_lay ds (by simpa [pur] using h)
  | .lst ds, h => by simp only [toPy, PyData.canLay0]; exact pys_lay ds (by simpa [pur] using h)
  | .scr _, h | .dct _ _, h | .ref _, h | .ty _, h | .fn _, h => by simp [pur] at h
theorem pys_lay : ∀ ds, purs ds = true → PyData.canLayAll0 (toPys ds) = true
  | [], _ => by simp [toPys, PyData.canLayAll0]
  | d :: ds, h => by
    simp only [purs, Bool.and_eq_true] at h
    simp [toPys, PyData.canLayAll0, py_lay d h.1, pys_lay ds h.2]
end
mutual
theorem py_dep : ∀ d, (toPy d).depth ≤ depD d
  | .non | .bl _ | .int _ | .str _ | .scr _ | .dct _ _ | .ref _ | .ty _ | .fn _ => by simp [toPy, PyData.depth, depD]
  | .tup ds | .lst ds => by simp only [toPy, PyData.depth, depD]; exact Nat.succ_le_succ (pys_dep ds)
theorem pys_dep : ∀ ds, PyData.depthAll (toPys ds) ≤ depDs ds
  | [] => by simp [toPys, PyData.depthAll]
  | d :: ds => by
    simp only [toPys, PyData.depthAll, depDs]
    have h1 := py_dep d
    have h2 := pys_dep ds
    omega
end
theorem py_shaped {d : D} (h : good d = true) : shaped (toPy d) = true := by
  simp only [good, Bool.and_eq_true, decide_eq_true_eq] at h
  have := py_dep d
  simp only [shaped, Bool.and_eq_true, decide_eq_true_eq]
  exact ⟨py_lay d h.1, by omega⟩
theorem tS_beq (a b : List Nat) : (tS a == tS b) = (a == b) := by
  rw [Bool.eq_iff_iff, beq_iff_eq, beq_iff_eq]
  exact ⟨tS_inj, fun e => by rw [e]⟩
mutual
theorem py_eqv : ∀ a b, pur a = true → pur b = true → PyData.eqv (toPy a) (toPy b) = eqD a b
  | .non, b, _, hb => by cases b <;> simp_all [toPy, PyData.eqv, eqD, pur]
  | .bl _, b, _, hb => by cases b <;> simp_all [toPy, PyData.eqv, eqD, pur]
  | .int _, b, _, hb => by cases b <;> simp_all [toPy, PyData.eqv, eqD, pur]
  | .str _, b, _, hb => by cases b <;> simp_all [toPy, PyData.eqv, eqD, pur, tS_beq]
  | .tup xs, b, ha, hb => by
    cases b with
    | tup ys => simp only [toPy, PyData.eqv, eqD]; exact pys_eqv xs ys (by simpa [pur] using ha) (by simpa [pur] using hb)
    | _ => simp_all [toPy, PyData.eqv, eqD, pur]
  | .lst xs, b, ha, hb => by
    cases b with
    | lst ys => simp only [toPy, PyData.eqv, eqD]; exact pys_eqv xs ys (by simpa [pur] using ha) (by simpa [pur] using hb)
    | _ => simp_all [toPy, PyData.eqv, eqD, pur]
  | .scr _, _, h, _ | .dct _ _, _, h, _ | .ref _, _, h, _ | .ty _, _, h, _ | .fn _, _, h, _ => by simp [pur] at h
theorem pys_eqv : ∀ a b, purs a = true → purs b = true → PyData.eqvAll (toPys a) (toPys b) = eqDs a b
  | [], [], _, _ => by simp [toPys, PyData.eqvAll, eqDs]
  | [], _ :: _, _, _ => by simp [toPys, PyData.eqvAll, eqDs]
  | _ :: _, [], _, _ => by simp [toPys, PyData.eqvAll, eqDs]
  | a :: as, b :: bs, ha, hb => by
    simp only [purs, Bool.and_eq_true] at ha hb
    simp only [toPys, PyData.eqvAll, eqDs]
    rw [py_eqv a b ha.1 hb.1, pys_eqv as bs ha.2 hb.2]
end
section
variable {X : Cx} {pins : List (Addr × Obj)} {σ : L2.St} {H : Hp} {s : Shared} {Z m : List Addr}
mutual
theorem py_reads (I : Inv X pins σ H s) : ∀ (d : D) (x : V) (u : Value), pur d = true → Rep X.K Z m H d x → RelV x u → ∃ as, Reads s.heap u (toPy d) as
  | .non, x, u, _, r, q => by simp only [Rep] at r; subst r; cases q; exact ⟨_, .none⟩
  | .bl b, x, u, _, r, q => by simp only [Rep] at r; subst r; cases q; exact ⟨_, .bool b⟩
  | .int i, x, u, _, r, q => by simp only [Rep] at r; subst r; obtain ⟨t, rfl⟩ := q; exact ⟨_, .int i t⟩
  | .str i, x, u, _, r, q => by simp only [Rep] at r; subst r; obtain ⟨t, rfl⟩ := q; exact ⟨_, .str _ t⟩
  | .tup ds, x, u, h, r, q => by
    simp only [Rep] at r
    obtain ⟨p, vs, rfl, hp, rr⟩ := r
    cases q
    obtain ⟨its, rv, ⟨o, ho, hc, n, hd⟩, _⟩ := I.tuple hp
    obtain ⟨as, ra⟩ := pys_reads I ds vs its (by simpa [pur] using h) rr rv
    exact ⟨_, .tuple ho hc hd (by simpa using ra)⟩
  | .lst ds, x, u, h, r, q => by
    simp only [Rep] at r
    obtain ⟨p, vs, rfl, hp, _, _, rr⟩ := r
    cases q
    obtain ⟨its, rv, ⟨o, n, ho, hc, _, hd⟩, _⟩ := I.list (SqL.of (K := X.K) hp)
    obtain ⟨as, ra⟩ := pys_reads I ds vs its (by simpa [pur] using h) rr rv
    exact ⟨_, .list ho hc hd (by simpa using ra)⟩
  | .scr _, _, _, h, _, _ | .dct _ _, _, _, h, _, _ | .ref _, _, _, h, _, _ | .ty _, _, _, h, _, _ | .fn _, _, _, h, _, _ => by simp [pur] at h
theorem pys_reads (I : Inv X pins σ H s) : ∀ (ds : List D) (xs : List V) (us : List Value), purs ds = true → Reps X.K Z m H ds xs → Vals xs us → ∃ as, ReadsAll s.heap us (toPys ds) as
  | [], xs, us, _, r, q => by simp only [Reps] at r; subst r; cases q; exact ⟨_, .nil⟩
  | d :: ds, xs, us, h, r, q => by
    simp only [Reps] at r
    obtain ⟨v, w, rfl, r1, r2⟩ := r
    cases q with
    | cons q1 q2 =>
      simp only [purs, Bool.and_eq_true] at h
      obtain ⟨as, h1⟩ := py_reads I d v _ h.1 r1 q1
      obtain ⟨bs, h2⟩ := pys_reads I ds w _ h.2 r2 q2
      exact ⟨_, .cons h1 h2⟩
end
/-- as == sees it -/
theorem plain_rep {h : Hs} (hs : HS X.K Z m h H) {d : D} {x : V} (r : Rep X.K Z m H d x) (hg : pur (plainD h d) = true) (I : Inv X pins σ H s) {u : Value} (q : RelV x u) : ∃ as, Reads s.heap u (toPy (plainD h d)) as := by
  cases d with
  | ref n =>
    simp only [plainD] at hg ⊢
    split at hg
    · rename_i ds hn
      simp only [Rep] at r
      obtain ⟨p, hp, rfl⟩ := r
      obtain ⟨vs, hv, rr⟩ := hs.ob n _ p hn hp
      cases q
      obtain ⟨its, rv, ⟨o, n, ho, hc, _, hd⟩, _⟩ := I.list (SqL.of (K := X.K) hv)
      obtain ⟨as, ra⟩ := pys_reads I ds vs its (by simpa [pur] using hg) rr rv
      exact ⟨_, .list ho hc hd (by simpa using ra)⟩
    · simp [pur] at hg
  | _ => exact py_reads I _ x u (by simpa [plainD] using hg) r q
end

section
variable {X : Cx} {k : Nat}
theorem o_eq (hr : Room k X.A) : OpR X (compareOp .Eq) (r2 X.K .eq) := by
  intro pins s σ H x y v u Q I rx ry g
  obtain ⟨Z, m, h, a, b, d, hs, ra, rb, e, q⟩ := r2_of g
  have q : QP X.K Z m h H d Q := by first | exact q | (rw [hf] at q; exact q)
  simp only [pf] at e
  unfold pEq at e
  split at e
  · rename_i hg
    simp only [Bool.and_eq_true] at hg
    have ga : pur (plainD h a) = true := by have := hg.1; simp only [good, Bool.and_eq_true] at this; exact this.1
    have gb : pur (plainD h b) = true := by have := hg.2; simp only [good, Bool.and_eq_true] at this; exact this.1
    cases e
    obtain ⟨as, h1⟩ := plain_rep hs ra ga I rx
    obtain ⟨bs, h2⟩ := plain_rep hs rb gb I ry
    refine eq_dataH h1 h2 (py_shaped hg.1) (py_shaped hg.2) hr.units ⟨.bl _, H, I, rfl, ?_⟩
    rw [py_eqv _ _ ga gb]
    exact q.bl hs
  · cases e
theorem o_ne (hr : Room k X.A) : OpR X (compareOp .NotEq) (r2 X.K .ne) := by
  intro pins s σ H x y v u Q I rx ry g
  obtain ⟨Z, m, h, a, b, d, hs, ra, rb, e, q⟩ := r2_of g
  have q : QP X.K Z m h H d Q := by first | exact q | (rw [hf] at q; exact q)
  simp only [pf] at e
  unfold pEq at e
  split at e
  · rename_i hg
    simp only [Bool.and_eq_true] at hg
    have ga : pur (plainD h a) = true := by have := hg.1; simp only [good, Bool.and_eq_true] at this; exact this.1
    have gb : pur (plainD h b) = true := by have := hg.2; simp only [good, Bool.and_eq_true] at this; exact this.1
    cases e
    obtain ⟨as, h1⟩ := plain_rep hs ra ga I rx
    obtain ⟨bs, h2⟩ := plain_rep hs rb gb I ry
    refine ne_dataH h1 h2 (py_shaped hg.1) (py_shaped hg.2) hr.units ⟨.bl _, H, I, rfl, ?_⟩
    rw [py_eqv _ _ ga gb]
    exact q.bl hs
  · cases e
theorem any_eqv {x : D} (hx : pur x = true) : ∀ (ds : List D), purs ds = true → ((toPys ds).any fun y => PyData.eqv y (toPy x)) = ds.any fun d => eqD d x
  | [], _ => rfl
  | d :: ds, h => by
    simp only [purs, Bool.and_eq_true] at h
    simp only [toPys, List.any_cons]
    rw [py_eqv d x h.1 hx, any_eqv hx ds h.2]
theorem sign_in (c : Nat) (z : List Nat) (I : Prop) : True := trivial
theorem o_inB (hr : Room k X.A) (op : CmpOp) (p : P) (f : Bool → Bool)
    (hf : isF p = false) (hp : ∀ h x y, pf h p [x, y] = pIn h f x y)
    (hL : ∀ (pins : List (Addr × Obj)) (s : Shared) (σ : L2.St) (H : Hp) (I : Inv X pins σ H s) (Q : VK) (c x : Value) (xs : List PyData) (d : PyData) (as bs : List Addr), Reads s.heap c (.list xs) as → Reads s.heap x d bs → PyData.canLayAll0 xs = true → d.canLay0 = true → X.A.units + 1 + min (PyData.depthAll xs) d.depth < cLine →
      Q (.bl (f (xs.any fun y => PyData.eqv y d))) H → wpAny (model X.prog X.w) X.A (compareOp op x c) (EP X pins σ Q) X.xe s)
    (hT : ∀ (pins : List (Addr × Obj)) (s : Shared) (σ : L2.St) (H : Hp) (I : Inv X pins σ H s) (Q : VK) (c x : Value) (xs : List PyData) (d : PyData) (as bs : List Addr), Reads s.heap c (.tuple xs) as → Reads s.heap x d bs → PyData.canLayAll0 xs = true → d.canLay0 = true → X.A.units + 1 + min (PyData.depthAll xs) d.depth < cLine →
      Q (.bl (f (xs.any fun y => PyData.eqv y d))) H → wpAny (model X.prog X.w) X.A (compareOp op x c) (EP X pins σ Q) X.xe s)
    (hS : OpR X (compareOp op) (fun x y H Q => ∃ (c : Nat) (z : Str), x = .str ⟨#[c]⟩ ∧ y = .str z ∧ Q (.bl (f (decide (c ∈ z.cps.toList)))) H)) : OpR X (compareOp op) (r2 X.K p) := by
  intro pins s σ H x y v u Q I rx ry g
  obtain ⟨Z, m, h, a, b, d, hs, ra, rb, e, q⟩ := r2_of g
  have q : QP X.K Z m h H d Q := by first | exact q | (rw [hf] at q; exact q)
  rw [hp] at e
  unfold pIn at e
  split at e
  · cases e
    simp only [Rep] at ra rb
    refine hS pins s σ H x y v u Q I rx ry ⟨_, _, ra, rb, ?_⟩
    have := q.bl hs
    rename_i c t _
    have e2 : (decide (c ∈ (tS t).cps.toList)) = decide (c ∈ t) := decide_eq_decide.mpr (by simp [tS])
    rw [e2]
    exact this
  · cases e1 : seqA h b with
    | none => rw [e1] at e; cases e
    | some ds =>
      rw [e1] at e
      simp only [Option.bind_some] at e
      split at e
      · rename_i hg
        cases e
        simp only [Bool.and_eq_true] at hg
        have ga : pur a = true := by have := hg.1; simp only [good, Bool.and_eq_true] at this; exact this.1
        have gb : purs ds = true := by have := hg.2; simp only [good, pur, Bool.and_eq_true] at this; exact this.1
        have gd : depD a ≤ 60 := by have := hg.1; simp only [good, Bool.and_eq_true, decide_eq_true_eq] at this; exact this.2
        obtain ⟨as, h1⟩ := py_reads I a x v ga ra rx
        have hd : X.A.units + 1 + min (PyData.depthAll (toPys ds)) (toPy a).depth < cLine := by
          have h3 := py_dep a
          have h4 := hr.un
          have : min (PyData.depthAll (toPys ds)) (toPy a).depth ≤ (toPy a).depth := Nat.min_le_right _ _
          omega
        have qq : Q (.bl (f ((toPys ds).any fun y => PyData.eqv y (toPy a)))) H := by
          rw [any_eqv ga ds gb]
          exact q.bl hs
        obtain ⟨pb, vs, rfl, hl, rr⟩ := rd_A hs rb e1
        cases ry
        rcases hl with hl | hl
        · obtain ⟨its, rv, ⟨o, n, ho, hc, _, hd'⟩, _⟩ := I.list hl
          obtain ⟨bs, h2⟩ := pys_reads I ds vs its gb rr rv
          exact hL pins s σ H I Q _ _ _ _ _ _ (.list ho hc hd' (by simpa using h2)) h1 (pys_lay ds gb) (py_lay a ga) hd qq
        · obtain ⟨its, rv, ⟨o, ho, hc, n, hd'⟩, _⟩ := I.tuple hl
          obtain ⟨bs, h2⟩ := pys_reads I ds vs its gb rr rv
          exact hT pins s σ H I Q _ _ _ _ _ _ (.tuple ho hc hd' (by simpa using h2)) h1 (pys_lay ds gb) (py_lay a ga) hd qq
      · cases e
theorem o_in (hr : Room k X.A) : OpR X (compareOp .In) (r2 X.K .isin) := by
  refine o_inB hr .In .isin (fun b => b) rfl (fun _ _ _ => rfl) ?_ ?_ ?_
  · intro pins s σ H I Q c x xs d as bs h1 h2 h3 h4 h5 h6
    exact in_list_reads h1 h2 h3 h4 h5 ⟨.bl _, H, I, rfl, h6⟩
  · intro pins s σ H I Q c x xs d as bs h1 h2 h3 h4 h5 h6
    exact in_tuple_reads h1 h2 h3 h4 h5 ⟨.bl _, H, I, rfl, h6⟩
  · exact op_in_sign
theorem o_notin (hr : Room k X.A) : OpR X (compareOp .NotIn) (r2 X.K .notin) := by
  refine o_inB hr .NotIn .notin (fun b => !b) rfl (fun _ _ _ => rfl) ?_ ?_ ?_
  · intro pins s σ H I Q c x xs d as bs h1 h2 h3 h4 h5 h6
    exact notIn_list_reads h1 h2 h3 h4 h5 ⟨.bl _, H, I, rfl, h6⟩
  · intro pins s σ H I Q c x xs d as bs h1 h2 h3 h4 h5 h6
    exact notIn_tuple_reads h1 h2 h3 h4 h5 ⟨.bl _, H, I, rfl, h6⟩
  · exact op_notIn_sign
theorem o_cmp (op : CmpOp) (p : P) (f : Int → Int → Bool) (hf : isF p = false) (hp : ∀ h x y, pf h p [x, y] = pCmp f x y) (ho : OpR X (compareOp op) (rI0 fun i j => .bl (f i j))) : OpR X (compareOp op) (r2 X.K p) := by
  intro pins s σ H x y v u Q I rx ry g
  obtain ⟨Z, m, h, a, b, d, hs, ra, rb, e, q⟩ := r2_of g
  have q : QP X.K Z m h H d Q := by first | exact q | (rw [hf] at q; exact q)
  rw [hp] at e
  unfold pCmp at e
  split at e
  · cases e
    simp only [Rep] at ra rb
    exact ho pins s σ H x y v u Q I rx ry ⟨_, _, ra, rb, q.bl hs⟩
  · cases e
theorem o_lt : OpR X (compareOp .Lt) (r2 X.K .lt) := o_cmp .Lt .lt _ rfl (fun _ _ _ => rfl) op_lt
theorem o_le : OpR X (compareOp .LtE) (r2 X.K .le) := o_cmp .LtE .le _ rfl (fun _ _ _ => rfl) op_le
theorem o_gt : OpR X (compareOp .Gt) (r2 X.K .gt) := o_cmp .Gt .gt _ rfl (fun _ _ _ => rfl) op_gt
theorem o_ge : OpR X (compareOp .GtE) (r2 X.K .ge) := o_cmp .GtE .ge _ rfl (fun _ _ _ => rfl) op_ge
theorem non_iff {K : PySem.W.Frag} {Z m : List Addr} {H : Hp} {d : D} {x : V} (r : Rep K Z m H d x) : decide (x = .non) = isNon d := by
  cases d <;> simp only [Rep, isNon] at r ⊢ <;> first | (subst r; rfl) | (obtain ⟨p, _, rfl, _⟩ := r; rfl) | (obtain ⟨p, _, rfl⟩ := r; rfl) | exact r.elim | (obtain ⟨p, _, _, rfl, _⟩ := r; rfl)
theorem o_is : OpR X (compareOp .Is) (r2 X.K .isN) := by
  intro pins s σ H x y v u Q I rx ry g
  obtain ⟨Z, m, h, a, b, d, hs, ra, rb, e, q⟩ := r2_of g
  have q : QP X.K Z m h H d Q := by first | exact q | (rw [hf] at q; exact q)
  simp only [pf] at e
  unfold pIs at e
  split at e
  · cases e
    simp only [Rep] at rb
    refine op_isN pins s σ H x y v u Q I rx ry ⟨rb, ?_⟩
    rw [non_iff ra]
    exact q.bl hs
  · cases e
theorem o_isnot : OpR X (compareOp .IsNot) (r2 X.K .isnotN) := by
  intro pins s σ H x y v u Q I rx ry g
  obtain ⟨Z, m, h, a, b, d, hs, ra, rb, e, q⟩ := r2_of g
  have q : QP X.K Z m h H d Q := by first | exact q | (rw [hf] at q; exact q)
  simp only [pf] at e
  unfold pIs at e
  split at e
  · cases e
    simp only [Rep] at rb
    refine op_notN pins s σ H x y v u Q I rx ry ⟨rb, ?_⟩
    rw [non_iff ra]
    exact q.bl hs
  · cases e
theorem o_neg : UnR X (unaryOp .USub) (fun x H Q => rA X.K .neg [x] H Q) := by
  intro pins s σ H x v Q I rx g
  obtain ⟨Z, m, h, ds, d, hs, r, e, q⟩ := g
  obtain ⟨a, rfl, ra⟩ := one r
  cases a <;> simp only [pf] at e <;> try (cases e)
  have q : QP X.K Z m h H _ Q := q
  simp only [Rep] at ra
  exact un_neg pins s σ H x v Q I rx ⟨_, ra, q.int hs⟩
end
end Dp

set_option Elab.async false
set_option linter.all false
set_option autoImplicit false
set_option maxRecDepth 100000
set_option maxHeartbeats 2000000
namespace Dp
open PySem L2 PySem.Spec PyProof.Rows

section
variable {K : PySem.W.Frag} {Z m : List Addr} {H : Hp} {h : Hs}
theorem sIx_eq (n d : Nat) (o : Option Int) : sIx n d o = HT.sIx n d o := by
  cases o with
  | none => rfl
  | some v =>
    have := HT.clip_eq v n d
    unfold sIx
    simp only
    rw [this]
    simp
theorem cut_eq (xs : List V) (lo hi : Option Int) : cutV xs lo hi = cutD xs lo hi := by
  unfold cutV cutD
  rw [sIx_eq, sIx_eq]
theorem Reps.cut {ds : List D} {vs : List V} (r : Reps K Z m H ds vs) (lo hi : Option Int) : Reps K Z m H (cutD ds lo hi) (cutD vs lo hi) := by
  unfold cutD
  rw [r.len]
  exact (r.drop _).take _
theorem ixD_eq (n : Nat) (i : Int) : ixD n i = ixN n i := rfl
theorem Reps.atD {ds : List D} {vs : List V} {i : Int} {d : D} (r : Reps K Z m H ds vs) (e : Dp.atD ds i = some d) : ∃ v, atI vs i = some v ∧ Rep K Z m H d v := by
  unfold Dp.atD at e
  unfold atI
  rw [← r.len]
  cases q : ixD ds.length i with
  | none => rw [q] at e; cases e
  | some j =>
    rw [q] at e
    simp only [Option.bind_some] at e
    rw [← ixD_eq, q]
    simp only [Option.bind_some]
    exact r.get e
theorem rd_D (s : HS K Z m h H) : ∀ {d : D} {v : V} {ks : List Ky} {ws : List D}, Rep K Z m H d v → dctD h d = some (ks, ws) → ∃ p kvs, v = .ref p ∧ H p = some (.dK kvs) ∧ (kvs.map (·.1)).Nodup ∧ kvs.map (·.1) = ks.map kyK ∧ Reps K Z m H ws (kvs.map (·.2))
  | .dct ks' ws', v, ks, ws, r, e => by
    simp only [dctD, Option.some.injEq, Prod.mk.injEq] at e
    obtain ⟨rfl, rfl⟩ := e
    simp only [Rep] at r
    obtain ⟨p, kvs, rfl, hp, _, _, h0, h1, h2⟩ := r
    exact ⟨p, kvs, rfl, hp, h0, h1, h2⟩
  | .ref n, v, ks, ws, r, e => by
    simp only [dctD] at e
    simp only [Rep] at r
    obtain ⟨p, hp, rfl⟩ := r
    split at e
    · rename_i hn
      cases e
      obtain ⟨kvs, q, h0, h1, h2⟩ := s.ob n _ p hn hp
      exact ⟨p, kvs, rfl, q, h0, h1, h2⟩
    · cases e
  | .non, _, _, _, _, e | .bl _, _, _, _, _, e | .int _, _, _, _, _, e | .str _, _, _, _, _, e | .tup _, _, _, _, _, e | .lst _, _, _, _, _, e | .scr _, _, _, _, _, e | .ty _, _, _, _, _, e | .fn _, _, _, _, _, e => by simp [dctD] at e
theorem kyK_inj {a b : Ky} (e : kyK a = kyK b) : a = b := by
  cases a <;> cases b <;> simp only [kyK] at e
  · cases e; rfl
  · cases e
  · cases e
  · have := Sum.inr.inj e
    rw [tS_inj this]
theorem keyD_rep {d : D} {v : V} {k : Ky} (r : Rep K Z m H d v) (e : keyD d = some k) : v = kV (kyK k) := by
  cases d <;> simp only [keyD] at e <;> try (cases e)
  · simp only [Rep] at r; subst r; rfl
  · simp only [Rep] at r; subst r; rfl
theorem look_rep {k : Ky} : ∀ {ks : List Ky} {ws : List D} {kvs : List (Key × V)} {d : D}, kvs.map (·.1) = ks.map kyK → Reps K Z m H ws (kvs.map (·.2)) → lookK k ks ws = some d → ∃ v, valV kvs (kyK k) = some v ∧ Rep K Z m H d v
  | [], _, _, _, _, _, e => by simp [lookK] at e
  | _ :: _, [], _, _, _, _, e => by simp [lookK] at e
  | k' :: ks, w :: ws, [], _, e1, _, _ => by simp at e1
  | k' :: ks, w :: ws, kv :: kvs, d, e1, r, e => by
    simp only [List.map_cons, List.cons.injEq] at e1
    simp only [List.map_cons, Reps] at r
    obtain ⟨v, q, e2, r1, r2⟩ := r
    simp only [List.cons.injEq] at e2
    obtain ⟨rfl, rfl⟩ := e2
    simp only [lookK] at e
    split at e
    · rename_i hk
      subst hk
      cases e
      exact ⟨kv.2, valV_pos e1.1, r1⟩
    · rename_i hk
      rw [valV_neg (fun z => hk (kyK_inj (by rw [← z, e1.1])))]
      exact look_rep e1.2 r2 e
theorem putK_any {k : Key} : ∀ (kvs : List (Key × V)) (v : V), L2.putK kvs k v = match kvs with
    | [] => [(k, v)]
    | kv :: r => if kv.1 = k then (kv.1, v) :: r.map (fun x => if x.1 = k then (x.1, v) else x) else kv :: L2.putK r k v := by
  intro kvs v
  cases kvs with
  | nil => rfl
  | cons kv r =>
    unfold L2.putK
    by_cases c : kv.1 = k
    · simp [c]
    · simp only [List.any_cons, c, decide_false, Bool.false_or, List.map_cons, if_false]
      split
      · simp
      · simp
/-- keys stand once -/
theorem put_rep {k : Ky} {d : D} {v : V} (rd : Rep K Z m H d v) : ∀ {ks : List Ky} {ws : List D} {kvs : List (Key × V)}, (kvs.map (·.1)).Nodup → kvs.map (·.1) = ks.map kyK → Reps K Z m H ws (kvs.map (·.2)) →
    (L2.putK kvs (kyK k) v).map (·.1) = (putK k d ks ws).1.map kyK ∧ Reps K Z m H (putK k d ks ws).2 ((L2.putK kvs (kyK k) v).map (·.2))
  | [], ws, [], _, e1, r => by
    have : ws = [] := by
      have := r.len
      simpa using this
    subst this
    simp only [putK, putK_any]
    exact ⟨rfl, Reps.cons rd Reps.nil⟩
  | [], _, _ :: _, _, e1, _ => by simp at e1
  | _ :: _, _, [], _, e1, _ => by simp at e1
  | k' :: ks, [], kv :: kvs, _, e1, r => by simp [Reps] at r
  | k' :: ks, w :: ws, kv :: kvs, nd, e1, r => by
    simp only [List.map_cons, List.cons.injEq] at e1
    simp only [List.map_cons, Reps] at r
    obtain ⟨v', q, e2, r1, r2⟩ := r
    simp only [List.cons.injEq] at e2
    obtain ⟨rfl, rfl⟩ := e2
    rw [putK_any]
    simp only [putK]
    by_cases hk : k = k'
    · subst hk
      simp only [e1.1, if_true]
      simp only [List.map_cons, List.nodup_cons] at nd
      have hno : ∀ x ∈ kvs, x.1 ≠ kyK k := fun x hx z => nd.1 (by rw [e1.1, ← z]; exact List.mem_map_of_mem hx)
      have em : kvs.map (fun x => if x.1 = kyK k then (x.1, v) else x) = kvs := by
        conv => rhs; rw [← List.map_id kvs]
        refine List.map_congr_left fun x hx => ?_
        simp [hno x hx]
      rw [em]
      refine ⟨?_, ?_⟩
      · simp [e1.2]
      · simp only [List.map_cons]
        exact Reps.cons rd r2
    · have : ¬ kv.1 = kyK k := fun z => hk (kyK_inj (by rw [← z, e1.1]))
      simp only [if_neg this, if_neg hk]
      simp only [List.map_cons, List.nodup_cons] at nd
      obtain ⟨h1, h2⟩ := put_rep (k := k) rd nd.2 e1.2 r2
      refine ⟨?_, ?_⟩
      · simp [h1, e1.1]
      · simp only [List.map_cons]
        exact Reps.cons r1 h2
end

section
variable {X : Cx} {k : Nat}
theorem ix_dict (hr : Room k X.A) : IxR X (fun x y H Q => ∃ a v, x = .ref a ∧ DGet H a y (some v) ∧ Q v H) := by
  intro value slice pins s σ H x y v u Q I rx ry g hs
  obtain ⟨a, w, rfl, dg, q⟩ := g
  cases rx
  exact tail_any (dict_typeIs I dg) PySem.F.slot_dict_getitem.lookup (d_getItem (by have := hr.un; omega) I dg ry fun w' s3 I3 rw' => ⟨w, H, I3, rw', q⟩) hs
theorem o_idx (hr : Room k X.A) : IxR X (r2 X.K .idx) := by
  intro value slice pins s σ H x y v u Q I rx ry g hsl
  obtain ⟨Z, m, h, a, b, d, hs, ra, rb, e, q⟩ := r2_of g
  have q : QP X.K Z m h H d Q := q
  simp only [pf] at e
  unfold pIdx at e
  split at e
  · rename_i kv hd
    cases e1 : keyD b with
    | none => rw [e1] at e; cases e
    | some k =>
      rw [e1] at e
      simp only [Option.bind_some] at e
      obtain ⟨p, kvs, rfl, hp, _, h1, h2⟩ := rd_D (ks := kv.1) (ws := kv.2) hs ra hd
      obtain ⟨w, hw, rw'⟩ := look_rep h1 h2 e
      have ey := keyD_rep rb e1
      subst ey
      exact ix_dict hr value slice pins s σ H _ _ v u Q I rx ry ⟨p, w, rfl, by rw [← hw]; exact DGet.k hp, q.same hs rw'⟩ hsl
  · split at e
    · rename_i i
      simp only [Rep] at rb
      split at e
      · rename_i t hd
        split at e
        · rename_i hb
          cases e1 : atD t i with
          | none => rw [e1] at e; cases e
          | some c =>
            rw [e1] at e
            cases e
            simp only [Rep] at ra
            refine ix_str value slice pins s σ H x y v u Q I rx ry ⟨tS t, i, c, ra, rb, by rw [tS_len]; exact big_le hb, ?_, q.str hs⟩ hsl
            have : (tS t).cps.toList = t := by simp [tS]
            rw [this]
            exact e1
        · cases e
      · cases e1 : seqA h a with
        | none => rw [e1] at e; cases e
        | some xs =>
          rw [e1] at e
          simp only [Option.bind_some] at e
          obtain ⟨p, vs, rfl, hl, rr⟩ := rd_A hs ra e1
          obtain ⟨w, hw, rw'⟩ := rr.atD e
          rcases hl with hl | hl
          · exact ix_list value slice pins s σ H _ y v u Q I rx ry ⟨p, vs, i, w, rfl, rb, hl, hw, q.same hs rw'⟩ hsl
          · exact ix_tup value slice pins s σ H _ y v u Q I rx ry ⟨p, vs, i, w, rfl, rb, hl, hw, q.same hs rw'⟩ hsl
    · cases e

def rS (K : PySem.W.Frag) : V → Option Int → Option Int → Hp → VK → Prop := fun x lo hi H Q => ∃ Z m h a d, HS K Z m h H ∧ Rep K Z m H a x ∧ pSlc h a lo hi = some d ∧ QF K Z m h H d Q
theorem o_slc : SlR X (rS X.K) := by
  intro pins s σ H x v vl vu lo hi sl Q I rx hsl pl pu g
  obtain ⟨Z, m, h, a, d, hs, ra, e, q⟩ := g
  unfold pSlc at e
  split at e
  · split at e
    · rename_i t hb
      cases e
      simp only [Rep] at ra
      refine sl_str pins s σ H x v vl vu lo hi sl Q I rx hsl pl pu ⟨tS t, ra, by rw [tS_len]; exact big_le hb, ?_⟩
      have : cutS (tS t) lo hi = tS (cutD t lo hi) := by
        unfold cutS cutD
        rw [sIx_eq, sIx_eq, tS_len]
        simp [tS]
      rw [this]
      exact q.str hs
    · cases e
  · rename_i ds
    cases e
    simp only [Rep] at ra
    obtain ⟨p, vs, rfl, hp, rr⟩ := ra
    refine sl_tupA pins s σ H _ v vl vu lo hi sl Q I rx hsl pl pu ⟨p, vs, rfl, hp, fun hw => ?_, fun hw p' hp' => ?_⟩
    · refine QP.same q hs ?_
      simp only [Rep]
      refine ⟨p, vs, rfl, hp, ?_⟩
      have : cutD ds lo hi = ds := by
        unfold cutD
        rw [sIx_eq, sIx_eq, rr.len, hw.1, hw.2]
        simp [← rr.len]
      rw [this]
      exact rr
    · rw [cut_eq]
      exact q.tup hs (rr.cut lo hi) hp'
  · cases e1 : seqL h a with
    | none => rw [e1] at e; cases e
    | some ds =>
      rw [e1] at e
      cases e
      obtain ⟨p, vs, rfl, hp, rr⟩ := rd_L hs ra e1
      refine sl_list pins s σ H _ v vl vu lo hi sl Q I rx hsl pl pu ⟨p, vs, rfl, hp, fun p' hp' => ?_⟩
      rw [cut_eq]
      exact q p' _ hp' (rr.cut lo hi)

theorem rA1 {K : PySem.W.Frag} {H : Hp} {p : P} {xs : List V} {Q : VK} (g : rA K p xs H Q) : ∃ Z m h ds d, HS K Z m h H ∧ Reps K Z m H ds xs ∧ pf h p ds = some d ∧ QX K Z m h H d Q (isF p) := g
theorem len1 {h : Hs} {p : P} {ds : List D} {d : D} (hp : ∀ h, pf h p [] = none) (hp2 : ∀ h a b r, pf h p (a :: b :: r) = none) (e : pf h p ds = some d) : ∃ a, ds = [a] := by
  match ds, e with
  | [], e => rw [hp] at e; cases e
  | [a], _ => exact ⟨a, rfl⟩
  | a :: b :: r, e => rw [hp2] at e; cases e
theorem len2 {h : Hs} {p : P} {ds : List D} {d : D} (hp : ∀ h, pf h p [] = none) (hp1 : ∀ h a, pf h p [a] = none) (hp2 : ∀ h a b c r, pf h p (a :: b :: c :: r) = none) (e : pf h p ds = some d) : ∃ a b, ds = [a, b] := by
  match ds, e with
  | [], e => rw [hp] at e; cases e
  | [a], e => rw [hp1] at e; cases e
  | [a, b], _ => exact ⟨a, b, rfl⟩
  | a :: b :: c :: r, e => rw [hp2] at e; cases e
theorem reps1 {K : PySem.W.Frag} {Z m : List Addr} {H : Hp} {a : D} {xs : List V} (r : Reps K Z m H [a] xs) : ∃ x, xs = [x] ∧ Rep K Z m H a x := by
  simp only [Reps] at r
  obtain ⟨v, q, rfl, h1, rfl⟩ := r
  exact ⟨v, rfl, h1⟩
theorem reps2 {K : PySem.W.Frag} {Z m : List Addr} {H : Hp} {a b : D} {xs : List V} (r : Reps K Z m H [a, b] xs) : ∃ x y, xs = [x, y] ∧ Rep K Z m H a x ∧ Rep K Z m H b y := by
  simp only [Reps] at r
  obtain ⟨v, q, rfl, h1, w, q', rfl, h2, rfl⟩ := r
  exact ⟨v, w, rfl, h1, h2⟩
theorem c_len : CallR X (.builtin "len") (rA X.K .len) := by
  intro pins s σ H xs us Q I r g
  obtain ⟨Z, m, h, ds, d, hs, rr, e, q⟩ := g
  obtain ⟨a, rfl⟩ := len1 (fun _ => rfl) (fun _ _ _ _ => rfl) e
  obtain ⟨x, rfl, ra⟩ := reps1 rr
  have q : QP X.K Z m h H d Q := q
  simp only [pf] at e
  unfold pLen at e
  split at e
  · split at e
    · rename_i t hb
      cases e
      simp only [Rep] at ra
      refine call_len_str pins s σ H _ us Q I r ⟨tS t, by rw [ra], by rw [tS_len]; exact big_le hb, ?_⟩
      rw [tS_len]
      exact q.int hs
    · cases e
  · split at e
    · rename_i kv hd
      cases e
      obtain ⟨p, kvs, rfl, hp, _, h1, _⟩ := rd_D (ks := kv.1) (ws := kv.2) hs ra hd
      refine call_lenD pins s σ H _ us Q I r ⟨p, kvs, rfl, hp, ?_⟩
      have : kvs.length = kv.1.length := by
        have := congrArg List.length h1
        simpa using this
      rw [this]
      exact q.int hs
    · cases e1 : seqA h a with
      | none => rw [e1] at e; cases e
      | some ds =>
        rw [e1] at e
        cases e
        obtain ⟨p, vs, rfl, hl, rr⟩ := rd_A hs ra e1
        refine call_len_seq pins s σ H _ us Q I r ⟨p, vs, rfl, hl, ?_⟩
        rw [← rr.len]
        exact q.int hs
theorem c_tuple : CallR X (.type "tuple") (rA X.K .toTuple) := by
  intro pins s σ H xs us Q I r g
  obtain ⟨Z, m, h, ds, d, hs, rr, e, q⟩ := g
  obtain ⟨a, rfl⟩ := len1 (fun _ => rfl) (fun _ _ _ _ => rfl) e
  obtain ⟨x, rfl, ra⟩ := reps1 rr
  have q : QP X.K Z m h H d Q := q
  simp only [pf, pTuple] at e
  cases e1 : seqA h a with
  | none => rw [e1] at e; cases e
  | some ds =>
    rw [e1] at e
    cases e
    obtain ⟨p, vs, rfl, hl, rr⟩ := rd_A hs ra e1
    refine call_tuple_of pins s σ H _ us Q I r ⟨p, vs, rfl, ?_⟩
    rcases hl with hl | hl
    · exact .inl ⟨hl, fun l hl' => q.tup hs rr hl'⟩
    · refine .inr ⟨hl, q.same hs ?_⟩
      simp only [Rep]
      exact ⟨p, vs, rfl, hl, rr⟩
theorem reps_signs {K : PySem.W.Frag} {Z m : List Addr} {H : Hp} : ∀ t : List Nat, Reps K Z m H (t.map fun c => D.str [c]) (t.map fun c => V.str (tS [c]))
  | [] => by simp [Reps]
  | c :: t => Reps.cons (by simp [Rep]) (reps_signs t)
theorem c_list (hc : X.calm = true) : CallR X (.type "list") (rA X.K .toList) := by
  intro pins s σ H xs us Q I r g
  obtain ⟨Z, m, h, ds, d, hs, rr, e, q⟩ := g
  obtain ⟨a, rfl⟩ := len1 (fun _ => rfl) (fun _ _ _ _ => rfl) e
  obtain ⟨x, rfl, ra⟩ := reps1 rr
  have q : QF X.K Z m h H d Q := q
  simp only [pf] at e
  unfold pList at e
  split at e
  · split at e
    · rename_i t hb
      cases e
      simp only [Rep] at ra
      subst ra
      obtain ⟨u, rfl, ru⟩ := vals1 r
      obtain ⟨tk, rfl⟩ := ru
      refine call_list_str (I.ok.hd hc) (tS t) tk (hn := by show (tS t).length ≤ sizeLine; rw [tS_len]; exact big_le hb) fun h' tk' acc' c' hk hS' hacc => ?_
      have hv : Vals (t.map fun c => V.str (tS [c])) acc'.toList := by
        refine vals_of_at ?_ fun j x u h1 h2 => ?_
        · have e1 : acc'.toList.length = t.length := by simpa [tS] using hacc.1
          rw [List.length_map, e1]
        · obtain ⟨c, u', hc', rfl⟩ := hacc.2 j u (by simpa using h2)
          rw [List.getElem?_map] at h1
          have hc2 : t[j]? = some c := by simpa [tS] using hc'
          rw [hc2] at h1
          cases h1
          exact ⟨u', rfl⟩
      refine ⟨.ref s.heap.objs.size, upd H s.heap.objs.size (.lst (t.map fun c => V.str (tS [c]))), I.laid (fun b o e => hk b o e) (Nat.le_refl _) ⟨by rw [List.length_map]; exact big_le hb, acc'.toList, c', hv, by simpa using hS'⟩, rfl, ?_⟩
      exact q _ _ (I.hok.fresh (Nat.le_refl _)) (reps_signs t)
    · cases e
  · cases e1 : seqA h a with
    | none => rw [e1] at e; cases e
    | some ds =>
      rw [e1] at e
      cases e
      obtain ⟨p, vs, rfl, hl, rr⟩ := rd_A hs ra e1
      exact call_list_of pins s σ H _ us Q I r ⟨p, vs, rfl, hl, fun l hl' => q _ _ hl' rr⟩
theorem c_int : CallR X (.type "int") (rA X.K .toInt) := by
  intro pins s σ H xs us Q I r g
  obtain ⟨Z, m, h, ds, d, hs, rr, e, q⟩ := g
  obtain ⟨a, rfl⟩ := len1 (fun _ => rfl) (fun _ _ _ _ => rfl) e
  obtain ⟨x, rfl, ra⟩ := reps1 rr
  have q : QP X.K Z m h H d Q := q
  simp only [pf] at e
  unfold pToInt at e
  split at e
  · cases e
    simp only [Rep] at ra
    exact call_int1 pins s σ H _ us Q I r (.inl ⟨_, by rw [ra], q.int hs⟩)
  · cases e
    simp only [Rep] at ra
    exact call_int1 pins s σ H _ us Q I r (.inr ⟨_, by rw [ra], q.int hs⟩)
  · cases e
theorem tyx {K : PySem.W.Frag} {Z m : List Addr} {H : Hp} {h : Hs} (hs : HS K Z m h H) {a : D} {x : V} {u : String} (r : Rep K Z m H a x) (e : tyD h a = some u) : TyX K H x (.type u) := by
  cases a <;> simp only [tyD] at e <;> try (cases e)
  · simp only [Rep] at r; subst r; exact .base .non
  · simp only [Rep] at r; subst r; exact .base (.bl _)
  · simp only [Rep] at r; subst r; exact .base (.int _)
  · simp only [Rep] at r; subst r; exact .base (.str _)
  · simp only [Rep] at r
    obtain ⟨p, vs, rfl, hp, _⟩ := r
    rcases hp with (hp | ⟨o, hp⟩) | ⟨o, its, n, hp, hc, _⟩
    · exact .base (.tup hp)
    · exact .fTuple hp
    · exact .kTuple hp hc
  · simp only [Rep] at r
    obtain ⟨p, vs, rfl, hp, _⟩ := r
    exact .base (.lst hp)
  · simp only [Rep] at r
    obtain ⟨p, vs, rfl, hp, _⟩ := r
    exact .base (.dK hp)
  · rename_i n
    simp only [Rep] at r
    obtain ⟨p, hp, rfl⟩ := r
    split at e
    · rename_i hn
      cases e
      obtain ⟨vs, hv, _⟩ := hs.ob n _ p hn hp
      exact .base (.lst hv)
    · rename_i hn
      cases e
      obtain ⟨vs, hv, _⟩ := hs.ob n _ p hn hp
      exact .base (.dK hv)
    · cases e
theorem tyD_in {h : Hs} {a : D} {u : String} (e : tyD h a = some u) : u ∈ ["NoneType", "bool", "int", "str", "tuple", "list", "dict"] := by
  cases a <;> simp only [tyD] at e <;> first | (cases e; simp) | (split at e <;> first | (cases e; simp) | cases e) | cases e
theorem kit_all : ∀ u ∈ ["NoneType", "bool", "int", "str", "tuple", "list", "dict"], ∀ t ∈ ["int", "bool", "str", "tuple", "list", "dict"], kitB u t = some (isTy u t) := by decide +kernel
theorem c_isi : CallR X (.builtin "isinstance") (rA X.K .isinst) := by
  intro pins s σ H xs us Q I r g
  obtain ⟨Z, m, h, ds, d, hs, rr, e, q⟩ := g
  obtain ⟨a, b, rfl⟩ := len2 (fun _ => rfl) (fun _ _ => rfl) (fun _ _ _ _ _ => rfl) e
  obtain ⟨x, y, rfl, ra, rb⟩ := reps2 rr
  have q : QP X.K Z m h H d Q := q
  simp only [pf] at e
  unfold pIsi at e
  split at e
  · rename_i t
    simp only [Rep] at rb
    cases e1 : tyD h a with
    | none => rw [e1] at e; cases e
    | some u =>
      rw [e1] at e
      simp only [Option.bind_some] at e
      split at e
      · rename_i ht
        cases e
        refine call_isi pins s σ H _ us Q I r ⟨x, y, .type u, .type t, isTy u t, rfl, by rw [rb]; exact .ty t, tyx hs ra e1, ?_, q.bl hs⟩
        exact kit_ty (kit_all u (tyD_in e1) t (by simpa using ht))
      · cases e
  · cases e
theorem c_min2 (hc : X.calm = true) : CallR X (.builtin "min") (rA X.K .min2) := by
  intro pins s σ H xs us Q I r g
  obtain ⟨Z, m, h, ds, d, hs, rr, e, q⟩ := g
  obtain ⟨a, b, rfl⟩ := len2 (fun _ => rfl) (fun _ _ => rfl) (fun _ _ _ _ _ => rfl) e
  obtain ⟨x, y, rfl, ra, rb⟩ := reps2 rr
  have q : QP X.K Z m h H d Q := q
  simp only [pf] at e
  unfold pInt2 at e
  split at e
  · cases e
    simp only [Rep] at ra rb
    exact call_min2 hc pins s σ H _ us Q I r ⟨_, _, by rw [ra, rb], q.int hs⟩
  · cases e
theorem c_max2 (hc : X.calm = true) : CallR X (.builtin "max") (rA X.K .max2) := by
  intro pins s σ H xs us Q I r g
  obtain ⟨Z, m, h, ds, d, hs, rr, e, q⟩ := g
  obtain ⟨a, b, rfl⟩ := len2 (fun _ => rfl) (fun _ _ => rfl) (fun _ _ _ _ _ => rfl) e
  obtain ⟨x, y, rfl, ra, rb⟩ := reps2 rr
  have q : QP X.K Z m h H d Q := q
  simp only [pf] at e
  unfold pInt2 at e
  split at e
  · cases e
    simp only [Rep] at ra rb
    exact call_max2 hc pins s σ H _ us Q I r ⟨_, _, by rw [ra, rb], q.int hs⟩
  · cases e
theorem minI_is (r : List Int) : ∀ n : Int, ∀ k, (k = n ∨ k ∈ r) → (∀ y, (y = n ∨ y ∈ r) → k ≤ y) → k = minI n r := by
  induction r with
  | nil => intro n k h1 h2; simpa [minI] using h1
  | cons x r ih =>
    intro n k h1 h2
    simp only [minI]
    refine ih _ k ?_ ?_
    · rcases h1 with h1 | h1
      · subst h1
        left
        have := h2 x (by simp)
        split <;> omega
      · rcases List.mem_cons.mp h1 with h1 | h1
        · subst h1
          left
          have := h2 n (by simp)
          split <;> omega
        · exact .inr h1
    · intro y hy
      rcases hy with hy | hy
      · subst hy
        split
        · exact h2 x (by simp)
        · exact h2 n (by simp)
      · exact h2 y (by simp [hy])
theorem maxI_is (r : List Int) : ∀ n : Int, ∀ k, (k = n ∨ k ∈ r) → (∀ y, (y = n ∨ y ∈ r) → y ≤ k) → k = maxI n r := by
  induction r with
  | nil => intro n k h1 h2; simpa [maxI] using h1
  | cons x r ih =>
    intro n k h1 h2
    simp only [maxI]
    refine ih _ k ?_ ?_
    · rcases h1 with h1 | h1
      · subst h1
        left
        have := h2 x (by simp)
        split <;> omega
      · rcases List.mem_cons.mp h1 with h1 | h1
        · subst h1
          left
          have := h2 n (by simp)
          split <;> omega
        · exact .inr h1
    · intro y hy
      rcases hy with hy | hy
      · subst hy
        split
        · exact h2 x (by simp)
        · exact h2 n (by simp)
      · exact h2 y (by simp [hy])
theorem c_minL (hc : X.calm = true) : CallR X (.builtin "min") (rA X.K .minL) := by
  intro pins s σ H xs us Q I r g
  obtain ⟨Z, m, h, ds, d, hs, rr, e, q⟩ := g
  obtain ⟨a, rfl⟩ := len1 (fun _ => rfl) (fun _ _ _ _ => rfl) e
  obtain ⟨x, rfl, ra⟩ := reps1 rr
  have q : QP X.K Z m h H d Q := q
  simp only [pf, pIntL] at e
  cases e1 : seqL h a with
  | none => rw [e1] at e; cases e
  | some ds =>
    rw [e1] at e
    simp only [Option.bind_some] at e
    cases e2 : intsD ds with
    | none => rw [e2] at e; cases e
    | some ns =>
      rw [e2] at e
      simp only [Option.bind_some] at e
      obtain ⟨p, vs, rfl, hl, rr⟩ := rd_L hs ra e1
      have := rr.ints e2
      subst this
      match ns, e with
      | n :: t, e =>
        cases e
        refine cr_min hc pins s σ H _ us Q I r ⟨p, n :: t, rfl, hl, by simp, fun k h1 h2 => ?_⟩
        rw [minI_is t n k (by simpa using h1) (fun y hy => h2 y (by simpa using hy))]
        exact q.int hs
theorem c_maxL (hc : X.calm = true) : CallR X (.builtin "max") (rA X.K .maxL) := by
  intro pins s σ H xs us Q I r g
  obtain ⟨Z, m, h, ds, d, hs, rr, e, q⟩ := g
  obtain ⟨a, rfl⟩ := len1 (fun _ => rfl) (fun _ _ _ _ => rfl) e
  obtain ⟨x, rfl, ra⟩ := reps1 rr
  have q : QP X.K Z m h H d Q := q
  simp only [pf, pIntL] at e
  cases e1 : seqL h a with
  | none => rw [e1] at e; cases e
  | some ds =>
    rw [e1] at e
    simp only [Option.bind_some] at e
    cases e2 : intsD ds with
    | none => rw [e2] at e; cases e
    | some ns =>
      rw [e2] at e
      simp only [Option.bind_some] at e
      obtain ⟨p, vs, rfl, hl, rr⟩ := rd_L hs ra e1
      have := rr.ints e2
      subst this
      match ns, e with
      | n :: t, e =>
        cases e
        refine cr_max hc pins s σ H _ us Q I r ⟨p, n :: t, rfl, hl, by simp, fun k h1 h2 => ?_⟩
        rw [maxI_is t n k (by simpa using h1) (fun y hy => h2 y (by simpa using hy))]
        exact q.int hs
theorem c_sum (hc : X.calm = true) : CallR X (.builtin "sum") (rA X.K .sumL) := by
  intro pins s σ H xs us Q I r g
  obtain ⟨Z, m, h, ds, d, hs, rr, e, q⟩ := g
  obtain ⟨a, rfl⟩ := len1 (fun _ => rfl) (fun _ _ _ _ => rfl) e
  obtain ⟨x, rfl, ra⟩ := reps1 rr
  have q : QP X.K Z m h H d Q := q
  simp only [pf, pSum] at e
  cases e1 : seqL h a with
  | none => rw [e1] at e; cases e
  | some ds =>
    rw [e1] at e
    simp only [Option.bind_some] at e
    cases e2 : intsD ds with
    | none => rw [e2] at e; cases e
    | some ns =>
      rw [e2] at e
      cases e
      obtain ⟨p, vs, rfl, hl, rr⟩ := rd_L hs ra e1
      have := rr.ints e2
      subst this
      exact cr_sum hc pins s σ H _ us Q I r ⟨p, ns, rfl, hl, q.int hs⟩
theorem c_any (hc : X.calm = true) : CallR X (.builtin "any") (rA X.K .anyL) := by
  intro pins s σ H xs us Q I r g
  obtain ⟨Z, m, h, ds, d, hs, rr, e, q⟩ := g
  obtain ⟨a, rfl⟩ := len1 (fun _ => rfl) (fun _ _ _ _ => rfl) e
  obtain ⟨x, rfl, ra⟩ := reps1 rr
  have q : QP X.K Z m h H d Q := q
  simp only [pf, pBls] at e
  cases e1 : seqO h a with
  | none => rw [e1] at e; cases e
  | some ds =>
    rw [e1] at e
    simp only [Option.bind_some] at e
    cases e2 : blsD ds with
    | none => rw [e2] at e; cases e
    | some ns =>
      rw [e2] at e
      cases e
      obtain ⟨p, vs, rfl, hl, rr⟩ := rd_O hs ra e1
      have := rr.bls e2
      subst this
      exact cr_any hc pins s σ H _ us Q I r ⟨p, ns, rfl, SqL.of hl, q.bl hs⟩
theorem c_all (hc : X.calm = true) : CallR X (.builtin "all") (rA X.K .allL) := by
  intro pins s σ H xs us Q I r g
  obtain ⟨Z, m, h, ds, d, hs, rr, e, q⟩ := g
  obtain ⟨a, rfl⟩ := len1 (fun _ => rfl) (fun _ _ _ _ => rfl) e
  obtain ⟨x, rfl, ra⟩ := reps1 rr
  have q : QP X.K Z m h H d Q := q
  simp only [pf, pBls] at e
  cases e1 : seqO h a with
  | none => rw [e1] at e; cases e
  | some ds =>
    rw [e1] at e
    simp only [Option.bind_some] at e
    cases e2 : blsD ds with
    | none => rw [e2] at e; cases e
    | some ns =>
      rw [e2] at e
      cases e
      obtain ⟨p, vs, rfl, hl, rr⟩ := rd_O hs ra e1
      have := rr.bls e2
      subst this
      exact cr_all hc pins s σ H _ us Q I r ⟨p, ns, rfl, SqL.of hl, q.bl hs⟩
theorem insI_perm (x : Int) : ∀ l, (insI x l).Perm (x :: l)
  | [] => .refl _
  | y :: r => by
    unfold insI
    split
    · exact .refl _
    · exact ((insI_perm x r).cons y).trans (.swap x y r)
theorem srtI_perm : ∀ l, (srtI l).Perm l
  | [] => .refl _
  | x :: r => (insI_perm x _).trans ((srtI_perm r).cons x)
theorem insI_srt (x : Int) : ∀ l, l.Pairwise (· ≤ ·) → (insI x l).Pairwise (· ≤ ·)
  | [], _ => by simp [insI]
  | y :: r, h => by
    unfold insI
    split
    · rename_i hxy
      refine List.pairwise_cons.mpr ⟨fun z hz => ?_, h⟩
      rcases List.mem_cons.mp hz with rfl | hz
      · exact hxy
      · exact Int.le_trans hxy ((List.pairwise_cons.mp h).1 z hz)
    · rename_i hxy
      refine List.pairwise_cons.mpr ⟨fun z hz => ?_, insI_srt x r (List.pairwise_cons.mp h).2⟩
      rcases List.mem_cons.mp ((insI_perm x r).mem_iff.mp hz) with rfl | hz
      · omega
      · exact (List.pairwise_cons.mp h).1 z hz
theorem srtI_srt : ∀ l, (srtI l).Pairwise (· ≤ ·)
  | [] => .nil
  | x :: r => insI_srt x _ (srtI_srt r)
theorem srt_uniq {a b : List Int} (p : a.Perm b) (ha : a.Pairwise (· ≤ ·)) (hb : b.Pairwise (· ≤ ·)) : a = b :=
  p.eq_of_pairwise (fun x y _ _ h1 h2 => Int.le_antisymm h1 h2) ha hb
theorem c_sorted : CallR X (.builtin "sorted") (rA X.K .sorted) := by
  intro pins s σ H xs us Q I r g
  obtain ⟨Z, m, h, ds, d, hs, rr, e, q⟩ := g
  obtain ⟨a, rfl⟩ := len1 (fun _ => rfl) (fun _ _ _ _ => rfl) e
  obtain ⟨x, rfl, ra⟩ := reps1 rr
  have q : QF X.K Z m h H d Q := q
  simp only [pf, pSrt] at e
  cases e1 : seqL h a with
  | none => rw [e1] at e; cases e
  | some ds =>
    rw [e1] at e
    simp only [Option.bind_some] at e
    cases e2 : intsD ds with
    | none => rw [e2] at e; cases e
    | some ns =>
      rw [e2] at e
      simp only [Option.bind_some] at e
      split at e
      · rename_i h64
        cases e
        obtain ⟨p, vs, rfl, hl, rr⟩ := rd_L hs ra e1
        have := rr.ints e2
        subst this
        refine cr_sorted pins s σ H _ us Q I r ⟨p, ns, rfl, hl, h64, fun ns' p' h1 h2 h3 => ?_⟩
        rw [srt_uniq (h1.trans (srtI_perm ns).symm) h2 (srtI_srt ns)]
        exact q p' _ h3 (Reps.ofInts _)
      · cases e
end
end Dp

set_option Elab.async false
set_option linter.all false
set_option autoImplicit false
set_option maxRecDepth 100000
set_option maxHeartbeats 2000000
namespace Dp
open PySem L2 PySem.Spec PyProof.Rows

section
variable {K : PySem.W.Frag} {Z m : List Addr} {H : Hp} {h : Hs}
theorem truth_rep (hs : HS K Z m h H) {d : D} {x : V} {b : Bool} (r : Rep K Z m H d x) (e : truth h d = some b) : TruV K x H b := by
  unfold truth at e
  split at e
  · cases e; simp only [Rep] at r; subst r; rfl
  · cases e; simp only [Rep] at r; subst r; rfl
  · cases e; simp only [Rep] at r; subst r; rfl
  · split at e
    · rename_i t hb
      cases e; simp only [Rep] at r; subst r
      refine ⟨by rw [tS_len]; exact big_le hb, ?_⟩
      rw [tS_len]
      cases t with
      | nil => rfl
      | cons c t =>
        simp only [List.isEmpty_cons, List.length_cons, Bool.not_false]
        symm
        rw [bne_iff_ne]
        omega
    · cases e
  · cases e
    rename_i ds
    simp only [Rep] at r
    obtain ⟨p, vs, rfl, hp, rr⟩ := r
    refine .inr (.inl ⟨vs, hp, ?_⟩)
    have := rr.len
    cases ds <;> cases vs <;> simp_all
  · cases e1 : seqO h d with
    | none => rw [e1] at e; cases e
    | some ds =>
      rw [e1] at e
      cases e
      obtain ⟨p, vs, rfl, hp, rr⟩ := rd_O hs r e1
      refine .inl ⟨vs, SqL.of hp, ?_⟩
      have := rr.len
      cases ds <;> cases vs <;> simp_all

def QW (K : PySem.W.Frag) (Z m : List Addr) (H : Hp) (d : D) (h' : Hs) (Q : VK) : Prop := ∀ m' v H', Ext m H m' H' → HS K Z m' h' H' → Rep K Z m' H' d v → Q v H'
def rW (K : PySem.W.Frag) (w : Wr) : V → List V → Hp → VK → Prop := fun x xs H Q => ∃ Z m h ds d h', HS K Z m h H ∧ Reps K Z m H ds (x :: xs) ∧ pw h w ds = some (d, h') ∧ QW K Z m H d h' Q
/-- a list is written -/
theorem QW.wr {d : D} {n : Nat} {p : Addr} {ds : List D} {vs : List V} {v : V} {Q : VK} (q : QW K Z m H d (h.set n (.lst ds)) Q) (s : HS K Z m h H) (hp : m[n]? = some p) (r : Reps K Z m H ds vs) (rv : Rep K Z m H d v) : Q v (upd H p (.lst vs)) := by
  have E := Ext.write (o := .lst vs) s (List.mem_of_getElem? hp)
  exact q m v _ E (s.write hp ⟨vs, upd_same, r.mono E⟩) (rv.mono E)
end
section
variable {X : Cx} {k : Nat}
theorem joinL_eq (t : List Nat) : ∀ ys, TL.joinL t ys = joinT t ys
  | [] => rfl
  | [_] => rfl
  | y :: z :: r => by simp only [TL.joinL, joinT]; rw [joinL_eq t (z :: r)]
theorem m_join : MtR X "str.join" (fun x xs H Q => rA X.K .join (x :: xs) H Q) := by
  intro pins s σ H x xs v us Q I rx rs g
  obtain ⟨Z, m, h, ds, d, hs, rr, e, q⟩ := g
  obtain ⟨a, b, rfl⟩ := len2 (fun _ => rfl) (fun _ _ => rfl) (fun _ _ _ _ _ => rfl) e
  obtain ⟨x', y, ex, ra, rb⟩ := reps2 rr
  cases ex
  have q : QP X.K Z m h H d Q := q
  simp only [pf] at e
  unfold pJoin at e
  split at e
  · rename_i t
    cases e1 : seqA h b with
    | none => rw [e1] at e; cases e
    | some ds =>
      rw [e1] at e
      simp only [Option.bind_some] at e
      cases e2 : strsD ds with
      | none => rw [e2] at e; cases e
      | some ys =>
        rw [e2] at e
        simp only [Option.bind_some] at e
        split at e
        · rename_i hb
          cases e
          simp only [Rep] at ra
          obtain ⟨p, vs, rfl, hl, rr⟩ := rd_A hs rb e1
          have := rr.strs e2
          subst this
          simp only [Bool.and_eq_true, decide_eq_true_eq, List.all_eq_true] at hb
          refine mt_join pins s σ H x _ v us Q I rx rs ⟨tS t, p, ys.map tS, ra, rfl, hl, ?_, ?_⟩
          · have h1 : ((ys.map tS).map (·.length)).sum ≤ 1000 * ys.length := by
              have : ∀ l : List (List Nat), (∀ y ∈ l, y.length ≤ 1000) → ((l.map tS).map (·.length)).sum ≤ 1000 * l.length := by
                intro l
                induction l with
                | nil => intro _; simp
                | cons y l ih =>
                  intro hl
                  have h1 := hl y (by simp)
                  have h2 := ih fun z hz => hl z (by simp [hz])
                  simp only [List.map_cons, List.sum_cons, List.length_cons, tS_len]
                  omega
              exact this ys hb.2
            rw [List.length_map, tS_len]
            have h2 : ys.length * t.length ≤ 1000 * 1000 := Nat.mul_le_mul hb.1.1 hb.1.2
            omega
          · have : Txt.join (tS t) (ys.map tS) = tS (joinT t ys) := by
              have e3 := SX.join_S t ys
              have e4 : TL.joinL t ys = joinT t ys := joinL_eq t ys
              rw [e4] at e3
              exact e3
            rw [this]
            exact q.str hs
        · cases e
  · cases e
theorem m_append : MtM X "list.append" (rW X.K .append) := by
  intro pins s σ H x xs v us Q I rx rs g
  obtain ⟨Z, m, h, ds, d, h', hs, rr, e, q⟩ := g
  unfold pw at e
  split at e
  · rename_i n a he
    split at e
    · rename_i ds hn
      split at e
      · rename_i hb
        cases e
        obtain ⟨x', y, ex, ra, rb⟩ := reps2 rr
        cases ex
        simp only [Rep] at ra
        obtain ⟨p, hp, rfl⟩ := ra
        obtain ⟨vs, hv, rv⟩ := hs.ob n _ p hn hp
        refine mt_append pins s σ H _ _ v us Q I rx rs ⟨p, vs, y, rfl, rfl, hv, by rw [← rv.len]; exact big_lt hb, ?_⟩
        exact q.wr hs hp (rv.append (Reps.cons rb Reps.nil)) (by simp [Rep])
      · cases e
    · cases e
  all_goals first | contradiction | cases e
theorem m_extend : MtM X "list.extend" (rW X.K .extend) := by
  intro pins s σ H x xs v us Q I rx rs g
  obtain ⟨Z, m, h, ds, d, h', hs, rr, e, q⟩ := g
  unfold pw at e
  split at e
  all_goals first | contradiction | skip
  · rename_i n a he
    split at e
    · rename_i ds hn
      cases e1 : seqO h a with
      | none => rw [e1] at e; cases e
      | some es =>
        rw [e1] at e
        simp only [Option.bind_some] at e
        split at e
        · rename_i hb
          cases e
          obtain ⟨x', y, ex, ra, rb⟩ := reps2 rr
          cases ex
          simp only [Rep] at ra
          obtain ⟨p, hp, rfl⟩ := ra
          obtain ⟨vs, hv, rv⟩ := hs.ob n _ p hn hp
          obtain ⟨p2, ws, rfl, hw, rw'⟩ := rd_O hs rb e1
          refine mt_extend pins s σ H _ _ v us Q I rx rs ⟨p, p2, vs, ws, rfl, rfl, hv, hw, by rw [← rv.len, ← rw'.len]; exact big_le hb, ?_⟩
          exact q.wr hs hp (rv.append rw') (by simp [Rep])
        · cases e
    · cases e
theorem m_pop0 : MtM X "list.pop" (rW X.K .pop0) := by
  intro pins s σ H x xs v us Q I rx rs g
  obtain ⟨Z, m, h, ds, d, h', hs, rr, e, q⟩ := g
  unfold pw at e
  split at e
  all_goals first | contradiction | skip
  · rename_i n he
    split at e
    · rename_i ds hn
      cases e1 : ds[ds.length - 1]? with
      | none => rw [e1] at e; cases e
      | some c =>
        rw [e1] at e
        cases e
        obtain ⟨x', ex, ra⟩ := reps1 rr
        cases ex
        simp only [Rep] at ra
        obtain ⟨p, hp, rfl⟩ := ra
        obtain ⟨vs, hv, rv⟩ := hs.ob n _ p hn hp
        obtain ⟨y, hy, ry⟩ := rv.get e1
        refine mt_pop pins s σ H _ _ v us Q I rx rs ⟨p, vs, y, rfl, rfl, hv, by rw [← rv.len]; exact hy, ?_⟩
        exact q.wr hs hp rv.dropLast ry
    · cases e
theorem m_popI : MtM X "list.pop" (rW X.K .popI) := by
  intro pins s σ H x xs v us Q I rx rs g
  obtain ⟨Z, m, h, ds, d, h', hs, rr, e, q⟩ := g
  unfold pw at e
  split at e
  all_goals first | contradiction | skip
  · rename_i n i he
    split at e
    · rename_i ds hn
      cases e0 : ixD ds.length i with
      | none => rw [e0] at e; cases e
      | some j =>
        rw [e0] at e
        simp only [Option.bind_some] at e
        cases e1 : ds[j]? with
        | none => rw [e1] at e; cases e
        | some c =>
          rw [e1] at e
          cases e
          obtain ⟨x', y, ex, ra, rb⟩ := reps2 rr
          cases ex
          simp only [Rep] at ra rb
          obtain ⟨p, hp, rfl⟩ := ra
          obtain ⟨vs, hv, rv⟩ := hs.ob n _ p hn hp
          obtain ⟨y, hy, ry⟩ := rv.get e1
          obtain ⟨hL, _⟩ := I.lst hv
          have e0' : ixN vs.length i = some j := by rw [← rv.len]; exact e0
          have hseq := ixN_seq e0'
          have hsz : (vs.length : Int) ≤ 16777216 := by
            have := hL
            have := sizeLine_eq
            omega
          refine mt_popAt pins s σ H _ _ v us Q I rx rs ⟨p, vs, i, j, y, rfl, by rw [rb], hv, by omega, by omega, hseq.1, hy, ?_⟩
          exact q.wr hs hp (rv.eraseIdx j) ry
    · cases e
theorem nodup_put {κ : Type} [DecidableEq κ] (k : κ) (v : V) (kvs : List (κ × V)) (h : (kvs.map (·.1)).Nodup) : ((L2.putK kvs k v).map (·.1)).Nodup := by
  unfold L2.putK
  split
  · have : (kvs.map (fun kv => if kv.1 = k then (kv.1, v) else kv)).map (·.1) = kvs.map (·.1) := by
      rw [List.map_map]
      refine List.map_congr_left fun x _ => ?_
      simp only [Function.comp]
      split <;> rfl
    rw [this]
    exact h
  · rename_i hn
    rw [List.map_append]
    refine List.nodup_append.mpr ⟨h, by simp, fun a ha b hb => ?_⟩
    have : b = k := by simpa using hb
    subst this
    obtain ⟨kv, hkv, rfl⟩ := List.mem_map.mp ha
    intro z
    exact hn (List.any_eq_true.mpr ⟨kv, hkv, by simp [z]⟩)
def rSet (K : PySem.W.Frag) : TSet := fun o i v H Q => ∃ Z m h a b c d h', HS K Z m h H ∧ Rep K Z m H a o ∧ Rep K Z m H b i ∧ Rep K Z m H c v ∧ pw h .setI [a, b, c] = some (d, h') ∧ ∀ m' H', Ext m H m' H' → HS K Z m' h' H' → Q H'
theorem s_set (hr : Room k X.A) : PSet X (rSet X.K) := by
  intro pins s σ H o i v ov iv u Q I ro ri rv g
  obtain ⟨Z, m, h, a, b, c, d, h', hs, ra, rb, rc, e, q⟩ := g
  unfold pw at e
  split at e
  all_goals first | contradiction | skip
  · rename_i n a' b' he
    simp only [List.cons.injEq, and_true] at he
    obtain ⟨rfl, rfl, rfl⟩ := he
    simp only [Rep] at ra
    obtain ⟨p, hp, rfl⟩ := ra
    split at e
    · rename_i ds hn
      obtain ⟨vs, hv, rvs⟩ := hs.ob _ _ p hn hp
      cases b <;> simp only [Option.bind_none] at e <;> try (cases e)
      rename_i j
      simp only [Option.bind_some] at e
      cases e0 : ixD ds.length j with
      | none => rw [e0] at e; cases e
      | some l =>
        rw [e0] at e
        cases e
        simp only [Rep] at rb
        have E := Ext.write (o := .lst (vs.set l v)) hs (List.mem_of_getElem? hp)
        refine set_list pins s σ H _ _ v ov iv u Q I ro ri rv ⟨p, vs, j, l, rfl, rb, hv, by rw [← rvs.len]; exact e0, ?_⟩
        exact q m _ E (hs.write hp ⟨_, upd_same, (rvs.set l rc).mono E⟩)
    · rename_i ks ws hn
      split at e
      · rename_i hb
        cases e1 : keyD b with
        | none => rw [e1] at e; cases e
        | some ky =>
          rw [e1] at e
          cases e
          obtain ⟨kvs, hv, nd, h1, h2⟩ := hs.ob _ _ p hn hp
          have ey := keyD_rep rb e1
          subst ey
          cases ro
          have hlen : kvs.length < sizeLine := by
            have := congrArg List.length h1
            simp only [List.length_map] at this
            rw [this]
            exact big_lt hb
          obtain ⟨p1, p2⟩ := put_rep (k := ky) rc nd h1 h2
          have E := Ext.write (o := .dK (L2.putK kvs (kyK ky) v)) hs (List.mem_of_getElem? hp)
          refine d_setItem (by have := hr.un; omega) I (DPut.k hv hlen) ri rv fun s' I' => ⟨_, I', ?_⟩
          exact q m _ E (hs.write hp ⟨_, upd_same, nodup_put _ _ _ nd, p1, p2.mono E⟩)
      · cases e
    · cases e
end
end Dp

set_option Elab.async false
set_option linter.all false
set_option autoImplicit false
set_option maxRecDepth 100000
set_option maxHeartbeats 2000000
namespace Dp
open PySem L2 PySem.Spec PyProof.Rows

abbrev FE := Env → Hs → Option (D × Hs)
def tE (K : PySem.W.Frag) (f : FE) : TE := fun σ H Q => ∃ Z m ρ h d h', Es K Z m H ρ σ ∧ HS K Z m h H ∧ f ρ h = some (d, h') ∧ QW K Z m H d h' Q
def tF (K : PySem.W.Frag) (f : FE) : TE := fun σ H Q => ∃ Z m ρ h d h', Es K Z m H ρ σ ∧ HS K Z m h H ∧ f ρ h = some (d, h') ∧ ∀ m' H', Ext m H m' H' → HS K Z m' h' H' → QF K Z m' h' H' d Q
def tT (K : PySem.W.Frag) (f : Env → Hs → Option (Bool × Hs)) : TT := fun σ H Q => ∃ Z m ρ h b h', Es K Z m H ρ σ ∧ HS K Z m h H ∧ f ρ h = some (b, h') ∧ ∀ m' H', Ext m H m' H' → HS K Z m' h' H' → Q b H'
def tA (K : PySem.W.Frag) (f : Env → Hs → Option (List D × Hs)) : TA := fun σ H Q => ∃ Z m ρ h ds h', Es K Z m H ρ σ ∧ HS K Z m h H ∧ f ρ h = some (ds, h') ∧ ∀ m' vs H', Ext m H m' H' → HS K Z m' h' H' → Reps K Z m' H' ds vs → Q vs H'

section
variable {X : Cx} {e0 : Expr} {es : List Expr}
theorem _root_.L2.PE.w {t t' : TE} (h : PE X e0 t) (i : ∀ σ H Q, t' σ H Q → t σ H Q) : PE X e0 t' := ⟨fun pins s σ H Q I q => h.run pins s σ H Q I (i σ H Q q)⟩
theorem _root_.L2.PT.w {t t' : TT} (h : PT X e0 t) (i : ∀ σ H Q, t' σ H Q → t σ H Q) : PT X e0 t' := ⟨fun pins s σ H Q I q => h.run pins s σ H Q I (i σ H Q q)⟩
theorem _root_.L2.PW.w {t t' : TT} (h : PW X e0 t) (i : ∀ σ H Q, t' σ H Q → t σ H Q) : PW X e0 t' := ⟨fun wh pins s σ H Q I q => h.run wh pins s σ H Q I (i σ H Q q)⟩
theorem _root_.L2.PA.w {t t' : TA} (h : PA X es t) (i : ∀ σ H Q, t' σ H Q → t σ H Q) : PA X es t' := ⟨fun pos pins s σ H Q I q => h.run pos pins s σ H Q I (i σ H Q q)⟩
theorem QW.qp {K : PySem.W.Frag} {Z m m' : List Addr} {H H' : Hp} {d : D} {h' : Hs} {Q : VK} (q : QW K Z m H d h' Q) (x : Ext m H m' H') : QP K Z m' h' H' d Q := fun m2 v H2 x2 s2 r2 => q m2 v H2 (x.trans x2) s2 r2
theorem tF.e {K : PySem.W.Frag} {f : FE} {σ : L2.St} {H : Hp} {Q : VK} (h : tE K f σ H Q) : tF K f σ H Q := by
  obtain ⟨Z, m, ρ, h, d, h', es, hs, e, q⟩ := h
  exact ⟨Z, m, ρ, h, d, h', es, hs, e, fun m' H' x s => (q.qp x).f s⟩
end

structure Snd (X : Cx) (cl : CallT) (e : Expr) (r : RE) : Prop where
  pe : PE X e (tE X.K (evE cl r))
  pt : PT X e (tT X.K (evT cl r))
def isFr : RE → Bool
  | .app p _ => isF p
  | .comp _ _ _ _ _ _ => true
  | .edct => true
  | _ => false
/-- generic test: the value's truth -/
theorem pt_of {X : Cx} {cl : CallT} {e : Expr} {r : RE} (h : PE X e (tE X.K (evE cl r))) (he : ∀ whole, isTrue e X.env whole = (do let v ← whole; standAt e.pos; holding [v] (truthy v))) : PT X e (tT X.K (evT cl r)) := by
  refine (pt_truth h he).w fun σ H Q g => ?_
  obtain ⟨Z, m, ρ, hh, b, h', es, hs, e1, q⟩ := g
  unfold evT at e1
  cases e2 : evE cl r ρ hh with
  | none => rw [e2] at e1; cases e1
  | some dh =>
    obtain ⟨d, h1⟩ := dh
    rw [e2] at e1
    simp only [Option.bind_some] at e1
    cases e3 : truth h1 d with
    | none => rw [e3] at e1; cases e1
    | some t =>
      rw [e3] at e1
      simp only [Option.map_some, Option.some.injEq, Prod.mk.injEq] at e1
      obtain ⟨rfl, rfl⟩ := e1
      exact ⟨Z, m, ρ, hh, d, h1, es, hs, e2, fun m' v H' x s rr => ⟨t, truth_rep s rr e3, q m' H' x s⟩⟩

section
variable {X : Cx} {cl : CallT}
/-- two operands -/
theorem bin_tE {ra rb : RE} {p : P} {σ : L2.St} {H : Hp} {Q : VK} (g : ∃ Z m ρ h d h', Es X.K Z m H ρ σ ∧ HS X.K Z m h H ∧ evE cl (.app p (.cons ra (.cons rb .nil))) ρ h = some (d, h') ∧ ∀ m' H', Ext m H m' H' → HS X.K Z m' h' H' → QX X.K Z m' h' H' d Q (isF p)) :
    tE X.K (evE cl ra) σ H fun x H1 => tE X.K (evE cl rb) σ H1 fun y H2 => rA X.K p [x, y] H2 Q := by
  obtain ⟨Z, m, ρ, h, d, h', es, hs, e, q⟩ := g
  simp only [evE, evEs] at e
  cases e1 : evE cl ra ρ h with
  | none => rw [e1] at e; cases e
  | some r1 =>
    obtain ⟨d1, h1⟩ := r1
    rw [e1] at e
    simp only [Option.bind_some] at e
    cases e2 : evE cl rb ρ h1 with
    | none => rw [e2] at e; cases e
    | some r2 =>
      obtain ⟨d2, h2⟩ := r2
      rw [e2] at e
      simp only [Option.bind_some, Option.map_some] at e
      cases e3 : pf h2 p [d1, d2] with
      | none => rw [e3] at e; cases e
      | some d3 =>
        rw [e3] at e
        simp only [Option.map_some, Option.some.injEq, Prod.mk.injEq] at e
        obtain ⟨rfl, rfl⟩ := e
        exact ⟨Z, m, ρ, h, d1, h1, es, hs, e1, fun m1 v1 H1 x1 s1 r1 => ⟨Z, m1, ρ, h1, d2, h2, es.mono x1, s1, e2, fun m2 v2 H2 x2 s2 r2 =>
          ⟨Z, m2, h2, [d1, d2], d3, s2, Reps.cons (r1.mono x2) (Reps.cons r2 Reps.nil), e3, q m2 H2 (x1.trans x2) s2⟩⟩⟩
theorem un_tE {ra : RE} {p : P} {σ : L2.St} {H : Hp} {Q : VK} (g : ∃ Z m ρ h d h', Es X.K Z m H ρ σ ∧ HS X.K Z m h H ∧ evE cl (.app p (.cons ra .nil)) ρ h = some (d, h') ∧ ∀ m' H', Ext m H m' H' → HS X.K Z m' h' H' → QX X.K Z m' h' H' d Q (isF p)) :
    tE X.K (evE cl ra) σ H fun x H1 => rA X.K p [x] H1 Q := by
  obtain ⟨Z, m, ρ, h, d, h', es, hs, e, q⟩ := g
  simp only [evE, evEs] at e
  cases e1 : evE cl ra ρ h with
  | none => rw [e1] at e; cases e
  | some r1 =>
    obtain ⟨d1, h1⟩ := r1
    rw [e1] at e
    simp only [Option.bind_some, Option.map_some] at e
    cases e3 : pf h1 p [d1] with
    | none => rw [e3] at e; cases e
    | some d3 =>
      rw [e3] at e
      simp only [Option.map_some, Option.some.injEq, Prod.mk.injEq] at e
      obtain ⟨rfl, rfl⟩ := e
      exact ⟨Z, m, ρ, h, d1, h1, es, hs, e1, fun m1 v1 H1 x1 s1 r1 => ⟨Z, m1, h1, [d1], d3, s1, Reps.cons r1 Reps.nil, e3, q m1 H1 x1 s1⟩⟩
/-- an argument list, then a primitive -/
theorem args_tA {es : REs} {p : P} {σ : L2.St} {H : Hp} {Q : VK} (g : ∃ Z m ρ h d h', Es X.K Z m H ρ σ ∧ HS X.K Z m h H ∧ evE cl (.app p es) ρ h = some (d, h') ∧ ∀ m' H', Ext m H m' H' → HS X.K Z m' h' H' → QX X.K Z m' h' H' d Q (isF p)) :
    tA X.K (evEs cl es) σ H fun vs H1 => rA X.K p vs H1 Q := by
  obtain ⟨Z, m, ρ, h, d, h', ee, hs, e, q⟩ := g
  simp only [evE] at e
  cases e1 : evEs cl es ρ h with
  | none => rw [e1] at e; cases e
  | some r1 =>
    obtain ⟨ds, h1⟩ := r1
    rw [e1] at e
    simp only [Option.bind_some] at e
    cases e3 : pf h1 p ds with
    | none => rw [e3] at e; cases e
    | some d3 =>
      rw [e3] at e
      simp only [Option.map_some, Option.some.injEq, Prod.mk.injEq] at e
      obtain ⟨rfl, rfl⟩ := e
      exact ⟨Z, m, ρ, h, ds, h1, ee, hs, e1, fun m1 vs H1 x1 s1 r1 => ⟨Z, m1, h1, ds, d3, s1, r1, e3, q m1 H1 x1 s1⟩⟩
/-- what a primitive's reading wants, from either want -/
def GX (K : PySem.W.Frag) (f : FE) (b : Bool) (σ : L2.St) (H : Hp) (Q : VK) : Prop := ∃ Z m ρ h d h', Es K Z m H ρ σ ∧ HS K Z m h H ∧ f ρ h = some (d, h') ∧ ∀ m' H', Ext m H m' H' → HS K Z m' h' H' → QX K Z m' h' H' d Q b
theorem gx_e {K : PySem.W.Frag} {f : FE} {b : Bool} {σ : L2.St} {H : Hp} {Q : VK} (g : tE K f σ H Q) : GX K f b σ H Q := by
  obtain ⟨Z, m, ρ, h, d, h', es, hs, e, q⟩ := g
  exact ⟨Z, m, ρ, h, d, h', es, hs, e, fun m' H' x s => (q.qp x).x s b⟩
theorem gx_f {K : PySem.W.Frag} {f : FE} {b : Bool} {σ : L2.St} {H : Hp} {Q : VK} (hb : b = true) (g : tF K f σ H Q) : GX K f b σ H Q := by
  obtain ⟨Z, m, ρ, h, d, h', es, hs, e, q⟩ := g
  subst hb
  exact ⟨Z, m, ρ, h, d, h', es, hs, e, fun m' H' x s => q m' H' x s⟩
/-- a primitive's expression, in both wants -/
structure App (X : Cx) (cl : CallT) (e : Expr) (p : P) (es : REs) : Prop where
  run : ∃ t, PE X e t ∧ ∀ σ H Q, GX X.K (evE cl (.app p es)) (isF p) σ H Q → t σ H Q
theorem App.pe {e : Expr} {p : P} {es : REs} (a : App X cl e p es) : PE X e (tE X.K (evE cl (.app p es))) := by
  obtain ⟨t, h, i⟩ := a.run
  exact h.w fun σ H Q g => i σ H Q (gx_e g)
theorem App.fr {e : Expr} {p : P} {es : REs} (a : App X cl e p es) (hf : isF p = true) : PE X e (tF X.K (evE cl (.app p es))) := by
  obtain ⟨t, h, i⟩ := a.run
  exact h.w fun σ H Q g => i σ H Q (gx_f hf g)

variable {a b : Expr} {ra rb : RE} {pos : Pos}
def binP : Operator → Option P
  | .Add => some .add
  | .Sub => some .sub
  | .Mult => some .mul
  | .FloorDiv => some .fdiv
  | .Mod => some .mod
  | .Pow => some .pow
  | _ => none
theorem app_bin {op : Operator} {p : P} (hp : binP op = some p) (ha : Snd X cl a ra) (hb : Snd X cl b rb) : App X cl (.BinOp a op b pos) p (.cons ra (.cons rb .nil)) := by
  refine ⟨?_⟩
  have fin : OpR X (binaryOp op) (r2 X.K p) → ∃ t, PE X (.BinOp a op b pos) t ∧ ∀ σ H Q, GX X.K (evE cl (.app p (.cons ra (.cons rb .nil)))) (isF p) σ H Q → t σ H Q := fun o => ⟨_, pe_op o ha.pe hb.pe, fun σ H Q g => bin_tE g⟩
  cases op <;> simp only [binP] at hp <;> cases hp
  · exact fin o_add
  · exact fin o_sub
  · exact fin o_mul
  · exact fin o_mod
  · exact fin o_pow
  · exact fin o_div
def cmpP : CmpOp → Option P
  | .Eq => some .eq
  | .NotEq => some .ne
  | .Lt => some .lt
  | .LtE => some .le
  | .Gt => some .gt
  | .GtE => some .ge
  | .Is => some .isN
  | .IsNot => some .isnotN
  | .In => some .isin
  | .NotIn => some .notin
theorem o_of {k : Nat} {op : CmpOp} {p : P} (hr : Room k X.A) (hp : cmpP op = some p) : OpR X (compareOp op) (r2 X.K p) := by
  cases op <;> simp only [cmpP] at hp <;> cases hp
  · exact o_eq hr
  · exact o_ne hr
  · exact o_lt
  · exact o_le
  · exact o_gt
  · exact o_ge
  · exact o_is
  · exact o_isnot
  · exact o_in hr
  · exact o_notin hr
theorem app_cmp {k : Nat} {op : CmpOp} {p : P} (hr : Room k X.A) (hp : cmpP op = some p) (hm : behindInMarks op b = false) (ha : Snd X cl a ra) (hb : Snd X cl b rb) : App X cl (.Compare a [op] [b] pos) p (.cons ra (.cons rb .nil)) :=
  ⟨⟨_, pe_cmpR (o_of hr hp) ha.pe hb.pe hm, fun σ H Q g => bin_tE g⟩⟩
theorem app_neg (ha : Snd X cl a ra) : App X cl (.UnaryOp .USub a pos) .neg (.cons ra .nil) :=
  ⟨⟨_, pe_un o_neg ha.pe, fun σ H Q g => un_tE g⟩⟩
theorem app_idx {k : Nat} (hr : Room k X.A) (hs : PlainIx b) (ha : Snd X cl a ra) (hb : Snd X cl b rb) : App X cl (.Subscript a b pos) .idx (.cons ra (.cons rb .nil)) :=
  ⟨⟨_, pe_ix (o_idx hr) ha.pe hb.pe hs, fun σ H Q g => bin_tE g⟩⟩
theorem app_rev {k : Nat} {p1 p2 p3 : Pos} (ha : Snd X cl a ra) : App X cl (.Subscript a (.Slice none none (some (.UnaryOp .USub (.Constant (.int 1) k p1) p2)) p3) pos) .rev (.cons ra .nil) := by
  refine ⟨⟨_, pe_revL ha.pe, fun σ H Q g => ?_⟩⟩
  have g := un_tE g
  obtain ⟨Z, m, ρ, h, d, h', es, hs, e, q⟩ := g
  refine ⟨Z, m, ρ, h, d, h', es, hs, e, fun m' v H' x s r => ?_⟩
  obtain ⟨Z2, m2, h2, ds, d2, s2, r2, e2, q2⟩ := q m' v H' x s r
  obtain ⟨a', rfl, ra'⟩ := one r2
  simp only [pf] at e2
  cases e3 : seqL h2 a' with
  | none => rw [e3] at e2; cases e2
  | some xs =>
    rw [e3] at e2
    cases e2
    obtain ⟨p, vs, rfl, hp, rr⟩ := rd_L s2 ra' e3
    exact ⟨p, vs, rfl, hp, fun p' hp' => q2 p' _ hp' rr.reverse⟩
theorem sl_part {X : Cx} {cl : CallT} {e : Expr} {r : RE} {σ : L2.St} {H : Hp} {Q : Option Int → Hp → Prop} {Z m : List Addr} {ρ : Env} {h h1 : Hs} {i : Int} (es : Es X.K Z m H ρ σ) (hs : HS X.K Z m h H) (e1 : evE cl r ρ h = some (.int i, h1))
    (q : ∀ m' H', Ext m H m' H' → HS X.K Z m' h1 H' → Q (some i) H') : tPart (tE X.K (evE cl r)) σ H Q :=
  ⟨Z, m, ρ, h, _, h1, es, hs, e1, fun m' v H' x s r => ⟨i, by simpa only [Rep] using r, q m' H' x s⟩⟩
theorem app_slc {l u : Option Expr} {lr ur : REs} {bl bu : Bool} {p2 : Pos} (ha : Snd X cl a ra)
    (hl : (bl = false ∧ l = none) ∨ ∃ e r, bl = true ∧ l = some e ∧ Snd X cl e r ∧ lr = .cons r .nil) (hu : (bu = false ∧ u = none) ∨ ∃ e r, bu = true ∧ u = some e ∧ Snd X cl e r ∧ ur = .cons r .nil)
    (es : REs) (hes : es = .cons ra (match bl, bu, lr, ur with | true, true, .cons x .nil, .cons y .nil => .cons x (.cons y .nil) | true, false, .cons x .nil, _ => .cons x .nil | false, true, _, .cons y .nil => .cons y .nil | _, _, _, _ => .nil)) :
    App X cl (.Subscript a (.Slice l u none p2) pos) (.slc bl bu) es := by
  refine ⟨?_⟩
  rcases hl with ⟨rfl, rfl⟩ | ⟨le, lr', rfl, rfl, sl, rfl⟩ <;> rcases hu with ⟨rfl, rfl⟩ | ⟨ue, ur', rfl, rfl, su, rfl⟩ <;> subst hes
  · refine ⟨_, pe_slice o_slc ha.pe po_none po_none, fun σ H Q g => ?_⟩
    obtain ⟨Z, m, ρ, h, d, h', ee, hs, e, q⟩ := g
    simp only [evE, evEs] at e
    cases e1 : evE cl ra ρ h with
    | none => rw [e1] at e; cases e
    | some r1 =>
      obtain ⟨d1, h1⟩ := r1
      rw [e1] at e
      simp only [Option.bind_some, Option.map_some, pf] at e
      cases e3 : pSlc h1 d1 none none with
      | none => rw [e3] at e; cases e
      | some d3 =>
        rw [e3] at e
        simp only [Option.map_some, Option.some.injEq, Prod.mk.injEq] at e
        obtain ⟨rfl, rfl⟩ := e
        exact ⟨Z, m, ρ, h, d1, h1, ee, hs, e1, fun m1 v1 H1 x1 s1 r1 => ⟨Z, m1, h1, d1, d3, s1, r1, e3, q m1 H1 x1 s1⟩⟩
  · refine ⟨_, pe_slice o_slc ha.pe po_none (po_some su.pe), fun σ H Q g => ?_⟩
    obtain ⟨Z, m, ρ, h, d, h', ee, hs, e, q⟩ := g
    simp only [evE, evEs] at e
    cases e1 : evE cl ra ρ h with
    | none => rw [e1] at e; cases e
    | some r1 =>
      obtain ⟨d1, h1⟩ := r1
      rw [e1] at e
      simp only [Option.bind_some] at e
      cases e2 : evE cl ur' ρ h1 with
      | none => rw [e2] at e; cases e
      | some r2 =>
        obtain ⟨d2, h2⟩ := r2
        rw [e2] at e
        simp only [Option.bind_some, Option.map_some] at e
        cases d2 <;> simp only [pf, Option.map_none] at e <;> try (cases e)
        rename_i i
        cases e3 : pSlc h2 d1 none (some i) with
        | none => rw [e3] at e; cases e
        | some d3 =>
          rw [e3] at e
          simp only [Option.map_some, Option.some.injEq, Prod.mk.injEq] at e
          obtain ⟨rfl, rfl⟩ := e
          exact ⟨Z, m, ρ, h, d1, h1, ee, hs, e1, fun m1 v1 H1 x1 s1 r1 => show tPart (tE X.K (evE cl ur')) σ H1 (fun u H3 => rS X.K v1 none u H3 Q) from sl_part (e := ue) (ee.mono x1) s1 e2 fun m2 H2 x2 s2 => ⟨Z, m2, h2, d1, d3, s2, r1.mono x2, e3, q m2 H2 (x1.trans x2) s2⟩⟩
  · refine ⟨_, pe_slice o_slc ha.pe (po_some sl.pe) po_none, fun σ H Q g => ?_⟩
    obtain ⟨Z, m, ρ, h, d, h', ee, hs, e, q⟩ := g
    simp only [evE, evEs] at e
    cases e1 : evE cl ra ρ h with
    | none => rw [e1] at e; cases e
    | some r1 =>
      obtain ⟨d1, h1⟩ := r1
      rw [e1] at e
      simp only [Option.bind_some] at e
      cases e2 : evE cl lr' ρ h1 with
      | none => rw [e2] at e; cases e
      | some r2 =>
        obtain ⟨d2, h2⟩ := r2
        rw [e2] at e
        simp only [Option.bind_some, Option.map_some] at e
        cases d2 <;> simp only [pf, Option.map_none] at e <;> try (cases e)
        rename_i i
        cases e3 : pSlc h2 d1 (some i) none with
        | none => rw [e3] at e; cases e
        | some d3 =>
          rw [e3] at e
          simp only [Option.map_some, Option.some.injEq, Prod.mk.injEq] at e
          obtain ⟨rfl, rfl⟩ := e
          exact ⟨Z, m, ρ, h, d1, h1, ee, hs, e1, fun m1 v1 H1 x1 s1 r1 => sl_part (e := le) (ee.mono x1) s1 e2 fun m2 H2 x2 s2 => ⟨Z, m2, h2, d1, d3, s2, r1.mono x2, e3, q m2 H2 (x1.trans x2) s2⟩⟩
  · refine ⟨_, pe_slice o_slc ha.pe (po_some sl.pe) (po_some su.pe), fun σ H Q g => ?_⟩
    obtain ⟨Z, m, ρ, h, d, h', ee, hs, e, q⟩ := g
    simp only [evE, evEs] at e
    cases e1 : evE cl ra ρ h with
    | none => rw [e1] at e; cases e
    | some r1 =>
      obtain ⟨d1, h1⟩ := r1
      rw [e1] at e
      simp only [Option.bind_some] at e
      cases e2 : evE cl lr' ρ h1 with
      | none => rw [e2] at e; cases e
      | some r2 =>
        obtain ⟨d2, h2⟩ := r2
        rw [e2] at e
        simp only [Option.bind_some] at e
        cases e4 : evE cl ur' ρ h2 with
        | none => rw [e4] at e; cases e
        | some r4 =>
          obtain ⟨d4, h4⟩ := r4
          rw [e4] at e
          simp only [Option.bind_some, Option.map_some] at e
          cases d2 <;> simp only [pf, Option.map_none] at e <;> try (cases e)
          rename_i i
          cases d4 <;> simp only [pf, Option.map_none] at e <;> try (cases e)
          rename_i j
          cases e3 : pSlc h4 d1 (some i) (some j) with
          | none => rw [e3] at e; cases e
          | some d3 =>
            rw [e3] at e
            simp only [Option.map_some, Option.some.injEq, Prod.mk.injEq] at e
            obtain ⟨rfl, rfl⟩ := e
            exact ⟨Z, m, ρ, h, d1, h1, ee, hs, e1, fun m1 v1 H1 x1 s1 r1 => sl_part (e := le) (ee.mono x1) s1 e2 fun m2 H2 x2 s2 => sl_part (e := ue) (ee.mono (x1.trans x2)) s2 e4 fun m3 H3 x3 s3 =>
              ⟨Z, m3, h4, d1, d3, s3, (r1.mono x2).mono x3, e3, q m3 H3 ((x1.trans x2).trans x3) s3⟩⟩
end
end Dp

set_option Elab.async false
set_option linter.all false
set_option autoImplicit false
set_option maxRecDepth 100000
set_option maxHeartbeats 2000000
namespace Dp
open PySem L2 PySem.Spec PyProof.Rows

def notStar : Expr → Bool
  | .Starred _ _ => false
  | _ => true
theorem star_one {e : Expr} {es : List Expr} {env : PySem.Env} (h : notStar e = true) : starEach (e :: es) env = (false, eval e env) :: starEach es env := by
  cases e <;> first | rfl | simp [notStar] at h
theorem star_any {env : PySem.Env} {pos : Pos} : ∀ {es : List Expr}, es.all notStar = true → (backTo pos (starEach es env)).any (·.1) = false
  | [], _ => rfl
  | e :: es, h => by
    simp only [List.all_cons, Bool.and_eq_true] at h
    rw [star_one h.1]
    show (false || (backTo pos (starEach es env)).any (·.1)) = false
    rw [star_any h.2]; rfl
theorem star_all {env : PySem.Env} {pos : Pos} : ∀ {es : List Expr}, es.all notStar = true → (backTo pos (starEach es env)).all (fun x => !x.1) = true
  | [], _ => rfl
  | e :: es, h => by
    simp only [List.all_cons, Bool.and_eq_true] at h
    rw [star_one h.1]
    show (true && (backTo pos (starEach es env)).all (fun x => !x.1)) = true
    rw [star_all h.2]; rfl

inductive Sns (X : Cx) (cl : CallT) : List Expr → REs → Prop
  | nil : Sns X cl [] .nil
  | cons {e : Expr} {es : List Expr} {r : RE} {rs : REs} : notStar e = true → Snd X cl e r → Sns X cl es rs → Sns X cl (e :: es) (.cons r rs)
section
variable {X : Cx} {cl : CallT}
theorem Sns.star {es : List Expr} {rs : REs} (s : Sns X cl es rs) : es.all notStar = true := by
  induction s with
  | nil => rfl
  | cons h _ _ ih => simp [h, ih]
theorem Sns.pa {es : List Expr} {rs : REs} (s : Sns X cl es rs) : PA X es (tA X.K (evEs cl rs)) := by
  induction s with
  | nil =>
    refine pa_nil.w fun σ H Q g => ?_
    obtain ⟨Z, m, ρ, h, ds, h', ee, hs, e, q⟩ := g
    simp only [evEs, Option.some.injEq, Prod.mk.injEq] at e
    obtain ⟨rfl, rfl⟩ := e
    exact q m [] H Ext.refl hs Reps.nil
  | @cons e es r rs hst hd tl ih =>
    refine (pa_cons hd.pe ih (star_one hst)).w fun σ H Q g => ?_
    obtain ⟨Z, m, ρ, h, ds, h', ee, hs, e, q⟩ := g
    simp only [evEs] at e
    cases e1 : evE cl r ρ h with
    | none => rw [e1] at e; cases e
    | some r1 =>
      obtain ⟨d1, h1⟩ := r1
      rw [e1] at e
      simp only [Option.bind_some] at e
      cases e2 : evEs cl rs ρ h1 with
      | none => rw [e2] at e; cases e
      | some r2 =>
        obtain ⟨d2, h2⟩ := r2
        rw [e2] at e
        simp only [Option.map_some, Option.some.injEq, Prod.mk.injEq] at e
        obtain ⟨rfl, rfl⟩ := e
        exact ⟨Z, m, ρ, h, d1, h1, ee, hs, e1, fun m1 v1 H1 x1 s1 r1 => ⟨Z, m1, ρ, h1, d2, h2, ee.mono x1, s1, e2, fun m2 vs H2 x2 s2 r2 => q m2 _ H2 (x1.trans x2) s2 (Reps.cons (r1.mono x2) r2)⟩⟩
theorem app_tup {es : List Expr} {rs : REs} {k : Nat} {pos : Pos} (s : Sns X cl es rs) : App X cl (.Tuple es k pos) .tup rs := by
  refine ⟨⟨_, pe_tup s.pa, fun σ H Q g => ?_⟩⟩
  have g := args_tA g
  obtain ⟨Z, m, ρ, h, ds, h', ee, hs, e, q⟩ := g
  refine ⟨Z, m, ρ, h, ds, h', ee, hs, e, fun m' vs H' x s r => ?_⟩
  obtain ⟨Z2, m2, h2, ds2, d2, s2, r2, e2, q2⟩ := q m' vs H' x s r
  simp only [pf] at e2
  split at e2
  · rename_i hb
    simp only [Option.some.injEq] at e2
    subst e2
    exact ⟨by rw [← r2.len]; exact big_le hb, fun p hp => QP.tup q2 s2 r2 hp⟩
  · cases e2
theorem app_lst {es : List Expr} {rs : REs} {pos : Pos} (s : Sns X cl es rs) : App X cl (.List es pos) .lst rs := by
  refine ⟨⟨_, pe_lst s.pa, fun σ H Q g => ?_⟩⟩
  have g := args_tA g
  obtain ⟨Z, m, ρ, h, ds, h', ee, hs, e, q⟩ := g
  refine ⟨Z, m, ρ, h, ds, h', ee, hs, e, fun m' vs H' x s r => ?_⟩
  obtain ⟨Z2, m2, h2, ds2, d2, s2, r2, e2, q2⟩ := q m' vs H' x s r
  simp only [pf] at e2
  split at e2
  · rename_i hb
    simp only [Option.some.injEq] at e2
    subst e2
    exact ⟨by rw [← r2.len]; exact big_le hb, fun p hp => q2 p _ hp r2⟩
  · cases e2

inductive Bn where
  | len | tuple | list | int | isi | min2 | max2 | minL | maxL | sum | any | all | sorted
  deriving DecidableEq
def Bn.name : Bn → Str
  | .len => "len" | .tuple => "tuple" | .list => "list" | .int => "int" | .isi => "isinstance" | .min2 => "min" | .max2 => "max" | .minL => "min" | .maxL => "max" | .sum => "sum" | .any => "any" | .all => "all" | .sorted => "sorted"
def Bn.p : Bn → P
  | .len => .len | .tuple => .toTuple | .list => .toList | .int => .toInt | .isi => .isinst | .min2 => .min2 | .max2 => .max2 | .minL => .minL | .maxL => .maxL | .sum => .sumL | .any => .anyL | .all => .allL | .sorted => .sorted
theorem app_bn {e : Expr} {es : List Expr} {rs : REs} {p pos : Pos} (b : Bn) (hc : X.calm = true) (hg : Gl X b.name) (hm : X.mg b.name = none) (s : Sns X cl (e :: es) rs) : App X cl (.Call (.Name b.name p) (e :: es) [] pos) b.p rs := by
  refine ⟨?_⟩
  have he := star_one (env := X.env) (es := es) (by have := s.star; simp only [List.all_cons, Bool.and_eq_true] at this; exact this.1 : notStar e = true)
  have hpl := star_any (env := X.env) (pos := pos) (es := es) (by have := s.star; simp only [List.all_cons, Bool.and_eq_true] at this; exact this.2)
  have B : ∀ (id : String), bootBuiltins b.name = some (.builtin id) → CallR X (.builtin id) (rA X.K b.p) → b.name ≠ "__name__" → (b.name == ("__debug__" : Str)) = false → ∃ t, PE X (.Call (.Name b.name p) (e :: es) [] pos) t ∧ ∀ σ H Q, GX X.K (evE cl (.app b.p rs)) (isF b.p) σ H Q → t σ H Q :=
    fun id hb hc' h1 h2 => ⟨_, pe_callB hc' hg hm hb s.pa h1 h2 he hpl, fun σ H Q g => args_tA g⟩
  have T : ∀ (id : String), bootBuiltins b.name = some (.type id) → CallR X (.type id) (rA X.K b.p) → b.name ≠ "__name__" → (b.name == ("__debug__" : Str)) = false → ∃ t, PE X (.Call (.Name b.name p) (e :: es) [] pos) t ∧ ∀ σ H Q, GX X.K (evE cl (.app b.p rs)) (isF b.p) σ H Q → t σ H Q :=
    fun id hb hc' h1 h2 => ⟨_, pe_callTy hc' hg hm hb s.pa h1 h2 he hpl, fun σ H Q g => args_tA g⟩
  cases b with
  | len => exact B "len" (by decide +kernel) c_len (by decide +kernel) (by decide +kernel)
  | tuple => exact T "tuple" (by decide +kernel) c_tuple (by decide +kernel) (by decide +kernel)
  | list => exact T "list" (by decide +kernel) (c_list hc) (by decide +kernel) (by decide +kernel)
  | int => exact T "int" (by decide +kernel) c_int (by decide +kernel) (by decide +kernel)
  | isi => exact B "isinstance" (by decide +kernel) c_isi (by decide +kernel) (by decide +kernel)
  | min2 => exact B "min" (by decide +kernel) (c_min2 hc) (by decide +kernel) (by decide +kernel)
  | max2 => exact B "max" (by decide +kernel) (c_max2 hc) (by decide +kernel) (by decide +kernel)
  | minL => exact B "min" (by decide +kernel) (c_minL hc) (by decide +kernel) (by decide +kernel)
  | maxL => exact B "max" (by decide +kernel) (c_maxL hc) (by decide +kernel) (by decide +kernel)
  | sum => exact B "sum" (by decide +kernel) (c_sum hc) (by decide +kernel) (by decide +kernel)
  | any => exact B "any" (by decide +kernel) (c_any hc) (by decide +kernel) (by decide +kernel)
  | all => exact B "all" (by decide +kernel) (c_all hc) (by decide +kernel) (by decide +kernel)
  | sorted => exact B "sorted" (by decide +kernel) c_sorted (by decide +kernel) (by decide +kernel)

theorem base_of {o : Expr} {n : Str} {env : PySem.Env} {wh : Sem Value} (h : (match o with | .Call (.Name _ _) [] [] _ => false | _ => true) = true) : attributeBase o n env wh = wh := by
  unfold attributeBase
  cases o <;> try rfl
  rename_i f as ks p
  cases f <;> try rfl
  cases as <;> try rfl
  cases ks <;> try rfl
  simp at h
def noBase (o : Expr) : Bool := match o with | .Call (.Name _ _) [] [] _ => false | _ => true
theorem few_of {e : Expr} {es : List Expr} {env : PySem.Env} {cpos : Pos} (h : (e :: es).all notStar = true) (hl : (e :: es).length < 29) : ((backTo cpos (starEach (e :: es) env)).all (fun x => !x.1) && (backToKw cpos (keywordEach [] env)).all (fun x => x.1.isSome)
      && decide ((e :: es).length + ([] : List Keyword).length + (if ([] : List Keyword).isEmpty then 0 else 1) < 30)) = true := by
  rw [star_all h]
  have : decide ((e :: es).length + ([] : List Keyword).length + (if ([] : List Keyword).isEmpty then 0 else 1) < 30) = true := by
    rw [decide_eq_true_eq]; simp; simp at hl; omega
  rw [this]
  rfl
theorem app_join {o e : Expr} {ro : RE} {rs : REs} {apos pos : Pos} (hb : noBase o = true) (hl : (apos.endLine == pos.line) = true) (so : Snd X cl o ro) (s : Sns X cl [e] rs) : App X cl (.Call (.Attribute o "join" apos) [e] [] pos) .join (.cons ro rs) := by
  have h1 : notStar e = true := by have := s.star; simpa using this
  refine ⟨⟨_, pe_bm PySem.F.plainAttrs_str PySem.F.slot_str_join PySem.F.type_str_join m_join so.pe s.pa (base_of hb) (few_of s.star (by simp)) hl (star_one h1) (star_any rfl), fun σ H Q g => ?_⟩⟩
  obtain ⟨Z, m, ρ, h, d, h', ee, hs, e, q⟩ := g
  simp only [evE, evEs] at e
  cases e1 : evE cl ro ρ h with
  | none => rw [e1] at e; cases e
  | some r1 =>
    obtain ⟨d1, h1⟩ := r1
    rw [e1] at e
    simp only [Option.bind_some] at e
    cases e2 : evEs cl rs ρ h1 with
    | none => rw [e2] at e; cases e
    | some r2 =>
      obtain ⟨d2, h2⟩ := r2
      rw [e2] at e
      simp only [Option.map_some, Option.bind_some] at e
      cases e3 : pf h2 .join (d1 :: d2) with
      | none => rw [e3] at e; cases e
      | some d3 =>
        rw [e3] at e
        simp only [Option.map_some, Option.some.injEq, Prod.mk.injEq] at e
        obtain ⟨rfl, rfl⟩ := e
        refine ⟨Z, m, ρ, h, d1, h1, ee, hs, e1, fun m1 v1 H1 x1 s1 r1 => ⟨?_, Z, m1, ρ, h1, d2, h2, ee.mono x1, s1, e2, fun m2 vs H2 x2 s2 r2 => ⟨Z, m2, h2, d1 :: d2, d3, s2, Reps.cons (r1.mono x2) r2, e3, q m2 H2 (x1.trans x2) s2⟩⟩⟩
        have : ∃ t, d1 = .str t := by
          have := e3
          obtain ⟨a, b, hab⟩ := len2 (fun _ => rfl) (fun _ _ => rfl) (fun _ _ _ _ _ => rfl) this
          cases hab
          simp only [pf] at this
          unfold pJoin at this
          split at this
          · exact ⟨_, rfl⟩
          · cases this
        obtain ⟨t, rfl⟩ := this
        simp only [Rep] at r1
        subst r1
        exact rfl
/-- a method of a list that writes -/
theorem isLst_ty {Z m : List Addr} {H : Hp} {h : Hs} {d : D} {v : V} (hs : HS X.K Z m h H) (r : Rep X.K Z m H d v) (e : isLst h d = true) : tyV X.K "list" v H := by
  cases d <;> simp only [isLst] at e <;> try (cases e)
  rename_i n
  split at e
  · rename_i ds hn
    simp only [Rep] at r
    obtain ⟨p, hp, rfl⟩ := r
    obtain ⟨vs, hv, _⟩ := hs.ob n _ p hn hp
    exact Or.inl ⟨rfl, _, SqL.of hv⟩
  · cases e
theorem eff_tE {ro : RE} {rs : REs} {w : Wr} {σ : L2.St} {H : Hp} {Q : VK} (g : tE X.K (evE cl (.eff w ro rs)) σ H Q) :
    tBM X.K "list" (rW X.K w) (tE X.K (evE cl ro)) (tA X.K (evEs cl rs)) σ H Q := by
  obtain ⟨Z, m, ρ, h, d, h', ee, hs, e, q⟩ := g
  simp only [evE] at e
  cases e1 : evE cl ro ρ h with
  | none => rw [e1] at e; cases e
  | some r1 =>
    obtain ⟨d1, h1⟩ := r1
    rw [e1] at e
    simp only [Option.bind_some] at e
    split at e
    · rename_i hl
      cases e2 : evEs cl rs ρ h1 with
      | none => rw [e2] at e; cases e
      | some r2 =>
        obtain ⟨d2, h2⟩ := r2
        rw [e2] at e
        simp only [Option.bind_some] at e
        exact ⟨Z, m, ρ, h, d1, h1, ee, hs, e1, fun m1 v1 H1 x1 s1 r1 => ⟨isLst_ty s1 r1 hl, Z, m1, ρ, h1, d2, h2, ee.mono x1, s1, e2, fun m2 vs H2 x2 s2 r2 =>
          ⟨Z, m2, h2, d1 :: d2, d, h', s2, Reps.cons (r1.mono x2) r2, e, fun m3 v3 H3 x3 s3 r3 => q m3 v3 H3 ((x1.trans x2).trans x3) s3 r3⟩⟩⟩
    · cases e
theorem eff_tE0 {ro : RE} {w : Wr} {σ : L2.St} {H : Hp} {Q : VK} (g : tE X.K (evE cl (.eff w ro .nil)) σ H Q) : tBM0 X.K "list" (rW X.K w) (tE X.K (evE cl ro)) σ H Q := by
  obtain ⟨Z, m, ρ, h, d, h', ee, hs, e, q⟩ := eff_tE g
  refine ⟨Z, m, ρ, h, d, h', ee, hs, e, fun m1 v1 H1 x1 s1 r1 => ?_⟩
  obtain ⟨ty, Z2, m2, ρ2, h2, ds, h3, ee2, hs2, e2, q2⟩ := q m1 v1 H1 x1 s1 r1
  simp only [evEs, Option.some.injEq, Prod.mk.injEq] at e2
  obtain ⟨rfl, rfl⟩ := e2
  exact ⟨ty, q2 m2 [] H1 Ext.refl hs2 Reps.nil⟩
variable {o e : Expr} {ro : RE} {rs : REs} {apos pos : Pos}
theorem eff_append (hb : noBase o = true) (hl : (apos.endLine == pos.line) = true) (so : Snd X cl o ro) (s : Sns X cl [e] rs) : PE X (.Call (.Attribute o "append" apos) [e] [] pos) (tE X.K (evE cl (.eff .append ro rs))) := by
  have h1 : notStar e = true := by have := s.star; simpa using this
  exact (pe_bm PySem.F.plainAttrs_list PySem.F.slot_list_append PySem.F.type_list_append m_append so.pe s.pa (base_of hb) (few_of s.star (by simp)) hl (star_one h1) (star_any rfl)).w fun σ H Q g => eff_tE g
theorem eff_extend (hb : noBase o = true) (hl : (apos.endLine == pos.line) = true) (so : Snd X cl o ro) (s : Sns X cl [e] rs) : PE X (.Call (.Attribute o "extend" apos) [e] [] pos) (tE X.K (evE cl (.eff .extend ro rs))) := by
  have h1 : notStar e = true := by have := s.star; simpa using this
  exact (pe_bm PySem.F.plainAttrs_list PySem.F.slot_list_extend PySem.F.type_list_extend m_extend so.pe s.pa (base_of hb) (few_of s.star (by simp)) hl (star_one h1) (star_any rfl)).w fun σ H Q g => eff_tE g
theorem eff_popI (hb : noBase o = true) (hl : (apos.endLine == pos.line) = true) (so : Snd X cl o ro) (s : Sns X cl [e] rs) : PE X (.Call (.Attribute o "pop" apos) [e] [] pos) (tE X.K (evE cl (.eff .popI ro rs))) := by
  have h1 : notStar e = true := by have := s.star; simpa using this
  exact (pe_bm PySem.F.plainAttrs_list PySem.F.slot_list_pop PySem.F.type_list_pop m_popI so.pe s.pa (base_of hb) (few_of s.star (by simp)) hl (star_one h1) (star_any rfl)).w fun σ H Q g => eff_tE g
theorem eff_pop0 (hb : noBase o = true) (hl : (apos.endLine == pos.line) = true) (so : Snd X cl o ro) : PE X (.Call (.Attribute o "pop" apos) [] [] pos) (tE X.K (evE cl (.eff .pop0 ro .nil))) :=
  (pe_bm0 PySem.F.plainAttrs_list PySem.F.slot_list_pop PySem.F.type_list_pop m_pop0 so.pe (base_of hb) hl).w fun σ H Q g => eff_tE0 g

theorem pe_v {i : Nat} {x : Str} (hN : X.N[i]? = some x) (hv : Vis X.env.scope x) (hd : (x == ("__debug__" : Str)) = false) (hcd : (x == ("__classdict__" : Str)) = false) : PE X (.Name x pos) (tE X.K (evE cl (.var i))) := by
  refine (pe_var hN hv hd hcd).w fun σ H Q g => ?_
  obtain ⟨Z, m, ρ, h, d, h', ee, hs, e, q⟩ := g
  simp only [evE] at e
  have e2 : ρ[i]? = some (some d) ∧ h = h' := by
    rw [List.getD_eq_getElem?_getD] at e
    cases q : ρ[i]? with
    | none => rw [q] at e; simp at e
    | some o =>
      rw [q] at e
      cases o with
      | none => simp at e
      | some d' => simp at e; exact ⟨by rw [e.1], e.2⟩
  obtain ⟨v, hv, r⟩ := ee.at_ i d e2.1
  exact ⟨v, hv, by rw [← e2.2] at q; exact q m v H Ext.refl hs r⟩
theorem pe_k {e : Expr} {d : D} {v : V} (h : PE X e (tC v)) (r : ∀ Z m H, Rep X.K Z m H d v) : PE X e (tE X.K (evE cl (.cst d))) := by
  refine h.w fun σ H Q g => ?_
  obtain ⟨Z, m, ρ, h, d', h', ee, hs, e, q⟩ := g
  simp only [evE, Option.some.injEq, Prod.mk.injEq] at e
  obtain ⟨rfl, rfl⟩ := e
  exact q m v H Ext.refl hs (r Z m H)
theorem pe_mk {e : Expr} {r : RE} (h : PE X e (tF X.K (evE cl r))) : PE X e (tE X.K (evE cl (.mk r))) := by
  refine h.w fun σ H Q g => ?_
  obtain ⟨Z, m, ρ, h, d, h', ee, hs, e, q⟩ := g
  simp only [evE] at e
  cases e1 : evE cl r ρ h with
  | none => rw [e1] at e; cases e
  | some r1 =>
    obtain ⟨d1, h1⟩ := r1
    rw [e1] at e
    simp only [Option.bind_some] at e
    split at e
    · rename_i ds hd
      try simp only at hd
      try subst hd
      simp only [Option.some.injEq, Prod.mk.injEq] at e
      obtain ⟨rfl, rfl⟩ := e
      refine ⟨Z, m, ρ, h, _, h1, ee, hs, e1, fun m1 H1 x1 s1 => ?_⟩
      intro p vs hp rr
      have E : Ext m1 H1 (m1 ++ [p]) (upd H1 p (.lst vs)) := Ext.push hp
      refine q _ _ _ (x1.trans E) (s1.push hp ⟨vs, upd_same, rr.mono E⟩) ?_
      simp only [Rep]
      exact ⟨p, by rw [← s1.len]; simp, rfl⟩
    · rename_i ks ws hd
      try simp only at hd
      try subst hd
      simp only [Option.some.injEq, Prod.mk.injEq] at e
      obtain ⟨rfl, rfl⟩ := e
      refine ⟨Z, m, ρ, h, _, h1, ee, hs, e1, fun m1 H1 x1 s1 => ?_⟩
      intro p kvs hp nd hk rr
      have E : Ext m1 H1 (m1 ++ [p]) (upd H1 p (.dK kvs)) := Ext.push hp
      refine q _ _ _ (x1.trans E) (s1.push hp ⟨kvs, upd_same, nd, hk, rr.mono E⟩) ?_
      simp only [Rep]
      exact ⟨p, by rw [← s1.len]; simp, rfl⟩
    · cases e
theorem pe_ed : PE X (.Dict [] [] pos) (tF X.K (evE cl .edct)) := by
  refine pe_dnewK.w fun σ H Q g => ?_
  obtain ⟨Z, m, ρ, h, d, h', ee, hs, e, q⟩ := g
  simp only [evE, Option.some.injEq, Prod.mk.injEq] at e
  obtain ⟨rfl, rfl⟩ := e
  exact fun p hp => q m H Ext.refl hs p [] hp (by simp) rfl (by simp [Reps])
end
end Dp

set_option Elab.async false
set_option linter.all false
set_option autoImplicit false
set_option maxRecDepth 100000
set_option maxHeartbeats 2000000
namespace Dp
open PySem L2 PySem.Spec PyProof.Rows

theorem evT_some {cl : CallT} {r : RE} {ρ : Env} {h h' : Hs} {b : Bool} (e : evT cl r ρ h = some (b, h')) : ∃ d, evE cl r ρ h = some (d, h') ∧ truth h' d = some b := by
  unfold evT at e
  cases e2 : evE cl r ρ h with
  | none => rw [e2] at e; cases e
  | some dh =>
    obtain ⟨d, h1⟩ := dh
    rw [e2] at e
    simp only [Option.bind_some] at e
    cases e3 : truth h1 d with
    | none => rw [e3] at e; cases e
    | some t =>
      rw [e3] at e
      simp only [Option.map_some, Option.some.injEq, Prod.mk.injEq] at e
      obtain ⟨rfl, rfl⟩ := e
      exact ⟨d, rfl, e3⟩
theorem evT_mk {cl : CallT} {r : RE} {ρ : Env} {h h' : Hs} {b : Bool} {d : D} (e : evE cl r ρ h = some (d, h')) (t : truth h' d = some b) : evT cl r ρ h = some (b, h') := by
  unfold evT
  rw [e]
  simp [t]
theorem truth_bl {h : Hs} {b c : Bool} (e : truth h (.bl b) = some c) : b = c := by
  simpa [truth] using e
theorem cmp_bl {h : Hs} {op : CmpOp} {p : P} {x y d : D} (hp : cmpP op = some p) (e : pf h p [x, y] = some d) : ∃ b, d = .bl b := by
  have c : ∀ f, pCmp f x y = some d → ∃ b, d = .bl b := fun f e => by
    unfold pCmp at e
    split at e
    · cases e; exact ⟨_, rfl⟩
    · cases e
  have c2 : ∀ f, pEq h f x y = some d → ∃ b, d = .bl b := fun f e => by
    unfold pEq at e
    split at e
    · cases e; exact ⟨_, rfl⟩
    · cases e
  have c3 : ∀ f, pIs f x y = some d → ∃ b, d = .bl b := fun f e => by
    unfold pIs at e
    split at e
    · cases e; exact ⟨_, rfl⟩
    · cases e
  have c4 : ∀ f, pIn h f x y = some d → ∃ b, d = .bl b := fun f e => by
    unfold pIn at e
    split at e
    · cases e; exact ⟨_, rfl⟩
    · cases e1 : seqA h y with
      | none => rw [e1] at e; cases e
      | some ds =>
        rw [e1] at e
        simp only [Option.bind_some] at e
        split at e
        · cases e; exact ⟨_, rfl⟩
        · cases e
  cases op <;> simp only [cmpP] at hp <;> cases hp <;> simp only [pf] at e
  · exact c2 _ e
  · exact c2 _ e
  · exact c _ e
  · exact c _ e
  · exact c _ e
  · exact c _ e
  · exact c3 _ e
  · exact c3 _ e
  · exact c4 _ e
  · exact c4 _ e
section
variable {X : Cx} {cl : CallT} {a b c : Expr} {ra rb rc : RE} {pos : Pos}
theorem snd_cmp {k : Nat} {op : CmpOp} {p : P} (hr : Room k X.A) (hp : cmpP op = some p) (hm : behindInMarks op b = false) (ha : Snd X cl a ra) (hb : Snd X cl b rb) : Snd X cl (.Compare a [op] [b] pos) (.app p (.cons ra (.cons rb .nil))) := by
  refine ⟨(app_cmp hr hp hm ha hb).pe, (pt_cmpR (o_of hr hp) ha.pe hb.pe hm).w fun σ H Q g => ?_⟩
  obtain ⟨Z, m, ρ, h, t, h', ee, hs, e, q⟩ := g
  obtain ⟨d, e1, e2⟩ := evT_some e
  have hd : ∃ t', d = .bl t' := by
    simp only [evE] at e1
    cases e3 : evEs cl (.cons ra (.cons rb .nil)) ρ h with
    | none => rw [e3] at e1; cases e1
    | some r =>
      obtain ⟨ds, h2⟩ := r
      rw [e3] at e1
      simp only [Option.bind_some] at e1
      cases e4 : pf h2 p ds with
      | none => rw [e4] at e1; cases e1
      | some d4 =>
        rw [e4] at e1
        simp only [Option.map_some, Option.some.injEq, Prod.mk.injEq] at e1
        obtain ⟨rfl, rfl⟩ := e1
        have : ∃ x y, ds = [x, y] := by
          simp only [evEs] at e3
          cases e5 : evE cl ra ρ h with
          | none => rw [e5] at e3; cases e3
          | some r5 =>
            rw [e5] at e3
            simp only [Option.bind_some] at e3
            cases e6 : evE cl rb ρ r5.2 with
            | none => rw [e6] at e3; cases e3
            | some r6 =>
              rw [e6] at e3
              simp only [Option.map_some, Option.bind_some, Option.some.injEq, Prod.mk.injEq] at e3
              exact ⟨_, _, e3.1.symm⟩
        obtain ⟨x, y, rfl⟩ := this
        exact cmp_bl hp e4
  obtain ⟨t', rfl⟩ := hd
  have := truth_bl e2
  subst this
  refine bin_tE (gx_e ⟨Z, m, ρ, h, _, h', ee, hs, e1, fun m' v H' x s r => ?_⟩)
  simp only [Rep] at r
  exact ⟨_, r, q m' H' x s⟩
theorem snd_not (ha : Snd X cl a ra) : Snd X cl (.UnaryOp .Not a pos) (.no ra) := by
  have key : ∀ {σ : L2.St} {H : Hp} {Q : Bool → Hp → Prop}, tT X.K (evT cl (.no ra)) σ H Q → tT X.K (evT cl ra) σ H (fun b H' => Q (!b) H') := fun {σ H Q} g => by
    obtain ⟨Z, m, ρ, h, t, h', ee, hs, e, q⟩ := g
    obtain ⟨d, e1, e2⟩ := evT_some e
    simp only [evE] at e1
    cases e3 : evE cl ra ρ h with
    | none => rw [e3] at e1; cases e1
    | some r =>
      obtain ⟨d1, h1⟩ := r
      rw [e3] at e1
      simp only [Option.bind_some] at e1
      cases e4 : truth h1 d1 with
      | none => rw [e4] at e1; cases e1
      | some t1 =>
        rw [e4] at e1
        simp only [Option.map_some, Option.some.injEq, Prod.mk.injEq] at e1
        obtain ⟨rfl, rfl⟩ := e1
        have := truth_bl e2
        subst this
        exact ⟨Z, m, ρ, h, t1, h1, ee, hs, evT_mk e3 e4, q⟩
  refine ⟨(pe_notT ha.pe).w fun σ H Q g => ?_, (pt_not ha.pt).w fun σ H Q g => key g⟩
  obtain ⟨Z, m, ρ, h, d, h', ee, hs, e, q⟩ := g
  simp only [evE] at e
  cases e3 : evE cl ra ρ h with
  | none => rw [e3] at e; cases e
  | some r =>
    obtain ⟨d1, h1⟩ := r
    rw [e3] at e
    simp only [Option.bind_some] at e
    cases e4 : truth h1 d1 with
    | none => rw [e4] at e; cases e
    | some t1 =>
      rw [e4] at e
      simp only [Option.map_some, Option.some.injEq, Prod.mk.injEq] at e
      obtain ⟨rfl, rfl⟩ := e
      exact ⟨Z, m, ρ, h, d1, h1, ee, hs, e3, fun m' v H' x s r => ⟨t1, truth_rep s r e4, q m' _ H' x s (by simp [Rep])⟩⟩

/-- and, or: with any whole -/
structure SndB (X : Cx) (cl : CallT) (e : Expr) (r : RE) : Prop where
  pe : PE X e (tE X.K (evE cl r))
  pw : PW X e (tT X.K (evT cl r))
theorem SndB.snd {e : Expr} {r : RE} (s : SndB X cl e r) : Snd X cl e r := ⟨s.pe, s.pw.pt⟩
theorem sb_and1 (ha : Snd X cl a ra) : SndB X cl (.BoolOp .And [a] pos) ra := ⟨pe_one ha.pe, pw_and1 ha.pt⟩
theorem sb_or1 (ha : Snd X cl a ra) : SndB X cl (.BoolOp .Or [a] pos) ra := ⟨pe_one ha.pe, pw_or1 ha.pt⟩
theorem sb_and {rest : List Expr} (ha : Snd X cl a ra) (hb : SndB X cl (.BoolOp .And (b :: rest) pos) rb) : SndB X cl (.BoolOp .And (a :: b :: rest) pos) (.an ra rb) := by
  refine ⟨(pe_andT ha.pe hb.pe).w fun σ H Q g => ?_, (pw_and ha.pt hb.pw).w fun σ H Q g => ?_⟩
  · obtain ⟨Z, m, ρ, h, d, h', ee, hs, e, q⟩ := g
    simp only [evE] at e
    cases e3 : evE cl ra ρ h with
    | none => rw [e3] at e; cases e
    | some r =>
      obtain ⟨d1, h1⟩ := r
      rw [e3] at e
      simp only [Option.bind_some] at e
      cases e4 : truth h1 d1 with
      | none => rw [e4] at e; cases e
      | some t1 =>
        rw [e4] at e
        simp only [Option.bind_some] at e
        refine ⟨Z, m, ρ, h, d1, h1, ee, hs, e3, fun m' v H' x s r => ⟨t1, truth_rep s r e4, ?_⟩⟩
        cases t1 with
        | true =>
          simp only [if_true] at e ⊢
          exact ⟨Z, m', ρ, h1, d, h', ee.mono x, s, e, fun m2 v2 H2 x2 s2 r2 => q m2 v2 H2 (x.trans x2) s2 r2⟩
        | false =>
          simp only [Bool.false_eq_true, if_false, Option.some.injEq, Prod.mk.injEq] at e ⊢
          obtain ⟨rfl, rfl⟩ := e
          exact q m' v H' x s r
  · obtain ⟨Z, m, ρ, h, t, h', ee, hs, e, q⟩ := g
    obtain ⟨d, e1, e2⟩ := evT_some e
    simp only [evE] at e1
    cases e3 : evE cl ra ρ h with
    | none => rw [e3] at e1; cases e1
    | some r =>
      obtain ⟨d1, h1⟩ := r
      rw [e3] at e1
      simp only [Option.bind_some] at e1
      cases e4 : truth h1 d1 with
      | none => rw [e4] at e1; cases e1
      | some t1 =>
        rw [e4] at e1
        simp only [Option.bind_some] at e1
        refine ⟨Z, m, ρ, h, t1, h1, ee, hs, evT_mk e3 e4, fun m' H' x s => ?_⟩
        cases t1 with
        | true =>
          simp only [if_true] at e1 ⊢
          exact ⟨Z, m', ρ, h1, t, h', ee.mono x, s, evT_mk e1 e2, fun m2 H2 x2 s2 => q m2 H2 (x.trans x2) s2⟩
        | false =>
          simp only [Bool.false_eq_true, if_false, Option.some.injEq, Prod.mk.injEq] at e1 ⊢
          obtain ⟨rfl, rfl⟩ := e1
          rw [e4] at e2
          cases e2
          exact q m' H' x s
theorem sb_or {rest : List Expr} (ha : Snd X cl a ra) (hb : SndB X cl (.BoolOp .Or (b :: rest) pos) rb) : SndB X cl (.BoolOp .Or (a :: b :: rest) pos) (.or ra rb) := by
  refine ⟨(pe_orT ha.pe hb.pe).w fun σ H Q g => ?_, (pw_or ha.pt hb.pw).w fun σ H Q g => ?_⟩
  · obtain ⟨Z, m, ρ, h, d, h', ee, hs, e, q⟩ := g
    simp only [evE] at e
    cases e3 : evE cl ra ρ h with
    | none => rw [e3] at e; cases e
    | some r =>
      obtain ⟨d1, h1⟩ := r
      rw [e3] at e
      simp only [Option.bind_some] at e
      cases e4 : truth h1 d1 with
      | none => rw [e4] at e; cases e
      | some t1 =>
        rw [e4] at e
        simp only [Option.bind_some] at e
        refine ⟨Z, m, ρ, h, d1, h1, ee, hs, e3, fun m' v H' x s r => ⟨t1, truth_rep s r e4, ?_⟩⟩
        cases t1 with
        | false =>
          simp only [Bool.false_eq_true, if_false] at e ⊢
          exact ⟨Z, m', ρ, h1, d, h', ee.mono x, s, e, fun m2 v2 H2 x2 s2 r2 => q m2 v2 H2 (x.trans x2) s2 r2⟩
        | true =>
          simp only [if_true, Option.some.injEq, Prod.mk.injEq] at e ⊢
          obtain ⟨rfl, rfl⟩ := e
          exact q m' v H' x s r
  · obtain ⟨Z, m, ρ, h, t, h', ee, hs, e, q⟩ := g
    obtain ⟨d, e1, e2⟩ := evT_some e
    simp only [evE] at e1
    cases e3 : evE cl ra ρ h with
    | none => rw [e3] at e1; cases e1
    | some r =>
      obtain ⟨d1, h1⟩ := r
      rw [e3] at e1
      simp only [Option.bind_some] at e1
      cases e4 : truth h1 d1 with
      | none => rw [e4] at e1; cases e1
      | some t1 =>
        rw [e4] at e1
        simp only [Option.bind_some] at e1
        refine ⟨Z, m, ρ, h, t1, h1, ee, hs, evT_mk e3 e4, fun m' H' x s => ?_⟩
        cases t1 with
        | false =>
          simp only [Bool.false_eq_true, if_false] at e1 ⊢
          exact ⟨Z, m', ρ, h1, t, h', ee.mono x, s, evT_mk e1 e2, fun m2 H2 x2 s2 => q m2 H2 (x.trans x2) s2⟩
        | true =>
          simp only [if_true, Option.some.injEq, Prod.mk.injEq] at e1 ⊢
          obtain ⟨rfl, rfl⟩ := e1
          rw [e4] at e2
          cases e2
          exact q m' H' x s
theorem pt_ifExp {tA ta tb : TT} (hc : PT X c tA) (ha : PT X a ta) (hb : PT X b tb) : PT X (.IfExp c a b pos) (fun σ H Q => tA σ H fun k H1 => if k = true then ta σ H1 Q else tb σ H1 Q) := by
  refine ⟨fun pins s σ H Q I h => ?_⟩
  show wpAny _ _ (do if ← isTrue c X.env (eval c X.env) then isTrue a X.env (eval a X.env) else isTrue b X.env (eval b X.env)) _ _ _
  refine wpAny_bind (thn (hc.run pins s σ H _ I h) fun d s1 ⟨H1, I1, q1⟩ => ?_)
  cases d with
  | true => exact ha.run pins s1 σ H1 Q I1 q1
  | false => exact hb.run pins s1 σ H1 Q I1 q1
theorem snd_ite (hc : Snd X cl c rc) (ha : Snd X cl a ra) (hb : Snd X cl b rb) : Snd X cl (.IfExp c a b pos) (.ite rc ra rb) := by
  refine ⟨(pe_ifExp hc.pt ha.pe hb.pe).w fun σ H Q g => ?_, (pt_ifExp hc.pt ha.pt hb.pt).w fun σ H Q g => ?_⟩
  · obtain ⟨Z, m, ρ, h, d, h', ee, hs, e, q⟩ := g
    simp only [evE] at e
    cases e3 : evE cl rc ρ h with
    | none => rw [e3] at e; cases e
    | some r =>
      obtain ⟨d1, h1⟩ := r
      rw [e3] at e
      simp only [Option.bind_some] at e
      cases e4 : truth h1 d1 with
      | none => rw [e4] at e; cases e
      | some t1 =>
        rw [e4] at e
        simp only [Option.bind_some] at e
        refine ⟨Z, m, ρ, h, t1, h1, ee, hs, evT_mk e3 e4, fun m' H' x s => ?_⟩
        cases t1 with
        | true =>
          simp only [if_true] at e ⊢
          exact ⟨Z, m', ρ, h1, d, h', ee.mono x, s, e, fun m2 v2 H2 x2 s2 r2 => q m2 v2 H2 (x.trans x2) s2 r2⟩
        | false =>
          simp only [Bool.false_eq_true, if_false] at e ⊢
          exact ⟨Z, m', ρ, h1, d, h', ee.mono x, s, e, fun m2 v2 H2 x2 s2 r2 => q m2 v2 H2 (x.trans x2) s2 r2⟩
  · obtain ⟨Z, m, ρ, h, t, h', ee, hs, e, q⟩ := g
    obtain ⟨d, e1, e2⟩ := evT_some e
    simp only [evE] at e1
    cases e3 : evE cl rc ρ h with
    | none => rw [e3] at e1; cases e1
    | some r =>
      obtain ⟨d1, h1⟩ := r
      rw [e3] at e1
      simp only [Option.bind_some] at e1
      cases e4 : truth h1 d1 with
      | none => rw [e4] at e1; cases e1
      | some t1 =>
        rw [e4] at e1
        simp only [Option.bind_some] at e1
        refine ⟨Z, m, ρ, h, t1, h1, ee, hs, evT_mk e3 e4, fun m' H' x s => ?_⟩
        cases t1 with
        | true =>
          simp only [if_true] at e1 ⊢
          exact ⟨Z, m', ρ, h1, t, h', ee.mono x, s, evT_mk e1 e2, fun m2 H2 x2 s2 => q m2 H2 (x.trans x2) s2⟩
        | false =>
          simp only [Bool.false_eq_true, if_false] at e1 ⊢
          exact ⟨Z, m', ρ, h1, t, h', ee.mono x, s, evT_mk e1 e2, fun m2 H2 x2 s2 => q m2 H2 (x.trans x2) s2⟩
end

def spF (K : PySem.W.Frag) (cl : CallT) (f : Nat) (np : Nat) : Sp := fun vs H Q _ => ∃ Z m ds h d h', HS K Z m h H ∧ Reps K Z m H ds vs ∧ ds.length = np ∧ cl f ds h = some (d, h') ∧ QW K Z m H d h' Q
section
variable {K : PySem.W.Frag} {Z m : List Addr} {H : Hp}
mutual
theorem Rep.cut {b : Nat} : ∀ (d : D) (v : V), okB b d = true → Rep K Z m H d v → Rep K (Z ++ m.drop b) (m.take b) H d v
  | .non, _, _, h | .bl _, _, _, h | .int _, _, _, h | .str _, _, _, h | .ty _, _, _, h => by simpa [Rep] using h
  | .fn _, _, _, h => by simp [Rep] at h
  | .tup ds, v, o, h => by
    simp only [Rep] at h ⊢
    obtain ⟨p, vs, rfl, hs, r⟩ := h
    exact ⟨p, vs, rfl, hs, Reps.cut' ds vs (by simpa [okB] using o) r⟩
  | .lst ds, v, o, h => by
    simp only [Rep] at h ⊢
    obtain ⟨p, vs, rfl, hp, hz, hm, r⟩ := h
    refine ⟨p, vs, rfl, hp, ?_, fun q => hm (List.mem_of_mem_take q), Reps.cut' ds vs (by simpa [okB] using o) r⟩
    intro q
    rcases List.mem_append.mp q with q | q
    · exact hz q
    · exact hm (List.mem_of_mem_drop q)
  | .scr ds, v, o, h => by
    simp only [Rep] at h ⊢
    obtain ⟨p, vs, rfl, hp, r⟩ := h
    exact ⟨p, vs, rfl, hp, Reps.cut' ds vs (by simpa [okB] using o) r⟩
  | .dct ks ws, v, o, h => by
    simp only [Rep] at h ⊢
    obtain ⟨p, vs, rfl, hp, hz, hm, nd, hk, r⟩ := h
    refine ⟨p, vs, rfl, hp, ?_, fun q => hm (List.mem_of_mem_take q), nd, hk, Reps.cut' ws _ (by simpa [okB] using o) r⟩
    intro q
    rcases List.mem_append.mp q with q | q
    · exact hz q
    · exact hm (List.mem_of_mem_drop q)
  | .ref n, v, o, h => by
    simp only [Rep] at h ⊢
    obtain ⟨p, hp, rfl⟩ := h
    have : n < b := by simpa [okB] using o
    exact ⟨p, by rw [List.getElem?_take_of_lt this]; exact hp, rfl⟩
theorem Reps.cut' {b : Nat} : ∀ (ds : List D) (vs : List V), okBs b ds = true → Reps K Z m H ds vs → Reps K (Z ++ m.drop b) (m.take b) H ds vs
  | [], _, _, h => by simpa [Reps] using h
  | d :: ds, vs, o, h => by
    simp only [Reps] at h ⊢
    obtain ⟨v, r, rfl, h1, h2⟩ := h
    simp only [okBs, Bool.and_eq_true] at o
    exact ⟨v, r, rfl, Rep.cut d v o.1 h1, Reps.cut' ds r o.2 h2⟩
end
mutual
/-- back: what the callee knows, its objects from b on frozen -/
theorem Rep.back {b : Nat} {m' : List Addr} (hp : m'.take b = m.take b) (hb : b ≤ m.length) : ∀ (d : D) (v : V), okB b d = true → Rep K (Z ++ m.drop b) m' H d v → Rep K Z m H d v
  | .non, _, _, h | .bl _, _, _, h | .int _, _, _, h | .str _, _, _, h | .ty _, _, _, h => by simpa [Rep] using h
  | .fn _, _, _, h => by simp [Rep] at h
  | .tup ds, v, o, h => by
    simp only [Rep] at h ⊢
    obtain ⟨p, vs, rfl, hs, r⟩ := h
    exact ⟨p, vs, rfl, hs, Reps.back hp hb ds vs (by simpa [okB] using o) r⟩
  | .lst ds, v, o, h => by
    simp only [Rep] at h ⊢
    obtain ⟨p, vs, rfl, hv, hz, hm, r⟩ := h
    refine ⟨p, vs, rfl, hv, fun q => hz (List.mem_append_left _ q), fun q => ?_, Reps.back hp hb ds vs (by simpa [okB] using o) r⟩
    rw [← List.take_append_drop b m] at q
    rcases List.mem_append.mp q with q | q
    · rw [← hp] at q
      exact hm (List.mem_of_mem_take q)
    · exact hz (List.mem_append_right _ q)
  | .scr ds, v, o, h => by
    simp only [Rep] at h ⊢
    obtain ⟨p, vs, rfl, hv, r⟩ := h
    exact ⟨p, vs, rfl, hv, Reps.back hp hb ds vs (by simpa [okB] using o) r⟩
  | .dct ks ws, v, o, h => by
    simp only [Rep] at h ⊢
    obtain ⟨p, vs, rfl, hv, hz, hm, nd, hk, r⟩ := h
    refine ⟨p, vs, rfl, hv, fun q => hz (List.mem_append_left _ q), fun q => ?_, nd, hk, Reps.back hp hb ws _ (by simpa [okB] using o) r⟩
    rw [← List.take_append_drop b m] at q
    rcases List.mem_append.mp q with q | q
    · rw [← hp] at q
      exact hm (List.mem_of_mem_take q)
    · exact hz (List.mem_append_right _ q)
  | .ref n, v, o, h => by
    simp only [Rep] at h ⊢
    obtain ⟨p, hv, rfl⟩ := h
    have : n < b := by simpa [okB] using o
    refine ⟨p, ?_, rfl⟩
    rw [← List.getElem?_take_of_lt this, ← hp, List.getElem?_take_of_lt this]
    exact hv
theorem Reps.back {b : Nat} {m' : List Addr} (hp : m'.take b = m.take b) (hb : b ≤ m.length) : ∀ (ds : List D) (vs : List V), okBs b ds = true → Reps K (Z ++ m.drop b) m' H ds vs → Reps K Z m H ds vs
  | [], _, _, h => by simpa [Reps] using h
  | d :: ds, vs, o, h => by
    simp only [Reps] at h ⊢
    obtain ⟨v, r, rfl, h1, h2⟩ := h
    simp only [okBs, Bool.and_eq_true] at o
    exact ⟨v, r, rfl, Rep.back hp hb d v o.1 h1, Reps.back hp hb ds r o.2 h2⟩
end
end
end Dp

set_option Elab.async false
set_option linter.all false
set_option autoImplicit false
set_option maxRecDepth 100000
set_option maxHeartbeats 2000000
namespace Dp
open PySem L2 PySem.Spec PyProof.Rows
section
variable {K : PySem.W.Frag} {Z m m' : List Addr} {H H' : Hp} {h h2 : Hs} {b : Nat}
theorem Ext.cut (x : Ext (m.take b) H m' H') (s : HS K Z m h H) : Ext m H m H' :=
  ⟨⟨[], by simp⟩, fun a o n e => x.keep a o (fun q => n (List.mem_of_mem_take q)) e, fun a h n => absurd h n, x.tup, x.frz, x.som⟩
theorem take_of_ext (x : Ext (m.take b) H m' H') (hb : b ≤ m.length) : m'.take b = m.take b := by
  obtain ⟨t, rfl⟩ := x.pre
  rw [List.take_append_of_le_length (by simp; omega)]
  rw [List.take_take]; simp
theorem HS.cutIn (s : HS K Z m h H) (hb : b ≤ h.length) (ho : (h.take b).all (okO b) = true) : HS K (Z ++ m.drop b) (m.take b) (h.take b) H := by
  refine ⟨by simp [s.len], (List.take_sublist b m).nodup s.nd, fun a ha => ?_, fun n o p e1 e2 => ?_⟩
  · rcases List.mem_append.mp ha with ha | ha
    · exact ⟨(s.z a ha).1, fun q => (s.z a ha).2 (List.mem_of_mem_take q)⟩
    · refine ⟨s.some (List.mem_of_mem_drop ha), fun q => ?_⟩
      have := s.nd
      rw [← List.take_append_drop b m] at this
      exact (List.nodup_append.mp this).2.2 a q a ha rfl
  · have hn : n < b := by
      have := (List.getElem?_eq_some_iff.mp e1).1
      simp at this; omega
    rw [List.getElem?_take_of_lt hn] at e1 e2
    have r := s.ob n o p e1 e2
    have hk : okO b o = true := List.all_eq_true.mp ho o (by
      refine List.mem_of_getElem? (i := n) ?_
      rw [List.getElem?_take_of_lt hn]; exact e1)
    cases o with
    | lst ds => obtain ⟨vs, q, r⟩ := r; exact ⟨vs, q, Reps.cut' ds vs (by simpa [okO] using hk) r⟩
    | dct ks ws => obtain ⟨kvs, q, nd, q2, r⟩ := r; exact ⟨kvs, q, nd, q2, Reps.cut' ws _ (by simpa [okO] using hk) r⟩
    | ins c fs => exact r
/-- what stands behind a call that had the first b objects alone -/
theorem HS.cutOut (s : HS K Z m h H) (hb : b ≤ h.length) (x : Ext (m.take b) H m' H') (s' : HS K (Z ++ m.drop b) m' h2 H') (hb2 : b ≤ h2.length) (ho : (h2.take b).all (okO b) = true) : HS K Z m (h2.take b ++ h.drop b) H' := by
  have hbm : b ≤ m.length := by rw [s.len]; exact hb
  have tk := take_of_ext x hbm
  have E := x.cut s
  refine ⟨by simp [s.len]; omega, s.nd, fun a ha => ⟨x.som a (s.z a ha).1, (s.z a ha).2⟩, fun n o p e1 e2 => ?_⟩
  by_cases hn : n < b
  · rw [List.getElem?_append_left (by simp; omega), List.getElem?_take_of_lt hn] at e1
    have e2' : m'[n]? = Option.some p := by rw [← List.getElem?_take_of_lt hn, tk, List.getElem?_take_of_lt hn]; exact e2
    have r := s'.ob n o p e1 e2'
    have hk : okO b o = true := List.all_eq_true.mp ho o (by
      refine List.mem_of_getElem? (i := n) ?_
      rw [List.getElem?_take_of_lt hn]; exact e1)
    cases o with
    | lst ds => obtain ⟨vs, q, r⟩ := r; exact ⟨vs, q, Reps.back tk hbm ds vs (by simpa [okO] using hk) r⟩
    | dct ks ws => obtain ⟨kvs, q, nd, q2, r⟩ := r; exact ⟨kvs, q, nd, q2, Reps.back tk hbm ws _ (by simpa [okO] using hk) r⟩
    | ins c fs => exact r
  · rw [List.getElem?_append_right (by simp; omega)] at e1
    have el : (h2.take b).length = b := by simp; omega
    rw [el, List.getElem?_drop] at e1
    have : b + (n - b) = n := by omega
    rw [this] at e1
    have r := s.ob n o p e1 e2
    refine r.mono E ?_
    have hp : p ∉ m.take b := fun q => by
      obtain ⟨j, hj, ej⟩ := List.mem_iff_getElem.mp q
      have hj2 : j < b := by simp at hj; omega
      have e3 : m[j]? = Option.some p := by
        rw [← List.getElem?_take_of_lt hj2, List.getElem?_eq_getElem hj, ej]
      obtain ⟨h1, e1'⟩ := List.getElem?_eq_some_iff.mp e3
      obtain ⟨h2', e2'⟩ := List.getElem?_eq_some_iff.mp e2
      have := (List.getElem_inj s.nd).mp (e1'.trans e2'.symm)
      omega
    cases q : H p with
    | none => exact absurd q (s.some (List.mem_of_getElem? e2))
    | some u => exact x.keep p u hp q
theorem new_out (s : HS K Z m h H) (hb : b ≤ h.length) (x : Ext (m.take b) H m' H') (s' : HS K (Z ++ m.drop b) m' h2 H') {n : Nat} {p : Addr} (hn : ¬ n < b) (e : m'[n]? = some p) : p ∉ Z ∧ p ∉ m := by
  have hbm : b ≤ m.length := by rw [s.len]; exact hb
  have tk := take_of_ext x hbm
  have hp : p ∉ m.take b := fun q => by
    rw [← tk] at q
    obtain ⟨j, hj, ej⟩ := List.mem_iff_getElem.mp q
    have hj2 : j < b := by simp at hj; omega
    have e3 : m'[j]? = Option.some p := by
      rw [← List.getElem?_take_of_lt hj2, List.getElem?_eq_getElem hj, ej]
    obtain ⟨h1, e1'⟩ := List.getElem?_eq_some_iff.mp e3
    obtain ⟨h2', e2'⟩ := List.getElem?_eq_some_iff.mp e
    have := (List.getElem_inj s'.nd).mp (e1'.trans e2'.symm)
    omega
  have := x.new p (List.mem_of_getElem? e) hp
  exact ⟨(s.notIn this).2, (s.notIn this).1⟩
mutual
theorem fz_rep (s : HS K Z m h H) (hb : b ≤ h.length) (x : Ext (m.take b) H m' H') (s' : HS K (Z ++ m.drop b) m' h2 H') : ∀ (d d' : D) (v : V), fz h2 b d = some d' → Rep K (Z ++ m.drop b) m' H' d v → Rep K Z m H' d' v
  | .non, d', v, e, r | .bl _, d', v, e, r | .int _, d', v, e, r | .str _, d', v, e, r | .ty _, d', v, e, r => by
    simp only [fz, Option.some.injEq] at e
    subst e
    simpa [Rep] using r
  | .fn _, d', v, e, r => by simp [Rep] at r
  | .tup ds, d', v, e, r => by
    simp only [fz] at e
    cases e1 : fzs h2 b ds with
    | none => rw [e1] at e; cases e
    | some es =>
      rw [e1] at e
      cases e
      simp only [Rep] at r ⊢
      obtain ⟨p, vs, rfl, hp, rr⟩ := r
      exact ⟨p, vs, rfl, hp, fzs_rep s hb x s' ds es vs e1 rr⟩
  | .lst ds, d', v, e, r => by
    simp only [fz] at e
    cases e1 : fzs h2 b ds with
    | none => rw [e1] at e; cases e
    | some es =>
      rw [e1] at e
      cases e
      simp only [Rep] at r ⊢
      obtain ⟨p, vs, rfl, hp, hz, hm, rr⟩ := r
      refine ⟨p, vs, rfl, hp, fun q => hz (List.mem_append_left _ q), fun q => ?_, fzs_rep s hb x s' ds es vs e1 rr⟩
      rw [← List.take_append_drop b m] at q
      rcases List.mem_append.mp q with q | q
      · exact hm (x.mem q)
      · exact hz (List.mem_append_right _ q)
  | .scr ds, d', v, e, r => by
    simp only [fz] at e
    cases e1 : fzs h2 b ds with
    | none => rw [e1] at e; cases e
    | some es =>
      rw [e1] at e
      cases e
      simp only [Rep] at r ⊢
      obtain ⟨p, vs, rfl, hp, rr⟩ := r
      exact ⟨p, vs, rfl, hp, fzs_rep s hb x s' ds es vs e1 rr⟩
  | .dct ks ws, d', v, e, r => by
    simp only [fz] at e
    cases e1 : fzs h2 b ws with
    | none => rw [e1] at e; cases e
    | some es =>
      rw [e1] at e
      cases e
      simp only [Rep] at r ⊢
      obtain ⟨p, vs, rfl, hp, hz, hm, nd, hk, rr⟩ := r
      refine ⟨p, vs, rfl, hp, fun q => hz (List.mem_append_left _ q), fun q => ?_, nd, hk, fzs_rep s hb x s' ws es _ e1 rr⟩
      rw [← List.take_append_drop b m] at q
      rcases List.mem_append.mp q with q | q
      · exact hm (x.mem q)
      · exact hz (List.mem_append_right _ q)
  | .ref n, d', v, e, r => by
    have hbm : b ≤ m.length := by rw [s.len]; exact hb
    have tk := take_of_ext x hbm
    simp only [fz] at e
    split at e
    · rename_i hn
      cases e
      exact Rep.back tk hbm (.ref n) v (by simpa [okB] using hn) r
    · rename_i hn
      simp only [Rep] at r
      obtain ⟨p, hp, rfl⟩ := r
      have np := new_out s hb x s' hn hp
      split at e
      · rename_i ds he
        split at e
        · rename_i ho
          cases e
          obtain ⟨vs, hv, rr⟩ := s'.ob n _ p he hp
          simp only [Rep]
          exact ⟨p, vs, rfl, hv, np.1, np.2, Reps.back tk hbm ds vs ho rr⟩
        · cases e
      · rename_i ks ws he
        split at e
        · rename_i ho
          cases e
          obtain ⟨kvs, hv, nd, hk, rr⟩ := s'.ob n _ p he hp
          simp only [Rep]
          exact ⟨p, kvs, rfl, hv, np.1, np.2, nd, hk, Reps.back tk hbm ws _ ho rr⟩
        · cases e
      · cases e
theorem fzs_rep (s : HS K Z m h H) (hb : b ≤ h.length) (x : Ext (m.take b) H m' H') (s' : HS K (Z ++ m.drop b) m' h2 H') : ∀ (ds es : List D) (vs : List V), fzs h2 b ds = some es → Reps K (Z ++ m.drop b) m' H' ds vs → Reps K Z m H' es vs
  | [], es, vs, e, r => by
    simp only [fzs, Option.some.injEq] at e
    subst e
    simpa [Reps] using r
  | d :: ds, es, vs, e, r => by
    simp only [fzs] at e
    cases e1 : fz h2 b d with
    | none => rw [e1] at e; cases e
    | some d' =>
      rw [e1] at e
      simp only [Option.bind_some] at e
      cases e2 : fzs h2 b ds with
      | none => rw [e2] at e; cases e
      | some es' =>
        rw [e2] at e
        cases e
        simp only [Reps] at r ⊢
        obtain ⟨v, q, rfl, r1, r2⟩ := r
        exact ⟨v, q, rfl, fz_rep s hb x s' d d' v e1 r1, fzs_rep s hb x s' ds es' q e2 r2⟩
end
end

section
variable {X : Cx} {cl : CallT}
theorem pe_calls {f np k : Nat} {a : Addr} {fd : FuncData} {ps : List Str} {x : Str} {es : List Expr} {rs : REs} {p pos : Pos} {b : Option Nat} (F : FnOk X.prog X.w X.K X.mg X.base CX0 k a fd ps (spF X.K cl f np)) (hr : Room k X.A) (hg : Gl X x) (hm : X.mg x = some (.ref a)) (hk : PySem.W.keepIn X.K (.ref a) = true)
    (hb : Binds X.K fd ps []) (hdb : (x == ("__debug__" : Str)) = false) (hl : ∀ ds h d h', cl f ds h = some (d, h') → ds.length = np) (s : Sns X cl es rs) : PE X (.Call (.Name x p) es [] pos) (tE X.K (evE cl (.call b f rs))) := by
  have main : PE X (.Call (.Name x p) es [] pos) (tCall (spF X.K cl f np) [] E0 (tA X.K (evEs cl rs))) := by
    cases es with
    | nil =>
      cases s
      refine (pe_call0 F hr hg hm hk hb .nil pass0 hdb).w fun σ H Q g => ?_
      obtain ⟨Z, m, ρ, h, ds, h', ee, hs, e, q⟩ := g
      simp only [evEs, Option.some.injEq, Prod.mk.injEq] at e
      obtain ⟨rfl, rfl⟩ := e
      exact q m [] H Ext.refl hs Reps.nil
    | cons e es =>
      have h1 := s.star
      simp only [List.all_cons, Bool.and_eq_true] at h1
      exact pe_call F hr hg hm hk hb .nil pass0 s.pa hdb (star_one h1.1) (star_any h1.2)
  refine main.w fun σ H Q g => ?_
  obtain ⟨Z, m, ρ, h, d, h', ee, hs, e, q⟩ := g
  cases b with
  | none =>
    simp only [evE] at e
    cases e1 : evEs cl rs ρ h with
    | none => rw [e1] at e; cases e
    | some r1 =>
      obtain ⟨ds, h1⟩ := r1
      rw [e1] at e
      simp only [Option.bind_some] at e
      exact ⟨Z, m, ρ, h, ds, h1, ee, hs, e1, fun m1 vs H1 x1 s1 r1 => ⟨Z, m1, ds, h1, d, h', s1, by rw [List.append_nil]; exact r1, hl _ _ _ _ e, e, fun m2 v2 H2 x2 s2 r2 => q m2 v2 H2 (x1.trans x2) s2 r2⟩⟩
  | some b =>
    simp only [evE] at e
    cases e1 : evEs cl rs ρ h with
    | none => rw [e1] at e; cases e
    | some r1 =>
      obtain ⟨ds, h1⟩ := r1
      rw [e1] at e
      simp only [Option.bind_some] at e
      split at e
      · rename_i hc
        simp only [Bool.and_eq_true, decide_eq_true_eq] at hc
        cases e2 : cl f ds (h1.take b) with
        | none => rw [e2] at e; cases e
        | some r2 =>
          obtain ⟨d2, h2⟩ := r2
          rw [e2] at e
          simp only [Option.bind_some] at e
          split at e
          · rename_i hc2
            simp only [Bool.and_eq_true, decide_eq_true_eq] at hc2
            cases e3 : fz h2 b d2 with
            | none => rw [e3] at e; cases e
            | some d3 =>
              rw [e3] at e
              simp only [Option.map_some, Option.some.injEq, Prod.mk.injEq] at e
              obtain ⟨rfl, rfl⟩ := e
              refine ⟨Z, m, ρ, h, ds, h1, ee, hs, e1, fun m1 vs H1 x1 s1 r1 => ⟨Z ++ m1.drop b, m1.take b, ds, h1.take b, d2, h2, s1.cutIn hc.1.2 hc.2, by rw [List.append_nil]; exact Reps.cut' ds vs hc.1.1 r1, hl _ _ _ _ e2, e2, fun m2 v2 H2 x2 s2 r2 => ?_⟩⟩
              exact q m1 v2 H2 (x1.trans (x2.cut s1)) (s1.cutOut hc.1.2 x2 s2 hc2.1 hc2.2) (fz_rep s1 hc.1.2 x2 s2 d2 d3 v2 e3 r2)
          · cases e
      · cases e
end
end Dp

set_option Elab.async false
set_option linter.all false
set_option autoImplicit false
set_option maxRecDepth 100000
set_option maxHeartbeats 2000000
namespace Dp
open PySem L2 PySem.Spec PyProof.Rows

mutual
def slotsT : RT → List Nat
  | .nm i => [i]
  | .tp ts => slotsTs ts
def slotsTs : List RT → List Nat
  | [] => []
  | t :: ts => slotsT t ++ slotsTs ts
end
def Out (sl : List Nat) (σ σ' : L2.St) : Prop := σ'.length = σ.length ∧ ∀ i, i ∉ sl → σ'[i]? = σ[i]?
theorem Out.trans {a b : List Nat} {σ σ1 σ2 : L2.St} (x : Out a σ σ1) (y : Out b σ1 σ2) : Out (a ++ b) σ σ2 :=
  ⟨y.1.trans x.1, fun i hi => by
    rw [y.2 i fun q => hi (List.mem_append_right _ q), x.2 i fun q => hi (List.mem_append_left _ q)]⟩
theorem wipe_get (σ : L2.St) : ∀ (vs : List Nat) (i : Nat), (L2.wipe σ vs)[i]? = if i ∈ vs then (if i < σ.length then some none else none) else σ[i]?
  | [], i => by simp [L2.wipe]
  | v :: vs, i => by
    unfold L2.wipe
    have ih := wipe_get σ vs i
    by_cases hi : v = i
    · subst hi
      simp only [List.mem_cons, true_or, if_true]
      by_cases hl : v < σ.length
      · rw [List.getElem?_set_self (by rw [wipe_length]; exact hl), if_pos hl]
      · rw [List.getElem?_eq_none (by rw [List.length_set, wipe_length]; omega), if_neg hl]
    · rw [List.getElem?_set_ne hi, ih]
      have : i ∈ v :: vs ↔ i ∈ vs := by
        rw [List.mem_cons]
        exact ⟨fun q => q.resolve_left (Ne.symm hi), .inr⟩
      simp only [this]
theorem Out.wipe {sl vs : List Nat} {σ σ' : L2.St} (x : Out sl σ σ') (h : ∀ i ∈ sl, i ∈ vs) : L2.wipe σ' vs = L2.wipe σ vs := by
  refine List.ext_getElem? fun i => ?_
  rw [wipe_get, wipe_get, x.1]
  by_cases hi : i ∈ vs
  · simp only [if_pos hi]
  · simp only [if_neg hi]
    exact x.2 i fun q => hi (h i q)
theorem wipe_wipe (σ : L2.St) (vs : List Nat) : L2.wipe (L2.wipe σ vs) vs = L2.wipe σ vs := by
  refine List.ext_getElem? fun i => ?_
  rw [wipe_get, wipe_get, wipe_length]
  by_cases hi : i ∈ vs
  · simp only [if_pos hi]
  · simp only [if_neg hi]
def gR (K : PySem.W.Frag) (t : RT) : TG := fun v σ H Q => ∃ Z m ρ h d ρ', Es K Z m H ρ σ ∧ HS K Z m h H ∧ Rep K Z m H d v ∧ asgT h t d ρ = some ρ' ∧ ∀ σ', Es K Z m H ρ' σ' → Out (slotsT t) σ σ' → Q σ' H
def gRs (K : PySem.W.Frag) (ts : List RT) : TGs := fun vs σ H Q => ∃ Z m ρ h ds ρ', Es K Z m H ρ σ ∧ HS K Z m h H ∧ Reps K Z m H ds vs ∧ asgTs h ts ds ρ = some ρ' ∧ ∀ σ', Es K Z m H ρ' σ' → Out (slotsTs ts) σ σ' → Q σ' H
section
variable {X : Cx}
theorem _root_.L2.PG.w {tg : Expr} {t t' : TG} (h : PG X tg t) (i : ∀ v σ H Q, t' v σ H Q → t v σ H Q) : PG X tg t' := ⟨fun pins s σ H v u Q I r q => h.run pins s σ H v u Q I r (i v σ H Q q)⟩
theorem _root_.L2.PGs.w {tg : List Expr} {t t' : TGs} (h : PGs X tg t) (i : ∀ v σ H Q, t' v σ H Q → t v σ H Q) : PGs X tg t' := ⟨fun pins s σ H v u Q I r q => h.run pins s σ H v u Q I r (i v σ H Q q)⟩
theorem PG.or {tg : Expr} {t t' : TG} (h : PG X tg t) (h' : PG X tg t') : PG X tg (fun v σ H Q => t v σ H Q ∨ t' v σ H Q) :=
  ⟨fun pins s σ H v u Q I r q => q.elim (fun q => h.run pins s σ H v u Q I r q) (fun q => h'.run pins s σ H v u Q I r q)⟩
theorem asg_len {env : PySem.Env} : ∀ es : List Expr, (assignEach es env).length = es.length
  | [] => rfl
  | e :: es => by
    have := asg_len (env := env) es
    cases e <;> simp [assignEach, this]
theorem asg_star {env : PySem.Env} : ∀ {es : List Expr}, es.all notStar = true → (assignEach es env).findIdx? (·.1) = none
  | [], _ => rfl
  | e :: es, h => by
    simp only [List.all_cons, Bool.and_eq_true] at h
    have ih := asg_star (env := env) h.2
    cases e <;> simp_all [assignEach, notStar, List.findIdx?_cons]
theorem asg_map {env : PySem.Env} {e : Expr} {es : List Expr} (h : notStar e = true) : (assignEach (e :: es) env).map (·.2) = assign e env :: (assignEach es env).map (·.2) := by
  cases e <;> first | rfl | simp [notStar] at h
theorem pg_nm {i : Nat} {x : Str} {pos : Pos} (hN : X.N.Nodup) (hi : X.N[i]? = some x) (hx : Loc X.env.scope x) (hf : X.fn x = true ∨ X.env.scope.names.lookup x = some .local) : PG X (.Name x pos) (gR X.K (.nm i)) := by
  refine (pg_name hN hi hx hf).w fun v σ H Q g => ?_
  obtain ⟨Z, m, ρ, h, d, ρ', ee, hs, r, e, q⟩ := g
  simp only [asgT] at e
  split at e
  · cases e
    refine q _ (ee.set r) ⟨by simp, fun j hj => ?_⟩
    simp only [slotsT, List.mem_singleton] at hj
    rw [List.getElem?_set_ne (Ne.symm hj)]
  · cases e
theorem pg_tp {es : List Expr} {ts : List RT} {k : Nat} {pos : Pos} (hc : X.calm = true) (hst : es.all notStar = true) (h : PGs X es (gRs X.K ts)) (hl : es.length = ts.length) : PG X (.Tuple es k pos) (gR X.K (.tp ts)) := by
  refine (PG.or (pg_tup hc h (asg_len es) (asg_star hst)) (pg_lst hc h (asg_len es) (asg_star hst))).w fun v σ H Q g => ?_
  obtain ⟨Z, m, ρ, hh, d, ρ', ee, hs, r, e, q⟩ := g
  simp only [asgT] at e
  cases e1 : seqA hh d with
  | none => rw [e1] at e; cases e
  | some ds =>
    rw [e1] at e
    simp only [Option.bind_some] at e
    obtain ⟨p, vs, rfl, hp, rr⟩ := rd_A hs r e1
    have hlen : ds.length = ts.length := by
      have : ∀ (ts : List RT) (ds : List D) (ρ ρ' : Env), asgTs hh ts ds ρ = some ρ' → ds.length = ts.length := by
        intro ts
        induction ts with
        | nil => intro ds ρ ρ' e; cases ds <;> simp [asgTs] at e ⊢
        | cons t ts ih =>
          intro ds ρ ρ' e
          cases ds with
          | nil => simp [asgTs] at e
          | cons d ds =>
            simp only [asgTs] at e
            cases e2 : asgT hh t d ρ with
            | none => rw [e2] at e; cases e
            | some ρ1 =>
              rw [e2] at e
              simp only [Option.bind_some] at e
              simp [ih ds ρ1 ρ' e]
      exact this ts ds ρ ρ' e
    have fin : gRs X.K ts vs σ H Q := ⟨Z, m, ρ, hh, ds, ρ', ee, hs, rr, e, fun σ' e' o => q σ' e' (by simpa [slotsT] using o)⟩
    rcases hp with hp | hp
    · exact .inr ⟨p, vs, rfl, hp, by rw [← rr.len, hlen, hl], fin⟩
    · exact .inl ⟨p, vs, rfl, hp, by rw [← rr.len, hlen, hl], fin⟩
theorem pgs_n : PGs X [] (gRs X.K []) := by
  refine pgs_nil.w fun vs σ H Q g => ?_
  obtain ⟨Z, m, ρ, h, ds, ρ', ee, hs, r, e, q⟩ := g
  cases ds with
  | nil =>
    simp only [asgTs, Option.some.injEq] at e
    subst e
    simp only [Reps] at r
    exact ⟨r, q σ ee ⟨rfl, fun _ _ => rfl⟩⟩
  | cons d ds => simp [asgTs] at e
theorem pgs_c {e : Expr} {es : List Expr} {t : RT} {ts : List RT} (hst : notStar e = true) (h1 : PG X e (gR X.K t)) (h2 : PGs X es (gRs X.K ts)) : PGs X (e :: es) (gRs X.K (t :: ts)) := by
  refine (pgs_cons h1 h2 (asg_map hst)).w fun vs σ H Q g => ?_
  obtain ⟨Z, m, ρ, h, ds, ρ', ee, hs, r, e, q⟩ := g
  cases ds with
  | nil => simp [asgTs] at e
  | cons d ds =>
    simp only [asgTs] at e
    cases e2 : asgT h t d ρ with
    | none => rw [e2] at e; cases e
    | some ρ1 =>
      rw [e2] at e
      simp only [Option.bind_some] at e
      simp only [Reps] at r
      obtain ⟨v, vr, rfl, r1, r2⟩ := r
      exact ⟨v, vr, rfl, Z, m, ρ, h, d, ρ1, ee, hs, r1, e2, fun σ1 e1 o1 => ⟨Z, m, ρ1, h, ds, ρ', e1, hs, r2, e, fun σ2 e2 o2 => q σ2 e2 (by simp only [slotsTs]; exact o1.trans o2)⟩⟩
end

structure Wk (K : PySem.W.Frag) (Z m1 : List Addr) (H1 : Hp) (its : List D) (chk : Hs → Bool) (J : It) : Prop where
  go : ∀ i mi hi H, Ext m1 H1 mi H → HS K Z mi hi H → chk hi = true → i < its.length → J.go i H ∧ ∀ x H', J.yld i H x H' → ∃ d, its[i]? = some d ∧ Ext mi H mi H' ∧ HS K Z mi hi H' ∧ Rep K Z mi H' d x
  stop : ∀ mi hi H, Ext m1 H1 mi H → HS K Z mi hi H → chk hi = true → J.stop its.length H
def tI (K : PySem.W.Frag) (s : Src) (f : Env → Hs → Option (List D × Hs)) : TI := fun σ H R => ∃ Z m ρ h ds h1 its, Es K Z m H ρ σ ∧ HS K Z m h H ∧ f ρ h = some (ds, h1) ∧ items h1 s ds = some its ∧
  ∀ m1 H1 J, Ext m H m1 H1 → HS K Z m1 h1 H1 → Wk K Z m1 H1 its (chkS s ds its) J → (∀ D o, H1 D = none → Wk K (D :: Z) m1 (upd H1 D o) its (chkS s ds its) J) → R J H1
section
variable {K : PySem.W.Frag} {Z m : List Addr} {H : Hp}
mutual
theorem Rep.hide {D0 : Addr} {o : HO} (hD : H D0 = none) : ∀ (d : D) (v : V), Rep K Z m H d v → Rep K (D0 :: Z) m (upd H D0 o) d v
  | .non, _, h | .bl _, _, h | .int _, _, h | .str _, _, h | .ty _, _, h => by simpa [Rep] using h
  | .fn _, _, h => by simp [Rep] at h
  | .tup ds, v, h => by
    simp only [Rep] at h ⊢
    obtain ⟨p, vs, rfl, hs, r⟩ := h
    exact ⟨p, vs, rfl, (Ext.fresh (m := m) hD).sqT hs, Reps.hide hD ds vs r⟩
  | .lst ds, v, h => by
    simp only [Rep] at h ⊢
    obtain ⟨p, vs, rfl, hp, hz, hm, r⟩ := h
    have np : p ≠ D0 := ne_of_none hp hD
    exact ⟨p, vs, rfl, by rw [upd_ne np]; exact hp, by simp [np, hz], hm, Reps.hide hD ds vs r⟩
  | .scr ds, v, h => by
    simp only [Rep] at h ⊢
    obtain ⟨p, vs, rfl, hp, r⟩ := h
    exact ⟨p, vs, rfl, hp.imp (fun ⟨o', hp⟩ => ⟨o', by rw [upd_ne (ne_of_none hp hD)]; exact hp⟩) id, Reps.hide hD ds vs r⟩
  | .dct ks ws, v, h => by
    simp only [Rep] at h ⊢
    obtain ⟨p, vs, rfl, hp, hz, hm, nd, hk, r⟩ := h
    have np : p ≠ D0 := ne_of_none hp hD
    exact ⟨p, vs, rfl, by rw [upd_ne np]; exact hp, by simp [np, hz], hm, nd, hk, Reps.hide hD ws _ r⟩
  | .ref n, v, h => by simpa [Rep] using h
theorem Reps.hide {D0 : Addr} {o : HO} (hD : H D0 = none) : ∀ (ds : List D) (vs : List V), Reps K Z m H ds vs → Reps K (D0 :: Z) m (upd H D0 o) ds vs
  | [], _, h => by simpa [Reps] using h
  | d :: ds, vs, h => by
    simp only [Reps] at h ⊢
    obtain ⟨v, r, rfl, h1, h2⟩ := h
    exact ⟨v, r, rfl, Rep.hide hD d v h1, Reps.hide hD ds r h2⟩
end
theorem HS.hide {h : Hs} {D0 : Addr} {o : HO} (s : HS K Z m h H) (hD : H D0 = none) : HS K (D0 :: Z) m h (upd H D0 o) := by
  have np := s.notIn hD
  refine ⟨s.len, s.nd, fun a ha => ?_, fun n o' p e1 e2 => ?_⟩
  · rcases List.mem_cons.mp ha with rfl | ha
    · exact ⟨by rw [upd_same]; simp, np.1⟩
    · exact ⟨(Ext.fresh (m := m) hD).som a (s.z a ha).1, (s.z a ha).2⟩
  · have hp : p ≠ D0 := fun z => s.some (List.mem_of_getElem? e2) (z ▸ hD)
    have r := s.ob n o' p e1 e2
    cases o' with
    | lst ds => obtain ⟨vs, q, r⟩ := r; exact ⟨vs, by rw [upd_ne hp]; exact q, Reps.hide hD ds vs r⟩
    | dct ks ws => obtain ⟨kvs, q, nd, q2, r⟩ := r; exact ⟨kvs, by rw [upd_ne hp]; exact q, nd, q2, Reps.hide hD ws _ r⟩
    | ins c fs => exact r
theorem Es.hide {ρ : Env} {σ : L2.St} {D0 : Addr} {o : HO} (s : Es K Z m H ρ σ) (hD : H D0 = none) : Es K (D0 :: Z) m (upd H D0 o) ρ σ :=
  ⟨s.len, fun i d e => let ⟨v, h1, h2⟩ := s.at_ i d e; ⟨v, h1, Rep.hide hD d v h2⟩⟩
/-- the heap without one -/
def del (H : Hp) (D0 : Addr) : Hp := fun b => if b = D0 then none else H b
theorem del_ne {D0 b : Addr} (h : b ≠ D0) : del H D0 b = H b := by unfold del; rw [if_neg h]
theorem del_same {D0 : Addr} : del H D0 D0 = none := by unfold del; rw [if_pos rfl]
theorem upd_del {D0 : Addr} {o : HO} (h : H D0 = some o) : upd (del H D0) D0 o = H := by
  funext b
  by_cases q : b = D0
  · subst q; rw [upd_same, h]
  · rw [upd_ne q, del_ne q]
mutual
theorem Rep.show {D0 : Addr} {xs : List V} (hD : H D0 = some (.lst xs)) : ∀ (d : D) (v : V), Rep K (D0 :: Z) m H d v → Rep K Z m (del H D0) d v
  | .non, _, h | .bl _, _, h | .int _, _, h | .str _, _, h | .ty _, _, h => by simpa [Rep] using h
  | .fn _, _, h => by simp [Rep] at h
  | .tup ds, v, h => by
    simp only [Rep] at h ⊢
    obtain ⟨p, vs, rfl, hs, r⟩ := h
    refine ⟨p, vs, rfl, ?_, Reps.show hD ds vs r⟩
    rcases hs with (hs | ⟨o, hs⟩) | hs
    · exact .inl (.inl (by rw [del_ne (fun z => by rw [z, hD] at hs; cases hs)]; exact hs))
    · exact .inl (.inr ⟨o, by rw [del_ne (fun z => by rw [z, hD] at hs; cases hs)]; exact hs⟩)
    · exact .inr hs
  | .lst ds, v, h => by
    simp only [Rep] at h ⊢
    obtain ⟨p, vs, rfl, hp, hz, hm, r⟩ := h
    simp only [List.mem_cons, not_or] at hz
    exact ⟨p, vs, rfl, by rw [del_ne hz.1]; exact hp, hz.2, hm, Reps.show hD ds vs r⟩
  | .scr ds, v, h => by
    simp only [Rep] at h ⊢
    obtain ⟨p, vs, rfl, hp, r⟩ := h
    exact ⟨p, vs, rfl, hp.imp (fun ⟨o', hp⟩ => ⟨o', by rw [del_ne (fun z => by rw [z, hD] at hp; cases hp)]; exact hp⟩) id, Reps.show hD ds vs r⟩
  | .dct ks ws, v, h => by
    simp only [Rep] at h ⊢
    obtain ⟨p, vs, rfl, hp, hz, hm, nd, hk, r⟩ := h
    simp only [List.mem_cons, not_or] at hz
    exact ⟨p, vs, rfl, by rw [del_ne hz.1]; exact hp, hz.2, hm, nd, hk, Reps.show hD ws _ r⟩
  | .ref n, v, h => by simpa [Rep] using h
theorem Reps.show {D0 : Addr} {xs : List V} (hD : H D0 = some (.lst xs)) : ∀ (ds : List D) (vs : List V), Reps K (D0 :: Z) m H ds vs → Reps K Z m (del H D0) ds vs
  | [], _, h => by simpa [Reps] using h
  | d :: ds, vs, h => by
    simp only [Reps] at h ⊢
    obtain ⟨v, r, rfl, h1, h2⟩ := h
    exact ⟨v, r, rfl, Rep.show hD d v h1, Reps.show hD ds r h2⟩
end
theorem HS.show {h : Hs} {D0 : Addr} {xs : List V} (s : HS K (D0 :: Z) m h H) (hD : H D0 = .some (.lst xs)) (nz : D0 ∉ Z) : HS K Z m h (del H D0) := by
  have nD : D0 ∉ m := (s.z D0 (by simp)).2
  refine ⟨s.len, s.nd, fun a ha => ?_, fun n o' p e1 e2 => ?_⟩
  · have q := s.z a (by simp [ha])
    have ne : a ≠ D0 := fun z => nz (by rw [← z]; exact ha)
    exact ⟨by rw [del_ne ne]; exact q.1, q.2⟩
  · have hp : p ≠ D0 := fun z => nD (z ▸ List.mem_of_getElem? e2)
    have r := s.ob n o' p e1 e2
    cases o' with
    | lst ds => obtain ⟨vs, q, r⟩ := r; exact ⟨vs, by rw [del_ne hp]; exact q, Reps.show hD ds vs r⟩
    | dct ks ws => obtain ⟨kvs, q, nd, q2, r⟩ := r; exact ⟨kvs, by rw [del_ne hp]; exact q, nd, q2, Reps.show hD ws _ r⟩
    | ins c fs => exact r
end
end Dp

set_option Elab.async false
set_option linter.all false
set_option autoImplicit false
set_option maxRecDepth 100000
set_option maxHeartbeats 2000000
namespace Dp
open PySem L2 PySem.Spec PyProof.Rows
section
variable {K : PySem.W.Frag} {Z m : List Addr} {H : Hp}
theorem wk_L {d : D} {p : Addr} {its : List D} {chk : Hs → Bool} (r : Rep K Z m H d (.ref p)) (hc : ∀ h, chk h = true → seqL h d = some its) : Wk K Z m H its chk (Itl K p) := by
  refine ⟨fun i mi hi H' x s c hi' => ?_, fun mi hi H' x s c => ?_⟩
  · obtain ⟨p', vs, e, hp, rr⟩ := rd_L s (r.mono x) (hc hi c)
    cases e
    have hv : i < vs.length := by rw [← rr.len]; exact hi'
    refine ⟨⟨vs, vs[i], hp, by simp [hv]⟩, fun y H2 hy => ?_⟩
    obtain ⟨rfl, hy⟩ := hy
    have h1 := hy vs hp
    have h2 : its[i]? = some its[i] := by simp [hi']
    obtain ⟨v, hv', rv⟩ := rr.get h2
    rw [h1] at hv'
    cases hv'
    exact ⟨its[i], h2, Ext.refl, s, rv⟩
  · obtain ⟨p', vs, e, hp, rr⟩ := rd_L s (r.mono x) (hc hi c)
    cases e
    exact ⟨vs, hp, by rw [rr.len]; exact Nat.le_refl _⟩
theorem wk_T {its : List D} {p : Addr} {chk : Hs → Bool} (r : Rep K Z m H (.tup its) (.ref p)) : Wk K Z m H its chk (Itt K p) := by
  refine ⟨fun i mi hi H' x s c hi' => ?_, fun mi hi H' x s c => ?_⟩
  · have r' := r.mono x
    simp only [Rep] at r'
    obtain ⟨p', vs, e, hp, rr⟩ := r'
    cases e
    have hv : i < vs.length := by rw [← rr.len]; exact hi'
    refine ⟨⟨vs, vs[i], hp, by simp [hv]⟩, fun y H2 hy => ?_⟩
    obtain ⟨rfl, hy⟩ := hy
    have h1 := hy vs hp
    have h2 : its[i]? = some its[i] := by simp [hi']
    obtain ⟨v, hv', rv⟩ := rr.get h2
    rw [h1] at hv'
    cases hv'
    exact ⟨its[i], h2, Ext.refl, s, rv⟩
  · have r' := r.mono x
    simp only [Rep] at r'
    obtain ⟨p', vs, e, hp, rr⟩ := r'
    cases e
    exact ⟨vs, hp, by rw [rr.len]; exact Nat.le_refl _⟩
theorem rng_len : ∀ (n : Nat) (a : Int), (rngD a n).length = n
  | 0, _ => rfl
  | n + 1, a => by simp [rngD, rng_len n]
theorem rng_get : ∀ (n : Nat) (a : Int) (i : Nat), i < n → (rngD a n)[i]? = some (.int (a + i))
  | 0, _, _, h => absurd h (Nat.not_lt_zero _)
  | n + 1, a, 0, _ => by simp [rngD]
  | n + 1, a, i + 1, h => by
    simp only [rngD, List.getElem?_cons_succ]
    rw [rng_get n (a + 1) i (by omega)]
    congr 2
    omega
theorem wk_R {a : Int} {n : Nat} {chk : Hs → Bool} : Wk K Z m H (rngD a n) chk (Itr a n) := by
  refine ⟨fun i mi hi H' x s c hi' => ?_, fun mi hi H' x s c => by rw [rng_len]; exact Nat.le_refl n⟩
  rw [rng_len] at hi'
  refine ⟨hi', fun y H2 hy => ?_⟩
  obtain ⟨rfl, rfl⟩ := hy
  exact ⟨_, rng_get n a i hi', Ext.refl, s, by simp [Rep]⟩
theorem chk_seq {d : D} {its : List D} {h0 h : Hs} (e : seqL h0 d = some its) (c : chkS .seq [d] its h = true) : seqL h d = some its := by
  cases d with
  | ref n =>
    simp only [chkS] at c
    split at c
    · rename_i xs hx
      rw [hx, beqDs_eq xs its c]
    · cases c
  | _ => simpa [seqL] using e
end
section
variable {X : Cx} {cl : CallT} {tg : Expr}
theorem _root_.L2.PI.w {it : Expr} {t t' : TI} (h : PI X tg it t) (i : ∀ σ H R, t' σ H R → t σ H R) : PI X tg it t' := ⟨fun pins s σ H R I q => h.run pins s σ H R I (i σ H R q)⟩
/-- a list or a tuple -/
theorem pi_seq {l : Expr} {r : RE} (hl : Snd X cl l r) : PI X tg l (tI X.K .seq (evEs cl (.cons r .nil))) := by
  have key : ∀ {σ : L2.St} {H : Hp} {R : It → Hp → Prop}, tI X.K .seq (evEs cl (.cons r .nil)) σ H R → tE X.K (evE cl r) σ H (fun x H1 => ∃ a, x = .ref a ∧ ((∃ xs, SqL X.K H1 a xs) ∧ R (Itl X.K a) H1 ∨ (∃ xs, SqT X.K H1 a xs) ∧ R (Itt X.K a) H1)) := fun {σ H R} g => by
    obtain ⟨Z, m, ρ, h, ds, h1, its, ee, hs, e, ei, q⟩ := g
    simp only [evEs] at e
    cases e1 : evE cl r ρ h with
    | none => rw [e1] at e; cases e
    | some r1 =>
      obtain ⟨d1, h2⟩ := r1
      rw [e1] at e
      simp only [Option.map_some, Option.bind_some, Option.some.injEq, Prod.mk.injEq] at e
      obtain ⟨rfl, rfl⟩ := e
      simp only [items] at ei
      refine ⟨Z, m, ρ, h, d1, h2, ee, hs, e1, fun m1 v H1 x s r => ?_⟩
      by_cases ht : ∃ xs, d1 = .tup xs
      · obtain ⟨xs, rfl⟩ := ht
        simp only [seqA, Option.some.injEq] at ei
        subst ei
        have r' := r
        simp only [Rep] at r'
        obtain ⟨p, vs, rfl, hp, rr⟩ := r'
        exact ⟨p, rfl, .inr ⟨⟨vs, hp⟩, q m1 H1 _ x s (wk_T r) fun D0 o hD => wk_T (Rep.hide hD _ _ r)⟩⟩
      · have ei' : seqL h2 d1 = some its := by
          unfold seqA at ei
          split at ei
          · exact absurd ⟨_, rfl⟩ ht
          · exact ei
        obtain ⟨p, vs, rfl, hp, rr⟩ := rd_L s r ei'
        exact ⟨p, rfl, .inl ⟨⟨vs, hp⟩, q m1 H1 _ x s (wk_L r fun h c => chk_seq ei' c) fun D0 o hD => wk_L (Rep.hide hD _ _ r) fun h c => chk_seq ei' c⟩⟩
  refine ⟨fun pins s σ H R I g => ?_⟩
  have g := key g
  refine thn (hl.pe.run pins s σ H _ I g) fun v s1 ⟨x, H1, I1, r1, a, e, q1⟩ => ?_
  subst e
  cases r1
  rcases q1 with ⟨⟨xs, hq⟩, q⟩ | ⟨⟨xs, hq⟩, q⟩
  · obtain ⟨its, rv, p, hz⟩ := I1.list hq
    refine wpAny_pyIter_list p.isList ?_
    refine ⟨s1.heap.objs.size, [s1.heap.objs.size], _, _, H1, rfl, I1.kept (t' := s1.toks) fun b o e => Heap.get?_push_of_some _ e, turn_list a _, ⟨_, Heap.get?_push_size _ rfl, rfl, rfl⟩, fun b hb => ?_, q⟩
    have e : b = s1.heap.objs.size := by simpa using hb
    subst e
    exact I1.fpOk (Nat.le_refl _) (I1.hok.fresh (Nat.le_refl _))
  · obtain ⟨its, rv, p, hz⟩ := I1.tuple hq
    refine wpAny_pyIter_tuple (show s1.heap.IsTuple a its.toArray from p) ?_
    refine ⟨s1.heap.objs.size, [s1.heap.objs.size], _, _, H1, rfl, I1.kept (t' := s1.toks) fun b o e => Heap.get?_push_of_some _ e, turn_tuple a _, ⟨_, Heap.get?_push_size _ rfl, rfl, rfl⟩, fun b hb => ?_, q⟩
    have e : b = s1.heap.objs.size := by simpa using hb
    subst e
    exact I1.fpOk (Nat.le_refl _) (I1.hok.fresh (Nat.le_refl _))
theorem pi_rng1 {a : Expr} {rs : REs} {p pos : Pos} (hg : Gl X "range") (hm : X.mg "range" = none) (s : Sns X cl [a] rs) : PI X tg (.Call (.Name "range" p) [a] [] pos) (tI X.K .rng1 (evEs cl rs)) := by
  have h1 : notStar a = true := by have := s.star; simpa using this
  refine (pi_range1 hg hm s.pa (star_one h1)).w fun σ H R g => ?_
  obtain ⟨Z, m, ρ, h, ds, h1, its, ee, hs, e, ei, q⟩ := g
  refine ⟨Z, m, ρ, h, ds, h1, ee, hs, e, fun m1 vs H1 x s r => ?_⟩
  obtain ⟨d, rfl⟩ : ∃ d, ds = [d] := by
    cases ds with
    | nil => simp [items] at ei
    | cons d t => cases t with
      | nil => exact ⟨d, rfl⟩
      | cons _ _ => simp [items] at ei
  obtain ⟨v, rfl, rd⟩ := reps1 r
  cases d <;> simp only [items] at ei <;> try (cases ei)
  rename_i n
  split at ei
  · rename_i hb
    simp only [Option.some.injEq] at ei
    subst ei
    simp only [Bool.and_eq_true, decide_eq_true_eq] at hb
    simp only [Rep] at rd
    subst rd
    exact ⟨n, rfl, by omega, by omega, q m1 H1 _ x s wk_R fun D0 o hD => wk_R⟩
  · cases ei
theorem pi_rng2 {a b : Expr} {rs : REs} {p pos : Pos} (hg : Gl X "range") (hm : X.mg "range" = none) (s : Sns X cl [a, b] rs) : PI X tg (.Call (.Name "range" p) [a, b] [] pos) (tI X.K .rng2 (evEs cl rs)) := by
  have h0 := s.star
  simp only [List.all_cons, Bool.and_eq_true, List.all_nil, and_true] at h0
  refine (pi_range2 hg hm s.pa (by rw [star_one h0.1, star_one h0.2]; rfl) (star_one h0.2)).w fun σ H R g => ?_
  obtain ⟨Z, m, ρ, h, ds, h1, its, ee, hs, e, ei, q⟩ := g
  refine ⟨Z, m, ρ, h, ds, h1, ee, hs, e, fun m1 vs H1 x s r => ?_⟩
  obtain ⟨d, d', rfl⟩ : ∃ d d', ds = [d, d'] := by
    cases ds with
    | nil => simp [items] at ei
    | cons d t => cases t with
      | nil => simp [items] at ei
      | cons d' t => cases t with
        | nil => exact ⟨d, d', rfl⟩
        | cons _ _ => simp [items] at ei
  obtain ⟨v, w, rfl, rd, rd'⟩ := reps2 r
  cases d <;> simp only [items] at ei <;> try (cases ei)
  cases d' <;> simp only [items] at ei <;> try (cases ei)
  rename_i n k
  split at ei
  · rename_i hb
    simp only [Option.some.injEq] at ei
    subst ei
    simp only [Bool.and_eq_true, decide_eq_true_eq] at hb
    simp only [Rep] at rd rd'
    subst rd rd'
    exact ⟨n, k, rfl, ⟨by omega, by omega, by omega, by omega⟩, q m1 H1 _ x s wk_R fun D0 o hD => wk_R⟩
  · cases ei
theorem tt_nil : PTs X [] (tT X.K (evCs cl .nil)) := by
  refine ⟨fun pins s σ H Q I g => pts_nil.run pins s σ H Q I ?_⟩
  obtain ⟨Z, m, ρ, h, b, h', ee, hs, e, q⟩ := g
  simp only [evCs, Option.some.injEq, Prod.mk.injEq] at e
  obtain ⟨rfl, rfl⟩ := e
  exact q m H Ext.refl hs
theorem tt_one {c : Expr} {r : RE} (hc : Snd X cl c r) : PTs X [c] (tT X.K (evCs cl (.cons r .nil))) := by
  refine ⟨fun pins s σ H Q I g => (pts_one hc.pt).run pins s σ H Q I ?_⟩
  obtain ⟨Z, m, ρ, h, b, h', ee, hs, e, q⟩ := g
  refine ⟨Z, m, ρ, h, b, h', ee, hs, ?_, q⟩
  simp only [evCs] at e
  unfold evT
  cases e1 : evE cl r ρ h with
  | none => rw [e1] at e; cases e
  | some r1 =>
    rw [e1] at e
    simp only [Option.bind_some] at e ⊢
    cases e2 : truth r1.2 r1.1 with
    | none => rw [e2] at e; cases e
    | some t =>
      rw [e2] at e
      simp only [Option.bind_some, Option.map_some] at e ⊢
      cases t <;> simpa using e
theorem loopC_pre {f : D → Hs → Option (Option D × Hs)} {chk : Hs → Bool} {x : D} {xs : List D} {h h' : Hs} {out : List D} (e : loopC f chk (x :: xs) h = some (out, h')) :
    chk h = true ∧ ∃ o h1 rest, f x h = some (o, h1) ∧ loopC f chk xs h1 = some (rest, h') ∧ out = (match o with | some d => d :: rest | none => rest) := by
  simp only [loopC] at e
  split at e
  · rename_i hc
    refine ⟨hc, ?_⟩
    cases e1 : f x h with
    | none => rw [e1] at e; cases e
    | some r =>
      obtain ⟨o, h1⟩ := r
      rw [e1] at e
      simp only [Option.bind_some] at e
      cases e2 : loopC f chk xs h1 with
      | none => rw [e2] at e; cases e
      | some q =>
        obtain ⟨rest, h2⟩ := q
        rw [e2] at e
        simp only [Option.map_some, Option.some.injEq, Prod.mk.injEq] at e
        obtain ⟨rfl, rfl⟩ := e
        exact ⟨o, h1, rest, by first | rfl | exact e1, by first | exact e2 | rfl, rfl⟩
  · cases e
theorem Ext.addD {m1 mi : List Addr} {H1 H : Hp} {D0 : Addr} {o : HO} (x : Ext m1 H1 mi (del H D0)) (hD : H D0 = some o) (nm : D0 ∉ mi) : Ext m1 (upd H1 D0 o) mi H := by
  have nb : ∀ {b : Addr} {u : HO}, del H D0 b = some u → H b = some u := fun {b u} e => by
    by_cases q : b = D0
    · subst q; rw [del_same] at e; cases e
    · rw [del_ne q] at e; exact e
  refine ⟨x.pre, fun a u n e => ?_, fun a h n => ?_, fun a u e => ?_, fun a u w e => ?_, fun a e => ?_⟩
  · by_cases q : a = D0
    · subst q; rw [upd_same] at e; rw [hD]; exact e
    · rw [upd_ne q] at e; exact nb (x.keep a u n e)
  · have q : a ≠ D0 := fun z => nm (z ▸ h)
    rw [upd_ne q]; exact x.new a h n
  · by_cases q : a = D0
    · subst q; rw [upd_same] at e; rw [hD]; exact e
    · rw [upd_ne q] at e; exact nb (x.tup a u e)
  · by_cases q : a = D0
    · subst q; rw [upd_same] at e; rw [hD]; exact e
    · rw [upd_ne q] at e; exact nb (x.frz a u w e)
  · by_cases q : a = D0
    · subst q; rw [hD]; simp
    · rw [upd_ne q] at e
      have := x.som a e
      rw [del_ne q] at this
      exact this
theorem Ext.delD {m1 mi : List Addr} {H1 H : Hp} {D0 : Addr} {o : HO} (x : Ext m1 (upd H1 D0 o) mi H) (hD : H1 D0 = none) (nm : D0 ∉ mi) : Ext m1 H1 mi (del H D0) := by
  have ne : ∀ {b : Addr} {u : HO}, H1 b = some u → b ≠ D0 := fun {b u} e => ne_of_none e hD
  refine ⟨x.pre, fun a u n e => ?_, fun a h n => ?_, fun a u e => ?_, fun a u w e => ?_, fun a e => ?_⟩
  · rw [del_ne (ne e)]; exact x.keep a u n (by rw [upd_ne (ne e)]; exact e)
  · have q : a ≠ D0 := fun z => nm (z ▸ h)
    have := x.new a h n
    rw [upd_ne q] at this
    exact this
  · rw [del_ne (ne e)]; exact x.tup a u (by rw [upd_ne (ne e)]; exact e)
  · rw [del_ne (ne e)]; exact x.frz a u w (by rw [upd_ne (ne e)]; exact e)
  · have q : a ≠ D0 := fun z => e (z ▸ hD)
    rw [del_ne q]
    exact x.som a (by rw [upd_ne q]; exact e)
theorem del_upd {H : Hp} {D0 : Addr} {o : HO} : del (upd H D0 o) D0 = del H D0 := by
  funext b
  by_cases q : b = D0
  · subst q; rw [del_same, del_same]
  · rw [del_ne q, del_ne q, upd_ne q]
theorem upd_del' {H : Hp} {D0 : Addr} {o : HO} : upd (del H D0) D0 o = upd H D0 o := by
  funext b
  by_cases q : b = D0
  · subst q; rw [upd_same, upd_same]
  · rw [upd_ne q, upd_ne q, del_ne q]
/-- the turn of a comprehension -/
def turnC (cl : CallT) (t : RT) (elt : RE) (cs : REs) (ρ : Env) : D → Hs → Option (Option D × Hs) := fun x h => (asgT h t x ρ).bind fun ρ' => (evCs cl cs ρ' h).bind fun q => if q.1 then (evE cl elt ρ' q.2).map fun z => (some z.1, z.2) else some (none, q.2)
theorem comp_read {own : List Nat} {elt : RE} {t : RT} {s : Src} {es cs : REs} (hsl : ∀ i ∈ slotsT t, i ∈ own) {σ : L2.St} {H : Hp} {Q : VK} (g : tF X.K (evE cl (.comp own elt t s es cs)) σ H Q) :
    tLc (tI X.K s (evEs cl es)) (gR X.K t) (tT X.K (evCs cl cs)) (tE X.K (evE cl elt)) own σ H Q := by
  obtain ⟨Z, m, ρ, h, d, h', ee, hs, e, q⟩ := g
  simp only [evE] at e
  cases e1 : evEs cl es ρ h with
  | none => rw [e1] at e; cases e
  | some r1 =>
    obtain ⟨ds, h1⟩ := r1
    rw [e1] at e
    simp only [Option.bind_some] at e
    cases e2 : items h1 s ds with
    | none => rw [e2] at e; cases e
    | some its =>
      rw [e2] at e
      simp only [Option.bind_some] at e
      have e : (loopC (turnC cl t elt cs (wipeE ρ own)) (chkS s ds its) its h1).bind (fun q => if big q.1.length then some (D.lst q.1, q.2) else none) = some (d, h') := e
      cases e3 : loopC (turnC cl t elt cs (wipeE ρ own)) (chkS s ds its) its h1 with
      | none => rw [e3] at e; cases e
      | some r3 =>
        obtain ⟨tot, h3⟩ := r3
        rw [e3] at e
        simp only [Option.bind_some] at e
        split at e
        · rename_i hbig
          simp only [Option.some.injEq, Prod.mk.injEq] at e
          obtain ⟨rfl, rfl⟩ := e
          refine ⟨Z, m, ρ, h, ds, h1, its, ee, hs, e1, e2, fun m1 H1 J x1 s1 w0 w1 => ?_⟩
          intro D0 hD
          have nD := s1.notIn hD
          have s0 : HS X.K (D0 :: Z) m1 h1 (upd H1 D0 (.lst [])) := s1.hide hD
          refine ⟨fun i n H => n = its.length - i ∧ i ≤ its.length ∧ ∃ mi hi acc vs rest, Ext m1 H1 mi (del H D0) ∧ HS X.K (D0 :: Z) mi hi H ∧ H D0 = some (.lst vs) ∧ Reps X.K (D0 :: Z) mi H acc vs ∧
            loopC (turnC cl t elt cs (wipeE ρ own)) (chkS s ds its) (its.drop i) hi = some (rest, h3) ∧ acc ++ rest = tot,
            ⟨its.length, by simp, Nat.zero_le _, m1, h1, [], [], tot, (Ext.refl (m := m1) (H := upd H1 D0 (.lst []))).delD hD nD.1, s0, upd_same, Reps.nil, by simpa using e3, rfl⟩, ?_⟩
          rintro i n H2 ⟨rfl, hi, mi, hi', acc, vs, rest, xi0, si, hv, ra, el, et⟩
          have nmi : D0 ∉ mi := (si.z D0 (by simp)).2
          by_cases hlt : i < its.length
          · right
            have xi := xi0.addD hv nmi
            have wk := w1 D0 (.lst vs) hD
            have ee0 : Es X.K (D0 :: Z) m1 (upd H1 D0 (.lst vs)) ρ σ := (ee.mono x1).hide hD
            have hdr : its.drop i = its[i] :: its.drop (i + 1) := List.drop_eq_getElem_cons hlt
            rw [hdr] at el
            obtain ⟨hc, o, ho, rest', ef, el', eo⟩ := loopC_pre el
            obtain ⟨hgo, hy⟩ := wk.go i mi hi' H2 xi si hc hlt
            refine ⟨hgo, fun H' => ∃ mi hi acc vs rest, Ext m1 H1 mi (del H' D0) ∧ HS X.K (D0 :: Z) mi hi H' ∧ H' D0 = some (.lst vs) ∧ Reps X.K (D0 :: Z) mi H' acc vs ∧
              loopC (turnC cl t elt cs (wipeE ρ own)) (chkS s ds its) (its.drop (i + 1)) hi = some (rest, h3) ∧ acc ++ rest = tot, fun H' hn => ⟨its.length - (i + 1), by omega, rfl, hlt, hn⟩, fun x H' yy => ?_⟩
            obtain ⟨dx, hdx, xe, se, rx⟩ := hy x H' yy
            have : dx = its[i] := by
              rw [List.getElem?_eq_getElem hlt] at hdx
              exact (Option.some.inj hdx).symm
            subst this
            unfold turnC at ef
            cases ea : asgT hi' t its[i] (wipeE ρ own) with
            | none => rw [ea] at ef; cases ef
            | some ρ2 =>
              rw [ea] at ef
              simp only [Option.bind_some] at ef
              cases ec : evCs cl cs ρ2 hi' with
              | none => rw [ec] at ef; cases ef
              | some rc =>
                obtain ⟨bc, hc'⟩ := rc
                rw [ec] at ef
                simp only [Option.bind_some] at ef
                have eew : Es X.K (D0 :: Z) mi H' (wipeE ρ own) (L2.wipe σ own) := ((ee0.mono xi).mono xe).wipe own
                refine ⟨D0 :: Z, mi, wipeE ρ own, hi', its[i], ρ2, eew, se, rx, ea, fun σ2 es2 out2 => ⟨?_, ?_⟩⟩
                · rw [out2.wipe hsl, wipe_wipe]
                · refine ⟨D0 :: Z, mi, ρ2, hi', bc, hc', es2, se, ec, fun m4 H4 x4 s4 => ?_⟩
                  have hvD : H' D0 = some (.lst vs) := xe.keep D0 _ nmi hv
                  have hv4 : H4 D0 = some (.lst vs) := x4.keep D0 _ (se.z D0 (by simp)).2 hvD
                  cases bc with
                  | true =>
                    simp only [if_true] at ef ⊢
                    cases eev : evE cl elt ρ2 hc' with
                    | none => rw [eev] at ef; cases ef
                    | some re =>
                      obtain ⟨de, he⟩ := re
                      rw [eev] at ef
                      simp only [Option.map_some, Option.some.injEq, Prod.mk.injEq] at ef
                      obtain ⟨rfl, rfl⟩ := ef
                      refine ⟨D0 :: Z, m4, ρ2, hc', de, he, es2.mono x4, s4, eev, fun m5 v5 H5 x5 s5 r5 => ?_⟩
                      have hv5 : H5 D0 = some (.lst vs) := x5.keep D0 _ (s4.z D0 (by simp)).2 hv4
                      have ra5 : Reps X.K (D0 :: Z) m5 H5 acc vs := ((ra.mono xe).mono x4).mono x5
                      have nm5 : D0 ∉ m5 := (s5.z D0 (by simp)).2
                      have s6 : HS X.K (D0 :: Z) m5 he (upd H5 D0 (.lst (vs ++ [v5]))) := by
                        have := (s5.show hv5 nD.2).hide (o := .lst (vs ++ [v5])) del_same
                        rw [upd_del'] at this
                        exact this
                      refine ⟨vs, hv5, ?_, m5, he, acc ++ [de], vs ++ [v5], rest', ?_, s6, upd_same, ?_, el', ?_⟩
                      · rw [← ra.len]
                        have : acc.length ≤ tot.length := by rw [← et]; simp
                        have hb2 : tot.length ≤ 1000000 := by simpa [big] using hbig
                        rw [sizeLine_eq]; omega
                      · rw [del_upd]
                        exact (((xi.trans xe).trans x4).trans x5).delD hD nm5
                      · have r1 := Reps.append ra5 (Reps.cons r5 Reps.nil)
                        have : Reps X.K (D0 :: Z) m5 (upd (del H5 D0) D0 (.lst (vs ++ [v5]))) (acc ++ [de]) (vs ++ [v5]) := Reps.hide del_same _ _ (Reps.show hv5 _ _ r1)
                        rw [upd_del'] at this
                        exact this
                      · rw [← et, eo]
                        simp
                  | false =>
                    simp only [Bool.false_eq_true, if_false, Option.some.injEq, Prod.mk.injEq] at ef ⊢
                    obtain ⟨rfl, rfl⟩ := ef
                    exact ⟨m4, hc', acc, vs, rest', ((xi.trans xe).trans x4).delD hD (s4.z D0 (by simp)).2, s4, hv4, (ra.mono xe).mono x4, el', by rw [← et, eo]⟩
          · left
            have hi2 : i = its.length := by omega
            subst hi2
            simp only [List.drop_length, loopC] at el
            split at el
            · rename_i hc
              simp only [Option.some.injEq, Prod.mk.injEq] at el
              obtain ⟨rfl, rfl⟩ := el
              simp only [List.append_nil] at et
              subst et
              have fin := q mi (del H2 D0) (x1.trans xi0) (si.show hv nD.2) D0 vs del_same (Reps.show hv _ _ ra)
              rw [upd_del hv] at fin
              exact ⟨(w1 D0 (.lst vs) hD).stop mi hi' H2 (xi0.addD hv nmi) si hc, fin⟩
            · cases el
        · cases e
end
end Dp

set_option Elab.async false
set_option linter.all false
set_option autoImplicit false
set_option maxRecDepth 100000
set_option maxHeartbeats 2000000
namespace Dp
open PySem L2 PySem.Spec PyProof.Rows

def FinS (K : PySem.W.Frag) (Z m : List Addr) (H : Hp) (h' : Hs) (D : Ends) : Fl → Prop
  | .nx ρ' => ∀ m' σ' H', Ext m H m' H' → HS K Z m' h' H' → Es K Z m' H' ρ' σ' → D.nx σ' H'
  | .rt d => ∀ m' v H', Ext m H m' H' → HS K Z m' h' H' → Rep K Z m' H' d v → D.rt v H'
  | .bk ρ' => ∀ m' σ' H', Ext m H m' H' → HS K Z m' h' H' → Es K Z m' H' ρ' σ' → D.bk σ' H'
  | .ct ρ' => ∀ m' σ' H', Ext m H m' H' → HS K Z m' h' H' → Es K Z m' H' ρ' σ' → D.ct σ' H'
theorem FinS.ext {K : PySem.W.Frag} {Z m m1 : List Addr} {H H1 : Hp} {h' : Hs} {D : Ends} {fl : Fl} (f : FinS K Z m H h' D fl) (x : Ext m H m1 H1) : FinS K Z m1 H1 h' D fl := by
  cases fl with
  | nx ρ => exact fun m' σ' H' x' s e => f m' σ' H' (x.trans x') s e
  | rt d => exact fun m' σ' H' x' s e => f m' σ' H' (x.trans x') s e
  | bk ρ => exact fun m' σ' H' x' s e => f m' σ' H' (x.trans x') s e
  | ct ρ => exact fun m' σ' H' x' s e => f m' σ' H' (x.trans x') s e
def tS_ (K : PySem.W.Frag) (f : Env → Hs → Option (Fl × Hs)) : TS := fun D σ H => ∃ Z m ρ h fl h', Es K Z m H ρ σ ∧ HS K Z m h H ∧ f ρ h = some (fl, h') ∧ FinS K Z m H h' D fl
section
variable {X : Cx} {cl : CallT}
theorem _root_.L2.PS.w {st : Stmt} {t t' : TS} (h : PS X st t) (i : ∀ D σ H, t' D σ H → t D σ H) : PS X st t' := ⟨fun pins s σ H D I q => h.run pins s σ H D I (i D σ H q)⟩
theorem _root_.L2.PSs.w {st : List Stmt} {t t' : TS} (h : PSs X st t) (i : ∀ D σ H, t' D σ H → t D σ H) : PSs X st t' := ⟨fun pins s σ H D I q => h.run pins s σ H D I (i D σ H q)⟩
abbrev SS (X : Cx) (cl : CallT) (st : Stmt) (r : RS) : Prop := PS X st (tS_ X.K (exS cl r))
abbrev SSs (X : Cx) (cl : CallT) (st : List Stmt) (r : List RS) : Prop := PSs X st (tS_ X.K (exSs cl r))
theorem ss_nil : SSs X cl [] [] := by
  refine pss_nil.w fun D σ H g => ?_
  obtain ⟨Z, m, ρ, h, fl, h', ee, hs, e, q⟩ := g
  simp only [exSs, Option.some.injEq, Prod.mk.injEq] at e
  obtain ⟨rfl, rfl⟩ := e
  exact q m σ H Ext.refl hs ee
theorem ss_cons {st : Stmt} {sts : List Stmt} {r : RS} {rs : List RS} (h1 : SS X cl st r) (h2 : SSs X cl sts rs) : SSs X cl (st :: sts) (r :: rs) := by
  refine (pss_cons h1 h2).w fun D σ H g => ?_
  obtain ⟨Z, m, ρ, h, fl, h', ee, hs, e, q⟩ := g
  simp only [exSs] at e
  cases e1 : exS cl r ρ h with
  | none => rw [e1] at e; cases e
  | some r1 =>
    obtain ⟨f1, h1'⟩ := r1
    rw [e1] at e
    simp only [Option.bind_some] at e
    refine ⟨Z, m, ρ, h, f1, h1', ee, hs, e1, ?_⟩
    cases f1 with
    | nx ρ1 => exact fun m' σ' H' x s e' => ⟨Z, m', ρ1, h1', fl, h', e', s, e, q.ext x⟩
    | rt d =>
      simp only [Option.some.injEq, Prod.mk.injEq] at e
      obtain ⟨rfl, rfl⟩ := e
      exact q
    | bk ρ1 =>
      simp only [Option.some.injEq, Prod.mk.injEq] at e
      obtain ⟨rfl, rfl⟩ := e
      exact q
    | ct ρ1 =>
      simp only [Option.some.injEq, Prod.mk.injEq] at e
      obtain ⟨rfl, rfl⟩ := e
      exact q
def isComp : Expr → Bool
  | .ListComp .. => true
  | .SetComp .. => true
  | .DictComp .. => true
  | _ => false
theorem sw_no {e : Expr} {tg : Option Expr} {l : Nat} {env : PySem.Env} (h : isComp e = false) : swapsWith e tg l env = pure false := by
  cases e <;> first | rfl | simp [isComp] at h
def isTup : Expr → Bool
  | .Tuple .. => true
  | _ => false
def isLstE : Expr → Bool
  | .List .. => true
  | _ => false
theorem ss_no {e tg : Expr} {env : PySem.Env} (h : isTup tg = false ∨ isTup e = false) (hl : isLstE tg = false) : swappedStores [tg] e env = pure none := by
  cases tg <;> cases e <;> first | rfl | (simp [isLstE] at hl; done) | (simp [isTup] at h; done)
theorem s_asg {tg e : Expr} {t : RT} {r : RE} {pos : Pos} (hst : notStar tg = true) (hsw : swapsWithSole [tg] e pos.line X.env = pure false) (hw : swappedStores [tg] e X.env = pure none) (he : PE X e (tE X.K (evE cl r))) (hg : PG X tg (gR X.K t)) : SS X cl (.Assign [tg] e pos) (.asg t r) := by
  refine (ps_asg he hg hsw hw (asg_map hst)).w fun D σ H g => ?_
  obtain ⟨Z, m, ρ, h, fl, h', ee, hs, e, q⟩ := g
  simp only [exS] at e
  cases e1 : evE cl r ρ h with
  | none => rw [e1] at e; cases e
  | some r1 =>
    obtain ⟨d, h1⟩ := r1
    rw [e1] at e
    simp only [Option.bind_some] at e
    cases e2 : asgT h1 t d ρ with
    | none => rw [e2] at e; cases e
    | some ρ' =>
      rw [e2] at e
      simp only [Option.map_some, Option.some.injEq, Prod.mk.injEq] at e
      obtain ⟨rfl, rfl⟩ := e
      exact ⟨Z, m, ρ, h, d, h1, ee, hs, e1, fun m1 v H1 x s rr => ⟨Z, m1, ρ, h1, d, ρ', ee.mono x, s, rr, e2, fun σ' e' _ => q m1 σ' H1 x s e'⟩⟩
/-- the same with a comprehension that stores its name itself -/
theorem s_asgI {st : Stmt} {i : Nat} {r : RE} {te : TE} (h : PS X st (tAsg te (gName i))) (imp : ∀ σ H Q, tE X.K (evE cl r) σ H Q → te σ H Q) : SS X cl st (.asg (.nm i) r) := by
  refine h.w fun D σ H g => ?_
  obtain ⟨Z, m, ρ, h, fl, h', ee, hs, e, q⟩ := g
  simp only [exS] at e
  refine imp σ H _ ?_
  cases e1 : evE cl r ρ h with
  | none => rw [e1] at e; cases e
  | some r1 =>
    obtain ⟨d, h1⟩ := r1
    rw [e1] at e
    simp only [Option.bind_some, asgT] at e
    split at e
    · simp only [Option.map_some, Option.some.injEq, Prod.mk.injEq] at e
      obtain ⟨rfl, rfl⟩ := e
      exact ⟨Z, m, ρ, h, d, h1, ee, hs, e1, fun m1 v H1 x s rr => q m1 _ H1 x s ((ee.mono x).set rr)⟩
    · cases e
def notSl : Expr → Bool
  | .Slice .. => false
  | _ => true
theorem s_setI {k : Nat} {o i e : Expr} {ro ri re : RE} {p pos : Pos} (hr : Room k X.A) (hi : notSl i = true) (hc : isComp e = false) (so : Snd X cl o ro) (si : Snd X cl i ri) (se : Snd X cl e re) : SS X cl (.Assign [.Subscript o i p] e pos) (.setI ro ri re) := by
  have hg : PG X (.Subscript o i p) (gSub (tE X.K (evE cl ro)) (tE X.K (evE cl ri)) (rSet X.K)) := by
    refine pg_sub so.pe si.pe (s_set hr) fun v => ?_
    cases i <;> first | rfl | simp [notSl] at hi
  have hsw : swapsWithSole [.Subscript o i p] e pos.line X.env = pure false := sw_no (tg := some (.Subscript o i p)) (l := pos.line) (env := X.env) hc
  refine (ps_asg se.pe hg hsw (by cases e <;> rfl) rfl).w fun D σ H g => ?_
  obtain ⟨Z, m, ρ, h, fl, h', ee, hs, e, q⟩ := g
  simp only [exS] at e
  cases e1 : evE cl re ρ h with
  | none => rw [e1] at e; cases e
  | some r1 =>
    obtain ⟨d1, h1⟩ := r1
    rw [e1] at e
    simp only [Option.bind_some] at e
    cases e2 : evE cl ro ρ h1 with
    | none => rw [e2] at e; cases e
    | some r2 =>
      obtain ⟨d2, h2⟩ := r2
      rw [e2] at e
      simp only [Option.bind_some] at e
      cases e3 : evE cl ri ρ h2 with
      | none => rw [e3] at e; cases e
      | some r3 =>
        obtain ⟨d3, h3⟩ := r3
        rw [e3] at e
        simp only [Option.bind_some] at e
        cases e4 : pw h3 .setI [d2, d3, d1] with
        | none => rw [e4] at e; cases e
        | some r4 =>
          obtain ⟨d4, h4⟩ := r4
          rw [e4] at e
          simp only [Option.map_some, Option.some.injEq, Prod.mk.injEq] at e
          obtain ⟨rfl, rfl⟩ := e
          exact ⟨Z, m, ρ, h, d1, h1, ee, hs, e1, fun m1 v1 H1 x1 s1 r1 => ⟨Z, m1, ρ, h1, d2, h2, ee.mono x1, s1, e2, fun m2 v2 H2 x2 s2 r2 => ⟨Z, m2, ρ, h2, d3, h3, ee.mono (x1.trans x2), s2, e3, fun m3 v3 H3 x3 s3 r3 =>
            ⟨Z, m3, h3, d2, d3, d1, d4, h4, s3, r2.mono x3, r3, (r1.mono x2).mono x3, e4, fun m4 H4 x4 s4 => q m4 σ H4 (((x1.trans x2).trans x3).trans x4) s4 (ee.mono (((x1.trans x2).trans x3).trans x4))⟩⟩⟩⟩
theorem s_expr {e : Expr} {r : RE} {pos : Pos} (hc : isComp e = false) (he : PE X e (tE X.K (evE cl r))) : SS X cl (.Expr e pos) (.expr r) := by
  refine (ps_expr he (sw_no hc)).w fun D σ H g => ?_
  obtain ⟨Z, m, ρ, h, fl, h', ee, hs, e, q⟩ := g
  simp only [exS] at e
  cases e1 : evE cl r ρ h with
  | none => rw [e1] at e; cases e
  | some r1 =>
    obtain ⟨d, h1⟩ := r1
    rw [e1] at e
    simp only [Option.map_some, Option.some.injEq, Prod.mk.injEq] at e
    obtain ⟨rfl, rfl⟩ := e
    exact ⟨Z, m, ρ, h, d, h1, ee, hs, e1, fun m1 v H1 x s rr => q m1 σ H1 x s (ee.mono x)⟩
theorem s_ret {e : Expr} {r : RE} {pos : Pos} (he : PE X e (tE X.K (evE cl r))) : SS X cl (.Return (some e) pos) (.ret r) := by
  refine (ps_ret he).w fun D σ H g => ?_
  obtain ⟨Z, m, ρ, h, fl, h', ee, hs, e, q⟩ := g
  simp only [exS] at e
  cases e1 : evE cl r ρ h with
  | none => rw [e1] at e; cases e
  | some r1 =>
    obtain ⟨d, h1⟩ := r1
    rw [e1] at e
    simp only [Option.map_some, Option.some.injEq, Prod.mk.injEq] at e
    obtain ⟨rfl, rfl⟩ := e
    exact ⟨Z, m, ρ, h, d, h1, ee, hs, e1, q⟩
theorem s_retN {pos : Pos} : SS X cl (.Return none pos) (.ret (.cst .non)) := by
  refine ps_retN.w fun D σ H g => ?_
  obtain ⟨Z, m, ρ, h, fl, h', ee, hs, e, q⟩ := g
  simp only [exS, evE, Option.map_some, Option.some.injEq, Prod.mk.injEq] at e
  obtain ⟨rfl, rfl⟩ := e
  exact q m .non H Ext.refl hs (by simp [Rep])
theorem s_pass {pos : Pos} : SS X cl (.Pass pos) .pass := by
  refine ps_pass.w fun D σ H g => ?_
  obtain ⟨Z, m, ρ, h, fl, h', ee, hs, e, q⟩ := g
  simp only [exS, Option.some.injEq, Prod.mk.injEq] at e
  obtain ⟨rfl, rfl⟩ := e
  exact q m σ H Ext.refl hs ee
theorem s_brk {pos : Pos} : SS X cl (.Break pos) .brk := by
  refine ps_break.w fun D σ H g => ?_
  obtain ⟨Z, m, ρ, h, fl, h', ee, hs, e, q⟩ := g
  simp only [exS, Option.some.injEq, Prod.mk.injEq] at e
  obtain ⟨rfl, rfl⟩ := e
  exact q m σ H Ext.refl hs ee
theorem s_cnt {pos : Pos} : SS X cl (.Continue pos) .cnt := by
  refine ps_continue.w fun D σ H g => ?_
  obtain ⟨Z, m, ρ, h, fl, h', ee, hs, e, q⟩ := g
  simp only [exS, Option.some.injEq, Prod.mk.injEq] at e
  obtain ⟨rfl, rfl⟩ := e
  exact q m σ H Ext.refl hs ee
theorem s_if {c : Expr} {a b : List Stmt} {rc : RE} {ra rb : List RS} {pos : Pos} (hc : Snd X cl c rc) (ha : SSs X cl a ra) (hb : SSs X cl b rb) : SS X cl (.If c a b pos) (.iff rc ra rb) := by
  refine (ps_if hc.pt ha hb).w fun D σ H g => ?_
  obtain ⟨Z, m, ρ, h, fl, h', ee, hs, e, q⟩ := g
  simp only [exS] at e
  cases e1 : evT cl rc ρ h with
  | none => rw [e1] at e; cases e
  | some r1 =>
    obtain ⟨t, h1⟩ := r1
    rw [e1] at e
    simp only [Option.bind_some] at e
    refine ⟨Z, m, ρ, h, t, h1, ee, hs, e1, fun m1 H1 x s => ?_⟩
    cases t with
    | true =>
      simp only [if_true] at e ⊢
      exact ⟨Z, m1, ρ, h1, fl, h', ee.mono x, s, e, q.ext x⟩
    | false =>
      simp only [Bool.false_eq_true, if_false] at e ⊢
      exact ⟨Z, m1, ρ, h1, fl, h', ee.mono x, s, e, q.ext x⟩
theorem loopF_pre {f : D → Env → Hs → Option (Fl × Hs)} {chk : Hs → Bool} {x : D} {xs : List D} {ρ : Env} {h h' : Hs} {fl : Fl} (e : loopF f chk (x :: xs) ρ h = some (fl, h')) :
    chk h = true ∧ ∃ f1 h1, f x ρ h = some (f1, h1) ∧ match f1 with
      | .nx ρ' => loopF f chk xs ρ' h1 = some (fl, h')
      | .ct ρ' => loopF f chk xs ρ' h1 = some (fl, h')
      | .bk ρ' => fl = .nx ρ' ∧ h' = h1
      | .rt d => fl = .rt d ∧ h' = h1 := by
  simp only [loopF] at e
  split at e
  · rename_i hc
    refine ⟨hc, ?_⟩
    cases e1 : f x ρ h with
    | none => rw [e1] at e; cases e
    | some r =>
      obtain ⟨f1, h1⟩ := r
      rw [e1] at e
      simp only [Option.bind_some] at e
      refine ⟨f1, h1, rfl, ?_⟩
      cases f1 with
      | nx ρ' => exact e
      | ct ρ' => exact e
      | bk ρ' =>
        simp only [Option.some.injEq, Prod.mk.injEq] at e
        exact ⟨e.1.symm, e.2.symm⟩
      | rt d =>
        simp only [Option.some.injEq, Prod.mk.injEq] at e
        exact ⟨e.1.symm, e.2.symm⟩
  · cases e
theorem s_for {tg iter : Expr} {body : List Stmt} {t : RT} {s : Src} {es : REs} {rb : List RS} {pos : Pos} (hx : X.xe = fun _ _ => False) (hc : X.calm = true) (hi : PI X tg iter (tI X.K s (evEs cl es))) (hg : PG X tg (gR X.K t)) (hb : SSs X cl body rb)
    (hfs : ∀ x, foldedSetIterable iter X.env x = pure x) : SS X cl (.For tg iter body [] pos) (.for t s es rb) := by
  refine (ps_for (by rw [hx]; exact PassesOwn.never) hc hi hg hb hfs).w fun D σ H g => ?_
  obtain ⟨Z, m, ρ, h, fl, h', ee, hs, e, q⟩ := g
  simp only [exS] at e
  cases e1 : evEs cl es ρ h with
  | none => rw [e1] at e; cases e
  | some r1 =>
    obtain ⟨ds, h1⟩ := r1
    rw [e1] at e
    simp only [Option.bind_some] at e
    cases e2 : items h1 s ds with
    | none => rw [e2] at e; cases e
    | some its =>
      rw [e2] at e
      simp only [Option.bind_some] at e
      generalize hf : (fun (x : Dp.D) (ρ : Env) (h : Hs) => (asgT h t x ρ).bind fun ρ' => exSs cl rb ρ' h) = f at e
      refine ⟨Z, m, ρ, h, ds, h1, its, ee, hs, e1, e2, fun m1 H1 J x1 s1 wk _ => ?_⟩
      refine ⟨fun i n σ H => n = its.length - i ∧ i ≤ its.length ∧ ∃ mi ρi hi, Ext m1 H1 mi H ∧ HS X.K Z mi hi H ∧ Es X.K Z mi H ρi σ ∧ loopF f (chkS s ds its) (its.drop i) ρi hi = some (fl, h'),
        ⟨its.length, by simp, Nat.zero_le _, m1, ρ, h1, Ext.refl, s1, ee.mono x1, by simpa using e⟩, ?_⟩
      rintro i n σ2 H2 ⟨rfl, hi, mi, ρi, hi', xi, si, ei, el⟩
      by_cases hlt : i < its.length
      · right
        have hdr : its.drop i = its[i] :: its.drop (i + 1) := List.drop_eq_getElem_cons hlt
        rw [hdr] at el
        obtain ⟨hck, f1, h2, ef, el'⟩ := loopF_pre el
        obtain ⟨hgo, hy⟩ := wk.go i mi hi' H2 xi si hck hlt
        refine ⟨hgo, fun σ H => ∃ mi ρi hi, Ext m1 H1 mi H ∧ HS X.K Z mi hi H ∧ Es X.K Z mi H ρi σ ∧ loopF f (chkS s ds its) (its.drop (i + 1)) ρi hi = some (fl, h'), fun σ' H' hn => ⟨its.length - (i + 1), by omega, rfl, hlt, hn⟩, fun x H' yy => ?_⟩
        obtain ⟨dx, hdx, xe, se, rx⟩ := hy x H' yy
        have : dx = its[i] := by
          rw [List.getElem?_eq_getElem hlt] at hdx
          exact (Option.some.inj hdx).symm
        subst this
        rw [← hf] at ef
        simp only at ef
        cases ea : asgT hi' t its[i] ρi with
        | none => rw [ea] at ef; cases ef
        | some ρ2 =>
          rw [ea] at ef
          simp only [Option.bind_some] at ef
          refine ⟨Z, mi, ρi, hi', its[i], ρ2, ei.mono xe, se, rx, ea, fun σ3 es3 _ => ⟨Z, mi, ρ2, hi', f1, h2, es3, se, ef, ?_⟩⟩
          cases f1 with
          | nx ρ' => exact fun m4 σ4 H4 x4 s4 e4 => ⟨m4, ρ', h2, (xi.trans xe).trans x4, s4, e4, el'⟩
          | ct ρ' => exact fun m4 σ4 H4 x4 s4 e4 => ⟨m4, ρ', h2, (xi.trans xe).trans x4, s4, e4, el'⟩
          | bk ρ' =>
            obtain ⟨rfl, rfl⟩ := el'
            exact fun m4 σ4 H4 x4 s4 e4 => q m4 σ4 H4 (((x1.trans xi).trans xe).trans x4) s4 e4
          | rt d =>
            obtain ⟨rfl, rfl⟩ := el'
            exact fun m4 σ4 H4 x4 s4 e4 => q m4 σ4 H4 (((x1.trans xi).trans xe).trans x4) s4 e4
      · left
        have hi2 : i = its.length := by omega
        subst hi2
        simp only [List.drop_length, loopF] at el
        split at el
        · rename_i hck
          simp only [Option.some.injEq, Prod.mk.injEq] at el
          obtain ⟨rfl, rfl⟩ := el
          exact ⟨wk.stop mi hi' H2 xi si hck, q mi σ2 H2 (x1.trans xi) si ei⟩
        · cases el
theorem s_while {c : Expr} {body : List Stmt} {rc : RE} {rb : List RS} {pos : Pos} (hx : X.xe = fun _ _ => False) (hc : Snd X cl c rc) (hb : SSs X cl body rb) : SS X cl (.While c body [] pos) (.while rc rb) := by
  refine (ps_while (by rw [hx]; exact PassesOwn.never) hc.pt hb).w fun D σ H g => ?_
  obtain ⟨Z, m, ρ, h, fl, h', ee, hs, e, q⟩ := g
  simp only [exS] at e
  generalize 1000000 = N at e
  refine ⟨fun n σ H2 => ∃ mi ρi hi, Ext m H mi H2 ∧ HS X.K Z mi hi H2 ∧ Es X.K Z mi H2 ρi σ ∧ loopW (evT cl rc) (exSs cl rb) n ρi hi = some (fl, h'), ⟨N, m, ρ, h, Ext.refl, hs, ee, e⟩, ?_⟩
  rintro n σ2 H2 ⟨mi, ρi, hi, xi, si, ei, el⟩
  cases n with
  | zero => simp [loopW] at el
  | succ n =>
    simp only [loopW] at el
    cases e1 : evT cl rc ρi hi with
    | none => rw [e1] at el; cases el
    | some r1 =>
      obtain ⟨t, h1⟩ := r1
      rw [e1] at el
      simp only [Option.bind_some] at el
      refine ⟨Z, mi, ρi, hi, t, h1, ei, si, e1, fun m3 H3 x3 s3 => ?_⟩
      cases t with
      | false =>
        simp only [Bool.false_eq_true, if_false, Option.some.injEq, Prod.mk.injEq] at el ⊢
        obtain ⟨rfl, rfl⟩ := el
        exact q m3 σ2 H3 (xi.trans x3) s3 (ei.mono x3)
      | true =>
        simp only [if_true] at el ⊢
        refine ⟨fun σ H2 => ∃ mi ρi hi, Ext m H mi H2 ∧ HS X.K Z mi hi H2 ∧ Es X.K Z mi H2 ρi σ ∧ loopW (evT cl rc) (exSs cl rb) n ρi hi = some (fl, h'), fun σ' H' hn => ⟨n, Nat.lt_succ_self n, hn⟩, ?_⟩
        cases e2 : exSs cl rb ρi h1 with
        | none => rw [e2] at el; cases el
        | some r2 =>
          obtain ⟨f2, h2⟩ := r2
          rw [e2] at el
          simp only [Option.bind_some] at el
          refine ⟨Z, m3, ρi, h1, f2, h2, ei.mono x3, s3, e2, ?_⟩
          cases f2 with
          | nx ρ' => exact fun m4 σ4 H4 x4 s4 e4 => ⟨m4, ρ', h2, (xi.trans x3).trans x4, s4, e4, el⟩
          | ct ρ' => exact fun m4 σ4 H4 x4 s4 e4 => ⟨m4, ρ', h2, (xi.trans x3).trans x4, s4, e4, el⟩
          | bk ρ' =>
            simp only [Option.some.injEq, Prod.mk.injEq] at el
            obtain ⟨rfl, rfl⟩ := el
            exact fun m4 σ4 H4 x4 s4 e4 => q m4 σ4 H4 ((xi.trans x3).trans x4) s4 e4
          | rt d =>
            simp only [Option.some.injEq, Prod.mk.injEq] at el
            obtain ⟨rfl, rfl⟩ := el
            exact fun m4 σ4 H4 x4 s4 e4 => q m4 σ4 H4 ((xi.trans x3).trans x4) s4 e4
end
end Dp

set_option Elab.async false
set_option linter.all false
set_option autoImplicit false
set_option maxRecDepth 100000
set_option maxHeartbeats 4000000
namespace Dp
open PySem L2 PySem.Spec PyProof.Rows

structure Gt where
  fns : List (Str × Nat)
  csts : List (Str × D)

def visB (sc : Scope) (x : Str) : Bool := match sc.names.lookup x with
  | some .local => true
  | some .cell => true
  | some .free => true
  | _ => false
def locB (sc : Scope) (x : Str) : Bool := match sc.names.lookup x with
  | some .local => true
  | some .cell => true
  | _ => false
def glB (sc : Scope) (x : Str) : Bool := match sc.names.lookup x with
  | some .globalImplicit => true
  | _ => false
theorem visB_ok {sc : Scope} {x : Str} (h : visB sc x = true) : Vis sc x := by
  unfold visB at h
  split at h <;> first | exact .inl (by assumption) | exact .inr (.inl (by assumption)) | exact .inr (.inr (by assumption)) | cases h
theorem glB_ok {sc : Scope} {x : Str} (h : glB sc x = true) : sc.names.lookup x = some .globalImplicit := by
  unfold glB at h
  split at h <;> first | assumption | cases h
def notDbg (x : Str) : Bool := !(x == ("__debug__" : Str)) && !(x == ("__classdict__" : Str))

inductive Kd where
  | bin (op : Operator) | cmp (op : CmpOp) (mk : Bool) | neg | idx | slc (a b : Bool) | rev | tup | lst | bn (f : Str) | join (ok : Bool)
def parts : Expr → Option (Kd × List Expr)
  | .BinOp a op b _ => some (.bin op, [a, b])
  | .Compare a [op] [b] _ => some (.cmp op (behindInMarks op b), [a, b])
  | .UnaryOp .USub a _ => some (.neg, [a])
  | .Subscript a (.Slice l u none _) _ => some (.slc l.isSome u.isSome, a :: (l.toList ++ u.toList))
  | .Subscript a (.Slice none none (some (.UnaryOp .USub (.Constant (.int 1) _ _) _)) _) _ => some (.rev, [a])
  | .Subscript _ (.Slice ..) _ => none
  | .Subscript a i _ => some (.idx, [a, i])
  | .Tuple es _ _ => some (.tup, es)
  | .List es _ => some (.lst, es)
  | .Call (.Name f _) (e :: es) [] _ => some (.bn f, e :: es)
  | .Call (.Attribute o m apos) [e] [] cpos => if m = "join" then some (.join (noBase o && (apos.endLine == cpos.line)), [o, e]) else none
  | _ => none
def allBn : List Bn := [.len, .tuple, .list, .int, .isi, .min2, .max2, .minL, .maxL, .sum, .any, .all, .sorted]
def kdP (sc : Scope) : Kd → P → Bool
  | .bin op, p => decide (binP op = some p)
  | .cmp op mk, p => decide (cmpP op = some p) && !mk
  | .neg, p => decide (p = .neg)
  | .idx, p => decide (p = .idx)
  | .slc a b, p => decide (p = .slc a b)
  | .rev, p => decide (p = .rev)
  | .tup, p => decide (p = .tup)
  | .lst, p => decide (p = .lst)
  | .bn f, p => glB sc f && allBn.any fun b => decide (b.name = f) && decide (b.p = p)
  | .join ok, p => ok && decide (p = .join)
def tyNames : List (String × Str) := [("int", "int"), ("bool", "bool"), ("str", "str"), ("tuple", "tuple"), ("list", "list"), ("dict", "dict")]
def chkK (G : Gt) (sc : Scope) (d : D) (e : Expr) : Bool := match e, d with
  | .Constant (.int i) _ _, .int j => decide (i = j)
  | .Constant (.bool i) _ _, .bl j => decide (i = j)
  | .Constant .none _ _, .non => true
  | .Constant (.str x) _ _, .str s => decide (tS s = x)
  | .Name x _, .ty t => glB sc x && tyNames.any fun p => decide (p.1 = t) && decide (p.2 = x)
  | .Name x _, d => glB sc x && notDbg x && (match G.csts.lookup x with | some d' => beqD d' d | none => false)
  | _, _ => false
def notSet : Expr → Bool
  | .Set .. => false
  | _ => true
mutual
def chkT (N : List Str) (sc : Scope) : RT → Expr → Bool
  | .nm i, .Name x _ => decide (N[i]? = some x) && locB sc x
  | .tp ts, .Tuple es _ _ => chkTs N sc ts es
  | _, _ => false
def chkTs (N : List Str) (sc : Scope) : List RT → List Expr → Bool
  | [], [] => true
  | t :: ts, e :: es => notStar e && chkT N sc t e && chkTs N sc ts es
  | _, _ => false
end
def nmAt (N : List Str) (i : Nat) : Str × Nat := (N.getD i "", i)
def effM : Wr → Str → Nat → Bool
  | .append, m, n => decide (m = "append") && decide (n = 1)
  | .extend, m, n => decide (m = "extend") && decide (n = 1)
  | .pop0, m, n => decide (m = "pop") && decide (n = 0)
  | .popI, m, n => decide (m = "pop") && decide (n = 1)
  | .setI, _, _ => false
def plainB : Expr → Bool
  | .UnaryOp .Not _ _ => false
  | .BoolOp _ _ _ => false
  | .IfExp _ _ _ _ => false
  | .Compare _ _ _ _ => false
  | _ => true
mutual
def chkE (G : Gt) (N : List Str) : RE → Scope → Expr → Bool
  | .var i, sc, .Name x _ => decide (N[i]? = some x) && visB sc x && notDbg x
  | .cst d, sc, e => chkK G sc d e
  | .app p es, sc, e => (match parts e with
    | some (kd, subs) => kdP sc kd p && chkEs G N es sc subs
    | none => false)
  | .eff w o es, sc, .Call (.Attribute o' m apos) args [] cpos => effM w m args.length && noBase o' && (apos.endLine == cpos.line) && chkE G N o sc o' && chkEs G N es sc args
  | .mk r, sc, e => isFr r && plainB e && chkE G N r sc e
  | .edct, _, .Dict [] [] _ => true
  | .no a, sc, .UnaryOp .Not e _ => chkE G N a sc e
  | .an a b, sc, .BoolOp .And (x :: y :: rest) pos => chkE G N a sc x && (match rest with | [] => chkE G N b sc y | z :: zs => chkE G N b sc (.BoolOp .And (y :: z :: zs) pos))
  | .or a b, sc, .BoolOp .Or (x :: y :: rest) pos => chkE G N a sc x && (match rest with | [] => chkE G N b sc y | z :: zs => chkE G N b sc (.BoolOp .Or (y :: z :: zs) pos))
  | .ite c a b, sc, .IfExp c' a' b' _ => chkE G N c sc c' && chkE G N a sc a' && chkE G N b sc b'
  | .call _ f es, sc, .Call (.Name x _) args [] _ => (match G.fns.lookup x with | some g => decide (g = f) | none => false) && glB sc x && notDbg x && chkEs G N es sc args
  | .comp own elt t s es cs, sc, .ListComp elt' [⟨tg, iter, ifs, asy⟩] scope _ =>
    decide (asy = 0) && blkC N sc scope (own.map (nmAt N)) && (slotsT t).all (fun i => own.contains i) && chkT N scope t tg && notSet iter
      && (match s with
        | .seq => chkEs G N es sc [iter]
        | .rng1 => (match iter with | .Call (.Name x _) [a] [] _ => decide (x = "range") && glB sc x && chkEs G N es sc [a] | _ => false)
        | .rng2 => (match iter with | .Call (.Name x _) [a, b] [] _ => decide (x = "range") && glB sc x && chkEs G N es sc [a, b] | _ => false)
        | _ => false)
      && chkE G N elt (relS scope sc) elt' && decide (ifs.length ≤ 1) && chkEs G N cs (relS scope sc) ifs
  | _, _, _ => false
def chkEs (G : Gt) (N : List Str) : REs → Scope → List Expr → Bool
  | .nil, _, [] => true
  | .cons r rs, sc, e :: es => notStar e && chkE G N r sc e && chkEs G N rs sc es
  | _, _, _ => false
end
def chkI (G : Gt) (N : List Str) (sc : Scope) (s : Src) (es : REs) (iter : Expr) : Bool := match s with
  | .seq => chkEs G N es sc [iter]
  | .rng1 => (match iter with | .Call (.Name x _) [a] [] _ => decide (x = "range") && glB sc x && chkEs G N es sc [a] | _ => false)
  | .rng2 => (match iter with | .Call (.Name x _) [a, b] [] _ => decide (x = "range") && glB sc x && chkEs G N es sc [a, b] | _ => false)
  | _ => false

structure Good (G : Gt) (k : Nat) (cl : CallT) (X : Cx) : Prop where
  calm : X.calm = true
  nd : X.N.Nodup
  xe : X.xe = fun _ _ => False
  room : Room k X.A
  kind : X.env.scope.kind = .function
  nob : ∀ b : Bn, X.mg b.name = none
  rng : X.mg "range" = none
  tys : ∀ p ∈ tyNames, X.mg p.2 = none
  cst : ∀ x d, G.csts.lookup x = some d → ∃ u v, X.mg x = some u ∧ RelV v u ∧ ∀ Z m H, Rep X.K Z m H d v
  fns : ∀ x f, G.fns.lookup x = some f → ∃ a fd ps np, X.mg x = some (.ref a) ∧ PySem.W.keepIn X.K (.ref a) = true ∧ Binds X.K fd ps [] ∧ FnOk X.prog X.w X.K X.mg X.base CX0 k a fd ps (spF X.K cl f np) ∧ ∀ ds h d h', cl f ds h = some (d, h') → ds.length = np
theorem Good.blk {G : Gt} {k : Nat} {cl : CallT} {X : Cx} (g : Good G k cl X) {s : Shared} {H : Hp} {scope : Scope} {c : List (Str × Addr)} {C : Addr} {fp : List Addr} (hk : scope.kind = .function) : Good G k cl (X.blk s H scope (compEnvC scope c C X.env) fp) :=
  ⟨g.calm, g.nd, rfl, g.room, hk, g.nob, g.rng, g.tys, g.cst, g.fns⟩
/-- names to be stored -/
def Sto (X : Cx) (sc : Scope) : Prop := ∀ x, locB sc x = true → Loc X.env.scope x ∧ (X.fn x = true ∨ X.env.scope.names.lookup x = some .local)
section
variable {X : Cx}
mutual
theorem tgt_ok {sc : Scope} (hc : X.calm = true) (nd : X.N.Nodup) (st : Sto X sc) : ∀ (t : RT) (e : Expr), chkT X.N sc t e = true → PG X e (gR X.K t)
  | .nm i, e, h => by
    cases e <;> simp only [chkT, Bool.false_eq_true] at h
    rename_i x p
    simp only [Bool.and_eq_true, decide_eq_true_eq] at h
    obtain ⟨h1, h2⟩ := st x h.2
    exact pg_nm nd h.1 h1 h2
  | .tp ts, e, h => by
    cases e <;> simp only [chkT, Bool.false_eq_true] at h
    rename_i es k p
    obtain ⟨h1, h2, h3⟩ := tgts_ok hc nd st ts es h
    exact pg_tp hc h2 h1 h3
theorem tgts_ok {sc : Scope} (hc : X.calm = true) (nd : X.N.Nodup) (st : Sto X sc) : ∀ (ts : List RT) (es : List Expr), chkTs X.N sc ts es = true → PGs X es (gRs X.K ts) ∧ es.all notStar = true ∧ es.length = ts.length
  | [], es, h => by
    cases es <;> simp only [chkTs, Bool.false_eq_true] at h
    exact ⟨pgs_n, rfl, rfl⟩
  | t :: ts, es, h => by
    cases es <;> simp only [chkTs, Bool.false_eq_true] at h
    rename_i e es
    simp only [Bool.and_eq_true] at h
    obtain ⟨h1, h2, h3⟩ := tgts_ok hc nd st ts es h.2
    exact ⟨pgs_c h.1.1 (tgt_ok hc nd st t e h.1.2) h1, by simp [h.1.1, h2], by simp [h3]⟩
end
end
end Dp

set_option Elab.async false
set_option linter.all false
set_option autoImplicit false
set_option maxRecDepth 100000
set_option maxHeartbeats 4000000
namespace Dp
open PySem L2 PySem.Spec PyProof.Rows

theorem rel_local {sc scope : Scope} {x : Str} {k : NameKind} (hk : k ≠ .free) (h : scope.names.lookup x = some k) : (relS scope sc).names.lookup x = some k := by
  unfold relS
  simp only
  generalize scope.names = names at h
  induction names with
  | nil => simp at h
  | cons nk r ih =>
    obtain ⟨n, k'⟩ := nk
    simp only [List.map_cons]
    rw [List.lookup_cons] at h
    cases hx : x == n with
    | true =>
      rw [hx] at h
      simp only [Option.some.injEq] at h
      subst h
      have : (k' == NameKind.free) = false := by cases k' <;> first | rfl | exact absurd rfl hk
      simp only [this, Bool.false_and, Bool.false_eq_true, if_false]
      rw [List.lookup_cons, hx]
    | false =>
      rw [hx] at h
      simp only at h
      split
      · rw [List.lookup_cons, hx]; exact ih h
      · rw [List.lookup_cons, hx]; exact ih h
theorem sto_blk {X : Cx} {s : Shared} {H : Hp} {scope : Scope} {c : List (Str × Addr)} {C : Addr} {fp : List Addr} : Sto (X.blk s H scope (compEnvC scope c C X.env) fp) scope := by
  intro x hx
  unfold locB at hx
  split at hx
  · rename_i e
    have : (X.blk s H scope (compEnvC scope c C X.env) fp).env.scope.names.lookup x = some .local := rel_local (sc := X.env.scope) (by decide) e
    exact ⟨.inl this, .inr this⟩
  · rename_i e
    have : (X.blk s H scope (compEnvC scope c C X.env) fp).env.scope.names.lookup x = some .cell := rel_local (sc := X.env.scope) (by decide) e
    refine ⟨.inr this, .inl ?_⟩
    show (scope.names.lookup x == some .cell) = true
    rw [e]; rfl
  · cases hx
theorem pw_of {X : Cx} {op : BoolOp} {es : List Expr} {pos : Pos} {t : TT} (h : PT X (.BoolOp op es pos) t) : PW X (.BoolOp op es pos) t := ⟨fun wh pins s σ H Q I q => h.run pins s σ H Q I q⟩
theorem fse_of {e : Expr} {env : PySem.Env} (h : notSet e = true) : ∀ x, foldedSetIterable e env x = pure x := by
  intro x
  cases e <;> first | rfl | simp [notSet] at h
theorem own_map (N : List Str) (own : List Nat) : (own.map (nmAt N)).map (·.2) = own := by
  rw [List.map_map]
  conv => rhs; rw [← List.map_id own]
  rfl
theorem dbg1 {x : Str} (h : notDbg x = true) : (x == ("__debug__" : Str)) = false := by
  simp only [notDbg, Bool.and_eq_true, Bool.not_eq_true'] at h
  exact h.1
theorem dbg2 {x : Str} (h : notDbg x = true) : (x == ("__classdict__" : Str)) = false := by
  simp only [notDbg, Bool.and_eq_true, Bool.not_eq_true'] at h
  exact h.2
section
variable {G : Gt} {k : Nat} {cl : CallT}
/-- a sound expression, and where it makes a list, a sound new one -/
structure Fin_ (X : Cx) (cl : CallT) (e : Expr) (r : RE) : Prop where
  snd : Snd X cl e r
  fr : isFr r = true → PE X e (tF X.K (evE cl r))
theorem plain_is {X : Cx} {e : Expr} (h : plainB e = true) : ∀ whole, isTrue e X.env whole = (do let v ← whole; standAt e.pos; holding [v] (truthy v)) := by
  intro whole
  cases e <;> first | rfl | (simp [plainB] at h; done) | skip
  rename_i op a p
  cases op <;> first | rfl | (simp [plainB] at h; done)
theorem fin_app {X : Cx} {e : Expr} {p : P} {es : REs} (a : App X cl e p es) (he : ∀ whole, isTrue e X.env whole = (do let v ← whole; standAt e.pos; holding [v] (truthy v))) : Fin_ X cl e (.app p es) :=
  ⟨⟨a.pe, pt_of a.pe he⟩, fun h => a.fr h⟩
theorem snd_k {X : Cx} {e : Expr} {d : D} (h : PE X e (tE X.K (evE cl (.cst d)))) (he : ∀ whole, isTrue e X.env whole = (do let v ← whole; standAt e.pos; holding [v] (truthy v))) : Snd X cl e (.cst d) := ⟨h, pt_of h he⟩
theorem cst_ok {X : Cx} (g : Good G k cl X) {d : D} {e : Expr} (h : chkK G X.env.scope d e = true) : Snd X cl e (.cst d) := by
  unfold chkK at h
  split at h
  · simp only [decide_eq_true_eq] at h
    subst h
    exact snd_k (pe_k pe_int (fun _ _ _ => by simp [Rep])) (fun _ => rfl)
  · simp only [decide_eq_true_eq] at h
    subst h
    exact snd_k (pe_k pe_bl (fun _ _ _ => by simp [Rep])) (fun _ => rfl)
  · exact snd_k (pe_k pe_non (fun _ _ _ => by simp [Rep])) (fun _ => rfl)
  · simp only [decide_eq_true_eq] at h
    subst h
    exact snd_k (pe_k pe_str (fun _ _ _ => by simp [Rep])) (fun _ => rfl)
  · rename_i x p t
    simp only [Bool.and_eq_true, List.any_eq_true, decide_eq_true_eq] at h
    obtain ⟨hg, q, hq, rfl, rfl⟩ := h
    have hm := g.tys q hq
    have hb : bootBuiltins q.2 = some (.type q.1) ∧ q.2 ≠ "__name__" ∧ (q.2 == ("__debug__" : Str)) = false := by
      have : ∀ q ∈ tyNames, bootBuiltins q.2 = some (.type q.1) ∧ q.2 ≠ "__name__" ∧ (q.2 == ("__debug__" : Str)) = false := by decide +kernel
      exact this q hq
    exact snd_k (pe_k (pe_bltn (v := .ty q.1) (glB_ok hg) hm hb.1 rfl hb.2.1 hb.2.2) (fun _ _ _ => by simp [Rep])) (fun _ => rfl)
  · rename_i dd x p _
    simp only [Bool.and_eq_true] at h
    cases e1 : G.csts.lookup x with
    | none => rw [e1] at h; simp at h
    | some d' =>
      rw [e1] at h
      have := beqD_eq _ _ h.2
      subst this
      obtain ⟨u, v, hm, rv, rep⟩ := g.cst x d' e1
      exact snd_k (pe_k (pe_glob (glB_ok h.1.1) hm rv (dbg1 h.1.2)) rep) (fun _ => rfl)
  · cases h
theorem sns_two {X : Cx} {a b : Expr} {es : REs} (s : Sns X cl [a, b] es) : ∃ ra rb, es = .cons ra (.cons rb .nil) ∧ Snd X cl a ra ∧ Snd X cl b rb := by
  cases s with
  | cons _ h1 t => cases t with
    | cons _ h2 t => cases t; exact ⟨_, _, rfl, h1, h2⟩
theorem sns_one {X : Cx} {a : Expr} {es : REs} (s : Sns X cl [a] es) : ∃ ra, es = .cons ra .nil ∧ Snd X cl a ra := by
  cases s with
  | cons _ h1 t => cases t; exact ⟨_, rfl, h1⟩
theorem app_ok {X : Cx} (g : Good G k cl X) {e : Expr} {p : P} {es : REs} {kd : Kd} {subs : List Expr} (hp : parts e = some (kd, subs)) (hk : kdP X.env.scope kd p = true) (s : Sns X cl subs es) : Fin_ X cl e (.app p es) := by
  unfold parts at hp
  split at hp
  · cases hp
    obtain ⟨ra, rb, rfl, h1, h2⟩ := sns_two s
    exact fin_app (app_bin (by simpa [kdP] using hk) h1 h2) (fun _ => rfl)
  · cases hp
    obtain ⟨ra, rb, rfl, h1, h2⟩ := sns_two s
    simp only [kdP, Bool.and_eq_true, decide_eq_true_eq, Bool.not_eq_true'] at hk
    exact ⟨snd_cmp g.room hk.1 hk.2 h1 h2, fun h => (app_cmp g.room hk.1 hk.2 h1 h2).fr h⟩
  · cases hp
    obtain ⟨ra, rfl, h1⟩ := sns_one s
    have : p = .neg := by simpa [kdP] using hk
    subst this
    exact fin_app (app_neg h1) (fun _ => rfl)
  · rename_i a l u p2 pos
    cases hp
    have : p = .slc l.isSome u.isSome := by simpa [kdP] using hk
    subst this
    cases s with
    | cons hst h1 t =>
      refine fin_app ?_ (fun _ => rfl)
      cases l with
      | none =>
        cases u with
        | none =>
          cases t
          exact app_slc (lr := .nil) (ur := .nil) h1 (.inl ⟨rfl, rfl⟩) (.inl ⟨rfl, rfl⟩) _ rfl
        | some u =>
          obtain ⟨ru, rfl, h2⟩ := sns_one t
          exact app_slc (lr := .nil) (ur := .cons ru .nil) h1 (.inl ⟨rfl, rfl⟩) (.inr ⟨u, ru, rfl, rfl, h2, rfl⟩) _ rfl
      | some l =>
        cases u with
        | none =>
          obtain ⟨rl, rfl, h2⟩ := sns_one t
          exact app_slc (lr := .cons rl .nil) (ur := .nil) h1 (.inr ⟨l, rl, rfl, rfl, h2, rfl⟩) (.inl ⟨rfl, rfl⟩) _ rfl
        | some u =>
          obtain ⟨rl, ru, rfl, h2, h3⟩ := sns_two t
          exact app_slc (lr := .cons rl .nil) (ur := .cons ru .nil) h1 (.inr ⟨l, rl, rfl, rfl, h2, rfl⟩) (.inr ⟨u, ru, rfl, rfl, h3, rfl⟩) _ rfl
  · cases hp
    obtain ⟨ra, rfl, h1⟩ := sns_one s
    have : p = .rev := by simpa [kdP] using hk
    subst this
    exact fin_app (app_rev h1) (fun _ => rfl)
  · cases hp
  · rename_i a i pos h1 h2 h3
    cases hp
    obtain ⟨ra, rb, rfl, s1, s2⟩ := sns_two s
    have : p = .idx := by simpa [kdP] using hk
    subst this
    have hpl : PlainIx i := by
      intro o j
      cases i <;> first | rfl | exact absurd rfl (h3 _ _ _ _)
    exact fin_app (app_idx g.room hpl s1 s2) (fun _ => rfl)
  · cases hp
    have : p = .tup := by simpa [kdP] using hk
    subst this
    exact fin_app (app_tup s) (fun _ => rfl)
  · cases hp
    have : p = .lst := by simpa [kdP] using hk
    subst this
    exact fin_app (app_lst s) (fun _ => rfl)
  · rename_i f p1 e es' pos
    cases hp
    simp only [kdP, Bool.and_eq_true, List.any_eq_true, decide_eq_true_eq] at hk
    obtain ⟨hg, b, _, rfl, rfl⟩ := hk
    exact fin_app (app_bn b g.calm (glB_ok hg) (g.nob b) s) (fun _ => rfl)
  · rename_i o m apos e' cpos
    split at hp
    · rename_i hm
      subst hm
      cases hp
      simp only [kdP, Bool.and_eq_true, decide_eq_true_eq] at hk
      obtain ⟨⟨h1, h2⟩, rfl⟩ := hk
      cases s with
      | cons hst so t => exact fin_app (app_join h1 h2 so t) (fun _ => rfl)
    · cases hp
  · cases hp
end
end Dp

set_option Elab.async false
set_option linter.all false
set_option autoImplicit false
set_option maxRecDepth 100000
set_option maxHeartbeats 4000000
namespace Dp
open PySem L2 PySem.Spec PyProof.Rows
section
variable {G : Gt} {k : Nat} {cl : CallT}
theorem mk_imp {X : Cx} {r : RE} {σ : L2.St} {H : Hp} {Q : VK} (g : tE X.K (evE cl (.mk r)) σ H Q) : tF X.K (evE cl r) σ H Q := by
  obtain ⟨Z, m, ρ, h, d, h', ee, hs, e, q⟩ := g
  simp only [evE] at e
  cases e1 : evE cl r ρ h with
  | none => rw [e1] at e; cases e
  | some r1 =>
    obtain ⟨d1, h1⟩ := r1
    rw [e1] at e
    simp only [Option.bind_some] at e
    split at e
    · rename_i ds hd
      try simp only at hd
      try subst hd
      simp only [Option.some.injEq, Prod.mk.injEq] at e
      obtain ⟨rfl, rfl⟩ := e
      refine ⟨Z, m, ρ, h, _, h1, ee, hs, e1, fun m1 H1 x1 s1 => ?_⟩
      intro p vs hp rr
      have E : Ext m1 H1 (m1 ++ [p]) (upd H1 p (.lst vs)) := Ext.push hp
      refine q _ _ _ (x1.trans E) (s1.push hp ⟨vs, upd_same, rr.mono E⟩) ?_
      simp only [Rep]
      exact ⟨p, by rw [← s1.len]; simp, rfl⟩
    · rename_i ks ws hd
      try simp only at hd
      try subst hd
      simp only [Option.some.injEq, Prod.mk.injEq] at e
      obtain ⟨rfl, rfl⟩ := e
      refine ⟨Z, m, ρ, h, _, h1, ee, hs, e1, fun m1 H1 x1 s1 => ?_⟩
      intro p kvs hp nd hk rr
      have E : Ext m1 H1 (m1 ++ [p]) (upd H1 p (.dK kvs)) := Ext.push hp
      refine q _ _ _ (x1.trans E) (s1.push hp ⟨kvs, upd_same, nd, hk, rr.mono E⟩) ?_
      simp only [Rep]
      exact ⟨p, by rw [← s1.len]; simp, rfl⟩
    · cases e
theorem nofr {X : Cx} {e : Expr} {r : RE} (h : Snd X cl e r) (hf : isFr r = false) : Fin_ X cl e r := ⟨h, fun q => by rw [hf] at q; cases q⟩
mutual
theorem snd_ok : ∀ (r : RE) (X : Cx) (e : Expr), Good G k cl X → chkE G X.N r X.env.scope e = true → Fin_ X cl e r
  | .var i, X, e, g, h => by
    cases e <;> (try simp only [chkE, Bool.false_eq_true] at h)
    simp only [Bool.and_eq_true, decide_eq_true_eq] at h
    rename_i x p
    have := pe_v (cl := cl) (i := i) (pos := p) h.1.1 (visB_ok h.1.2) (dbg1 h.2) (dbg2 h.2)
    exact nofr ⟨this, pt_of this (fun _ => rfl)⟩ rfl
  | .cst d, X, e, g, h => nofr (cst_ok g (by simpa [chkE] using h)) rfl
  | .app p es, X, e, g, h => by
    simp only [chkE] at h
    split at h
    · rename_i kd subs hp
      simp only [Bool.and_eq_true] at h
      exact app_ok g hp h.1 (snds_ok es X subs g h.2)
    · cases h
  | .eff w o es, X, e, g, h => by
    cases e <;> (try simp only [chkE, Bool.false_eq_true] at h)
    rename_i f args ks cpos
    cases f <;> (try simp only [chkE, Bool.false_eq_true] at h)
    rename_i o' m apos
    cases ks <;> (try simp only [chkE, Bool.false_eq_true] at h)
    simp only [Bool.and_eq_true] at h
    obtain ⟨⟨⟨⟨hw, hb⟩, hl⟩, ho⟩, ha⟩ := h
    have so := (snd_ok o X o' g ho).snd
    have sa := snds_ok es X args g ha
    have fin : PE X (.Call (.Attribute o' m apos) args [] cpos) (tE X.K (evE cl (.eff w o es))) := by
      cases w <;> simp only [effM, Bool.and_eq_true, decide_eq_true_eq, Bool.false_eq_true] at hw
      · obtain ⟨rfl, hn⟩ := hw
        match args, hn, sa with
        | [a], _, sa => exact eff_append hb hl so sa
      · obtain ⟨rfl, hn⟩ := hw
        match args, hn, sa with
        | [a], _, sa => exact eff_extend hb hl so sa
      · obtain ⟨rfl, hn⟩ := hw
        match args, hn, sa with
        | [], _, sa => cases sa; exact eff_pop0 hb hl so
      · obtain ⟨rfl, hn⟩ := hw
        match args, hn, sa with
        | [a], _, sa => exact eff_popI hb hl so sa
    exact nofr ⟨fin, pt_of fin (fun _ => rfl)⟩ rfl
  | .mk r, X, e, g, h => by
    simp only [chkE, Bool.and_eq_true] at h
    have f := snd_ok r X e g h.2
    have fin : PE X e (tE X.K (evE cl (.mk r))) := (f.fr h.1.1).w fun σ H Q q => mk_imp q
    exact nofr ⟨fin, pt_of fin (plain_is h.1.2)⟩ rfl
  | .edct, X, e, g, h => by
    cases e <;> (try simp only [chkE, Bool.false_eq_true] at h)
    rename_i ks vs p
    cases ks <;> (try simp only [chkE, Bool.false_eq_true] at h)
    cases vs <;> (try simp only [chkE, Bool.false_eq_true] at h)
    have fr := pe_ed (X := X) (cl := cl) (pos := p)
    have fin : PE X (.Dict [] [] p) (tE X.K (evE cl .edct)) := fr.w fun σ H Q q => tF.e q
    exact ⟨⟨fin, pt_of fin (fun _ => rfl)⟩, fun _ => fr⟩
  | .no a, X, e, g, h => by
    cases e <;> (try simp only [chkE, Bool.false_eq_true] at h)
    rename_i op e p
    cases op <;> (try simp only [chkE, Bool.false_eq_true] at h)
    exact nofr (snd_not (snd_ok a X e g h).snd) rfl
  | .an a b, X, e, g, h => by
    cases e <;> (try simp only [chkE, Bool.false_eq_true] at h)
    rename_i op es p
    cases op <;> (try simp only [chkE, Bool.false_eq_true] at h)
    match es, h with
    | [x, y], h =>
      simp only [chkE, Bool.and_eq_true] at h
      exact nofr (sb_and (snd_ok a X x g h.1).snd (sb_and1 (snd_ok b X y g h.2).snd)).snd rfl
    | x :: y :: z :: zs, h =>
      simp only [chkE, Bool.and_eq_true] at h
      have s := (snd_ok b X _ g h.2).snd
      exact nofr (sb_and (snd_ok a X x g h.1).snd ⟨s.pe, pw_of s.pt⟩).snd rfl
  | .or a b, X, e, g, h => by
    cases e <;> (try simp only [chkE, Bool.false_eq_true] at h)
    rename_i op es p
    cases op <;> (try simp only [chkE, Bool.false_eq_true] at h)
    match es, h with
    | [x, y], h =>
      simp only [chkE, Bool.and_eq_true] at h
      exact nofr (sb_or (snd_ok a X x g h.1).snd (sb_or1 (snd_ok b X y g h.2).snd)).snd rfl
    | x :: y :: z :: zs, h =>
      simp only [chkE, Bool.and_eq_true] at h
      have s := (snd_ok b X _ g h.2).snd
      exact nofr (sb_or (snd_ok a X x g h.1).snd ⟨s.pe, pw_of s.pt⟩).snd rfl
  | .ite c a b, X, e, g, h => by
    cases e <;> (try simp only [chkE, Bool.false_eq_true] at h)
    simp only [Bool.and_eq_true] at h
    exact nofr (snd_ite (snd_ok c X _ g h.1.1).snd (snd_ok a X _ g h.1.2).snd (snd_ok b X _ g h.2).snd) rfl
  | .call b f es, X, e, g, h => by
    cases e <;> (try simp only [chkE, Bool.false_eq_true] at h)
    rename_i fe args ks cpos
    cases fe <;> (try simp only [chkE, Bool.false_eq_true] at h)
    rename_i x p
    cases ks <;> (try simp only [chkE, Bool.false_eq_true] at h)
    simp only [Bool.and_eq_true] at h
    obtain ⟨⟨⟨h1, h2⟩, h3⟩, h4⟩ := h
    cases e1 : G.fns.lookup x with
    | none => rw [e1] at h1; simp at h1
    | some f' =>
      rw [e1] at h1
      simp only [decide_eq_true_eq] at h1
      subst h1
      obtain ⟨ad, fd, ps, np, hm, hk, hb, F, hl⟩ := g.fns x f' e1
      have fin := pe_calls (b := b) (p := p) (pos := cpos) F g.room (glB_ok h2) hm hk hb (dbg1 h3) hl (snds_ok es X args g h4)
      exact nofr ⟨fin, pt_of fin (fun _ => rfl)⟩ rfl
  | .comp own elt t s es cs, X, e, g, h => by
    cases e <;> (try simp only [chkE, Bool.false_eq_true] at h)
    rename_i elt' gens scope pos
    match gens, h with
    | [⟨tg, iter, ifs, asy⟩], h =>
      simp only [chkE, Bool.and_eq_true, decide_eq_true_eq] at h
      obtain ⟨⟨⟨⟨⟨⟨⟨⟨h1, h2⟩, h3⟩, h4⟩, h5⟩, h6⟩, h7⟩, h8⟩, h9⟩ := h
      subst h1
      have ok := blkOk_by h2
      have hsl : ∀ i ∈ slotsT t, i ∈ own := fun i hi => by
        have := List.all_eq_true.mp h3 i hi
        simpa using this
      have hi : PI X tg iter (tI X.K s (evEs cl es)) := by
        cases s with
        | seq =>
          simp only at h6
          obtain ⟨r, rfl, hr⟩ := sns_one (snds_ok es X [iter] g h6)
          exact pi_seq hr
        | rng1 =>
          simp only at h6
          split at h6
          · rename_i x p a pos'
            simp only [Bool.and_eq_true, decide_eq_true_eq] at h6
            obtain ⟨⟨rfl, hg⟩, ha⟩ := h6
            exact pi_rng1 (glB_ok hg) g.rng (snds_ok es X _ g ha)
          · cases h6
        | rng2 =>
          simp only at h6
          split at h6
          · rename_i x p a b pos'
            simp only [Bool.and_eq_true, decide_eq_true_eq] at h6
            obtain ⟨⟨rfl, hg⟩, ha⟩ := h6
            exact pi_rng2 (glB_ok hg) g.rng (snds_ok es X _ g ha)
          · cases h6
        | enum => simp at h6
        | zip2 => simp at h6
      have ht : ∀ (s : Shared) (H : Hp) (C : Addr) (c : List (Str × Addr)) (fp : List Addr), PTs (X.blk s H scope (compEnvC scope c C X.env) fp) ifs (tT X.K (evCs cl cs)) := fun s H C c fp => by
        have gb : Good G k cl (X.blk s H scope (compEnvC scope c C X.env) fp) := g.blk ok.kind
        have sn : Sns (X.blk s H scope (compEnvC scope c C X.env) fp) cl ifs cs := snds_ok cs (X.blk s H scope (compEnvC scope c C X.env) fp) ifs gb h9
        cases sn with
        | nil => exact tt_nil
        | cons _ hr tl =>
          cases tl with
          | nil => exact tt_one hr
          | cons _ _ _ => simp at h8
      have main := pe_lc (ifs := ifs) (g := gR X.K t) (pos := pos) g.calm g.nd hi ok (fun s H C c fp => tgt_ok (X := X.blk s H scope (compEnvC scope c C X.env) fp) g.calm g.nd sto_blk t tg h4)
        ht (te := tE X.K (evE cl elt)) (fun s H C c fp => (snd_ok elt (X.blk s H scope (compEnvC scope c C X.env) fp) elt' (g.blk ok.kind) h7).snd.pe) (fse_of h5)
      rw [own_map] at main
      have fr : PE X (.ListComp elt' [⟨tg, iter, ifs, 0⟩] scope pos) (tF X.K (evE cl (.comp own elt t s es cs))) := main.w fun σ H Q q => comp_read hsl q
      have fin : PE X (.ListComp elt' [⟨tg, iter, ifs, 0⟩] scope pos) (tE X.K (evE cl (.comp own elt t s es cs))) := fr.w fun σ H Q q => tF.e q
      exact ⟨⟨fin, pt_of fin (fun _ => rfl)⟩, fun _ => fr⟩
theorem snds_ok : ∀ (rs : REs) (X : Cx) (es : List Expr), Good G k cl X → chkEs G X.N rs X.env.scope es = true → Sns X cl es rs
  | .nil, X, es, g, h => by
    cases es <;> simp only [chkEs, Bool.false_eq_true] at h
    exact .nil
  | .cons r rs, X, es, g, h => by
    cases es <;> simp only [chkEs, Bool.false_eq_true] at h
    simp only [Bool.and_eq_true] at h
    exact .cons h.1.1 (snd_ok r X _ g h.1.2).snd (snds_ok rs X _ g h.2)
end
end
end Dp

set_option Elab.async false
set_option linter.all false
set_option autoImplicit false
set_option maxRecDepth 100000
set_option maxHeartbeats 4000000
namespace Dp
open PySem L2 PySem.Spec PyProof.Rows

/-- a comprehension that is stored as it ends -/
def swB (sc : Scope) (tg e : Expr) : Bool := match tg, e with
  | .Name y py, .ListComp _ _ scope pos => (match sc.names.lookup y with | some .local => true | _ => false) && (py.line == pos.line) && !(scope.names.any fun (n, k) => n == y && (k == .local || k == .cell))
  | _, _ => false
def isLC : Expr → Bool
  | .ListComp .. => true
  | _ => false
def unMk : RE → RE
  | .mk r => r
  | r => r
def isCo : RE → Bool
  | .comp .. => true
  | _ => false
def ckA (G : Gt) (N : List Str) (sc : Scope) (t : RT) (r : RE) (tgs : List Expr) (e : Expr) : Bool := match tgs with
  | [tg] => notStar tg && chkT N sc t tg && !isLstE tg && chkE G N r sc e && (
      (!isComp e && (!isTup tg || !isTup e))
      || (isLC e && !isTup tg && !swB sc tg e)
      || (isLC e && swB sc tg e && isCo (unMk r)))
  | _ => false
def ckI (G : Gt) (N : List Str) (sc : Scope) (o i e : RE) (tgs : List Expr) (e' : Expr) : Bool := match tgs with
  | [.Subscript o' i' _] => notSl i' && !isComp e' && chkE G N o sc o' && chkE G N i sc i' && chkE G N e sc e'
  | _ => false
mutual
def ckS (G : Gt) (N : List Str) (sc : Scope) : RS → Stmt → Bool
  | .asg t r, .Assign tgs e _ => ckA G N sc t r tgs e
  | .setI o i e, .Assign tgs e' _ => ckI G N sc o i e tgs e'
  | .expr r, .Expr e _ => !isComp e && chkE G N r sc e
  | .ret r, .Return (some e) _ => chkE G N r sc e
  | .ret (.cst .non), .Return none _ => true
  | .iff c a b, .If c' a' b' _ => chkE G N c sc c' && ckSs G N sc a a' && ckSs G N sc b b'
  | .for t s es body, .For tg iter body' [] _ => notSet iter && chkT N sc t tg && chkI G N sc s es iter && ckSs G N sc body body'
  | .while c body, .While c' body' [] _ => chkE G N c sc c' && ckSs G N sc body body'
  | .pass, .Pass _ => true
  | .brk, .Break _ => true
  | .cnt, .Continue _ => true
  | _, _ => false
def ckSs (G : Gt) (N : List Str) (sc : Scope) : List RS → List Stmt → Bool
  | [], [] => true
  | r :: rs, s :: ss => ckS G N sc r s && ckSs G N sc rs ss
  | _, _ => false
end
section
variable {G : Gt} {k : Nat} {cl : CallT} {X : Cx}
theorem sw_lc {elt : Expr} {gs : List Comprehension} {scope : Scope} {pos py : Pos} {y : Str} {l : Nat} (hk : X.env.scope.kind = .function) : swapsWith (.ListComp elt gs scope pos) (some (.Name y py)) l X.env = pure (swB X.env.scope (.Name y py) (.ListComp elt gs scope pos)) := by
  have hb : X.env.blockKind = .function := by unfold Env.blockKind; rw [hk]; rfl
  unfold swapsWith swB
  simp only [hb, Expr.pos]
  have : (X.env.kindOf y == some .local) = (match X.env.scope.names.lookup y with | some .local => true | _ => false) := by
    show (X.env.scope.names.lookup y == some .local) = _
    cases X.env.scope.names.lookup y with
    | none => rfl
    | some q => cases q <;> rfl
  rw [this]
  rfl
theorem iter_ok {s : Src} {es : REs} {tg iter : Expr} (g : Good G k cl X) (h : chkI G X.N X.env.scope s es iter = true) : PI X tg iter (tI X.K s (evEs cl es)) := by
  unfold chkI at h
  cases s with
  | seq =>
    simp only at h
    obtain ⟨r, rfl, hr⟩ := sns_one (snds_ok es X [iter] g h)
    exact pi_seq hr
  | rng1 =>
    simp only at h
    split at h
    · simp only [Bool.and_eq_true, decide_eq_true_eq] at h
      obtain ⟨⟨rfl, hg⟩, ha⟩ := h
      exact pi_rng1 (glB_ok hg) g.rng (snds_ok es X _ g ha)
    · cases h
  | rng2 =>
    simp only at h
    split at h
    · simp only [Bool.and_eq_true, decide_eq_true_eq] at h
      obtain ⟨⟨rfl, hg⟩, ha⟩ := h
      exact pi_rng2 (glB_ok hg) g.rng (snds_ok es X _ g ha)
    · cases h
  | enum => simp at h
  | zip2 => simp at h
theorem comp_set {own : List Nat} {elt : RE} {t : RT} {s : Src} {es cs : REs} {elt' : Expr} {gens : List Comprehension} {scope : Scope} {pos py spos : Pos} {y : Str} {i : Nat} (g : Good G k cl X) (h : chkE G X.N (.comp own elt t s es cs) X.env.scope (.ListComp elt' gens scope pos) = true)
    (hy : X.N[i]? = some y) (hyl : X.env.scope.names.lookup y = some .local) (hsw : swB X.env.scope (.Name y py) (.ListComp elt' gens scope pos) = true) :
    ∃ te, PS X (.Assign [.Name y py] (.ListComp elt' gens scope pos) spos) (tAsg te (gName i)) ∧ ∀ σ H Q, tF X.K (evE cl (.comp own elt t s es cs)) σ H Q → te σ H Q := by
  match gens, h, hsw with
  | [⟨tg, iter, ifs, asy⟩], h, hsw =>
    simp only [chkE, Bool.and_eq_true, decide_eq_true_eq] at h
    obtain ⟨⟨⟨⟨⟨⟨⟨⟨h1, h2⟩, h3⟩, h4⟩, h5⟩, h6⟩, h7⟩, h8⟩, h9⟩ := h
    subst h1
    have ok := blkOk_by h2
    have hsl : ∀ i ∈ slotsT t, i ∈ own := fun i hi => by
      have := List.all_eq_true.mp h3 i hi
      simpa using this
    have hi : PI X tg iter (tI X.K s (evEs cl es)) := iter_ok g (by unfold chkI; exact h6)
    have ht : ∀ (s : Shared) (H : Hp) (C : Addr) (c : List (Str × Addr)) (fp : List Addr), PTs (X.blk s H scope (compEnvC scope c C X.env) fp) ifs (tT X.K (evCs cl cs)) := fun s H C c fp => by
      have gb : Good G k cl (X.blk s H scope (compEnvC scope c C X.env) fp) := g.blk ok.kind
      have sn : Sns (X.blk s H scope (compEnvC scope c C X.env) fp) cl ifs cs := snds_ok cs (X.blk s H scope (compEnvC scope c C X.env) fp) ifs gb h9
      cases sn with
      | nil => exact tt_nil
      | cons _ hr tl =>
        cases tl with
        | nil => exact tt_one hr
        | cons _ _ _ => simp at h8
    have main := ps_setLc (ifs := ifs) (g := gR X.K t) (pos := pos) (spos := spos) (py := py) g.calm g.nd hy hyl (by rw [sw_lc g.kind, hsw]) hi ok (fun s H C c fp => tgt_ok (X := X.blk s H scope (compEnvC scope c C X.env) fp) g.calm g.nd sto_blk t tg h4)
      ht (te := tE X.K (evE cl elt)) (fun s H C c fp => (snd_ok elt (X.blk s H scope (compEnvC scope c C X.env) fp) elt' (g.blk ok.kind) h7).snd.pe) (fse_of h5)
    rw [own_map] at main
    exact ⟨_, main, fun σ H Q q => comp_read hsl q⟩
theorem asg_ok (g : Good G k cl X) (st : Sto X X.env.scope) (t : RT) (r : RE) (s : Stmt) (h : ckS G X.N X.env.scope (.asg t r) s = true) : SS X cl s (.asg t r) := by
  cases s <;> (first | (exfalso; simp only [ckS, Bool.false_eq_true] at h; done) | skip)
  rename_i tgs e pos
  obtain ⟨tg, rfl⟩ : ∃ tg, tgs = [tg] := by
    cases tgs with
    | nil => simp [ckS, ckA, ckI] at h
    | cons tg tl => cases tl with
      | nil => exact ⟨_, rfl⟩
      | cons _ _ => simp [ckS, ckA, ckI] at h
  · skip
    simp only [ckS, ckA, Bool.and_eq_true, Bool.or_eq_true, Bool.not_eq_true'] at h
    obtain ⟨⟨⟨⟨h1, h2⟩, h3⟩, h4⟩, h5⟩ := h
    have hg := tgt_ok g.calm g.nd st t tg h2
    have f := snd_ok r X e g h4
    rcases h5 with (⟨h5, h6⟩ | ⟨⟨h5, h6⟩, h7⟩) | ⟨⟨h5, h6⟩, h7⟩
    · exact s_asg h1 (show swapsWith e (some tg) _ _ = _ from sw_no h5) (ss_no h6 h3) f.snd.pe hg
    · cases e <;> simp only [isLC, Bool.false_eq_true] at h5
      have hsw : ∀ l, swapsWith (.ListComp _ _ _ _) (some tg) l X.env = pure false := fun l => by
        cases tg <;> first | rfl | skip
        rw [sw_lc g.kind, h7]
      exact s_asg h1 (hsw _) (ss_no (.inl h6) h3) f.snd.pe hg
    · cases e <;> simp only [isLC, Bool.false_eq_true] at h5
      rename_i elt' gens scope cpos
      cases tg <;> simp only [swB, Bool.false_eq_true] at h6
      rename_i y py
      cases t with
      | tp ts => simp [chkT] at h2
      | nm i =>
        simp only [chkT, Bool.and_eq_true, decide_eq_true_eq] at h2
        have hyl : X.env.scope.names.lookup y = some .local := by
          simp only [ckS, ckSs, Bool.and_eq_true] at h6
          have := h6.1.1
          split at this
          · assumption
          · cases this
        cases r <;> simp only [unMk, isCo, Bool.false_eq_true] at h7
        · rename_i r
          cases r <;> simp only [isCo, Bool.false_eq_true] at h7
          simp only [chkE, Bool.and_eq_true] at h4
          obtain ⟨te, h8, h9⟩ := comp_set (spos := pos) (py := py) g h4.2 h2.1 hyl (by simpa [swB] using h6)
          exact s_asgI h8 fun σ H Q q => h9 σ H Q (mk_imp q)
        · obtain ⟨te, h8, h9⟩ := comp_set (spos := pos) (py := py) g h4 h2.1 hyl (by simpa [swB] using h6)
          exact s_asgI h8 fun σ H Q q => h9 σ H Q (tF.e q)
theorem setI_ok (g : Good G k cl X) (o i e : RE) (s : Stmt) (h : ckS G X.N X.env.scope (.setI o i e) s = true) : SS X cl s (.setI o i e) := by
  cases s <;> (first | (exfalso; simp only [ckS, Bool.false_eq_true] at h; done) | skip)
  rename_i tgs e' pos
  obtain ⟨o', i', p, rfl⟩ : ∃ o' i' p, tgs = [.Subscript o' i' p] := by
    cases tgs with
    | nil => simp [ckS, ckA, ckI] at h
    | cons tg tl => cases tl with
      | nil => cases tg <;> first | exact ⟨_, _, _, rfl⟩ | (simp [ckS, ckI] at h; done)
      | cons _ _ => simp [ckS, ckA, ckI] at h
  · skip
    simp only [ckS, ckI, Bool.and_eq_true, Bool.not_eq_true'] at h
    obtain ⟨⟨⟨⟨h1, h2⟩, h3⟩, h4⟩, h5⟩ := h
    exact s_setI g.room h1 h2 (snd_ok o X o' g h3).snd (snd_ok i X i' g h4).snd (snd_ok e X e' g h5).snd
mutual
theorem stm_ok (g : Good G k cl X) (st : Sto X X.env.scope) : ∀ (r : RS) (s : Stmt), ckS G X.N X.env.scope r s = true → SS X cl s r
  | .asg t r, s, h => asg_ok g st t r s h
  | .setI o i e, s, h => setI_ok g o i e s h
  | .expr r, s, h => by
    cases s <;> (first | (exfalso; simp only [ckS, Bool.false_eq_true] at h; done) | skip)
    simp only [ckS, ckSs, Bool.and_eq_true, Bool.not_eq_true'] at h
    exact s_expr h.1 (snd_ok r X _ g h.2).snd.pe
  | .ret r, s, h => by
    cases s <;> (first | (exfalso; simp only [ckS, Bool.false_eq_true] at h; done) | skip)
    rename_i v pos
    cases v with
    | some e => exact s_ret (snd_ok r X e g (by simpa [ckS] using h)).snd.pe
    | none =>
      cases r <;> (first | (exfalso; simp only [ckS, Bool.false_eq_true] at h; done) | skip)
      rename_i d
      cases d <;> (first | (exfalso; simp only [ckS, Bool.false_eq_true] at h; done) | skip)
      exact s_retN
  | .iff c a b, s, h => by
    cases s <;> (first | (exfalso; simp only [ckS, Bool.false_eq_true] at h; done) | skip)
    simp only [ckS, ckSs, Bool.and_eq_true] at h
    exact s_if (snd_ok c X _ g h.1.1).snd (stms_ok g st a _ h.1.2) (stms_ok g st b _ h.2)
  | .for t s es body, s', h => by
    cases s' <;> (first | (exfalso; simp only [ckS, Bool.false_eq_true] at h; done) | skip)
    rename_i tg iter body' orelse pos
    cases orelse <;> (first | (exfalso; simp only [ckS, Bool.false_eq_true] at h; done) | skip)
    simp only [ckS, ckSs, Bool.and_eq_true] at h
    exact s_for g.xe g.calm (iter_ok g h.1.2) (tgt_ok g.calm g.nd st t tg h.1.1.2) (stms_ok g st body body' h.2) (fse_of h.1.1.1)
  | .while c body, s, h => by
    cases s <;> (first | (exfalso; simp only [ckS, Bool.false_eq_true] at h; done) | skip)
    rename_i c' body' orelse pos
    cases orelse <;> (first | (exfalso; simp only [ckS, Bool.false_eq_true] at h; done) | skip)
    simp only [ckS, ckSs, Bool.and_eq_true] at h
    exact s_while g.xe (snd_ok c X _ g h.1).snd (stms_ok g st body body' h.2)
  | .pass, s, h => by
    cases s <;> (first | (exfalso; simp only [ckS, Bool.false_eq_true] at h; done) | skip)
    exact s_pass
  | .brk, s, h => by
    cases s <;> (first | (exfalso; simp only [ckS, Bool.false_eq_true] at h; done) | skip)
    exact s_brk
  | .cnt, s, h => by
    cases s <;> (first | (exfalso; simp only [ckS, Bool.false_eq_true] at h; done) | skip)
    exact s_cnt
theorem stms_ok (g : Good G k cl X) (st : Sto X X.env.scope) : ∀ (rs : List RS) (ss : List Stmt), ckSs G X.N X.env.scope rs ss = true → SSs X cl ss rs
  | [], ss, h => by
    cases ss <;> (first | (exfalso; simp only [ckSs, Bool.false_eq_true] at h; done) | skip)
    exact ss_nil
  | r :: rs, ss, h => by
    cases ss <;> (first | (exfalso; simp only [ckSs, Bool.false_eq_true] at h; done) | skip)
    simp only [ckS, ckSs, Bool.and_eq_true] at h
    exact ss_cons (stm_ok g st r _ h.1) (stms_ok g st rs _ h.2)
end
end
structure FnF (G : Gt) (T : Tab) (K : PySem.W.Frag) (mg : Str → Option Value) (x : Str) (f : Nat) : Prop where
  ex : ∃ (a : Addr) (fd : FuncData) (qual : Str) (params : Arguments) (body : List Stmt) (scope : Scope) (N ps : List Str) (F : RFn), T f = some F ∧ mg x = some (.ref a) ∧ FunD K x qual params body scope [] [] a fd ∧ FnScope N ps scope ∧ N.length = F.ns ∧ ps.length = F.np ∧
    Binds K fd ps [] ∧ ckSs G N scope F.body body = true
structure Mg (G : Gt) (T : Tab) (K : PySem.W.Frag) (mg : Str → Option Value) : Prop where
  nob : ∀ b : Bn, mg b.name = none
  rng : mg "range" = none
  tys : ∀ p ∈ tyNames, mg p.2 = none
  cst : ∀ x d, G.csts.lookup x = some d → ∃ u v, mg x = some u ∧ RelV v u ∧ ∀ Z m H, Rep K Z m H d v
  fns : ∀ x f, G.fns.lookup x = some f → FnF G T K mg x f
theorem reps_map {K : PySem.W.Frag} {Z m : List Addr} {H : Hp} {ds : List D} {vs : List V} (r : Reps K Z m H ds vs) (n : Nat) (k : Nat) (hk : k = n) (hl : vs.length = ds.length) : Es K Z m H (ds.map some ++ List.replicate (n - ds.length) none) (vs.map some ++ List.replicate (k - vs.length) none) := by
  subst hk
  refine ⟨by simp [hl], fun i d e => ?_⟩
  by_cases hi : i < ds.length
  · rw [List.getElem?_append_left (by simpa using hi), List.getElem?_map] at e
    rw [List.getElem?_append_left (by simp; omega), List.getElem?_map]
    cases q : ds[i]? with
    | none => rw [q] at e; simp at e
    | some d' =>
      rw [q] at e
      simp at e
      subst e
      obtain ⟨v, hv, rv⟩ := r.get q
      exact ⟨v, by rw [hv]; rfl, rv⟩
  · rw [List.getElem?_append_right (by simp; omega)] at e
    have := List.mem_of_getElem? e
    rw [List.mem_replicate] at this
    cases this.2
theorem fn_step {G : Gt} {T : Tab} {P : Program} {w : World} {K : PySem.W.Frag} {mg : Str → Option Value} {base : Heap} (M : Mg G T K mg) {k : Nat}
    (ih : ∀ (x : Str) (f : Nat), G.fns.lookup x = some f → ∃ a fd ps np, mg x = some (.ref a) ∧ PySem.W.keepIn K (.ref a) = true ∧ Binds K fd ps [] ∧
    FnOk P w K mg base CX0 k a fd ps (spF K (callF T k) f np) ∧ ∀ ds h d h', callF T k f ds h = some (d, h') → ds.length = np)
    {f : Nat} {x qual : Str} {params : Arguments} {body : List Stmt} {scope : Scope} {a : Addr} {fd : FuncData} {N ps : List Str} {F : RFn} (hT : T f = some F) (hF : FunD K x qual params body scope [] [] a fd) (hS : FnScope N ps scope) (hn : N.length = F.ns) (hp : ps.length = F.np) (hc : ckSs G N scope F.body body = true) :
    FnOk P w K mg base CX0 (k + 1) a fd ps (spF K (callF T (k + 1)) f F.np) := by
  refine hF.ok hS (fun vs H Q E h => ?_) (fun cdv A outer s H vs Q E hr h => ?_)
  · obtain ⟨Z, m, ds, h, d, h', _, r, hl, _, _⟩ := h
    rw [← r.len, hl, hp]
  · obtain ⟨Z, m, ds, h, d, h', hs, r, hl, e, q⟩ := h
    have g : Good G k (callF T k) (cxOf CX0 P w K mg base N qual scope a cdv A outer s H E).nox :=
      ⟨rfl, hS.nd, rfl, hr, hS.kind, M.nob, M.rng, M.tys, M.cst, ih⟩
    have sto : Sto (cxOf CX0 P w K mg base N qual scope a cdv A outer s H E).nox (cxOf CX0 P w K mg base N qual scope a cdv A outer s H E).nox.env.scope := by
      intro y hy
      refine ⟨?_, .inl rfl⟩
      unfold locB at hy
      split at hy
      · exact .inl (by assumption)
      · exact .inr (by assumption)
      · cases hy
    have main := stms_ok g sto F.body body hc
    refine ⟨_, PSs.nox main, ?_⟩
    simp only [callF, hT, Option.bind_some] at e
    rw [if_pos hl] at e
    cases e1 : exSs (callF T k) F.body (enter F ds) h with
    | none => rw [e1] at e; cases e
    | some r1 =>
      obtain ⟨fl, h1⟩ := r1
      rw [e1] at e
      simp only [Option.bind_some] at e
      refine ⟨Z, m, enter F ds, h, fl, h1, ?_, hs, e1, ?_⟩
      · unfold enter L2.start
        exact reps_map r F.ns N.length hn (by rw [r.len])
      · cases fl with
        | nx ρ =>
          simp only [out, Option.some.injEq, Prod.mk.injEq] at e
          obtain ⟨rfl, rfl⟩ := e
          exact fun m' σ' H' x s _ => q m' .non H' x s (by simp [Rep])
        | rt d1 =>
          simp only [out, Option.some.injEq, Prod.mk.injEq] at e
          obtain ⟨rfl, rfl⟩ := e
          exact fun m' v H' x s rv => q m' v H' x s rv
        | bk ρ => simp [out] at e
        | ct ρ => simp [out] at e
theorem fns_ok {G : Gt} {T : Tab} {P : Program} {w : World} {K : PySem.W.Frag} {mg : Str → Option Value} {base : Heap} (M : Mg G T K mg) : ∀ (k : Nat) (x : Str) (f : Nat), G.fns.lookup x = some f → ∃ a fd ps np, mg x = some (.ref a) ∧ PySem.W.keepIn K (.ref a) = true ∧ Binds K fd ps [] ∧
    FnOk P w K mg base CX0 k a fd ps (spF K (callF T k) f np) ∧ ∀ ds h d h', callF T k f ds h = some (d, h') → ds.length = np
  | 0, x, f, hx => by
    obtain ⟨a, fd, qual, params, body, scope, N, ps, F, hT, hm, hF, hS, hn, hp, hb, hc⟩ := (M.fns x f hx).ex
    refine ⟨a, fd, ps, F.np, hm, hF.kp, hb, ⟨fun vs H Q E h => ?_, fun A outer s H args us vs Q E hr he hbt hv h => ?_⟩, fun ds h d h' e => by simp [callF] at e⟩
    · obtain ⟨Z, m, ds, h, d, h', _, _, _, e, _⟩ := h
      simp [callF] at e
    · obtain ⟨Z, m, ds, h, d, h', _, _, _, e, _⟩ := h
      simp [callF] at e
  | k + 1, x, f, hx => by
    have ih := fns_ok (P := P) (w := w) (base := base) M k
    obtain ⟨a, fd, qual, params, body, scope, N, ps, F, hT, hm, hF, hS, hn, hp, hb, hc⟩ := (M.fns x f hx).ex
    have hlen : ∀ ds h d h', callF T (k + 1) f ds h = some (d, h') → ds.length = F.np := fun ds h d h' e => by
      simp only [callF, hT, Option.bind_some] at e
      split at e
      · assumption
      · cases e
    exact ⟨a, fd, ps, F.np, hm, hF.kp, hb, fn_step M ih hT hF hS hn hp hc, hlen⟩
/-- a def at any level -/
theorem fn_lev {G : Gt} {T : Tab} {P : Program} {w : World} {K : PySem.W.Frag} {mg : Str → Option Value} {base : Heap} (M : Mg G T K mg) : ∀ (k : Nat)
    {f : Nat} {x qual : Str} {params : Arguments} {body : List Stmt} {scope : Scope} {a : Addr} {fd : FuncData} {N ps : List Str} {F : RFn} (hT : T f = some F) (hF : FunD K x qual params body scope [] [] a fd) (hS : FnScope N ps scope) (hn : N.length = F.ns) (hp : ps.length = F.np) (hc : ckSs G N scope F.body body = true),
    FnOk P w K mg base CX0 k a fd ps (spF K (callF T k) f F.np)
  | 0, f, x, qual, params, body, scope, a, fd, N, ps, F, hT, hF, hS, hn, hp, hc => by
    refine ⟨fun vs H Q E h => ?_, fun A outer s H args us vs Q E hr he hbt hv h => ?_⟩
    · obtain ⟨Z, m, ds, h, d, h', _, _, _, e, _⟩ := h
      simp [callF] at e
    · obtain ⟨Z, m, ds, h, d, h', _, _, _, e, _⟩ := h
      simp [callF] at e
  | k + 1, f, x, qual, params, body, scope, a, fd, N, ps, F, hT, hF, hS, hn, hp, hc => fn_step M (fns_ok M k) hT hF hS hn hp hc
end Dp

set_option Elab.async false
set_option linter.all false
set_option autoImplicit false
set_option maxRecDepth 100000
set_option maxHeartbeats 4000000
namespace Dp
open PySem L2 PySem.Spec PyProof.Rows
structure Fd where
  name : Str
  i : Nat
  N : List Str
  ps : List Str
  body : List RS
def topS (p : Program) (i : Nat) : Stmt := p.main.body.getD i (.Pass ⟨0, 0, 0, 0⟩)
def Fd.dd (p : Program) (d : Fd) : He.DefD := ⟨(d.name, none), d.name, d.name, defArgs (topS p d.i), defBody (topS p d.i), defScope (topS p d.i), [], []⟩
def fnsL : Nat → List Fd → List (Str × Nat)
  | _, [] => []
  | n, d :: ds => (d.name, n) :: fnsL (n + 1) ds
theorem fnsL_ok {x : Str} {f : Nat} : ∀ {ds : List Fd} {n : Nat}, (fnsL n ds).lookup x = some f → ∃ j d, f = n + j ∧ ds[j]? = some d ∧ d.name = x
  | [], n, h => by simp [fnsL] at h
  | d :: ds, n, h => by
    unfold fnsL at h
    by_cases e : x = d.name
    · subst e
      rw [List.lookup_cons_self] at h
      cases h
      exact ⟨0, d, by omega, rfl, rfl⟩
    · have e' : (x == d.name) = false := by simpa using e
      rw [List.lookup_cons, e'] at h
      obtain ⟨j, d', h1, h2, h3⟩ := fnsL_ok h
      exact ⟨j + 1, d', by omega, by simpa using h2, h3⟩
def gt (ds : List Fd) (cs : List (Str × Int)) : Gt := ⟨fnsL 0 ds, cs.map fun p => (p.1, .int p.2)⟩
def tabF (ds : List Fd) : Tab := fun f => (ds[f]?).map fun d => ⟨d.ps.length, d.N.length, d.body⟩
def scB (d : Fd) (sc : Scope) : Bool :=
  (match sc.kind with | .function => true | _ => false) && !sc.isCoroutine && !sc.isGenerator && decide d.N.Nodup && decide (d.N.take d.ps.length = d.ps) && (d.ps.all fun x => locB sc x) && (sc.names.all fun y => match y.2 with | .free => false | _ => true)
theorem scB_ok {d : Fd} {sc : Scope} (h : scB d sc = true) : FnScope d.N d.ps sc := by
  unfold scB at h
  simp only [Bool.and_eq_true, Bool.not_eq_true', decide_eq_true_eq, List.all_eq_true] at h
  obtain ⟨⟨⟨⟨⟨⟨h1, h2⟩, h3⟩, h4⟩, h5⟩, h6⟩, h7⟩ := h
  refine ⟨?_, h2, h3, h4, h5, fun x hx => ?_, fun y hy => ?_⟩
  · split at h1
    · assumption
    · cases h1
  · have := h6 x hx
    unfold locB at this
    split at this
    · exact .inl (by assumption)
    · exact .inr (by assumption)
    · cases this
  · have := h7 y hy
    intro e
    rw [e] at this
    cases this
def Fd.chk (p : Program) (G : Gt) (d : Fd) : Bool := scB d (defScope (topS p d.i)) && ckSs G d.N (defScope (topS p d.i)) d.body (defBody (topS p d.i))
def Fd.BOk (p : Program) (d : Fd) : Prop := ∀ (kV doc pm : Value) (an : Option Addr) (cdv ct : Value) (us : List Value), us.length = d.ps.length → bindArgs (PySem.W.fnOf d.name d.name (defArgs (topS p d.i)) (defBody (topS p d.i)) (defScope (topS p d.i)) .none kV doc pm an cdv ct) ⟨us, []⟩ = pure (d.ps.zip us)
def AllF {α : Type} (P : α → Prop) : List α → Prop
  | [] => True
  | a :: l => P a ∧ AllF P l
theorem AllF.mem {α : Type} {P : α → Prop} {a : α} : ∀ {l : List α}, AllF P l → a ∈ l → P a
  | b :: l, h, m => by
    rcases List.mem_cons.mp m with rfl | m
    · exact h.1
    · exact AllF.mem h.2 m
def freeNames : List Str := ["len", "tuple", "list", "int", "isinstance", "min", "max", "sum", "any", "all", "sorted", "range", "bool", "str", "dict"]
def faOf (ds : List Fd) (cs : List (Str × Int)) : List He.Fa := freeNames.map He.Fa.free ++ (cs.map (fun p => He.Fa.int p.1 p.2) ++ ds.map fun d => He.Fa.glo d.name)
section
variable {p : Program} {K : PySem.W.Frag} {h : Heap} {mg : Str → Option Value} {ds : List Fd} {cs : List (Str × Int)}
theorem fact_mem {fa : List He.Fa} {fn : List He.DefD} (c : He.SaysD fa fn K) {f : He.Fa} (m : f ∈ fa) : f.ok K = true := by
  obtain ⟨i, hi⟩ := List.getElem?_of_mem m
  exact c.fact i hi
theorem mg_ok (X : K.In h) (G : h.Ns mainGlobals mg) (c : He.SaysD (faOf ds cs) (ds.map (Fd.dd p)) K) (hc : (ds.all fun d => d.chk p (gt ds cs)) = true) (hb : AllF (Fd.BOk p) ds) : Mg (gt ds cs) (tabF ds) K mg := by
  have fr : ∀ x ∈ freeNames, mg x = none := fun x hx => He.free_ok X G (fact_mem c (List.mem_append_left _ (List.mem_map_of_mem hx)))
  refine ⟨fun b => fr _ (by cases b <;> decide +kernel), fr _ (by decide +kernel), fun q hq => fr _ ?_, fun x d hx => ?_, fun x f hx => ⟨?_⟩⟩
  · have : ∀ q ∈ tyNames, q.2 ∈ freeNames := by decide +kernel
    exact this q hq
  · have : ∃ i, (x, i) ∈ cs ∧ d = .int i := by
      have hx' : (cs.map fun p => (p.1, D.int p.2)).lookup x = some d := hx
      clear hx c hc
      induction cs with
      | nil => simp at hx'
      | cons q r ih =>
        rw [List.map_cons] at hx'
        by_cases e : x = q.1
        · subst e
          rw [List.lookup_cons_self] at hx'
          cases hx'
          exact ⟨q.2, by simp, rfl⟩
        · have e' : (x == q.1) = false := by simpa using e
          rw [List.lookup_cons, e'] at hx'
          obtain ⟨i, h1, h2⟩ := ih hx'
          exact ⟨i, List.mem_cons_of_mem _ h1, h2⟩
    obtain ⟨i, hi, rfl⟩ := this
    obtain ⟨t, ht⟩ := He.int_ok X G (x := x) (i := i) (fact_mem c (List.mem_append_right _ (List.mem_append_left _ (List.mem_map.mpr ⟨(x, i), hi, rfl⟩))))
    exact ⟨_, .int i, ht, by simp [L2.RelV], fun Z m H => by simp [Rep]⟩
  · obtain ⟨j, d, rfl, hj, rfl⟩ := fnsL_ok hx
    have hm := List.mem_of_getElem? hj
    have hg := He.glo_ok X G (x := d.name) (fact_mem c (List.mem_append_right _ (List.mem_append_right _ (List.mem_map.mpr ⟨d, hm, rfl⟩))))
    obtain ⟨fd, hF⟩ := c.def_ j (d := d.dd p) (by rw [List.getElem?_map, hj]; rfl)
    have hk := List.all_eq_true.mp hc d hm
    simp only [Fd.chk, Bool.and_eq_true] at hk
    have hF' : FunD K d.name d.name (defArgs (topS p d.i)) (defBody (topS p d.i)) (defScope (topS p d.i)) [] [] (He.ga K d.name) fd := hF
    have hT : tabF ds (0 + j) = some ⟨d.ps.length, d.N.length, d.body⟩ := by simp [tabF, hj]
    exact ⟨_, fd, d.name, _, _, _, d.N, d.ps, _, hT, hg, hF', scB_ok hk.1, rfl, rfl, hF'.bindsN (hb.mem hm), hk.2⟩
/-- the law's own def: all scripts -/
theorem law_fn {w : World} {k f : Nat} {d : Fd} {x : Str} {fa : Addr} (X : K.In h) (G : h.Ns mainGlobals mg) (c : He.SaysD (faOf ds cs) (ds.map (Fd.dd p)) K) (hc : (ds.all fun d => d.chk p (gt ds cs)) = true) (hb : AllF (Fd.BOk p) ds)
    (hd : ds[f]? = some d) (hl : (fnsL 0 ds).lookup d.name = some f) (hp : d.ps = [x]) (hfa : mg d.name = some (.ref fa))
    (main : ∀ ns : List Int, ns.length ≤ 63 → ∃ h', callF (tabF ds) k f [.scr (ns.map .int)] [] = some (.bl true, h')) :
    ∃ (K : PySem.W.Frag) (fd : FuncData) (sp : Sp), K.In h ∧ (∀ (s : Shared) (u : Value), BindsTo s fd ⟨[u], []⟩ [(x, u)]) ∧
        (∀ (H : Hp) (a : Addr) (ns : List Int), ns.length ≤ 63 → Only H → SqL K H a (ns.map V.int) → sp [.ref a] H (fun v _ => v = .bl true) fun _ _ _ => False) ∧
        ∀ base : Heap, K.In base → base.Ns mainGlobals mg → FnOk p w K mg base CX0 k fa fd [x] sp := by
  have M := mg_ok X G c hc hb
  have hm := List.mem_of_getElem? hd
  obtain ⟨fd, hF⟩ := c.def_ f (d := d.dd p) (by rw [List.getElem?_map, hd]; rfl)
  have hF' : FunD K d.name d.name (defArgs (topS p d.i)) (defBody (topS p d.i)) (defScope (topS p d.i)) [] [] (He.ga K d.name) fd := hF
  have hg := He.glo_ok X G (x := d.name) (fact_mem c (List.mem_append_right _ (List.mem_append_right _ (List.mem_map.mpr ⟨d, hm, rfl⟩))))
  have e := hfa.symm.trans hg
  cases e
  have b := FunD.bindsA (ps := d.ps) hF' (hb.mem hm)
  have lk : ∀ base : Heap, FnOk p w K mg base CX0 k (He.ga K d.name) fd [x] (spF K (callF (tabF ds) k) f 1) := fun base => by
    have hk := List.all_eq_true.mp hc d hm
    simp only [Fd.chk, Bool.and_eq_true] at hk
    have hT : tabF ds f = some ⟨d.ps.length, d.N.length, d.body⟩ := by simp [tabF, hd]
    have := fn_lev (P := p) (w := w) (base := base) M k (x := d.name) (f := f) (fd := fd) (a := He.ga K d.name) (F := ⟨d.ps.length, d.N.length, d.body⟩) hT hF' (scB_ok hk.1) rfl rfl hk.2
    rw [hp] at this
    exact this
  refine ⟨K, fd, spF K (callF (tabF ds) k) f 1, X, fun s u => ?_, fun H a ns hn hO hS => ?_, fun base _ _ => lk base⟩
  · have := b s [u] (by rw [hp]; rfl)
    rw [hp] at this
    exact this
  · obtain ⟨h', e⟩ := main ns hn
    have reps : ∀ l : List Int, Reps K [] [] H (l.map D.int) (l.map V.int) := fun l => by
      induction l with
      | nil => simp [Reps]
      | cons i r ih => simp only [List.map_cons, Reps]; exact ⟨_, _, rfl, by simp [Rep], ih⟩
    refine ⟨[], [], [.scr (ns.map .int)], [], .bl true, h', ⟨rfl, .nil, fun a ha => (by cases ha), fun n o p e => (by simp at e)⟩, ?_, rfl, e, fun m' v H' _ _ r => by simpa [Rep] using r⟩
    simp only [Reps]
    refine ⟨_, [], rfl, ?_, rfl⟩
    simp only [Rep]
    refine ⟨a, _, rfl, ?_, reps ns⟩
    rcases hS with hS | hS
    · rcases hS with hS | ⟨o, hS⟩
      · rcases hO a with q | ⟨o, xs, q⟩
        · rw [q] at hS; cases hS
        · rw [q] at hS; cases hS
      · exact .inl ⟨o, hS⟩
    · exact .inr hS
end
end Dp

set_option Elab.async false
set_option linter.all false
set_option autoImplicit false
set_option maxRecDepth 100000
set_option maxHeartbeats 4000000
namespace Dp
def W {α : Type} (o : Option α) (Q : α → Prop) : Prop := ∃ r, o = some r ∧ Q r
section
variable {α β : Type}
theorem W_bind {o : Option α} {f : α → Option β} {Q : β → Prop} : W (o.bind f) Q ↔ W o fun r => W (f r) Q := by
  cases o with
  | none => simp [W]
  | some x => simp [W]
theorem W_map {o : Option α} {f : α → β} {Q : β → Prop} : W (o.map f) Q ↔ W o fun r => Q (f r) := by
  cases o with
  | none => simp [W]
  | some x => simp [W]
theorem W_some {x : α} {Q : α → Prop} : W (some x) Q ↔ Q x := by simp [W]
theorem W_none {Q : α → Prop} : W none Q ↔ False := by simp [W]
theorem W.mono {o : Option α} {Q Q' : α → Prop} (h : W o Q) (i : ∀ r, Q r → Q' r) : W o Q' := by
  obtain ⟨r, e, q⟩ := h
  exact ⟨r, e, i r q⟩
theorem W.of {o : Option α} {x : α} {Q : α → Prop} (e : o = some x) (q : Q x) : W o Q := ⟨x, e, q⟩
theorem W_ite {c : Prop} [Decidable c] {a b : Option α} {Q : α → Prop} : W (if c then a else b) Q ↔ (if c then W a Q else W b Q) := by
  split <;> rfl
end
section
variable {cl : CallT} {ρ : Env} {h : Hs}
/-- what is wanted behind the first of some statements -/
def Kn (cl : CallT) (ss : List RS) (Q : Fl × Hs → Prop) : Fl × Hs → Prop
  | (.nx ρ, h) => W (exSs cl ss ρ h) Q
  | r => Q r
theorem Kn_nx {ss : List RS} {Q : Fl × Hs → Prop} : Kn cl ss Q (.nx ρ, h) ↔ W (exSs cl ss ρ h) Q := Iff.rfl
theorem Kn_rt {ss : List RS} {Q : Fl × Hs → Prop} {d : D} : Kn cl ss Q (.rt d, h) ↔ Q (.rt d, h) := Iff.rfl
theorem Kn_bk {ss : List RS} {Q : Fl × Hs → Prop} : Kn cl ss Q (.bk ρ, h) ↔ Q (.bk ρ, h) := Iff.rfl
theorem Kn_ct {ss : List RS} {Q : Fl × Hs → Prop} : Kn cl ss Q (.ct ρ, h) ↔ Q (.ct ρ, h) := Iff.rfl
theorem W_cons {s : RS} {ss : List RS} {Q : Fl × Hs → Prop} : W (exSs cl (s :: ss) ρ h) Q ↔ W (exS cl s ρ h) (Kn cl ss Q) := by
  simp only [exSs, W_bind]
  constructor <;> intro q <;> refine q.mono fun r q => ?_
  · obtain ⟨f, h1⟩ := r
    cases f with
    | nx ρ' => exact q
    | _ => simpa [W, Kn] using q
  · obtain ⟨f, h1⟩ := r
    cases f with
    | nx ρ' => exact q
    | _ => simpa [W, Kn] using q
theorem W_nil {Q : Fl × Hs → Prop} : W (exSs cl [] ρ h) Q ↔ Q (.nx ρ, h) := by simp only [exSs, W_some]
theorem W_call {T : Tab} {k f : Nat} {F : RFn} {args : List D} {Q : D × Hs → Prop} (hT : T f = some F) (hl : args.length = F.np) : W (callF T (k + 1) f args h) Q ↔ W (exSs (callF T k) F.body (enter F args) h) fun r => W (out r) Q := by
  simp only [callF, hT, Option.bind_some, if_pos hl, W_bind]
theorem W_evCs {cl : CallT} {e : RE} {Q : Bool × Hs → Prop} : W (evCs cl (.cons e .nil) ρ h) Q ↔ W (evT cl e ρ h) Q := by
  simp only [evCs, evT, W_bind, W_map]
  constructor <;> intro q <;> refine q.mono fun r q => q.mono fun t q => ?_
  · cases t
    · simpa [W] using q
    · simpa [evCs, W] using q
  · cases t
    · simpa [W] using q
    · simpa [evCs, W] using q
end
theorem loopC_W {f : D → Hs → Option (Option D × Hs)} {chk : Hs → Bool} {Q : List D × Hs → Prop} (Inv : List D → List D → Hs → Prop)
    (hc : ∀ r a h, Inv r a h → chk h = true)
    (st : ∀ x xs a h, Inv (x :: xs) a h → W (f x h) fun r => Inv xs (a ++ r.1.toList) r.2)
    (en : ∀ a h, Inv [] a h → Q (a, h)) : ∀ (xs a : List D) (h : Hs), Inv xs a h → W (loopC f chk xs h) fun r => Q (a ++ r.1, r.2)
  | [], a, h, i => by
    simp only [loopC, hc _ _ _ i, if_true, W_some, List.append_nil]
    exact en a h i
  | x :: xs, a, h, i => by
    simp only [loopC, hc _ _ _ i, if_true, W_bind, W_map]
    refine (st x xs a h i).mono fun r q => (loopC_W Inv hc st en xs _ _ q).mono fun z hz => ?_
    cases e : r.1 with
    | none => simpa [e] using hz
    | some d => simpa [e] using hz
theorem loopC_W0 {f : D → Hs → Option (Option D × Hs)} {chk : Hs → Bool} {Q : List D × Hs → Prop} (Inv : List D → List D → Hs → Prop) {xs : List D} {h : Hs} (i : Inv xs [] h)
    (hc : ∀ r a h, Inv r a h → chk h = true)
    (st : ∀ x xs a h, Inv (x :: xs) a h → W (f x h) fun r => Inv xs (a ++ r.1.toList) r.2)
    (en : ∀ a h, Inv [] a h → Q (a, h)) : W (loopC f chk xs h) Q := by
  simpa using loopC_W Inv hc st en xs [] h i
theorem loopC_eq {f : D → Hs → Option (Option D × Hs)} {chk : Hs → Bool} {h : Hs} (g : D → Option D) (hc : chk h = true) : ∀ {xs : List D}, (∀ x ∈ xs, f x h = some (g x, h)) → loopC f chk xs h = some (xs.filterMap g, h)
  | [], _ => by simp [loopC, hc]
  | x :: xs, H => by
    simp only [loopC, hc, if_true, H x (by simp), Option.bind_some]
    rw [loopC_eq g hc fun y hy => H y (by simp [hy])]
    cases e : g x <;> simp [List.filterMap_cons, e]
theorem loopC_map {f : D → Hs → Option (Option D × Hs)} {chk : Hs → Bool} {h : Hs} (g : D → D) (hc : chk h = true) {xs : List D} (H : ∀ x ∈ xs, f x h = some (some (g x), h)) : loopC f chk xs h = some (xs.map g, h) := by
  rw [loopC_eq (fun x => some (g x)) hc H]
  simp
theorem loopF_W {f : D → Env → Hs → Option (Fl × Hs)} {chk : Hs → Bool} {Q : Fl × Hs → Prop} (Inv : List D → Env → Hs → Prop)
    (hc : ∀ r ρ h, Inv r ρ h → chk h = true)
    (st : ∀ x xs ρ h, Inv (x :: xs) ρ h → W (f x ρ h) fun r => match r.1 with
      | .nx ρ' => Inv xs ρ' r.2
      | .ct ρ' => Inv xs ρ' r.2
      | .bk ρ' => Q (.nx ρ', r.2)
      | .rt d => Q (.rt d, r.2))
    (en : ∀ ρ h, Inv [] ρ h → Q (.nx ρ, h)) : ∀ (xs : List D) (ρ : Env) (h : Hs), Inv xs ρ h → W (loopF f chk xs ρ h) Q
  | [], ρ, h, i => by
    simp only [loopF, hc _ _ _ i, if_true, W_some]
    exact en ρ h i
  | x :: xs, ρ, h, i => by
    simp only [loopF, hc _ _ _ i, if_true, W_bind]
    refine (st x xs ρ h i).mono fun r q => ?_
    obtain ⟨fl, h1⟩ := r
    cases fl with
    | nx ρ' => exact loopF_W Inv hc st en xs ρ' h1 q
    | ct ρ' => exact loopF_W Inv hc st en xs ρ' h1 q
    | bk ρ' => exact W_some.mpr q
    | rt d => exact W_some.mpr q
theorem loopW_W {c : Env → Hs → Option (Bool × Hs)} {f : Env → Hs → Option (Fl × Hs)} {Q : Fl × Hs → Prop} (Inv : Nat → Env → Hs → Prop)
    (st : ∀ n ρ h, Inv n ρ h → W (c ρ h) fun b => if b.1 then W (f ρ b.2) fun r => (match r.1 with
      | .nx ρ' => ∃ n' < n, Inv n' ρ' r.2
      | .ct ρ' => ∃ n' < n, Inv n' ρ' r.2
      | .bk ρ' => Q (.nx ρ', r.2)
      | .rt d => Q (.rt d, r.2)) else Q (.nx ρ, b.2)) : ∀ (N n : Nat) (ρ : Env) (h : Hs), n < N → Inv n ρ h → W (loopW c f N ρ h) Q
  | 0, n, ρ, h, l, i => absurd l (Nat.not_lt_zero _)
  | N + 1, n, ρ, h, l, i => by
    simp only [loopW, W_bind]
    refine (st n ρ h i).mono fun b q => ?_
    cases e : b.1 with
    | false => simp only [e, Bool.false_eq_true, if_false] at q ⊢; exact W_some.mpr q
    | true =>
      simp only [e, if_true] at q ⊢
      rw [W_bind]
      refine q.mono fun r q => ?_
      obtain ⟨fl, h1⟩ := r
      cases fl with
      | nx ρ' => obtain ⟨n', l', i'⟩ := q; exact loopW_W Inv st N n' ρ' h1 (by omega) i'
      | ct ρ' => obtain ⟨n', l', i'⟩ := q; exact loopW_W Inv st N n' ρ' h1 (by omega) i'
      | bk ρ' => exact W_some.mpr q
      | rt d => exact W_some.mpr q
section
variable {cl : CallT} {ρ : Env} {h : Hs} {Q : D × Hs → Prop} {QL : List D × Hs → Prop} {QS : Fl × Hs → Prop} {QB : Bool × Hs → Prop}
theorem W_var {i : Nat} : W (evE cl (.var i) ρ h) Q ↔ W (ρ.getD i none) fun d => Q (d, h) := by simp only [evE, W_map]
theorem W_cst {d : D} : W (evE cl (.cst d) ρ h) Q ↔ Q (d, h) := by simp only [evE, W_some]
theorem W_app {p : P} {es : REs} : W (evE cl (.app p es) ρ h) Q ↔ W (evEs cl es ρ h) fun r => W (pf r.2 p r.1) fun d => Q (d, r.2) := by simp only [evE, W_bind, W_map]
theorem W_edct : W (evE cl .edct ρ h) Q ↔ Q (.dct [] [], h) := by simp only [evE, W_some]
theorem W_no {a : RE} : W (evE cl (.no a) ρ h) Q ↔ W (evT cl a ρ h) fun r => Q (.bl (!r.1), r.2) := by simp only [evE, evT, W_bind, W_map]
theorem W_an {a b : RE} : W (evE cl (.an a b) ρ h) Q ↔ W (evE cl a ρ h) fun r => W (truth r.2 r.1) fun t => if t then W (evE cl b ρ r.2) Q else Q r := by
  simp only [evE, W_bind, W_ite, W_some]
theorem W_or {a b : RE} : W (evE cl (.or a b) ρ h) Q ↔ W (evE cl a ρ h) fun r => W (truth r.2 r.1) fun t => if t then Q r else W (evE cl b ρ r.2) Q := by
  simp only [evE, W_bind, W_ite, W_some]
theorem W_itee {c a b : RE} : W (evE cl (.ite c a b) ρ h) Q ↔ W (evT cl c ρ h) fun r => if r.1 then W (evE cl a ρ r.2) Q else W (evE cl b ρ r.2) Q := by
  simp only [evE, evT, W_bind, W_map, W_ite]
theorem W_call0 {f : Nat} {es : REs} : W (evE cl (.call none f es) ρ h) Q ↔ W (evEs cl es ρ h) fun r => W (cl f r.1 r.2) Q := by simp only [evE, W_bind]
theorem W_callB {b f : Nat} {es : REs} : W (evE cl (.call (some b) f es) ρ h) Q ↔ W (evEs cl es ρ h) fun r => (okBs b r.1 && decide (b ≤ r.2.length) && (r.2.take b).all (okO b)) = true ∧ W (cl f r.1 (r.2.take b)) fun q =>
    (decide (b ≤ q.2.length) && (q.2.take b).all (okO b)) = true ∧ W (fz q.2 b q.1) fun d => Q (d, q.2.take b ++ r.2.drop b) := by
  simp only [evE, W_bind]
  constructor <;> intro z <;> refine z.mono fun r z => ?_
  · split at z
    · rename_i hc
      refine ⟨hc, ?_⟩
      rw [W_bind] at z
      refine z.mono fun q z => ?_
      split at z
      · rename_i hd
        exact ⟨hd, W_map.mp z⟩
      · exact absurd z (by simp [W])
    · exact absurd z (by simp [W])
  · obtain ⟨hc, z⟩ := z
    rw [if_pos hc, W_bind]
    refine z.mono fun q z => ?_
    obtain ⟨hd, z⟩ := z
    rw [if_pos hd, W_map]
    exact z
theorem W_mk {e : RE} : W (evE cl (.mk e) ρ h) Q ↔ W (evE cl e ρ h) fun r => match r.1 with
    | .lst ds => Q (.ref r.2.length, r.2 ++ [.lst ds])
    | .dct ks vs => Q (.ref r.2.length, r.2 ++ [.dct ks vs])
    | _ => False := by
  simp only [evE, W_bind]
  constructor <;> intro z <;> refine z.mono fun r z => ?_
  · obtain ⟨d, h1⟩ := r
    cases d <;> simp_all [W]
  · obtain ⟨d, h1⟩ := r
    cases d <;> simp_all [W]
theorem W_eff {w : Wr} {o : RE} {es : REs} : W (evE cl (.eff w o es) ρ h) Q ↔ W (evE cl o ρ h) fun r => isLst r.2 r.1 = true ∧ W (evEs cl es ρ r.2) fun q => W (pw q.2 w (r.1 :: q.1)) Q := by
  simp only [evE, W_bind]
  constructor <;> intro z <;> refine z.mono fun r z => ?_
  · split at z
    · rename_i hc
      exact ⟨hc, W_bind.mp z⟩
    · exact absurd z (by simp [W])
  · rw [if_pos z.1, W_bind]
    exact z.2
theorem W_comp {own : List Nat} {elt : RE} {t : RT} {s : Src} {es cs : REs} : W (evE cl (.comp own elt t s es cs) ρ h) Q ↔ W (evEs cl es ρ h) fun r => W (items r.2 s r.1) fun its =>
    W (loopC (fun x h => (asgT h t x (wipeE ρ own)).bind fun ρ' => (evCs cl cs ρ' h).bind fun q =>
      if q.1 then (evE cl elt ρ' q.2).map fun z => (some z.1, z.2) else some (none, q.2)) (chkS s r.1 its) its r.2) fun q => big q.1.length = true ∧ Q (.lst q.1, q.2) := by
  simp only [evE, W_bind]
  constructor <;> intro z <;> refine z.mono fun r z => z.mono fun its z => z.mono fun q z => ?_
  · split at z
    · rename_i hc
      exact ⟨hc, W_some.mp z⟩
    · exact absurd z (by simp [W])
  · rw [if_pos z.1]
    exact W_some.mpr z.2
theorem W_nilE : W (evEs cl .nil ρ h) QL ↔ QL ([], h) := by simp only [evEs, W_some]
theorem W_consE {e : RE} {es : REs} : W (evEs cl (.cons e es) ρ h) QL ↔ W (evE cl e ρ h) fun r => W (evEs cl es ρ r.2) fun q => QL (r.1 :: q.1, q.2) := by simp only [evEs, W_bind, W_map]
theorem W_evT {e : RE} : W (evT cl e ρ h) QB ↔ W (evE cl e ρ h) fun r => W (truth r.2 r.1) fun t => QB (t, r.2) := by simp only [evT, W_bind, W_map]
theorem W_nilC : W (evCs cl .nil ρ h) QB ↔ QB (true, h) := by simp only [evCs, W_some]
theorem W_asg {t : RT} {e : RE} : W (exS cl (.asg t e) ρ h) QS ↔ W (evE cl e ρ h) fun r => W (asgT r.2 t r.1 ρ) fun ρ' => QS (.nx ρ', r.2) := by simp only [exS, W_bind, W_map]
theorem W_setI {o i e : RE} : W (exS cl (.setI o i e) ρ h) QS ↔ W (evE cl e ρ h) fun v => W (evE cl o ρ v.2) fun q => W (evE cl i ρ q.2) fun k => W (pw k.2 .setI [q.1, k.1, v.1]) fun z => QS (.nx ρ, z.2) := by simp only [exS, W_bind, W_map]
theorem W_expr {e : RE} : W (exS cl (.expr e) ρ h) QS ↔ W (evE cl e ρ h) fun r => QS (.nx ρ, r.2) := by simp only [exS, W_map]
theorem W_ret {e : RE} : W (exS cl (.ret e) ρ h) QS ↔ W (evE cl e ρ h) fun r => QS (.rt r.1, r.2) := by simp only [exS, W_map]
theorem W_iff {c : RE} {a b : List RS} : W (exS cl (.iff c a b) ρ h) QS ↔ W (evT cl c ρ h) fun r => if r.1 then W (exSs cl a ρ r.2) QS else W (exSs cl b ρ r.2) QS := by simp only [exS, W_bind, W_ite]
theorem W_for {t : RT} {s : Src} {es : REs} {body : List RS} : W (exS cl (.for t s es body) ρ h) QS ↔ W (evEs cl es ρ h) fun r => W (items r.2 s r.1) fun its => W (loopF (fun x ρ h => (asgT h t x ρ).bind fun ρ' => exSs cl body ρ' h) (chkS s r.1 its) its ρ r.2) QS := by simp only [exS, W_bind]
theorem W_while {c : RE} {body : List RS} : W (exS cl (.while c body) ρ h) QS ↔ W (loopW (evT cl c) (exSs cl body) 1000000 ρ h) QS := by simp only [exS]
theorem W_pass : W (exS cl .pass ρ h) QS ↔ QS (.nx ρ, h) := by simp only [exS, W_some]
theorem W_brk : W (exS cl .brk ρ h) QS ↔ QS (.bk ρ, h) := by simp only [exS, W_some]
theorem W_cnt : W (exS cl .cnt ρ h) QS ↔ QS (.ct ρ, h) := by simp only [exS, W_some]
theorem W_nm {i : Nat} {d : D} {QE : Env → Prop} (hi : i < ρ.length) : W (asgT h (.nm i) d ρ) QE ↔ QE (ρ.set i (some d)) := by simp only [asgT, if_pos hi, W_some]
theorem W_tp {ts : List RT} {d : D} {QE : Env → Prop} : W (asgT h (.tp ts) d ρ) QE ↔ W (seqA h d) fun ds => W (asgTs h ts ds ρ) QE := by simp only [asgT, W_bind]
theorem W_tsN {QE : Env → Prop} : W (asgTs h [] [] ρ) QE ↔ QE ρ := by simp only [asgTs, W_some]
theorem W_tsC {t : RT} {ts : List RT} {d : D} {ds : List D} {QE : Env → Prop} : W (asgTs h (t :: ts) (d :: ds) ρ) QE ↔ W (asgT h t d ρ) fun ρ => W (asgTs h ts ds ρ) QE := by simp only [asgTs, W_bind]
theorem W_outR {d : D} : W (out (.rt d, h)) Q ↔ Q (d, h) := by simp only [out, W_some]
theorem W_outN : W (out (.nx ρ, h)) Q ↔ Q (.non, h) := by simp only [out, W_some]
end
section
variable {h : Hs} {x y z : D} {i j : Int}
theorem p_add : pf h .add [x, y] = pAdd h x y := (rfl)
theorem p_sub : pf h .sub [x, y] = pSub x y := (rfl)
theorem p_mul : pf h .mul [x, y] = pMul h x y := (rfl)
theorem p_fdiv : pf h .fdiv [x, y] = pDiv x y := (rfl)
theorem p_mod : pf h .mod [x, y] = pMod x y := (rfl)
theorem p_pow : pf h .pow [x, y] = pPow x y := (rfl)
theorem p_eq : pf h .eq [x, y] = pEq h (fun b => b) x y := (rfl)
theorem p_ne : pf h .ne [x, y] = pEq h (fun b => !b) x y := (rfl)
theorem p_isin : pf h .isin [x, y] = pIn h (fun b => b) x y := (rfl)
theorem p_notin : pf h .notin [x, y] = pIn h (fun b => !b) x y := (rfl)
theorem p_lt : pf h .lt [.int i, .int j] = some (.bl (decide (i < j))) := (rfl)
theorem p_le : pf h .le [.int i, .int j] = some (.bl (decide (i ≤ j))) := (rfl)
theorem p_gt : pf h .gt [.int i, .int j] = some (.bl (decide (j < i))) := (rfl)
theorem p_ge : pf h .ge [.int i, .int j] = some (.bl (decide (j ≤ i))) := (rfl)
theorem p_isN : pf h .isN [x, .non] = some (.bl (isNon x)) := (rfl)
theorem p_isnotN : pf h .isnotN [x, .non] = some (.bl (!isNon x)) := (rfl)
theorem p_neg : pf h .neg [.int i] = some (.int (-i)) := (rfl)
theorem p_idx : pf h .idx [x, y] = pIdx h x y := (rfl)
theorem p_slcTT : pf h (.slc true true) [x, .int i, .int j] = pSlc h x (some i) (some j) := (rfl)
theorem p_slcTF : pf h (.slc true false) [x, .int i] = pSlc h x (some i) none := (rfl)
theorem p_slcFT : pf h (.slc false true) [x, .int i] = pSlc h x none (some i) := (rfl)
theorem p_slcFF : pf h (.slc false false) [x] = pSlc h x none none := (rfl)
theorem p_rev : pf h .rev [x] = (seqL h x).map fun ds => .lst ds.reverse := (rfl)
theorem p_len : pf h .len [x] = pLen h x := (rfl)
theorem p_toList : pf h .toList [x] = pList h x := (rfl)
theorem p_toTuple : pf h .toTuple [x] = (seqA h x).map .tup := (rfl)
theorem p_toIntB {b : Bool} : pf h .toInt [.bl b] = some (.int (if b then 1 else 0)) := (rfl)
theorem p_toIntI : pf h .toInt [.int i] = some (.int i) := (rfl)
theorem p_isinst : pf h .isinst [x, y] = pIsi h x y := (rfl)
theorem p_min2 : pf h .min2 [.int i, .int j] = some (.int (if j < i then j else i)) := (rfl)
theorem p_max2 : pf h .max2 [.int i, .int j] = some (.int (if j > i then j else i)) := (rfl)
theorem p_minL : pf h .minL [x] = pIntL h minI x := (rfl)
theorem p_maxL : pf h .maxL [x] = pIntL h maxI x := (rfl)
theorem p_sumL : pf h .sumL [x] = pSum h x := (rfl)
theorem p_anyL : pf h .anyL [x] = pBls h (fun bs => bs.any id) x := (rfl)
theorem p_allL : pf h .allL [x] = pBls h (fun bs => bs.all id) x := (rfl)
theorem p_sorted : pf h .sorted [x] = pSrt h x := (rfl)
theorem p_join : pf h .join [x, y] = pJoin h x y := (rfl)
theorem p_tup {ds : List D} (hl : ds.length ≤ 1000000) : pf h .tup ds = some (.tup ds) := by simp [pf, big, hl]
theorem p_lst {ds : List D} (hl : ds.length ≤ 1000000) : pf h .lst ds = some (.lst ds) := by simp [pf, big, hl]
theorem pAdd_i : pAdd h (.int i) (.int j) = some (.int (i + j)) := (rfl)
theorem pSub_i : pSub (.int i) (.int j) = some (.int (i - j)) := (rfl)
theorem pMul_r (h1 : -B64 < j) (h2 : j < B64) : pMul h (.int i) (.int j) = some (.int (i * j)) := by
  simp [pMul, h1, h2]
theorem pMul_l (h1 : -B64 < i) (h2 : i < B64) : pMul h (.int i) (.int j) = some (.int (i * j)) := by
  simp [pMul, h1, h2]
theorem pPow_n {n : Nat} (hn : n ≤ 1000000) (h1 : i.natAbs < 18446744073709551616) : pPow (.int i) (.int (n : Int)) = some (.int (i ^ n)) := by
  simp [pPow, h1]
  omega
theorem pMod_p (h : 0 < j) : pMod (.int i) (.int j) = some (.int (i % j)) := by
  simp [pMod, h]
theorem pDiv_p (h : 0 < j) (h2 : j < 1073741824) : pDiv (.int i) (.int j) = some (.int (i / j)) := by
  simp [pDiv, h, h2]
theorem t_bl {b : Bool} : truth h (.bl b) = some b := (rfl)
theorem t_int : truth h (.int i) = some (i != 0) := (rfl)
theorem t_non : truth h .non = some false := (rfl)
theorem t_tup {ds : List D} : truth h (.tup ds) = some (!ds.isEmpty) := (rfl)
theorem t_lst {ds : List D} : truth h (.lst ds) = some (!ds.isEmpty) := (rfl)
theorem eq_i : pEq h (fun b => b) (.int i) (.int j) = some (.bl (decide (i = j))) := by
  simp [pEq, plainD, good, pur, depD, eqD]
  rfl
theorem ne_i : pEq h (fun b => !b) (.int i) (.int j) = some (.bl (decide (i ≠ j))) := by
  simp [pEq, plainD, good, pur, depD, eqD]
  rfl
theorem eq_b {a b : Bool} : pEq h (fun b => b) (.bl a) (.bl b) = some (.bl (a == b)) := by
  simp [pEq, plainD, good, pur, depD, eqD]
theorem ne_b {a b : Bool} : pEq h (fun b => !b) (.bl a) (.bl b) = some (.bl (!(a == b))) := by
  simp [pEq, plainD, good, pur, depD, eqD]
def asc (s : List Nat) : Bool := s.all fun c => decide (c < 128)
theorem eq_s {a b : List Nat} (ha : asc a = true) (hb : asc b = true) : pEq h (fun b => b) (.str a) (.str b) = some (.bl (a == b)) := by
  unfold asc at ha hb
  simp [pEq, plainD, good, pur, depD, eqD, ha, hb]
theorem ne_s {a b : List Nat} (ha : asc a = true) (hb : asc b = true) : pEq h (fun b => !b) (.str a) (.str b) = some (.bl (!(a == b))) := by
  unfold asc at ha hb
  simp [pEq, plainD, good, pur, depD, eqD, ha, hb]
theorem ixD_nat {n : Nat} {i : Nat} (h : i < n) : ixD n (i : Int) = some i := by
  unfold ixD
  rw [if_pos (Int.natCast_nonneg i), if_pos (by omega)]
  simp
theorem atD_nat {α : Type} {xs : List α} {i : Nat} {x : α} (h : xs[i]? = some x) : atD xs (i : Int) = some x := by
  unfold atD
  rw [ixD_nat (List.getElem?_eq_some_iff.mp h).1]
  exact h
/-- an index between the ends -/
theorem atD_int {α : Type} {xs : List α} {i : Int} (h0 : 0 ≤ i) (h1 : i < xs.length) : ∃ x, atD xs i = some x ∧ x ∈ xs := by
  obtain ⟨n, rfl⟩ := Int.eq_ofNat_of_zero_le h0
  have hn : n < xs.length := by omega
  exact ⟨xs[n], atD_nat (by simp [hn]), List.getElem_mem hn⟩
theorem idx_tup {ds : List D} : pIdx h (.tup ds) (.int i) = atD ds i := by simp [pIdx, dctD, seqA]
theorem idx_lst {ds : List D} : pIdx h (.lst ds) (.int i) = atD ds i := by simp [pIdx, dctD, seqA, seqL]
theorem len_tup {ds : List D} : pLen h (.tup ds) = some (.int ds.length) := by simp [pLen, dctD, seqA]
theorem len_lst {ds : List D} : pLen h (.lst ds) = some (.int ds.length) := by simp [pLen, dctD, seqA, seqL]
theorem isi_ty {t u : String} (hu : tyD h x = some u) (ht : (["int", "bool", "str", "tuple", "list", "dict"].contains t) = true) : pIsi h x (.ty t) = some (.bl (isTy u t)) := by
  simp only [pIsi, hu, Option.bind_some, if_pos ht]
end
def lstO : Option O → Option (List D)
  | some (.lst ds) => some ds
  | _ => none
def dctO : Option O → Option (List Ky × List D)
  | some (.dct ks vs) => some (ks, vs)
  | _ => none
section
variable {h : Hs} {n : Nat} {i : Int} {d k : D} {ds : List D} {ks : List Ky} {vs : List D} {s : List Nat}
theorem lstO_l : lstO (some (.lst ds)) = some ds := (rfl)
theorem dctO_d : dctO (some (.dct ks vs)) = some (ks, vs) := (rfl)
theorem dctO_l : dctO (some (.lst ds)) = none := (rfl)
theorem seqL_ref : seqL h (.ref n) = lstO h[n]? := by
  unfold seqL lstO
  rcases e : h[n]? with _ | (_ | _ | _) <;> simp [e]
theorem seqO_ref : seqO h (.ref n) = lstO h[n]? := by
  unfold seqO lstO
  rcases e : h[n]? with _ | (_ | _ | _) <;> simp [e]
theorem seqA_ref : seqA h (.ref n) = lstO h[n]? := by
  unfold seqA
  exact seqL_ref
theorem seqA_tup : seqA h (.tup ds) = some ds := (rfl)
theorem seqA_lst : seqA h (.lst ds) = some ds := (rfl)
theorem seqL_lst : seqL h (.lst ds) = some ds := (rfl)
theorem seqL_scr : seqL h (.scr ds) = some ds := (rfl)
theorem seqA_scr : seqA h (.scr ds) = some ds := (rfl)
theorem seqO_lst : seqO h (.lst ds) = some ds := (rfl)
theorem dctD_ref : dctD h (.ref n) = dctO h[n]? := by
  unfold dctD dctO
  rcases e : h[n]? with _ | (_ | _ | _) <;> simp [e]
theorem idx_ref (e : h[n]? = some (.lst ds)) : pIdx h (.ref n) (.int i) = atD ds i := by
  simp [pIdx, dctD_ref, seqA_ref, e, dctO_l, lstO_l]
theorem idx_dct {k' : Ky} (e : h[n]? = some (.dct ks vs)) (hk : keyD d = some k') : pIdx h (.ref n) d = lookK k' ks vs := by
  simp [pIdx, dctD_ref, e, dctO_d, hk]
theorem len_ref (e : h[n]? = some (.lst ds)) : pLen h (.ref n) = some (.int ds.length) := by
  simp [pLen, dctD_ref, seqA_ref, e, dctO_l, lstO_l]
theorem set_ref (e : h[n]? = some (.lst ds)) : pw h .setI [.ref n, .int i, d] = (ixD ds.length i).map fun j => (.non, h.set n (.lst (ds.set j d))) := by
  simp [pw, e]
theorem set_dct {k' : Ky} (e : h[n]? = some (.dct ks vs)) (hb : ks.length ≤ 1000000) (hk : keyD k = some k') : pw h .setI [.ref n, k, d] = some (.non, h.set n (.dct (putK k' d ks vs).1 (putK k' d ks vs).2)) := by
  simp [pw, e, big, hb, hk]
theorem app_ref (e : h[n]? = some (.lst ds)) (hb : ds.length ≤ 1000000) : pw h .append [.ref n, d] = some (.non, h.set n (.lst (ds ++ [d]))) := by
  simp [pw, e, big, hb]
theorem popI_ref {k : Nat} (e : h[n]? = some (.lst ds)) (hi : ixD ds.length i = some k) (hd : ds[k]? = some d) : pw h .popI [.ref n, .int i] = some (d, h.set n (.lst (ds.eraseIdx k))) := by
  simp [pw, e, hi, hd]
theorem isLst_ref (e : h[n]? = some (.lst ds)) : isLst h (.ref n) = true := by simp [isLst, e]
end
end Dp

set_option Elab.async false
set_option linter.all false
set_option autoImplicit false
set_option maxRecDepth 100000
set_option maxHeartbeats 4000000
namespace Dp
def drawsB : List RS := [.asg (.nm 2) (.app .add (.cons (.app .toList (.cons (.app (.slc false true) (.cons (.var 0) (.cons (.cst (.int 63)) .nil))) .nil)) (.cons (.app .mul (.cons (.app .lst (.cons (.cst (.int 0)) .nil)) (.cons (.app .toInt (.cons (.app .eq (.cons (.app .len (.cons (.var 0) .nil)) (.cons (.cst (.int 0)) .nil))) .nil)) .nil))) .nil))), .ret (.mk (.app .lst (.cons (.var 2) (.cons (.cst (.int 0)) (.cons (.mk (.comp [3] (.app .mul (.cons (.var 3) (.cons (.app .toInt (.cons (.app .ge (.cons (.var 3) (.cons (.app .pow (.cons (.cst (.int 10)) (.cons (.cst (.int 18)) .nil))) .nil))) .nil)) .nil))) (.nm 3) .seq (.cons (.var 2) .nil) .nil)) (.cons (.var 1) .nil))))))]
def nextB : List RS := [.asg (.tp [.nm 5, .nm 6, .nm 7, .nm 8]) (.var 0), .asg (.nm 2) (.app .mod (.cons (.var 6) (.cons (.app .len (.cons (.var 5) .nil)) .nil))), .setI (.var 0) (.cst (.int 1)) (.app .add (.cons (.var 6) (.cons (.cst (.int 1)) .nil))), .iff (.app .gt (.cons (.app .idx (.cons (.var 7) (.cons (.var 2) .nil))) (.cons (.cst (.int 0)) .nil))) [.asg (.nm 9) (.app .mod (.cons (.app .idx (.cons (.var 7) (.cons (.var 2) .nil))) (.cons (.var 1) .nil))), .setI (.var 7) (.var 2) (.app .fdiv (.cons (.app .idx (.cons (.var 7) (.cons (.var 2) .nil))) (.cons (.var 1) .nil))), .ret (.var 9)] [], .asg (.nm 3) (.app .mod (.cons (.app .pow (.cons (.app .add (.cons (.app .add (.cons (.app .mod (.cons (.app .idx (.cons (.var 5) (.cons (.var 2) .nil))) (.cons (.cst (.int 2147483647)) .nil))) (.cons (.app .mul (.cons (.cst (.int 69621)) (.cons (.var 6) .nil))) .nil))) (.cons (.cst (.int 30269)) .nil))) (.cons (.cst (.int 3)) .nil))) (.cons (.cst (.int 2147483629)) .nil))), .asg (.nm 4) (.app .mod (.cons (.app .pow (.cons (.app .add (.cons (.app .add (.cons (.var 3) (.cons (.app .mul (.cons (.app .mul (.cons (.cst (.int 6007)) (.cons (.var 6) .nil))) (.cons (.var 6) .nil))) .nil))) (.cons (.cst (.int 17)) .nil))) (.cons (.cst (.int 3)) .nil))) (.cons (.cst (.int 2147483587)) .nil))), .ret (.app .mod (.cons (.app .mod (.cons (.app .add (.cons (.app .mul (.cons (.var 4) (.cons (.cst (.int 2147483423)) .nil))) (.cons (.var 3) .nil))) (.cons (.cst (.int 4611686018427387847)) .nil))) (.cons (.var 1) .nil)))]
def alikeB (f : Nat) : List RS := [.iff (.an (.app .isinst (.cons (.var 0) (.cons (.cst (.ty "tuple")) .nil))) (.app .isinst (.cons (.var 1) (.cons (.cst (.ty "tuple")) .nil)))) [.iff (.app .ne (.cons (.app .len (.cons (.var 0) .nil)) (.cons (.app .len (.cons (.var 1) .nil)) .nil))) [.ret (.cst (.bl false))] [], .ret (.app .eq (.cons (.comp [2] (.var 2) (.nm 2) .rng1 (.cons (.app .len (.cons (.var 0) .nil)) .nil) (.cons (.no (.call none f (.cons (.app .idx (.cons (.var 0) (.cons (.var 2) .nil))) (.cons (.app .idx (.cons (.var 1) (.cons (.var 2) .nil))) .nil)))) .nil)) (.cons (.app .lst .nil) .nil)))] [], .iff (.app .ne (.cons (.app .isinst (.cons (.var 0) (.cons (.cst (.ty "bool")) .nil))) (.cons (.app .isinst (.cons (.var 1) (.cons (.cst (.ty "bool")) .nil))) .nil))) [.ret (.cst (.bl false))] [], .ret (.an (.app .eq (.cons (.app .isinst (.cons (.var 0) (.cons (.cst (.ty "int")) .nil))) (.cons (.app .isinst (.cons (.var 1) (.cons (.cst (.ty "int")) .nil))) .nil))) (.app .eq (.cons (.var 0) (.cons (.var 1) .nil))))]
def B24 : Nat := 16777216
structure Dr (a b : O) (t : Nat) : Prop where
  ex : ∃ (cells rests : List Int) (may : D) (u : Nat), 0 < cells.length ∧ rests.length = cells.length ∧ a = .lst (rests.map .int) ∧ b = .lst [.lst (cells.map .int), .int u, .ref 0, may] ∧ u ≤ t ∧ okB 0 may = true
theorem Dr.le {a b : O} {t t' : Nat} (d : Dr a b t) (l : t ≤ t') : Dr a b t' := by
  obtain ⟨c, r, m, u, h1, h2, h3, h4, h5, h6⟩ := d.ex
  exact ⟨c, r, m, u, h1, h2, h3, h4, Nat.le_trans h5 l, h6⟩
theorem next_ok {T : Tab} {f k : Nat} (hT : T f = some ⟨2, 10, nextB⟩) {a b : O} {tl : Hs} {t : Nat} {n : Int} (dr : Dr a b t) (ht : t ≤ B24) (h0 : 0 < n) (h1 : n < 1073741824) :
    W (callF T (k + 1) f [.ref 1, .int n] (a :: b :: tl)) fun r => ∃ (d : Int) (a' b' : O), r = (.int d, a' :: b' :: tl) ∧ 0 ≤ d ∧ d < n ∧ Dr a' b' (t + 1) := by
  obtain ⟨cells, rests, may, u, hc, hr, rfl, rfl, hu, hmay⟩ := dr.ex
  have hat : ∃ j : Nat, ((u : Int) % (cells.length : Int)) = (j : Int) ∧ j < cells.length := ⟨u % cells.length, by simp, Nat.mod_lt _ hc⟩
  obtain ⟨j, hj, hjl⟩ := hat
  have c1 : ∃ x, (cells.map D.int)[j]? = some (.int x) := ⟨cells[j], by simp [hjl]⟩
  obtain ⟨x, hx⟩ := c1
  have c2 : ∃ y, (rests.map D.int)[j]? = some (.int y) := ⟨rests[j]'(by omega), by simp [hr, hjl]⟩
  obtain ⟨y, hy⟩ := c2
  have hpos : (0 : Int) < (cells.length : Int) := by omega
  have hb1 : ((x % 2147483647 + 69621 * (u : Int) + 30269).natAbs < 18446744073709551616) := by
    have := Int.emod_nonneg x (show (2147483647 : Int) ≠ 0 by decide)
    have := Int.emod_lt_of_pos x (show (0 : Int) < 2147483647 by decide)
    unfold B24 at ht
    omega
  have fm : ∀ z : Int, 0 < (2147483629 : Int) := fun _ => by decide
  rw [W_call hT rfl]
  simp only [nextB, enter, List.map, List.length, List.replicate, List.cons_append, List.nil_append, Nat.reduceSub]
  rw [W_cons]
  simp only [W_var, W_cst, W_app, W_nilE, W_consE, W_evT, W_asg, W_expr, W_ret, W_iff, W_call0, W_some, W_tp, W_tsN, W_tsC, W_nm, List.length_cons, List.length_nil, Nat.reduceAdd, Nat.reduceLT, List.getD_cons_succ, List.getD_cons_zero, List.set_cons_succ, List.set_cons_zero, List.getElem?_cons_succ, List.getElem?_cons_zero, p_add, p_sub, p_mul, p_fdiv, p_mod, p_pow, p_eq, p_ne, p_lt, p_le, p_gt, p_ge, p_neg, p_idx, p_len, pAdd_i, pSub_i, t_bl, t_int, eq_i, ne_i, Kn_nx, Kn_rt, W_nil, W_outR, W_outN, seqA_ref, seqL_ref, lstO_l, seqA_tup, seqA_lst, seqL_lst, idx_tup, idx_lst, len_tup, len_lst]
  rw [W_cons]
  simp only [W_var, W_cst, W_app, W_nilE, W_consE, W_evT, W_asg, W_expr, W_ret, W_iff, W_call0, W_some, W_tp, W_tsN, W_tsC, W_nm, List.length_cons, List.length_nil, Nat.reduceAdd, Nat.reduceLT, List.getD_cons_succ, List.getD_cons_zero, List.set_cons_succ, List.set_cons_zero, List.getElem?_cons_succ, List.getElem?_cons_zero, p_add, p_sub, p_mul, p_fdiv, p_mod, p_pow, p_eq, p_ne, p_lt, p_le, p_gt, p_ge, p_neg, p_idx, p_len, pAdd_i, pSub_i, t_bl, t_int, eq_i, ne_i, Kn_nx, Kn_rt, W_nil, W_outR, W_outN, seqA_ref, seqL_ref, lstO_l, seqA_tup, seqA_lst, seqL_lst, idx_tup, idx_lst, len_tup, len_lst, len_lst, List.length_map, pMod_p hpos, hj]
  rw [W_cons, W_setI]
  simp only [W_var, W_cst, W_app, W_nilE, W_consE, W_evT, W_asg, W_expr, W_ret, W_iff, W_call0, W_some, W_tp, W_tsN, W_tsC, W_nm, List.length_cons, List.length_nil, Nat.reduceAdd, Nat.reduceLT, List.getD_cons_succ, List.getD_cons_zero, List.set_cons_succ, List.set_cons_zero, List.getElem?_cons_succ, List.getElem?_cons_zero, p_add, p_sub, p_mul, p_fdiv, p_mod, p_pow, p_eq, p_ne, p_lt, p_le, p_gt, p_ge, p_neg, p_idx, p_len, pAdd_i, pSub_i, t_bl, t_int, eq_i, ne_i, Kn_nx, Kn_rt, W_nil, W_outR, W_outN, seqA_ref, seqL_ref, lstO_l, seqA_tup, seqA_lst, seqL_lst, idx_tup, idx_lst, len_tup, len_lst]
  rw [set_ref (ds := [.lst (cells.map .int), .int u, .ref 0, may]) rfl]
  simp only [W_var, W_cst, W_app, W_nilE, W_consE, W_evT, W_asg, W_expr, W_ret, W_iff, W_call0, W_some, W_tp, W_tsN, W_tsC, W_nm, List.length_cons, List.length_nil, Nat.reduceAdd, Nat.reduceLT, List.getD_cons_succ, List.getD_cons_zero, List.set_cons_succ, List.set_cons_zero, List.getElem?_cons_succ, List.getElem?_cons_zero, p_add, p_sub, p_mul, p_fdiv, p_mod, p_pow, p_eq, p_ne, p_lt, p_le, p_gt, p_ge, p_neg, p_idx, p_len, pAdd_i, pSub_i, t_bl, t_int, eq_i, ne_i, Kn_nx, Kn_rt, W_nil, W_outR, W_outN, seqA_ref, seqL_ref, lstO_l, seqA_tup, seqA_lst, seqL_lst, idx_tup, idx_lst, len_tup, len_lst, W_map, show ixD 4 1 = some 1 by decide]
  have er : pIdx (O.lst (List.map D.int rests) :: O.lst [D.lst (List.map D.int cells), D.int (↑u + 1), D.ref 0, may] :: tl) (.ref 0) (.int (j : Int)) = some (.int y) := by
    rw [idx_ref (ds := rests.map .int) rfl]; exact atD_nat hy
  rw [W_cons]
  simp only [W_var, W_cst, W_app, W_nilE, W_consE, W_evT, W_asg, W_expr, W_ret, W_iff, W_call0, W_some, W_tp, W_tsN, W_tsC, W_nm, List.length_cons, List.length_nil, Nat.reduceAdd, Nat.reduceLT, List.getD_cons_succ, List.getD_cons_zero, List.set_cons_succ, List.set_cons_zero, List.getElem?_cons_succ, List.getElem?_cons_zero, p_add, p_sub, p_mul, p_fdiv, p_mod, p_pow, p_eq, p_ne, p_lt, p_le, p_gt, p_ge, p_neg, p_idx, p_len, pAdd_i, pSub_i, t_bl, t_int, eq_i, ne_i, Kn_nx, Kn_rt, W_nil, W_outR, W_outN, seqA_ref, seqL_ref, lstO_l, seqA_tup, seqA_lst, seqL_lst, idx_tup, idx_lst, len_tup, len_lst, er]
  by_cases hy0 : 0 < y
  · rw [if_pos (by simpa using hy0), W_cons]
    simp only [W_var, W_cst, W_app, W_nilE, W_consE, W_evT, W_asg, W_expr, W_ret, W_iff, W_call0, W_some, W_tp, W_tsN, W_tsC, W_nm, List.length_cons, List.length_nil, Nat.reduceAdd, Nat.reduceLT, List.getD_cons_succ, List.getD_cons_zero, List.set_cons_succ, List.set_cons_zero, List.getElem?_cons_succ, List.getElem?_cons_zero, p_add, p_sub, p_mul, p_fdiv, p_mod, p_pow, p_eq, p_ne, p_lt, p_le, p_gt, p_ge, p_neg, p_idx, p_len, pAdd_i, pSub_i, t_bl, t_int, eq_i, ne_i, Kn_nx, Kn_rt, W_nil, W_outR, W_outN, seqA_ref, seqL_ref, lstO_l, seqA_tup, seqA_lst, seqL_lst, idx_tup, idx_lst, len_tup, len_lst, er, pMod_p h0]
    rw [W_cons, W_setI]
    simp only [W_var, W_cst, W_app, W_nilE, W_consE, W_evT, W_asg, W_expr, W_ret, W_iff, W_call0, W_some, W_tp, W_tsN, W_tsC, W_nm, List.length_cons, List.length_nil, Nat.reduceAdd, Nat.reduceLT, List.getD_cons_succ, List.getD_cons_zero, List.set_cons_succ, List.set_cons_zero, List.getElem?_cons_succ, List.getElem?_cons_zero, p_add, p_sub, p_mul, p_fdiv, p_mod, p_pow, p_eq, p_ne, p_lt, p_le, p_gt, p_ge, p_neg, p_idx, p_len, pAdd_i, pSub_i, t_bl, t_int, eq_i, ne_i, Kn_nx, Kn_rt, W_nil, W_outR, W_outN, seqA_ref, seqL_ref, lstO_l, seqA_tup, seqA_lst, seqL_lst, idx_tup, idx_lst, len_tup, len_lst, er, pDiv_p h0 h1]
    rw [set_ref (ds := rests.map .int) rfl]
    simp only [W_var, W_cst, W_app, W_nilE, W_consE, W_evT, W_asg, W_expr, W_ret, W_iff, W_call0, W_some, W_tp, W_tsN, W_tsC, W_nm, List.length_cons, List.length_nil, Nat.reduceAdd, Nat.reduceLT, List.getD_cons_succ, List.getD_cons_zero, List.set_cons_succ, List.set_cons_zero, List.getElem?_cons_succ, List.getElem?_cons_zero, p_add, p_sub, p_mul, p_fdiv, p_mod, p_pow, p_eq, p_ne, p_lt, p_le, p_gt, p_ge, p_neg, p_idx, p_len, pAdd_i, pSub_i, t_bl, t_int, eq_i, ne_i, Kn_nx, Kn_rt, W_nil, W_outR, W_outN, seqA_ref, seqL_ref, lstO_l, seqA_tup, seqA_lst, seqL_lst, idx_tup, idx_lst, len_tup, len_lst, W_map, List.length_map, ixD_nat (show j < rests.length by omega)]
    rw [W_cons]
    simp only [W_var, W_cst, W_app, W_nilE, W_consE, W_evT, W_asg, W_expr, W_ret, W_iff, W_call0, W_some, W_tp, W_tsN, W_tsC, W_nm, List.length_cons, List.length_nil, Nat.reduceAdd, Nat.reduceLT, List.getD_cons_succ, List.getD_cons_zero, List.set_cons_succ, List.set_cons_zero, List.getElem?_cons_succ, List.getElem?_cons_zero, p_add, p_sub, p_mul, p_fdiv, p_mod, p_pow, p_eq, p_ne, p_lt, p_le, p_gt, p_ge, p_neg, p_idx, p_len, pAdd_i, pSub_i, t_bl, t_int, eq_i, ne_i, Kn_nx, Kn_rt, W_nil, W_outR, W_outN, seqA_ref, seqL_ref, lstO_l, seqA_tup, seqA_lst, seqL_lst, idx_tup, idx_lst, len_tup, len_lst]
    exact ⟨y % n, _, _, rfl, Int.emod_nonneg _ (by omega), Int.emod_lt_of_pos _ h0, ⟨cells, rests.set j (y / n), may, u + 1, hc, by simp [hr], by simp [List.map_set], by simp, by omega, hmay⟩⟩
  · have m3 : ∀ z : Int, 0 ≤ z % 2147483629 ∧ z % 2147483629 < 2147483629 := fun z => ⟨Int.emod_nonneg _ (by decide), Int.emod_lt_of_pos _ (by decide)⟩
    have hb3 : -B64 < (u : Int) ∧ (u : Int) < B64 := by unfold B24 at ht; unfold B64; omega
    have p3 : ∀ i : Int, i.natAbs < 18446744073709551616 → pPow (.int i) (.int 3) = some (.int (i ^ 3)) := fun i hi => pPow_n (n := 3) (by decide) hi
    rw [if_neg (by simpa using hy0)]
    try rw [W_nil, Kn_nx]
    rw [W_cons]
    simp only [W_var, W_cst, W_app, W_nilE, W_consE, W_evT, W_asg, W_expr, W_ret, W_iff, W_call0, W_some, W_tp, W_tsN, W_tsC, W_nm, List.length_cons, List.length_nil, Nat.reduceAdd, Nat.reduceLT, List.getD_cons_succ, List.getD_cons_zero, List.set_cons_succ, List.set_cons_zero, List.getElem?_cons_succ, List.getElem?_cons_zero, p_add, p_sub, p_mul, p_fdiv, p_mod, p_pow, p_eq, p_ne, p_lt, p_le, p_gt, p_ge, p_neg, p_idx, p_len, pAdd_i, pSub_i, t_bl, t_int, eq_i, ne_i, Kn_nx, Kn_rt, W_nil, W_outR, W_outN, seqA_ref, seqL_ref, lstO_l, seqA_tup, seqA_lst, seqL_lst, idx_tup, idx_lst, len_tup, len_lst, atD_nat hx, pMod_p (show (0 : Int) < 2147483647 by decide), pMul_r hb3.1 hb3.2, p3 _ hb1, pMod_p (show (0 : Int) < 2147483629 by decide)]
    have hzb := m3 ((x % 2147483647 + 69621 * (u : Int) + 30269) ^ 3)
    generalize (x % 2147483647 + 69621 * (u : Int) + 30269) ^ 3 % 2147483629 = z at hzb ⊢
    have hu2 : (u : Int) * (u : Int) ≤ 16777216 * 16777216 := Int.mul_le_mul (by unfold B24 at ht; omega) (by unfold B24 at ht; omega) (by omega) (by omega)
    have hu3 : (0 : Int) ≤ (u : Int) * (u : Int) := Int.mul_nonneg (by omega) (by omega)
    have hb2 : (z + 6007 * (u : Int) * (u : Int) + 17).natAbs < 18446744073709551616 := by
      rw [Int.mul_assoc]
      omega
    rw [W_cons]
    simp only [W_var, W_cst, W_app, W_nilE, W_consE, W_evT, W_asg, W_expr, W_ret, W_iff, W_call0, W_some, W_tp, W_tsN, W_tsC, W_nm, List.length_cons, List.length_nil, Nat.reduceAdd, Nat.reduceLT, List.getD_cons_succ, List.getD_cons_zero, List.set_cons_succ, List.set_cons_zero, List.getElem?_cons_succ, List.getElem?_cons_zero, p_add, p_sub, p_mul, p_fdiv, p_mod, p_pow, p_eq, p_ne, p_lt, p_le, p_gt, p_ge, p_neg, p_idx, p_len, pAdd_i, pSub_i, t_bl, t_int, eq_i, ne_i, Kn_nx, Kn_rt, W_nil, W_outR, W_outN, seqA_ref, seqL_ref, lstO_l, seqA_tup, seqA_lst, seqL_lst, idx_tup, idx_lst, len_tup, len_lst, pMul_r hb3.1 hb3.2, p3 _ hb2, pMod_p (show (0 : Int) < 2147483587 by decide)]
    generalize (z + 6007 * (u : Int) * (u : Int) + 17) ^ 3 % 2147483587 = z2
    rw [W_cons]
    simp only [W_var, W_cst, W_app, W_nilE, W_consE, W_evT, W_asg, W_expr, W_ret, W_iff, W_call0, W_some, W_tp, W_tsN, W_tsC, W_nm, List.length_cons, List.length_nil, Nat.reduceAdd, Nat.reduceLT, List.getD_cons_succ, List.getD_cons_zero, List.set_cons_succ, List.set_cons_zero, List.getElem?_cons_succ, List.getElem?_cons_zero, p_add, p_sub, p_mul, p_fdiv, p_mod, p_pow, p_eq, p_ne, p_lt, p_le, p_gt, p_ge, p_neg, p_idx, p_len, pAdd_i, pSub_i, t_bl, t_int, eq_i, ne_i, Kn_nx, Kn_rt, W_nil, W_outR, W_outN, seqA_ref, seqL_ref, lstO_l, seqA_tup, seqA_lst, seqL_lst, idx_tup, idx_lst, len_tup, len_lst, pMul_r (show -B64 < 2147483423 by decide) (show 2147483423 < B64 by decide), pMod_p (show (0 : Int) < 4611686018427387847 by decide), pMod_p h0]
    exact ⟨_, _, _, rfl, Int.emod_nonneg _ (by omega), Int.emod_lt_of_pos _ h0, ⟨cells, rests, may, u + 1, hc, hr, rfl, by simp, by omega, hmay⟩⟩
theorem eq_of_W {α : Type} {o : Option α} {v : α} (h : W o fun r => r = v) : o = some v := by
  obtain ⟨r, e, rfl⟩ := h
  exact e
theorem cutD_all {α : Type} {xs : List α} {n : Nat} (h : xs.length ≤ n) : cutD xs none (some (n : Int)) = xs := by
  have e : sIx xs.length xs.length (some (n : Int)) = xs.length := by
    show (if (n : Int) < 0 then max ((n : Int) + xs.length) 0 else min (n : Int) xs.length).toNat = xs.length
    rw [if_neg (by omega)]
    omega
  unfold cutD
  rw [e]
  simp [sIx]
theorem map_big {α β : Type} {f : α → β} {xs : List α} (h : xs.length ≤ 1000000) : big (xs.map f).length = true := by
  simp [big, h]
theorem draws_ok {T : Tab} {f k : Nat} (hT : T f = some ⟨2, 4, drawsB⟩) {ns : List Int} (hn : ns.length ≤ 63) {may : D} (hmay : okB 0 may = true) :
    W (callF T (k + 1) f [.scr (ns.map .int), may] []) fun r => ∃ a b : O, r = (.ref 1, [a, b]) ∧ Dr a b 0 := by
  rw [W_call hT rfl]
  simp only [drawsB, enter, List.map, List.length, List.replicate, List.cons_append, List.nil_append, Nat.reduceSub]
  rw [W_cons]
  have hc : ∃ cs : List Int, 0 < cs.length ∧ cs.length ≤ 1000000 ∧ ∀ Q : D → Prop, Q (.lst (cs.map .int)) → W (pList [] (.lst (ns.map .int))) fun d => W (pMul [] (.lst [.int 0]) (.int (if decide ((ns.length : Int) = 0) then 1 else 0))) fun e => W (pAdd [] d e) Q := by
    cases ns with
    | nil => exact ⟨[0], by decide, by decide, fun Q q => by simpa [pList, pMul, pAdd, seqA, seqL, seqO, W, big] using q⟩
    | cons n ns =>
      have e : ¬ ((((n :: ns).length : Nat) : Int) = 0) := by simp; omega
      refine ⟨n :: ns, by simp, by omega, fun Q q => ?_⟩
      have hb : ns.length + 1 ≤ 1000000 := by simp at hn; omega
      simp only [decide_eq_false e]
      simpa [pList, pMul, pAdd, seqA, seqL, seqO, W, big, hb] using q
  obtain ⟨cs, hc0, hc1, hQ⟩ := hc
  have hsl : pSlc [] (.scr (ns.map .int)) none (some 63) = some (.lst (ns.map .int)) := by
    have := cutD_all (xs := ns.map D.int) (n := 63) (by simpa using hn)
    simp only [pSlc, seqL, Option.map_some]
    exact congrArg (fun z => some (D.lst z)) this
  have hln : pLen [] (.scr (ns.map .int)) = some (.int ns.length) := by simp [pLen, dctD, seqA, seqL]
  simp only [W_var, W_cst, W_app, W_nilE, W_consE, W_evT, W_asg, W_expr, W_ret, W_iff, W_call0, W_some, W_tp, W_tsN, W_tsC, W_nm, List.length_cons, List.length_nil, Nat.reduceAdd, Nat.reduceLT, List.getD_cons_succ, List.getD_cons_zero, List.set_cons_succ, List.set_cons_zero, List.getElem?_cons_succ, List.getElem?_cons_zero, p_add, p_sub, p_mul, p_fdiv, p_mod, p_pow, p_eq, p_ne, p_lt, p_le, p_gt, p_ge, p_neg, p_idx, p_len, pAdd_i, pSub_i, t_bl, t_int, eq_i, ne_i, Kn_nx, Kn_rt, W_nil, W_outR, W_outN, seqA_ref, seqL_ref, lstO_l, seqA_tup, seqA_lst, seqL_lst, idx_tup, idx_lst, len_tup, len_lst, p_slcFT, hsl, p_toList, p_lst (show [D.int 0].length ≤ 1000000 by decide), hln, p_toIntB]
  refine hQ _ ?_
  rw [W_cons]
  simp only [W_var, W_cst, W_app, W_nilE, W_consE, W_evT, W_asg, W_expr, W_ret, W_iff, W_call0, W_some, W_tp, W_tsN, W_tsC, W_nm, List.length_cons, List.length_nil, Nat.reduceAdd, Nat.reduceLT, List.getD_cons_succ, List.getD_cons_zero, List.set_cons_succ, List.set_cons_zero, List.getElem?_cons_succ, List.getElem?_cons_zero, p_add, p_sub, p_mul, p_fdiv, p_mod, p_pow, p_eq, p_ne, p_lt, p_le, p_gt, p_ge, p_neg, p_idx, p_len, pAdd_i, pSub_i, t_bl, t_int, eq_i, ne_i, Kn_nx, Kn_rt, W_nil, W_outR, W_outN, seqA_ref, seqL_ref, lstO_l, seqA_tup, seqA_lst, seqL_lst, idx_tup, idx_lst, len_tup, len_lst, W_mk, W_comp, items]
  have hl : loopC (fun x h => (asgT h (.nm 3) x (wipeE [some (.scr (ns.map .int)), some may, some (.lst (cs.map .int)), none] [3])).bind fun ρ' => (evCs (callF T k) .nil ρ' h).bind fun q =>
      if q.1 then (evE (callF T k) (.app .mul (.cons (.var 3) (.cons (.app .toInt (.cons (.app .ge (.cons (.var 3) (.cons (.app .pow (.cons (.cst (.int 10)) (.cons (.cst (.int 18)) .nil))) .nil))) .nil)) .nil))) ρ' q.2).map fun z => (some z.1, z.2) else some (none, q.2)) (chkS .seq [.lst (cs.map .int)] (cs.map .int)) (cs.map .int) [] = some ((cs.map .int).map (fun (d : D) => match d with | .int x => D.int (x * (if decide ((10 : Int) ^ 18 ≤ x) then 1 else 0)) | d => d), []) := by
    refine loopC_map _ rfl fun x hx => eq_of_W ?_
    obtain ⟨i, _, rfl⟩ := List.mem_map.mp hx
    have hb : -B64 < (if decide ((10 : Int) ^ 18 ≤ i) then (1 : Int) else 0) ∧ (if decide ((10 : Int) ^ 18 ≤ i) then (1 : Int) else 0) < B64 := by split <;> decide
    have hp : pPow (.int 10) (.int 18) = some (.int (10 ^ 18)) := pPow_n (n := 18) (by decide) (by decide)
    simp only [W_bind, wipeE, W_nm, List.length_set, W_var, W_cst, W_app, W_nilE, W_consE, W_evT, W_asg, W_expr, W_ret, W_iff, W_call0, W_some, W_tp, W_tsN, W_tsC, W_nm, List.length_cons, List.length_nil, Nat.reduceAdd, Nat.reduceLT, List.getD_cons_succ, List.getD_cons_zero, List.set_cons_succ, List.set_cons_zero, List.getElem?_cons_succ, List.getElem?_cons_zero, p_add, p_sub, p_mul, p_fdiv, p_mod, p_pow, p_eq, p_ne, p_lt, p_le, p_gt, p_ge, p_neg, p_idx, p_len, pAdd_i, pSub_i, t_bl, t_int, eq_i, ne_i, Kn_nx, Kn_rt, W_nil, W_outR, W_outN, seqA_ref, seqL_ref, lstO_l, seqA_tup, seqA_lst, seqL_lst, idx_tup, idx_lst, len_tup, len_lst, W_nilC, if_true, W_map, hp, p_toIntB, pMul_r hb.1 hb.2]
  refine W.of hl ?_
  refine ⟨map_big (by simpa using hc1), ?_⟩
  simp only [W_var, W_cst, W_app, W_nilE, W_consE, W_evT, W_asg, W_expr, W_ret, W_iff, W_call0, W_some, W_tp, W_tsN, W_tsC, W_nm, List.length_cons, List.length_nil, Nat.reduceAdd, Nat.reduceLT, List.getD_cons_succ, List.getD_cons_zero, List.set_cons_succ, List.set_cons_zero, List.getElem?_cons_succ, List.getElem?_cons_zero, p_add, p_sub, p_mul, p_fdiv, p_mod, p_pow, p_eq, p_ne, p_lt, p_le, p_gt, p_ge, p_neg, p_idx, p_len, pAdd_i, pSub_i, t_bl, t_int, eq_i, ne_i, Kn_nx, Kn_rt, W_nil, W_outR, W_outN, seqA_ref, seqL_ref, lstO_l, seqA_tup, seqA_lst, seqL_lst, idx_tup, idx_lst, len_tup, len_lst, List.nil_append, W_nil, List.cons_append]
  rw [p_lst (by simp)]
  simp only [W_var, W_cst, W_app, W_nilE, W_consE, W_evT, W_asg, W_expr, W_ret, W_iff, W_call0, W_some, W_tp, W_tsN, W_tsC, W_nm, List.length_cons, List.length_nil, Nat.reduceAdd, Nat.reduceLT, List.getD_cons_succ, List.getD_cons_zero, List.set_cons_succ, List.set_cons_zero, List.getElem?_cons_succ, List.getElem?_cons_zero, p_add, p_sub, p_mul, p_fdiv, p_mod, p_pow, p_eq, p_ne, p_lt, p_le, p_gt, p_ge, p_neg, p_idx, p_len, pAdd_i, pSub_i, t_bl, t_int, eq_i, ne_i, Kn_nx, Kn_rt, W_nil, W_outR, W_outN, seqA_ref, seqL_ref, lstO_l, seqA_tup, seqA_lst, seqL_lst, idx_tup, idx_lst, len_tup, len_lst, List.cons_append, List.nil_append]
  exact ⟨_, _, rfl, cs, cs.map (fun x => x * (if decide ((10 : Int) ^ 18 ≤ x) then 1 else 0)), may, 0, hc0, by simp, by simp [List.map_map, Function.comp_def], rfl, by omega, hmay⟩
mutual
def tp : D → Bool
  | .non => true
  | .bl _ => true
  | .int _ => true
  | .str s => asc s
  | .tup ds => tps ds && decide (ds.length ≤ 1000000)
  | _ => false
def tps : List D → Bool
  | [] => true
  | d :: ds => tp d && tps ds
end
mutual
theorem tp_pur : ∀ d : D, tp d = true → pur d = true
  | .non, _ | .bl _, _ | .int _, _ => rfl
  | .str s, h => by simpa [tp, asc, pur] using h
  | .tup ds, h => by
    simp only [tp, Bool.and_eq_true] at h
    simpa [pur] using tps_purs ds h.1
  | .lst _, h | .scr _, h | .dct _ _, h | .ref _, h | .ty _, h | .fn _, h => by simp [tp] at h
theorem tps_purs : ∀ ds : List D, tps ds = true → purs ds = true
  | [], _ => rfl
  | d :: ds, h => by
    simp only [tps, Bool.and_eq_true] at h
    simp [purs, tp_pur d h.1, tps_purs ds h.2]
end
theorem tps_mem {d : D} : ∀ {ds : List D}, tps ds = true → d ∈ ds → tp d = true
  | e :: ds, h, m => by
    simp only [tps, Bool.and_eq_true] at h
    rcases List.mem_cons.mp m with rfl | m
    · exact h.1
    · exact tps_mem h.2 m
theorem depDs_mem {d : D} : ∀ {ds : List D}, d ∈ ds → depD d ≤ depDs ds
  | e :: ds, m => by
    simp only [depDs]
    rcases List.mem_cons.mp m with rfl | m
    · omega
    · have := depDs_mem m
      omega
theorem tp_good {d : D} (h : tp d = true) (l : depD d ≤ 60) : good d = true := by simp [good, tp_pur d h, l]
theorem rngD_map {a : Int} {n : Nat} : rngD a n = (List.range n).map fun i => .int (a + (i : Nat)) := by
  induction n generalizing a with
  | zero => rfl
  | succ n ih =>
    rw [rngD, ih, List.range_succ_eq_map]
    simp only [List.map_cons, List.map_map, Function.comp_def]
    congr 1
    · simp
    · apply List.map_congr_left
      intro i _
      congr 1
      simp
      omega
theorem beqDs_iff : ∀ (xs ys : List D), beqDs xs ys = true ↔ xs.length = ys.length ∧ ∀ (i : Nat) (x y : D), xs[i]? = some x → ys[i]? = some y → beqD x y = true
  | [], [] => by simp [beqDs]
  | [], y :: ys => by simp [beqDs]
  | x :: xs, [] => by simp [beqDs]
  | x :: xs, y :: ys => by
    simp only [beqDs, Bool.and_eq_true, beqDs_iff xs ys, List.length_cons, Nat.add_right_cancel_iff]
    constructor
    · rintro ⟨h1, h2, h3⟩
      refine ⟨h2, fun i u v hu hv => ?_⟩
      cases i with
      | zero => simp at hu hv; subst hu; subst hv; exact h1
      | succ i => exact h3 i u v (by simpa using hu) (by simpa using hv)
    · rintro ⟨h1, h2⟩
      exact ⟨h2 0 x y rfl rfl, h1, fun i u v hu hv => h2 (i + 1) u v (by simpa using hu) (by simpa using hv)⟩
def isTupD : D → Bool
  | .tup _ => true
  | _ => false
def isBlD : D → Bool
  | .bl _ => true
  | _ => false
def isIntD : D → Bool
  | .bl _ => true
  | .int _ => true
  | _ => false
theorem tyD_tp {h : Hs} {d : D} (t : tp d = true) : ∃ u, tyD h d = some u ∧ isTy u "tuple" = isTupD d ∧ isTy u "bool" = isBlD d ∧ isTy u "int" = isIntD d := by
  cases d <;> first | (simp [tp] at t; done) | exact ⟨_, rfl, by simp [isTy, isTupD], by simp [isTy, isBlD], by simp [isTy, isIntD]⟩
theorem eqD_beqD {x y : D} (tx : tp x = true) (ty : tp y = true) (h0 : ¬ (isTupD x = true ∧ isTupD y = true)) (h1 : isBlD x = isBlD y) (h2 : isIntD x = isIntD y) : eqD x y = beqD x y := by
  cases x <;> cases y <;> simp_all [eqD, beqD, isBlD, isIntD, isTupD, tp]
theorem beqD_kind {x y : D} (h : beqD x y = true) : isBlD x = isBlD y ∧ isIntD x = isIntD y ∧ isTupD x = isTupD y := by
  cases x <;> cases y <;> simp_all [beqD, isBlD, isIntD, isTupD]
theorem good_ints {l : List D} (H : ∀ d ∈ l, ∃ i : Int, d = .int i) : good (.lst l) = true := by
  have h1 : purs l = true ∧ depDs l ≤ 1 := by
    induction l with
    | nil => exact ⟨rfl, by decide⟩
    | cons d l ih =>
      obtain ⟨i, rfl⟩ := H d (by simp)
      obtain ⟨h1, h2⟩ := ih fun d hd => H d (by simp [hd])
      refine ⟨by simp [purs, pur, h1], ?_⟩
      simp only [depDs, depD]
      omega
  have h2 := h1.2
  have h3 : depDs l + 1 ≤ 60 := by omega
  simp [good, pur, depD, h1.1, h3]
theorem alike_ok {T : Tab} {f : Nat} (hT : T f = some ⟨2, 3, alikeB f⟩) {h : Hs} : ∀ (n : Nat) (x y : D), depD x < n → tp x = true → tp y = true → depD x ≤ 60 → depD y ≤ 60 → callF T n f [x, y] h = some (.bl (beqD x y), h)
  | 0, x, y, l, _, _, _, _ => absurd l (Nat.not_lt_zero _)
  | n + 1, x, y, l, tx, ty, lx, ly => by
    refine eq_of_W ?_
    rw [W_call hT rfl]
    simp only [alikeB, enter, List.map, List.length, List.replicate, List.cons_append, List.nil_append, Nat.reduceSub]
    obtain ⟨u, hu, u1, u2, u3⟩ := tyD_tp (h := h) tx
    obtain ⟨v, hv, v1, v2, v3⟩ := tyD_tp (h := h) ty
    rw [W_cons]
    simp only [W_var, W_cst, W_app, W_nilE, W_consE, W_evT, W_asg, W_expr, W_ret, W_iff, W_call0, W_some, W_tp, W_tsN, W_tsC, W_nm, List.length_cons, List.length_nil, Nat.reduceAdd, Nat.reduceLT, List.getD_cons_succ, List.getD_cons_zero, List.set_cons_succ, List.set_cons_zero, List.getElem?_cons_succ, List.getElem?_cons_zero, p_add, p_sub, p_mul, p_fdiv, p_mod, p_pow, p_eq, p_ne, p_lt, p_le, p_gt, p_ge, p_neg, p_idx, p_len, pAdd_i, pSub_i, t_bl, t_int, eq_i, ne_i, Kn_nx, Kn_rt, W_nil, W_outR, W_outN, seqA_ref, seqL_ref, lstO_l, seqA_tup, seqA_lst, seqL_lst, idx_tup, idx_lst, len_tup, len_lst, W_an, p_isinst, isi_ty hu (t := "tuple") (by decide), isi_ty hv (t := "tuple") (by decide), u1, v1]
    by_cases hb : isTupD x = true ∧ isTupD y = true
    · obtain ⟨xs, rfl⟩ : ∃ xs, x = .tup xs := by
        cases x <;> first | exact ⟨_, rfl⟩ | simp [isTupD] at hb
      obtain ⟨ys, rfl⟩ : ∃ ys, y = .tup ys := by
        cases y <;> first | exact ⟨_, rfl⟩ | simp [isTupD] at hb
      simp only [isTupD, if_true, W_some, t_bl]
      simp only [tp, Bool.and_eq_true, decide_eq_true_eq] at tx ty
      rw [W_cons]
      simp only [W_var, W_cst, W_app, W_nilE, W_consE, W_evT, W_asg, W_expr, W_ret, W_iff, W_call0, W_some, W_tp, W_tsN, W_tsC, W_nm, List.length_cons, List.length_nil, Nat.reduceAdd, Nat.reduceLT, List.getD_cons_succ, List.getD_cons_zero, List.set_cons_succ, List.set_cons_zero, List.getElem?_cons_succ, List.getElem?_cons_zero, p_add, p_sub, p_mul, p_fdiv, p_mod, p_pow, p_eq, p_ne, p_lt, p_le, p_gt, p_ge, p_neg, p_idx, p_len, pAdd_i, pSub_i, t_bl, t_int, eq_i, ne_i, Kn_nx, Kn_rt, W_nil, W_outR, W_outN, seqA_ref, seqL_ref, lstO_l, seqA_tup, seqA_lst, seqL_lst, idx_tup, idx_lst, len_tup, len_lst]
      by_cases hl : xs.length = ys.length
      · rw [if_neg (by simp [hl])]
        rw [W_cons]
        simp only [W_var, W_cst, W_app, W_nilE, W_consE, W_evT, W_asg, W_expr, W_ret, W_iff, W_call0, W_some, W_tp, W_tsN, W_tsC, W_nm, List.length_cons, List.length_nil, Nat.reduceAdd, Nat.reduceLT, List.getD_cons_succ, List.getD_cons_zero, List.set_cons_succ, List.set_cons_zero, List.getElem?_cons_succ, List.getElem?_cons_zero, p_add, p_sub, p_mul, p_fdiv, p_mod, p_pow, p_eq, p_ne, p_lt, p_le, p_gt, p_ge, p_neg, p_idx, p_len, pAdd_i, pSub_i, t_bl, t_int, eq_i, ne_i, Kn_nx, Kn_rt, W_nil, W_outR, W_outN, seqA_ref, seqL_ref, lstO_l, seqA_tup, seqA_lst, seqL_lst, idx_tup, idx_lst, len_tup, len_lst, W_comp, items]
        have hr : (decide ((-1000000 : Int) ≤ (xs.length : Int)) && decide ((xs.length : Int) ≤ 1000000)) = true := by
          simp only [Bool.and_eq_true, decide_eq_true_eq]; omega
        rw [if_pos hr, W_some]
        have key : ∀ d ∈ rngD 0 (xs.length : Int).toNat, ∃ (i : Nat) (a b : D), d = .int (i : Int) ∧ xs[i]? = some a ∧ ys[i]? = some b := fun d hd => by
          rw [rngD_map] at hd
          obtain ⟨i, hi, rfl⟩ := List.mem_map.mp hd
          have hi' : i < xs.length := by simpa using hi
          exact ⟨i, xs[i], ys[i]'(by omega), by simp, by simp [hi'], by rw [List.getElem?_eq_getElem]⟩
        refine W.of (loopC_eq (fun d => match d with | .int i => (match xs[i.toNat]?, ys[i.toNat]? with | some a, some b => if beqD a b then none else some (.int i) | _, _ => none) | _ => none) rfl fun d hd => eq_of_W ?_) ?_
        · obtain ⟨i, a, b, rfl, ha, hb'⟩ := key d hd
          have ma := List.mem_of_getElem? ha
          have mb := List.mem_of_getElem? hb'
          have la : depD a ≤ depDs xs := depDs_mem ma
          have lb : depD b ≤ depDs ys := depDs_mem mb
          simp only [depD] at l lx ly
          have ih := alike_ok hT (h := h) n a b (by omega) (tps_mem tx.1 ma) (tps_mem ty.1 mb) (by omega) (by omega)
          simp only [W_bind, wipeE, W_nm, List.length_set, W_var, W_cst, W_app, W_nilE, W_consE, W_evT, W_asg, W_expr, W_ret, W_iff, W_call0, W_some, W_tp, W_tsN, W_tsC, W_nm, List.length_cons, List.length_nil, Nat.reduceAdd, Nat.reduceLT, List.getD_cons_succ, List.getD_cons_zero, List.set_cons_succ, List.set_cons_zero, List.getElem?_cons_succ, List.getElem?_cons_zero, p_add, p_sub, p_mul, p_fdiv, p_mod, p_pow, p_eq, p_ne, p_lt, p_le, p_gt, p_ge, p_neg, p_idx, p_len, pAdd_i, pSub_i, t_bl, t_int, eq_i, ne_i, Kn_nx, Kn_rt, W_nil, W_outR, W_outN, seqA_ref, seqL_ref, lstO_l, seqA_tup, seqA_lst, seqL_lst, idx_tup, idx_lst, len_tup, len_lst, W_evCs, W_no, atD_nat ha, atD_nat hb', ih, Int.toNat_natCast, ha, hb']
          cases beqD a b
          · simp [W_map, W_var, W, W_some]
            simp [evE]
          · simp [W, W_some]
        · generalize hG : (rngD 0 (xs.length : Int).toNat).filterMap _ = l
          have hints : ∀ d ∈ l, ∃ i : Int, d = .int i := fun d hd => by
            rw [← hG] at hd
            obtain ⟨e, he, hg⟩ := List.mem_filterMap.mp hd
            obtain ⟨i, a, b, rfl, ha, hb'⟩ := key e he
            simp only [Int.toNat_natCast, ha, hb'] at hg
            split at hg
            · cases hg
            · cases hg; exact ⟨_, rfl⟩
          have hll : l.length ≤ 1000000 := by
            rw [← hG]
            refine Nat.le_trans (List.length_filterMap_le _ _) ?_
            rw [rngD_map]
            simp
            omega
          have hg : good (.lst l) = true := good_ints hints
          refine ⟨by simp [big, hll], ?_⟩
          have hq : pEq h (fun b => b) (.lst l) (.lst []) = some (.bl l.isEmpty) := by
            simp only [pEq, plainD, hg, show good (.lst []) = true from rfl, Bool.and_self, if_true]
            cases l <;> simp [eqD, eqDs]
          simp only [W_var, W_cst, W_app, W_nilE, W_consE, W_evT, W_asg, W_expr, W_ret, W_iff, W_call0, W_some, W_tp, W_tsN, W_tsC, W_nm, List.length_cons, List.length_nil, Nat.reduceAdd, Nat.reduceLT, List.getD_cons_succ, List.getD_cons_zero, List.set_cons_succ, List.set_cons_zero, List.getElem?_cons_succ, List.getElem?_cons_zero, p_add, p_sub, p_mul, p_fdiv, p_mod, p_pow, p_eq, p_ne, p_lt, p_le, p_gt, p_ge, p_neg, p_idx, p_len, pAdd_i, pSub_i, t_bl, t_int, eq_i, ne_i, Kn_nx, Kn_rt, W_nil, W_outR, W_outN, seqA_ref, seqL_ref, lstO_l, seqA_tup, seqA_lst, seqL_lst, idx_tup, idx_lst, len_tup, len_lst, p_lst (ds := []) (by simp), hq]
          have : l.isEmpty = beqDs xs ys := by
            rw [Bool.eq_iff_iff, beqDs_iff, List.isEmpty_iff, ← hG, List.filterMap_eq_nil_iff]
            constructor
            · intro H
              refine ⟨hl, fun i a b ha hb' => ?_⟩
              have hi := (List.getElem?_eq_some_iff.mp ha).1
              have := H (.int (i : Int)) (by rw [rngD_map]; exact List.mem_map.mpr ⟨i, by simpa using hi, by simp⟩)
              simp only [Int.toNat_natCast, ha, hb'] at this
              split at this
              · assumption
              · cases this
            · rintro ⟨_, H⟩ d hd
              obtain ⟨i, a, b, rfl, ha, hb'⟩ := key d hd
              simp only [Int.toNat_natCast, ha, hb', H i a b ha hb', if_true]
          rw [this]
          rfl
      · rw [if_pos (by simp; omega), W_cons]
        simp only [W_var, W_cst, W_app, W_nilE, W_consE, W_evT, W_asg, W_expr, W_ret, W_iff, W_call0, W_some, W_tp, W_tsN, W_tsC, W_nm, List.length_cons, List.length_nil, Nat.reduceAdd, Nat.reduceLT, List.getD_cons_succ, List.getD_cons_zero, List.set_cons_succ, List.set_cons_zero, List.getElem?_cons_succ, List.getElem?_cons_zero, p_add, p_sub, p_mul, p_fdiv, p_mod, p_pow, p_eq, p_ne, p_lt, p_le, p_gt, p_ge, p_neg, p_idx, p_len, pAdd_i, pSub_i, t_bl, t_int, eq_i, ne_i, Kn_nx, Kn_rt, W_nil, W_outR, W_outN, seqA_ref, seqL_ref, lstO_l, seqA_tup, seqA_lst, seqL_lst, idx_tup, idx_lst, len_tup, len_lst]
        have : beqDs xs ys = false := by
          cases e : beqDs xs ys
          · rfl
          · exact absurd ((beqDs_iff xs ys).mp e).1 hl
        simp [beqD, this]
    · have hc : (isTupD x && isTupD y) = false := by
        cases e1 : isTupD x <;> cases e2 : isTupD y <;> simp_all
      have skip : ∀ Q : Fl × Hs → Prop, W (exSs (callF T n) [RS.iff (.app .ne (.cons (.app .isinst (.cons (.var 0) (.cons (.cst (.ty "bool")) .nil))) (.cons (.app .isinst (.cons (.var 1) (.cons (.cst (.ty "bool")) .nil))) .nil))) [.ret (.cst (.bl false))] [], .ret (.an (.app .eq (.cons (.app .isinst (.cons (.var 0) (.cons (.cst (.ty "int")) .nil))) (.cons (.app .isinst (.cons (.var 1) (.cons (.cst (.ty "int")) .nil))) .nil))) (.app .eq (.cons (.var 0) (.cons (.var 1) .nil))))] [some x, some y, none] h) (fun r => W (out r) fun r => r = (D.bl (beqD x y), h)) := fun Q => by
        rw [W_cons]
        simp only [W_var, W_cst, W_app, W_nilE, W_consE, W_evT, W_asg, W_expr, W_ret, W_iff, W_call0, W_some, W_tp, W_tsN, W_tsC, W_nm, List.length_cons, List.length_nil, Nat.reduceAdd, Nat.reduceLT, List.getD_cons_succ, List.getD_cons_zero, List.set_cons_succ, List.set_cons_zero, List.getElem?_cons_succ, List.getElem?_cons_zero, p_add, p_sub, p_mul, p_fdiv, p_mod, p_pow, p_eq, p_ne, p_lt, p_le, p_gt, p_ge, p_neg, p_idx, p_len, pAdd_i, pSub_i, t_bl, t_int, eq_i, ne_i, Kn_nx, Kn_rt, W_nil, W_outR, W_outN, seqA_ref, seqL_ref, lstO_l, seqA_tup, seqA_lst, seqL_lst, idx_tup, idx_lst, len_tup, len_lst, p_isinst, isi_ty hu (t := "bool") (by decide), isi_ty hv (t := "bool") (by decide), u2, v2, ne_b]
        by_cases hk : isBlD x = isBlD y
        · rw [if_neg (by simp [hk]), W_cons]
          simp only [W_var, W_cst, W_app, W_nilE, W_consE, W_evT, W_asg, W_expr, W_ret, W_iff, W_call0, W_some, W_tp, W_tsN, W_tsC, W_nm, List.length_cons, List.length_nil, Nat.reduceAdd, Nat.reduceLT, List.getD_cons_succ, List.getD_cons_zero, List.set_cons_succ, List.set_cons_zero, List.getElem?_cons_succ, List.getElem?_cons_zero, p_add, p_sub, p_mul, p_fdiv, p_mod, p_pow, p_eq, p_ne, p_lt, p_le, p_gt, p_ge, p_neg, p_idx, p_len, pAdd_i, pSub_i, t_bl, t_int, eq_i, ne_i, Kn_nx, Kn_rt, W_nil, W_outR, W_outN, seqA_ref, seqL_ref, lstO_l, seqA_tup, seqA_lst, seqL_lst, idx_tup, idx_lst, len_tup, len_lst, W_an, p_isinst, isi_ty hu (t := "int") (by decide), isi_ty hv (t := "int") (by decide), u3, v3, eq_b]
          by_cases hi : isIntD x = isIntD y
          · rw [if_pos (by simp [hi])]
            have hx : plainD h x = x := by cases x <;> first | rfl | (simp [tp] at tx; done)
            have hy : plainD h y = y := by cases y <;> first | rfl | (simp [tp] at ty; done)
            have hq : pEq h (fun b => b) x y = some (.bl (beqD x y)) := by
              simp only [pEq, hx, hy, tp_good tx lx, tp_good ty ly, Bool.and_self, if_true, eqD_beqD tx ty hb hk hi]
            simp only [W_var, W_cst, W_app, W_nilE, W_consE, W_evT, W_asg, W_expr, W_ret, W_iff, W_call0, W_some, W_tp, W_tsN, W_tsC, W_nm, List.length_cons, List.length_nil, Nat.reduceAdd, Nat.reduceLT, List.getD_cons_succ, List.getD_cons_zero, List.set_cons_succ, List.set_cons_zero, List.getElem?_cons_succ, List.getElem?_cons_zero, p_add, p_sub, p_mul, p_fdiv, p_mod, p_pow, p_eq, p_ne, p_lt, p_le, p_gt, p_ge, p_neg, p_idx, p_len, pAdd_i, pSub_i, t_bl, t_int, eq_i, ne_i, Kn_nx, Kn_rt, W_nil, W_outR, W_outN, seqA_ref, seqL_ref, lstO_l, seqA_tup, seqA_lst, seqL_lst, idx_tup, idx_lst, len_tup, len_lst, hq]
          · rw [if_neg (by simp [hi])]
            have : beqD x y = false := by
              cases e : beqD x y
              · rfl
              · exact absurd (beqD_kind e).2.1 hi
            simp [this, Kn_rt, W_outR, hi, W]
        · rw [if_pos (by simp [hk]), W_cons]
          simp only [W_var, W_cst, W_app, W_nilE, W_consE, W_evT, W_asg, W_expr, W_ret, W_iff, W_call0, W_some, W_tp, W_tsN, W_tsC, W_nm, List.length_cons, List.length_nil, Nat.reduceAdd, Nat.reduceLT, List.getD_cons_succ, List.getD_cons_zero, List.set_cons_succ, List.set_cons_zero, List.getElem?_cons_succ, List.getElem?_cons_zero, p_add, p_sub, p_mul, p_fdiv, p_mod, p_pow, p_eq, p_ne, p_lt, p_le, p_gt, p_ge, p_neg, p_idx, p_len, pAdd_i, pSub_i, t_bl, t_int, eq_i, ne_i, Kn_nx, Kn_rt, W_nil, W_outR, W_outN, seqA_ref, seqL_ref, lstO_l, seqA_tup, seqA_lst, seqL_lst, idx_tup, idx_lst, len_tup, len_lst]
          have : beqD x y = false := by
            cases e : beqD x y
            · rfl
            · exact absurd (beqD_kind e).1 hk
          simp [this]
      cases e1 : isTupD x
      · rw [if_neg (by simp)]
        simp only [W_var, W_cst, W_app, W_nilE, W_consE, W_evT, W_asg, W_expr, W_ret, W_iff, W_call0, W_some, W_tp, W_tsN, W_tsC, W_nm, List.length_cons, List.length_nil, Nat.reduceAdd, Nat.reduceLT, List.getD_cons_succ, List.getD_cons_zero, List.set_cons_succ, List.set_cons_zero, List.getElem?_cons_succ, List.getElem?_cons_zero, p_add, p_sub, p_mul, p_fdiv, p_mod, p_pow, p_eq, p_ne, p_lt, p_le, p_gt, p_ge, p_neg, p_idx, p_len, pAdd_i, pSub_i, t_bl, t_int, eq_i, ne_i, Kn_nx, Kn_rt, W_nil, W_outR, W_outN, seqA_ref, seqL_ref, lstO_l, seqA_tup, seqA_lst, seqL_lst, idx_tup, idx_lst, len_tup, len_lst, Bool.false_eq_true, if_false]
        exact skip fun _ => True
      · rw [if_pos rfl]
        have e2 : isTupD y = false := by simpa [e1] using hc
        simp only [W_var, W_cst, W_app, W_nilE, W_consE, W_evT, W_asg, W_expr, W_ret, W_iff, W_call0, W_some, W_tp, W_tsN, W_tsC, W_nm, List.length_cons, List.length_nil, Nat.reduceAdd, Nat.reduceLT, List.getD_cons_succ, List.getD_cons_zero, List.set_cons_succ, List.set_cons_zero, List.getElem?_cons_succ, List.getElem?_cons_zero, p_add, p_sub, p_mul, p_fdiv, p_mod, p_pow, p_eq, p_ne, p_lt, p_le, p_gt, p_ge, p_neg, p_idx, p_len, pAdd_i, pSub_i, t_bl, t_int, eq_i, ne_i, Kn_nx, Kn_rt, W_nil, W_outR, W_outN, seqA_ref, seqL_ref, lstO_l, seqA_tup, seqA_lst, seqL_lst, idx_tup, idx_lst, len_tup, len_lst, e2, Bool.false_eq_true, if_false]
        exact skip fun _ => True
theorem okBs_ints {b : Nat} {l : List Int} : okBs b (l.map .int) = true := by
  induction l with
  | nil => rfl
  | cons i l ih => simp [okBs, okB, ih]
theorem okBs_mem {b : Nat} : ∀ {ds : List D}, (∀ d ∈ ds, okB b d = true) → okBs b ds = true
  | [], _ => rfl
  | d :: ds, h => by
    have := okBs_mem (ds := ds) fun e he => h e (List.mem_cons_of_mem _ he)
    simp only [okBs, h d (by simp), this, Bool.and_self]
mutual
theorem okB_mono {b c : Nat} (h : b ≤ c) : ∀ d : D, okB b d = true → okB c d = true
  | .non, _ | .bl _, _ | .int _, _ | .str _, _ | .ty _, _ | .fn _, _ => rfl
  | .tup ds, e | .lst ds, e | .scr ds, e => by simp only [okB] at e ⊢; exact okBs_mono h ds e
  | .dct ks vs, e => by simp only [okB] at e ⊢; exact okBs_mono h vs e
  | .ref n, e => by simp only [okB, decide_eq_true_eq] at e ⊢; omega
theorem okBs_mono {b c : Nat} (h : b ≤ c) : ∀ ds : List D, okBs b ds = true → okBs c ds = true
  | [], _ => rfl
  | d :: ds, e => by
    simp only [okBs, Bool.and_eq_true] at e ⊢
    exact ⟨okB_mono h d e.1, okBs_mono h ds e.2⟩
end
theorem Dr.okO {a b : O} {t c : Nat} (d : Dr a b t) (h : 2 ≤ c) : okO c a = true ∧ okO c b = true := by
  obtain ⟨cells, rests, may, u, _, _, rfl, rfl, _, hm⟩ := d.ex
  refine ⟨okBs_ints, ?_⟩
  have h0 : 0 < c := by omega
  simp [Dp.okO, okBs, okB, okBs_ints, okB_mono (Nat.zero_le c) may hm, h0]
mutual
theorem fz_ok {h : Hs} {b : Nat} : ∀ d : D, okB b d = true → fz h b d = some d
  | .non, _ | .bl _, _ | .int _, _ | .str _, _ | .ty _, _ | .fn _, _ => rfl
  | .tup ds, e | .lst ds, e | .scr ds, e => by simp only [okB] at e; simp [fz, fzs_ok ds e]
  | .dct ks vs, e => by simp only [okB] at e; simp [fz, fzs_ok vs e]
  | .ref n, e => by simp only [okB, decide_eq_true_eq] at e; simp [fz, e]
theorem fzs_ok {h : Hs} {b : Nat} : ∀ ds : List D, okBs b ds = true → fzs h b ds = some ds
  | [], _ => rfl
  | d :: ds, e => by
    simp only [okBs, Bool.and_eq_true] at e
    simp [fzs, fz_ok d e.1, fzs_ok ds e.2]
end
mutual
theorem tp_okB : ∀ d : D, tp d = true → okB 0 d = true
  | .non, _ | .bl _, _ | .int _, _ | .str _, _ => rfl
  | .tup ds, h => by simp only [tp, Bool.and_eq_true] at h; simp only [okB]; exact tps_okBs ds h.1
  | .lst _, h | .scr _, h | .dct _ _, h | .ref _, h | .ty _, h | .fn _, h => by simp [tp] at h
theorem tps_okBs : ∀ ds : List D, tps ds = true → okBs 0 ds = true
  | [], _ => rfl
  | d :: ds, h => by
    simp only [tps, Bool.and_eq_true] at h
    simp only [okBs, tp_okB d h.1, tps_okBs ds h.2, Bool.and_self]
end
theorem asc_append {s t : List Nat} (h1 : asc s = true) (h2 : asc t = true) : asc (s ++ t) = true := by
  unfold asc at *
  simp [h1, h2]
theorem cut_sub {α : Type} {xs : List α} {lo hi : Option Int} : (cutD xs lo hi).Sublist xs := by
  unfold cutD
  exact (List.take_sublist _ _).trans (List.drop_sublist _ _)
theorem asc_cut {s : List Nat} {lo hi : Option Int} (h : asc s = true) : asc (cutD s lo hi) = true := by
  unfold asc at *
  rw [List.all_eq_true] at *
  exact fun x hx => h x (cut_sub.subset hx)
theorem slc_s {h : Hs} {s : List Nat} {lo hi : Option Int} (hl : s.length ≤ 1000000) : pSlc h (.str s) lo hi = some (.str (cutD s lo hi)) := by
  simp [pSlc, big, hl]
theorem pAdd_s {h : Hs} {s t : List Nat} (hl : s.length + t.length ≤ 1000000) : pAdd h (.str s) (.str t) = some (.str (s ++ t)) := by
  simp [pAdd, big, hl]
theorem len_s {h : Hs} {s : List Nat} (hl : s.length ≤ 1000000) : pLen h (.str s) = some (.int s.length) := by
  simp [pLen, big, hl]
theorem joinT_one {cs : List Nat} : joinT [] (cs.map fun c => [c]) = cs := by
  induction cs with
  | nil => rfl
  | cons c cs ih =>
    cases cs with
    | nil => rfl
    | cons e cs => simp only [List.map_cons, joinT, List.nil_append] at ih ⊢; rw [ih]; rfl
theorem strsD_map {ss : List (List Nat)} : strsD (ss.map .str) = some ss := by
  induction ss with
  | nil => rfl
  | cons s ss ih => simp [strsD, ih]
theorem join_one {h : Hs} {cs : List Nat} (hl : cs.length ≤ 1000) : pJoin h (.str []) (.lst (cs.map fun c => .str [c])) = some (.str cs) := by
  have e : (cs.map fun c => D.str [c]) = (cs.map fun c => [c]).map .str := by simp [Function.comp_def]
  simp only [pJoin, seqA, seqL, Option.bind_some]
  rw [e, strsD_map]
  simp [hl, joinT_one]
end Dp

set_option Elab.async false
set_option linter.all false
set_option autoImplicit false
set_option maxRecDepth 100000
set_option maxHeartbeats 4000000
namespace Dp
namespace LW
open PySem L2 PySem.Spec PyProof.Rows
/-- held -/
def b0 : List RS := [.ret (.app .max2 (.cons (.app .neg (.cons (.cst (.int 999)) .nil)) (.cons (.app .min2 (.cons (.cst (.int 999)) (.cons (.var 0) .nil))) .nil)))]
def d0 : Fd := ⟨"held", 2, ["number"], ["number"], b0⟩
/-- worth -/
def b1 : List RS := [.asg (.nm 4) (.app .idx (.cons (.var 0) (.cons (.cst (.int 0)) .nil))), .iff (.app .eq (.cons (.var 4) (.cons (.cst (.str [110, 117, 109, 98, 101, 114])) .nil))) [.ret (.app .idx (.cons (.var 0) (.cons (.cst (.int 1)) .nil)))] [], .iff (.app .eq (.cons (.var 4) (.cons (.cst (.str [99, 101, 108, 108])) .nil))) [.ret (.app .idx (.cons (.var 1) (.cons (.app .idx (.cons (.var 0) (.cons (.cst (.int 1)) .nil))) .nil)))] [], .iff (.app .eq (.cons (.var 4) (.cons (.cst (.str [118, 97, 108, 117, 101])) .nil))) [.ret (.app .idx (.cons (.var 2) (.cons (.app .idx (.cons (.var 0) (.cons (.cst (.int 1)) .nil))) .nil)))] [], .iff (.app .eq (.cons (.var 4) (.cons (.cst (.str [110, 111, 119])) .nil))) [.ret (.call none 0 (.cons (.var 3) .nil))] [], .asg (.nm 5) (.call none 1 (.cons (.app .idx (.cons (.var 0) (.cons (.cst (.int 1)) .nil))) (.cons (.var 1) (.cons (.var 2) (.cons (.var 3) .nil))))), .asg (.nm 6) (.call none 1 (.cons (.app .idx (.cons (.var 0) (.cons (.cst (.int 2)) .nil))) (.cons (.var 1) (.cons (.var 2) (.cons (.var 3) .nil))))), .iff (.app .eq (.cons (.var 4) (.cons (.cst (.str [97, 100, 100])) .nil))) [.ret (.call none 0 (.cons (.app .add (.cons (.var 5) (.cons (.var 6) .nil))) .nil))] [], .iff (.app .eq (.cons (.var 4) (.cons (.cst (.str [115, 117, 98])) .nil))) [.ret (.call none 0 (.cons (.app .sub (.cons (.var 5) (.cons (.var 6) .nil))) .nil))] [], .ret (.ite (.app .eq (.cons (.var 4) (.cons (.cst (.str [108, 101, 97, 115, 116])) .nil))) (.app .min2 (.cons (.var 5) (.cons (.var 6) .nil))) (.app .max2 (.cons (.var 5) (.cons (.var 6) .nil))))]
def d1 : Fd := ⟨"worth", 3, ["expression", "cells", "values", "now", "word", "one", "other"], ["expression", "cells", "values", "now"], b1⟩
/-- _law_draws -/
def b2 : List RS := [.asg (.nm 2) (.app .add (.cons (.app .toList (.cons (.app (.slc false true) (.cons (.var 0) (.cons (.cst (.int 63)) .nil))) .nil)) (.cons (.app .mul (.cons (.app .lst (.cons (.cst (.int 0)) .nil)) (.cons (.app .toInt (.cons (.app .eq (.cons (.app .len (.cons (.var 0) .nil)) (.cons (.cst (.int 0)) .nil))) .nil)) .nil))) .nil))), .ret (.mk (.app .lst (.cons (.var 2) (.cons (.cst (.int 0)) (.cons (.mk (.comp [3] (.app .mul (.cons (.var 3) (.cons (.app .toInt (.cons (.app .ge (.cons (.var 3) (.cons (.app .pow (.cons (.cst (.int 10)) (.cons (.cst (.int 18)) .nil))) .nil))) .nil)) .nil))) (.nm 3) .seq (.cons (.var 2) .nil) .nil)) (.cons (.var 1) .nil))))))]
def d2 : Fd := ⟨"_law_draws", 5, ["_law_script", "_law_may", "_law_cells", "_law_cell"], ["_law_script", "_law_may"], b2⟩
/-- _law_next -/
def b3 : List RS := [.asg (.tp [.nm 5, .nm 6, .nm 7, .nm 8]) (.var 0), .asg (.nm 2) (.app .mod (.cons (.var 6) (.cons (.app .len (.cons (.var 5) .nil)) .nil))), .setI (.var 0) (.cst (.int 1)) (.app .add (.cons (.var 6) (.cons (.cst (.int 1)) .nil))), .iff (.app .gt (.cons (.app .idx (.cons (.var 7) (.cons (.var 2) .nil))) (.cons (.cst (.int 0)) .nil))) [.asg (.nm 9) (.app .mod (.cons (.app .idx (.cons (.var 7) (.cons (.var 2) .nil))) (.cons (.var 1) .nil))), .setI (.var 7) (.var 2) (.app .fdiv (.cons (.app .idx (.cons (.var 7) (.cons (.var 2) .nil))) (.cons (.var 1) .nil))), .ret (.var 9)] [], .asg (.nm 3) (.app .mod (.cons (.app .pow (.cons (.app .add (.cons (.app .add (.cons (.app .mod (.cons (.app .idx (.cons (.var 5) (.cons (.var 2) .nil))) (.cons (.cst (.int 2147483647)) .nil))) (.cons (.app .mul (.cons (.cst (.int 69621)) (.cons (.var 6) .nil))) .nil))) (.cons (.cst (.int 30269)) .nil))) (.cons (.cst (.int 3)) .nil))) (.cons (.cst (.int 2147483629)) .nil))), .asg (.nm 4) (.app .mod (.cons (.app .pow (.cons (.app .add (.cons (.app .add (.cons (.var 3) (.cons (.app .mul (.cons (.app .mul (.cons (.cst (.int 6007)) (.cons (.var 6) .nil))) (.cons (.var 6) .nil))) .nil))) (.cons (.cst (.int 17)) .nil))) (.cons (.cst (.int 3)) .nil))) (.cons (.cst (.int 2147483587)) .nil))), .ret (.app .mod (.cons (.app .mod (.cons (.app .add (.cons (.app .mul (.cons (.var 4) (.cons (.cst (.int 2147483423)) .nil))) (.cons (.var 3) .nil))) (.cons (.cst (.int 4611686018427387847)) .nil))) (.cons (.var 1) .nil)))]
def d3 : Fd := ⟨"_law_next", 6, ["_law_drawn", "_law_many", "_law_at", "_law_mixed", "_law_more", "_law_cells", "_law_turns", "_law_rests", "_law_may", "_law_digit"], ["_law_drawn", "_law_many"], b3⟩
/-- _law_alike -/
def b4 : List RS := [.iff (.an (.app .isinst (.cons (.var 0) (.cons (.cst (.ty "tuple")) .nil))) (.app .isinst (.cons (.var 1) (.cons (.cst (.ty "tuple")) .nil)))) [.iff (.app .ne (.cons (.app .len (.cons (.var 0) .nil)) (.cons (.app .len (.cons (.var 1) .nil)) .nil))) [.ret (.cst (.bl false))] [], .ret (.app .eq (.cons (.comp [2] (.var 2) (.nm 2) .rng1 (.cons (.app .len (.cons (.var 0) .nil)) .nil) (.cons (.no (.call none 4 (.cons (.app .idx (.cons (.var 0) (.cons (.var 2) .nil))) (.cons (.app .idx (.cons (.var 1) (.cons (.var 2) .nil))) .nil)))) .nil)) (.cons (.app .lst .nil) .nil)))] [], .iff (.app .ne (.cons (.app .isinst (.cons (.var 0) (.cons (.cst (.ty "bool")) .nil))) (.cons (.app .isinst (.cons (.var 1) (.cons (.cst (.ty "bool")) .nil))) .nil))) [.ret (.cst (.bl false))] [], .ret (.an (.app .eq (.cons (.app .isinst (.cons (.var 0) (.cons (.cst (.ty "int")) .nil))) (.cons (.app .isinst (.cons (.var 1) (.cons (.cst (.ty "int")) .nil))) .nil))) (.app .eq (.cons (.var 0) (.cons (.var 1) .nil))))]
def d4 : Fd := ⟨"_law_alike", 7, ["_law_one", "_law_other", "_law_k"], ["_law_one", "_law_other"], b4⟩
/-- _law_words -/
def b5 : List RS := [.asg (.nm 2) (.mk (.app .toList (.cons (.cst (.str [97, 98, 99, 100, 101, 102, 103, 104, 105, 106, 107, 108, 109, 110, 111, 112, 113, 114, 115, 116, 117, 118, 119, 120, 121, 122])) .nil))), .asg (.nm 3) (.app .join (.cons (.cst (.str [])) (.cons (.comp [6] (.app .idx (.cons (.var 2) (.cons (.call none 3 (.cons (.var 0) (.cons (.cst (.int 26)) .nil))) .nil))) (.nm 6) .rng1 (.cons (.call none 3 (.cons (.var 0) (.cons (.cst (.int 8)) .nil))) .nil) .nil) .nil))), .asg (.nm 4) (.call none 3 (.cons (.var 0) (.cons (.app .add (.cons (.app .len (.cons (.var 3) .nil)) (.cons (.cst (.int 1)) .nil))) .nil))), .asg (.nm 5) (.comp [6] (.app .add (.cons (.app .add (.cons (.app (.slc false true) (.cons (.var 3) (.cons (.var 4) .nil))) (.cons (.eff .popI (.var 2) (.cons (.call none 3 (.cons (.var 0) (.cons (.app .len (.cons (.var 2) .nil)) .nil))) .nil)) .nil))) (.cons (.app (.slc true false) (.cons (.var 3) (.cons (.var 4) .nil))) .nil))) (.nm 6) .rng1 (.cons (.var 1) .nil) .nil), .ret (.comp [7] (.app .add (.cons (.var 7) (.cons (.app .mul (.cons (.cst (.str [115])) (.cons (.app .toInt (.cons (.app .eq (.cons (.var 7) (.cons (.cst (.str [98, 101, 97, 116])) .nil))) .nil)) .nil))) .nil))) (.nm 7) .seq (.cons (.var 5) .nil) .nil)]
def d5 : Fd := ⟨"_law_words", 8, ["_law_drawn", "_law_many", "_law_left", "_law_stem", "_law_at", "_law_found_here", "_law_k", "_law_name"], ["_law_drawn", "_law_many"], b5⟩
/-- _law_expression -/
def b6 : List RS := [.asg (.nm 4) (.call none 3 (.cons (.var 0) (.cons (.cst (.int 10)) .nil))), .iff (.an (.app .lt (.cons (.var 4) (.cons (.cst (.int 2)) .nil))) (.app .lt (.cons (.var 3) (.cons (.cst (.int 2)) .nil)))) [.asg (.nm 5) (.call none 6 (.cons (.var 0) (.cons (.var 1) (.cons (.var 2) (.cons (.app .add (.cons (.var 3) (.cons (.cst (.int 1)) .nil))) .nil))))), .asg (.nm 6) (.app .idx (.cons (.app .lst (.cons (.cst (.str [97, 100, 100])) (.cons (.cst (.str [115, 117, 98])) (.cons (.cst (.str [108, 101, 97, 115, 116])) (.cons (.cst (.str [109, 111, 115, 116])) .nil))))) (.cons (.call none 3 (.cons (.var 0) (.cons (.cst (.int 4)) .nil))) .nil))), .ret (.app .tup (.cons (.var 6) (.cons (.var 5) (.cons (.call none 6 (.cons (.var 0) (.cons (.var 1) (.cons (.var 2) (.cons (.app .add (.cons (.var 3) (.cons (.cst (.int 1)) .nil))) .nil))))) .nil))))] [], .iff (.an (.app .lt (.cons (.var 4) (.cons (.cst (.int 6)) .nil))) (.app .ne (.cons (.var 1) (.cons (.app .lst .nil) .nil)))) [.ret (.app .tup (.cons (.cst (.str [99, 101, 108, 108])) (.cons (.app .idx (.cons (.var 1) (.cons (.call none 3 (.cons (.var 0) (.cons (.app .len (.cons (.var 1) .nil)) .nil))) .nil))) .nil)))] [], .iff (.an (.app .lt (.cons (.var 4) (.cons (.cst (.int 8)) .nil))) (.app .gt (.cons (.var 2) (.cons (.cst (.int 0)) .nil)))) [.ret (.app .tup (.cons (.cst (.str [118, 97, 108, 117, 101])) (.cons (.call none 3 (.cons (.var 0) (.cons (.var 2) .nil))) .nil)))] [], .iff (.app .eq (.cons (.var 4) (.cons (.cst (.int 8)) .nil))) [.ret (.app .tup (.cons (.cst (.str [110, 111, 119])) .nil))] [], .ret (.app .tup (.cons (.cst (.str [110, 117, 109, 98, 101, 114])) (.cons (.app .idx (.cons (.app .lst (.cons (.call none 3 (.cons (.var 0) (.cons (.cst (.int 4)) .nil))) (.cons (.app .sub (.cons (.call none 3 (.cons (.var 0) (.cons (.cst (.int 12)) .nil))) (.cons (.cst (.int 3)) .nil))) (.cons (.app .sub (.cons (.cst (.int 999)) (.cons (.app .mul (.cons (.cst (.int 1998)) (.cons (.call none 3 (.cons (.var 0) (.cons (.cst (.int 2)) .nil))) .nil))) .nil))) .nil)))) (.cons (.app .mod (.cons (.var 4) (.cons (.cst (.int 3)) .nil))) .nil))) .nil)))]
def d6 : Fd := ⟨"_law_expression", 9, ["_law_drawn", "_law_cells", "_law_values", "_law_deep", "_law_way", "_law_one", "_law_word"], ["_law_drawn", "_law_cells", "_law_values", "_law_deep"], b6⟩
/-- _law_worth -/
def b7 : List RS := [.asg (.nm 1) (.call none 3 (.cons (.var 0) (.cons (.cst (.int 5)) .nil))), .iff (.app .lt (.cons (.var 1) (.cons (.cst (.int 2)) .nil))) [.ret (.app .mul (.cons (.app .sub (.cons (.cst (.int 999)) (.cons (.call none 3 (.cons (.var 0) (.cons (.cst (.int 3)) .nil))) .nil))) (.cons (.app .sub (.cons (.cst (.int 1)) (.cons (.app .mul (.cons (.cst (.int 2)) (.cons (.var 1) .nil))) .nil))) .nil)))] [], .ret (.app .idx (.cons (.app .lst (.cons (.app .sub (.cons (.call none 3 (.cons (.var 0) (.cons (.cst (.int 1999)) .nil))) (.cons (.cst (.int 999)) .nil))) (.cons (.app .sub (.cons (.call none 3 (.cons (.var 0) (.cons (.cst (.int 5)) .nil))) (.cons (.cst (.int 2)) .nil))) (.cons (.call none 3 (.cons (.var 0) (.cons (.cst (.int 100)) .nil))) .nil)))) (.cons (.app .sub (.cons (.var 1) (.cons (.cst (.int 2)) .nil))) .nil)))]
def d7 : Fd := ⟨"_law_worth", 10, ["_law_drawn", "_law_way"], ["_law_drawn"], b7⟩
/-- _law_leaves_up -/
def b8 : List RS := [.asg (.nm 4) (.app .lst (.cons (.var 0) .nil)), .asg (.nm 5) (.cst (.int 0)), .while (.app .lt (.cons (.var 5) (.cons (.app .len (.cons (.var 4) .nil)) .nil))) [.asg (.nm 4) (.app .add (.cons (.var 4) (.cons (.comp [9] (.var 9) (.nm 9) .seq (.cons (.app (.slc true false) (.cons (.app .idx (.cons (.var 4) (.cons (.var 5) .nil))) (.cons (.cst (.int 1)) .nil))) .nil) (.cons (.app .isinst (.cons (.var 9) (.cons (.cst (.ty "tuple")) .nil))) .nil)) .nil))), .asg (.nm 5) (.app .add (.cons (.var 5) (.cons (.cst (.int 1)) .nil)))], .asg (.nm 6) (.mk (.app .lst .nil)), .for (.nm 7) .seq (.cons (.app .rev (.cons (.var 4) .nil)) .nil) [.asg (.nm 8) (.comp [9] (.call none 9 (.cons (.var 6) (.cons (.var 9) .nil))) (.nm 9) .seq (.cons (.app (.slc true false) (.cons (.var 7) (.cons (.cst (.int 1)) .nil))) .nil) .nil), .expr (.eff .append (.var 6) (.cons (.app .tup (.cons (.var 7) (.cons (.call none 10 (.cons (.var 7) (.cons (.var 8) (.cons (.var 1) (.cons (.var 2) (.cons (.var 3) .nil)))))) .nil))) .nil))], .ret (.app .idx (.cons (.app .idx (.cons (.var 6) (.cons (.app .neg (.cons (.cst (.int 1)) .nil)) .nil))) (.cons (.cst (.int 1)) .nil)))]
def d8 : Fd := ⟨"_law_leaves_up", 11, ["_law_expression_here", "_law_cells", "_law_values", "_law_now", "_law_words_here", "_law_at", "_law_found_here", "_law_one", "_law_parts", "_law_part"], ["_law_expression_here", "_law_cells", "_law_values", "_law_now"], b8⟩
/-- _law_found -/
def b9 : List RS := [.for (.tp [.nm 2, .nm 3]) .seq (.cons (.var 0) .nil) [.iff (.an (.app .isinst (.cons (.var 1) (.cons (.cst (.ty "tuple")) .nil))) (.call none 4 (.cons (.var 2) (.cons (.var 1) .nil)))) [.ret (.var 3)] []], .ret (.var 1)]
def d9 : Fd := ⟨"_law_found", 12, ["_law_found_here", "_law_part", "_law_what", "_law_had"], ["_law_found_here", "_law_part"], b9⟩
/-- _law_step -/
def b10 : List RS := [.iff (.app .eq (.cons (.app .idx (.cons (.var 0) (.cons (.cst (.int 0)) .nil))) (.cons (.cst (.str [110, 117, 109, 98, 101, 114])) .nil))) [.ret (.app .idx (.cons (.var 0) (.cons (.cst (.int 1)) .nil)))] [], .iff (.app .eq (.cons (.app .idx (.cons (.var 0) (.cons (.cst (.int 0)) .nil))) (.cons (.cst (.str [99, 101, 108, 108])) .nil))) [.ret (.app .idx (.cons (.var 2) (.cons (.app .idx (.cons (.var 0) (.cons (.cst (.int 1)) .nil))) .nil)))] [], .iff (.app .eq (.cons (.app .idx (.cons (.var 0) (.cons (.cst (.int 0)) .nil))) (.cons (.cst (.str [118, 97, 108, 117, 101])) .nil))) [.ret (.app .idx (.cons (.var 3) (.cons (.app .idx (.cons (.var 0) (.cons (.cst (.int 1)) .nil))) .nil)))] [], .iff (.app .eq (.cons (.app .idx (.cons (.var 0) (.cons (.cst (.int 0)) .nil))) (.cons (.cst (.str [110, 111, 119])) .nil))) [.ret (.app .idx (.cons (.app .sorted (.cons (.app .lst (.cons (.app .neg (.cons (.cst (.int 999)) .nil)) (.cons (.var 4) (.cons (.cst (.int 999)) .nil)))) .nil)) (.cons (.cst (.int 1)) .nil)))] [], .iff (.or (.app .eq (.cons (.app .idx (.cons (.var 0) (.cons (.cst (.int 0)) .nil))) (.cons (.cst (.str [97, 100, 100])) .nil))) (.app .eq (.cons (.app .idx (.cons (.var 0) (.cons (.cst (.int 0)) .nil))) (.cons (.cst (.str [115, 117, 98])) .nil)))) [.asg (.nm 5) (.app .add (.cons (.app .idx (.cons (.var 1) (.cons (.cst (.int 0)) .nil))) (.cons (.app .mul (.cons (.app .idx (.cons (.var 1) (.cons (.cst (.int 1)) .nil))) (.cons (.app .sub (.cons (.cst (.int 1)) (.cons (.app .mul (.cons (.cst (.int 2)) (.cons (.app .toInt (.cons (.app .eq (.cons (.app .idx (.cons (.var 0) (.cons (.cst (.int 0)) .nil))) (.cons (.cst (.str [115, 117, 98])) .nil))) .nil)) .nil))) .nil))) .nil))) .nil))), .ret (.app .idx (.cons (.app .sorted (.cons (.app .lst (.cons (.app .neg (.cons (.cst (.int 999)) .nil)) (.cons (.var 5) (.cons (.cst (.int 999)) .nil)))) .nil)) (.cons (.cst (.int 1)) .nil)))] [], .ret (.app .idx (.cons (.app .sorted (.cons (.var 1) .nil)) (.cons (.app .toInt (.cons (.app .eq (.cons (.app .idx (.cons (.var 0) (.cons (.cst (.int 0)) .nil))) (.cons (.cst (.str [109, 111, 115, 116])) .nil))) .nil)) .nil)))]
def d10 : Fd := ⟨"_law_step", 13, ["_law_one", "_law_parts", "_law_cells", "_law_values", "_law_now", "_law_total"], ["_law_one", "_law_parts", "_law_cells", "_law_values", "_law_now"], b10⟩
/-- law -/
def b11 : List RS := [.asg (.nm 1) (.call none 2 (.cons (.var 0) (.cons (.cst (.int 0)) .nil))), .asg (.nm 2) (.call (some 2) 5 (.cons (.var 1) (.cons (.app .add (.cons (.cst (.int 1)) (.cons (.call none 3 (.cons (.var 1) (.cons (.cst (.int 4)) .nil))) .nil))) .nil))), .asg (.nm 3) (.app .toTuple (.cons (.comp [14] (.call none 7 (.cons (.var 1) .nil)) (.nm 14) .rng1 (.cons (.call none 3 (.cons (.var 1) (.cons (.cst (.int 3)) .nil))) .nil) .nil) .nil)), .asg (.nm 4) (.mk .edct), .for (.nm 5) .seq (.cons (.var 2) .nil) [.setI (.var 4) (.var 5) (.call none 7 (.cons (.var 1) .nil))], .for (.nm 6) .rng1 (.cons (.cst (.int 8)) .nil) [.asg (.nm 7) (.call none 6 (.cons (.var 1) (.cons (.var 2) (.cons (.app .len (.cons (.var 3) .nil)) (.cons (.cst (.int 0)) .nil))))), .asg (.nm 8) (.app .idx (.cons (.app .lst (.cons (.call none 3 (.cons (.var 1) (.cons (.cst (.int 60)) .nil))) (.cons (.app .sub (.cons (.call none 3 (.cons (.var 1) (.cons (.cst (.int 2500)) .nil))) (.cons (.cst (.int 999)) .nil))) .nil))) (.cons (.call none 3 (.cons (.var 1) (.cons (.cst (.int 2)) .nil))) .nil))), .asg (.nm 9) (.call (some 3) 8 (.cons (.var 7) (.cons (.var 4) (.cons (.var 3) (.cons (.var 8) .nil))))), .iff (.no (.call none 4 (.cons (.call none 1 (.cons (.var 7) (.cons (.var 4) (.cons (.var 3) (.cons (.var 8) .nil))))) (.cons (.var 9) .nil)))) [.ret (.cst (.bl false))] [], .asg (.nm 10) (.comp [14] (.call none 6 (.cons (.var 1) (.cons (.var 2) (.cons (.app .len (.cons (.var 3) .nil)) (.cons (.cst (.int 1)) .nil))))) (.nm 14) .rng1 (.cons (.cst (.int 2)) .nil) .nil), .asg (.nm 11) (.comp [15] (.call none 1 (.cons (.var 15) (.cons (.var 4) (.cons (.var 3) (.cons (.var 8) .nil))))) (.nm 15) .seq (.cons (.var 10) .nil) .nil), .for (.tp [.nm 12, .nm 13]) .seq (.cons (.app .lst (.cons (.app .tup (.cons (.cst (.str [108, 101, 97, 115, 116])) (.cons (.app .minL (.cons (.var 11) .nil)) .nil))) (.cons (.app .tup (.cons (.cst (.str [109, 111, 115, 116])) (.cons (.app .maxL (.cons (.var 11) .nil)) .nil))) .nil))) .nil) [.iff (.no (.call none 4 (.cons (.call none 1 (.cons (.app .tup (.cons (.var 12) (.cons (.app .idx (.cons (.var 10) (.cons (.cst (.int 0)) .nil))) (.cons (.app .idx (.cons (.var 10) (.cons (.cst (.int 1)) .nil))) .nil)))) (.cons (.var 4) (.cons (.var 3) (.cons (.var 8) .nil))))) (.cons (.var 13) .nil)))) [.ret (.cst (.bl false))] []], .iff (.no (.call none 4 (.cons (.call none 1 (.cons (.app .tup (.cons (.cst (.str [115, 117, 98])) (.cons (.app .idx (.cons (.var 10) (.cons (.cst (.int 0)) .nil))) (.cons (.app .idx (.cons (.var 10) (.cons (.cst (.int 0)) .nil))) .nil)))) (.cons (.var 4) (.cons (.var 3) (.cons (.var 8) .nil))))) (.cons (.cst (.int 0)) .nil)))) [.ret (.cst (.bl false))] []], .ret (.cst (.bl true))]
def d11 : Fd := ⟨"law", 14, ["_law_script", "_law_drawn", "_law_names", "_law_values", "_law_cells", "_law_name", "_law_turn", "_law_one", "_law_now", "_law_due", "_law_some", "_law_pair", "_law_word", "_law_told", "_law_k", "_law_other"], ["_law_script"], b11⟩
def ds : List Fd := [d0, d1, d2, d3, d4, d5, d6, d7, d8, d9, d10, d11]
def cs : List (Str × Int) := [("HELD", 999)]
end LW
end Dp

set_option Elab.async false
set_option linter.all false
set_option autoImplicit false
set_option maxRecDepth 100000
set_option maxHeartbeats 4000000
namespace Dp
namespace LW
abbrev T : Tab := tabF ds
def sNum : List Nat := [110, 117, 109, 98, 101, 114]
def sCell : List Nat := [99, 101, 108, 108]
def sVal : List Nat := [118, 97, 108, 117, 101]
def sNow : List Nat := [110, 111, 119]
def opS : Nat → List Nat
  | 0 => [97, 100, 100]
  | 1 => [115, 117, 98]
  | 2 => [108, 101, 97, 115, 116]
  | _ => [109, 111, 115, 116]
inductive Ex where
  | num (i : Int) | cell (s : List Nat) | val (j : Nat) | now | op (o : Nat) (a b : Ex)
def Ex.d : Ex → D
  | .num i => .tup [.str sNum, .int i]
  | .cell s => .tup [.str sCell, .str s]
  | .val j => .tup [.str sVal, .int j]
  | .now => .tup [.str sNow]
  | .op o a b => .tup [.str (opS o), a.d, b.d]
def Ex.ht : Ex → Nat
  | .op _ a b => max a.ht b.ht + 1
  | _ => 0
def Ex.sz : Ex → Nat
  | .op _ a b => a.sz + b.sz + 1
  | _ => 1
def held (i : Int) : Int := if (if i < 999 then i else 999) > -999 then (if i < 999 then i else 999) else -999
structure Wo where
  ks : List Ky
  vs : List D
  us : List Int
  now : Int
def Ex.Ok (w : Wo) : Ex → Prop
  | .num _ => True
  | .cell s => asc s = true ∧ ∃ i, lookK (.inr s) w.ks w.vs = some (.int i)
  | .val j => j < w.us.length
  | .now => True
  | .op o a b => o < 4 ∧ a.Ok w ∧ b.Ok w
def opV : Nat → Int → Int → Int
  | 0, x, y => held (x + y)
  | 1, x, y => held (x - y)
  | 2, x, y => if y < x then y else x
  | _, x, y => if y > x then y else x
def Ex.wv (w : Wo) : Ex → Int
  | .num i => i
  | .cell s => (match lookK (.inr s) w.ks w.vs with | some (.int i) => i | _ => 0)
  | .val j => w.us.getD j 0
  | .now => held w.now
  | .op o a b => opV o (a.wv w) (b.wv w)
theorem held_ok {n : Nat} {i : Int} {h : Hs} : callF T (n + 1) 0 [.int i] h = some (.int (held i), h) := by
  refine eq_of_W ?_
  rw [W_call (F := ⟨1, 1, b0⟩) rfl rfl]
  simp only [b0, enter, List.map, List.length, List.replicate, List.cons_append, List.nil_append, Nat.reduceSub]
  rw [W_cons]
  simp only [W_var, W_cst, W_app, W_nilE, W_consE, W_evT, W_asg, W_expr, W_ret, W_iff, W_call0, W_some, W_tp, W_tsN, W_tsC, W_nm, List.length_cons, List.length_nil, Nat.reduceAdd, Nat.reduceLT, List.getD_cons_succ, List.getD_cons_zero, List.set_cons_succ, List.set_cons_zero, List.getElem?_cons_succ, List.getElem?_cons_zero, p_add, p_sub, p_mul, p_fdiv, p_mod, p_pow, p_eq, p_ne, p_lt, p_le, p_gt, p_ge, p_neg, p_idx, p_len, pAdd_i, pSub_i, t_bl, t_int, eq_i, ne_i, Kn_nx, Kn_rt, W_nil, W_outR, W_outN, seqA_ref, seqL_ref, lstO_l, seqA_tup, seqA_lst, seqL_lst, idx_tup, idx_lst, len_tup, len_lst, p_min2, p_max2, p_toIntB, p_toIntI, p_slcTF, p_slcFT, p_isinst, W_an, W_or, W_no, W_itee, W_setI]
  rfl
theorem at0 {α : Type} {x : α} {xs : List α} : atD (x :: xs) 0 = some x := atD_nat (i := 0) rfl
theorem at1 {α : Type} {x y : α} {xs : List α} : atD (x :: y :: xs) 1 = some y := atD_nat (i := 1) rfl
theorem at2 {α : Type} {x y z : α} {xs : List α} : atD (x :: y :: z :: xs) 2 = some z := atD_nat (i := 2) rfl
theorem worth_ok (w : Wo) {h : Hs} {c : Nat} (hc : h[c]? = some (.dct w.ks w.vs)) : ∀ (e : Ex), e.Ok w → ∀ n, e.ht + 1 < n → callF T n 1 [e.d, .ref c, .tup (w.us.map .int), .int w.now] h = some (.int (e.wv w), h)
  | e, ok, 0, l => absurd l (Nat.not_lt_zero _)
  | e, ok, 1, l => by omega
  | .num i, ok, n + 2, l => by
    refine eq_of_W ?_
    rw [W_call (F := ⟨4, 7, b1⟩) rfl rfl]
    simp only [b1, Ex.d, enter, List.map, List.length, List.replicate, List.cons_append, List.nil_append, Nat.reduceSub]
    rw [W_cons]
    simp only [W_var, W_cst, W_app, W_nilE, W_consE, W_evT, W_asg, W_expr, W_ret, W_iff, W_call0, W_some, W_tp, W_tsN, W_tsC, W_nm, List.length_cons, List.length_nil, Nat.reduceAdd, Nat.reduceLT, List.getD_cons_succ, List.getD_cons_zero, List.set_cons_succ, List.set_cons_zero, List.getElem?_cons_succ, List.getElem?_cons_zero, p_add, p_sub, p_mul, p_fdiv, p_mod, p_pow, p_eq, p_ne, p_lt, p_le, p_gt, p_ge, p_neg, p_idx, p_len, pAdd_i, pSub_i, t_bl, t_int, eq_i, ne_i, Kn_nx, Kn_rt, W_nil, W_outR, W_outN, seqA_ref, seqL_ref, lstO_l, seqA_tup, seqA_lst, seqL_lst, idx_tup, idx_lst, len_tup, len_lst, p_min2, p_max2, p_toIntB, p_toIntI, p_slcTF, p_slcFT, p_isinst, W_an, W_or, W_no, W_itee, W_setI, at0]
    rw [W_cons]
    simp only [W_var, W_cst, W_app, W_nilE, W_consE, W_evT, W_asg, W_expr, W_ret, W_iff, W_call0, W_some, W_tp, W_tsN, W_tsC, W_nm, List.length_cons, List.length_nil, Nat.reduceAdd, Nat.reduceLT, List.getD_cons_succ, List.getD_cons_zero, List.set_cons_succ, List.set_cons_zero, List.getElem?_cons_succ, List.getElem?_cons_zero, p_add, p_sub, p_mul, p_fdiv, p_mod, p_pow, p_eq, p_ne, p_lt, p_le, p_gt, p_ge, p_neg, p_idx, p_len, pAdd_i, pSub_i, t_bl, t_int, eq_i, ne_i, Kn_nx, Kn_rt, W_nil, W_outR, W_outN, seqA_ref, seqL_ref, lstO_l, seqA_tup, seqA_lst, seqL_lst, idx_tup, idx_lst, len_tup, len_lst, p_min2, p_max2, p_toIntB, p_toIntI, p_slcTF, p_slcFT, p_isinst, W_an, W_or, W_no, W_itee, W_setI, eq_s (show asc sNum = true by decide) (show asc [110, 117, 109, 98, 101, 114] = true by decide), show (sNum == [110, 117, 109, 98, 101, 114]) = true by decide, if_true]
    rw [W_cons]
    simp only [W_var, W_cst, W_app, W_nilE, W_consE, W_evT, W_asg, W_expr, W_ret, W_iff, W_call0, W_some, W_tp, W_tsN, W_tsC, W_nm, List.length_cons, List.length_nil, Nat.reduceAdd, Nat.reduceLT, List.getD_cons_succ, List.getD_cons_zero, List.set_cons_succ, List.set_cons_zero, List.getElem?_cons_succ, List.getElem?_cons_zero, p_add, p_sub, p_mul, p_fdiv, p_mod, p_pow, p_eq, p_ne, p_lt, p_le, p_gt, p_ge, p_neg, p_idx, p_len, pAdd_i, pSub_i, t_bl, t_int, eq_i, ne_i, Kn_nx, Kn_rt, W_nil, W_outR, W_outN, seqA_ref, seqL_ref, lstO_l, seqA_tup, seqA_lst, seqL_lst, idx_tup, idx_lst, len_tup, len_lst, p_min2, p_max2, p_toIntB, p_toIntI, p_slcTF, p_slcFT, p_isinst, W_an, W_or, W_no, W_itee, W_setI, at1, Ex.wv]
  | .cell s, ok, n + 2, l => by
    obtain ⟨ha, i, hi⟩ := ok
    refine eq_of_W ?_
    rw [W_call (F := ⟨4, 7, b1⟩) rfl rfl]
    simp only [b1, Ex.d, enter, List.map, List.length, List.replicate, List.cons_append, List.nil_append, Nat.reduceSub]
    rw [W_cons]
    simp only [W_var, W_cst, W_app, W_nilE, W_consE, W_evT, W_asg, W_expr, W_ret, W_iff, W_call0, W_some, W_tp, W_tsN, W_tsC, W_nm, List.length_cons, List.length_nil, Nat.reduceAdd, Nat.reduceLT, List.getD_cons_succ, List.getD_cons_zero, List.set_cons_succ, List.set_cons_zero, List.getElem?_cons_succ, List.getElem?_cons_zero, p_add, p_sub, p_mul, p_fdiv, p_mod, p_pow, p_eq, p_ne, p_lt, p_le, p_gt, p_ge, p_neg, p_idx, p_len, pAdd_i, pSub_i, t_bl, t_int, eq_i, ne_i, Kn_nx, Kn_rt, W_nil, W_outR, W_outN, seqA_ref, seqL_ref, lstO_l, seqA_tup, seqA_lst, seqL_lst, idx_tup, idx_lst, len_tup, len_lst, p_min2, p_max2, p_toIntB, p_toIntI, p_slcTF, p_slcFT, p_isinst, W_an, W_or, W_no, W_itee, W_setI, at0]
    rw [W_cons]
    simp only [W_var, W_cst, W_app, W_nilE, W_consE, W_evT, W_asg, W_expr, W_ret, W_iff, W_call0, W_some, W_tp, W_tsN, W_tsC, W_nm, List.length_cons, List.length_nil, Nat.reduceAdd, Nat.reduceLT, List.getD_cons_succ, List.getD_cons_zero, List.set_cons_succ, List.set_cons_zero, List.getElem?_cons_succ, List.getElem?_cons_zero, p_add, p_sub, p_mul, p_fdiv, p_mod, p_pow, p_eq, p_ne, p_lt, p_le, p_gt, p_ge, p_neg, p_idx, p_len, pAdd_i, pSub_i, t_bl, t_int, eq_i, ne_i, Kn_nx, Kn_rt, W_nil, W_outR, W_outN, seqA_ref, seqL_ref, lstO_l, seqA_tup, seqA_lst, seqL_lst, idx_tup, idx_lst, len_tup, len_lst, p_min2, p_max2, p_toIntB, p_toIntI, p_slcTF, p_slcFT, p_isinst, W_an, W_or, W_no, W_itee, W_setI, eq_s (show asc sCell = true by decide) (show asc [110, 117, 109, 98, 101, 114] = true by decide), show (sCell == [110, 117, 109, 98, 101, 114]) = false by decide, Bool.false_eq_true, if_false]
    rw [W_cons]
    simp only [W_var, W_cst, W_app, W_nilE, W_consE, W_evT, W_asg, W_expr, W_ret, W_iff, W_call0, W_some, W_tp, W_tsN, W_tsC, W_nm, List.length_cons, List.length_nil, Nat.reduceAdd, Nat.reduceLT, List.getD_cons_succ, List.getD_cons_zero, List.set_cons_succ, List.set_cons_zero, List.getElem?_cons_succ, List.getElem?_cons_zero, p_add, p_sub, p_mul, p_fdiv, p_mod, p_pow, p_eq, p_ne, p_lt, p_le, p_gt, p_ge, p_neg, p_idx, p_len, pAdd_i, pSub_i, t_bl, t_int, eq_i, ne_i, Kn_nx, Kn_rt, W_nil, W_outR, W_outN, seqA_ref, seqL_ref, lstO_l, seqA_tup, seqA_lst, seqL_lst, idx_tup, idx_lst, len_tup, len_lst, p_min2, p_max2, p_toIntB, p_toIntI, p_slcTF, p_slcFT, p_isinst, W_an, W_or, W_no, W_itee, W_setI, eq_s (show asc sCell = true by decide) (show asc [99, 101, 108, 108] = true by decide), show (sCell == [99, 101, 108, 108]) = true by decide, if_true]
    rw [W_cons]
    simp only [W_var, W_cst, W_app, W_nilE, W_consE, W_evT, W_asg, W_expr, W_ret, W_iff, W_call0, W_some, W_tp, W_tsN, W_tsC, W_nm, List.length_cons, List.length_nil, Nat.reduceAdd, Nat.reduceLT, List.getD_cons_succ, List.getD_cons_zero, List.set_cons_succ, List.set_cons_zero, List.getElem?_cons_succ, List.getElem?_cons_zero, p_add, p_sub, p_mul, p_fdiv, p_mod, p_pow, p_eq, p_ne, p_lt, p_le, p_gt, p_ge, p_neg, p_idx, p_len, pAdd_i, pSub_i, t_bl, t_int, eq_i, ne_i, Kn_nx, Kn_rt, W_nil, W_outR, W_outN, seqA_ref, seqL_ref, lstO_l, seqA_tup, seqA_lst, seqL_lst, idx_tup, idx_lst, len_tup, len_lst, p_min2, p_max2, p_toIntB, p_toIntI, p_slcTF, p_slcFT, p_isinst, W_an, W_or, W_no, W_itee, W_setI, at1, idx_dct hc (show keyD (.str s) = some (.inr s) from rfl), hi, Ex.wv]
  | .val j, ok, n + 2, l => by
    have hj : (w.us.map D.int)[j]? = some (.int (w.us.getD j 0)) := by
      have : j < w.us.length := ok
      simp [List.getD, this]
    refine eq_of_W ?_
    rw [W_call (F := ⟨4, 7, b1⟩) rfl rfl]
    simp only [b1, Ex.d, enter, List.map, List.length, List.replicate, List.cons_append, List.nil_append, Nat.reduceSub]
    rw [W_cons]
    simp only [W_var, W_cst, W_app, W_nilE, W_consE, W_evT, W_asg, W_expr, W_ret, W_iff, W_call0, W_some, W_tp, W_tsN, W_tsC, W_nm, List.length_cons, List.length_nil, Nat.reduceAdd, Nat.reduceLT, List.getD_cons_succ, List.getD_cons_zero, List.set_cons_succ, List.set_cons_zero, List.getElem?_cons_succ, List.getElem?_cons_zero, p_add, p_sub, p_mul, p_fdiv, p_mod, p_pow, p_eq, p_ne, p_lt, p_le, p_gt, p_ge, p_neg, p_idx, p_len, pAdd_i, pSub_i, t_bl, t_int, eq_i, ne_i, Kn_nx, Kn_rt, W_nil, W_outR, W_outN, seqA_ref, seqL_ref, lstO_l, seqA_tup, seqA_lst, seqL_lst, idx_tup, idx_lst, len_tup, len_lst, p_min2, p_max2, p_toIntB, p_toIntI, p_slcTF, p_slcFT, p_isinst, W_an, W_or, W_no, W_itee, W_setI, at0]
    rw [W_cons]
    simp only [W_var, W_cst, W_app, W_nilE, W_consE, W_evT, W_asg, W_expr, W_ret, W_iff, W_call0, W_some, W_tp, W_tsN, W_tsC, W_nm, List.length_cons, List.length_nil, Nat.reduceAdd, Nat.reduceLT, List.getD_cons_succ, List.getD_cons_zero, List.set_cons_succ, List.set_cons_zero, List.getElem?_cons_succ, List.getElem?_cons_zero, p_add, p_sub, p_mul, p_fdiv, p_mod, p_pow, p_eq, p_ne, p_lt, p_le, p_gt, p_ge, p_neg, p_idx, p_len, pAdd_i, pSub_i, t_bl, t_int, eq_i, ne_i, Kn_nx, Kn_rt, W_nil, W_outR, W_outN, seqA_ref, seqL_ref, lstO_l, seqA_tup, seqA_lst, seqL_lst, idx_tup, idx_lst, len_tup, len_lst, p_min2, p_max2, p_toIntB, p_toIntI, p_slcTF, p_slcFT, p_isinst, W_an, W_or, W_no, W_itee, W_setI, eq_s (show asc sVal = true by decide) (show asc [110, 117, 109, 98, 101, 114] = true by decide), show (sVal == [110, 117, 109, 98, 101, 114]) = false by decide, Bool.false_eq_true, if_false]
    rw [W_cons]
    simp only [W_var, W_cst, W_app, W_nilE, W_consE, W_evT, W_asg, W_expr, W_ret, W_iff, W_call0, W_some, W_tp, W_tsN, W_tsC, W_nm, List.length_cons, List.length_nil, Nat.reduceAdd, Nat.reduceLT, List.getD_cons_succ, List.getD_cons_zero, List.set_cons_succ, List.set_cons_zero, List.getElem?_cons_succ, List.getElem?_cons_zero, p_add, p_sub, p_mul, p_fdiv, p_mod, p_pow, p_eq, p_ne, p_lt, p_le, p_gt, p_ge, p_neg, p_idx, p_len, pAdd_i, pSub_i, t_bl, t_int, eq_i, ne_i, Kn_nx, Kn_rt, W_nil, W_outR, W_outN, seqA_ref, seqL_ref, lstO_l, seqA_tup, seqA_lst, seqL_lst, idx_tup, idx_lst, len_tup, len_lst, p_min2, p_max2, p_toIntB, p_toIntI, p_slcTF, p_slcFT, p_isinst, W_an, W_or, W_no, W_itee, W_setI, eq_s (show asc sVal = true by decide) (show asc [99, 101, 108, 108] = true by decide), show (sVal == [99, 101, 108, 108]) = false by decide, Bool.false_eq_true, if_false]
    rw [W_cons]
    simp only [W_var, W_cst, W_app, W_nilE, W_consE, W_evT, W_asg, W_expr, W_ret, W_iff, W_call0, W_some, W_tp, W_tsN, W_tsC, W_nm, List.length_cons, List.length_nil, Nat.reduceAdd, Nat.reduceLT, List.getD_cons_succ, List.getD_cons_zero, List.set_cons_succ, List.set_cons_zero, List.getElem?_cons_succ, List.getElem?_cons_zero, p_add, p_sub, p_mul, p_fdiv, p_mod, p_pow, p_eq, p_ne, p_lt, p_le, p_gt, p_ge, p_neg, p_idx, p_len, pAdd_i, pSub_i, t_bl, t_int, eq_i, ne_i, Kn_nx, Kn_rt, W_nil, W_outR, W_outN, seqA_ref, seqL_ref, lstO_l, seqA_tup, seqA_lst, seqL_lst, idx_tup, idx_lst, len_tup, len_lst, p_min2, p_max2, p_toIntB, p_toIntI, p_slcTF, p_slcFT, p_isinst, W_an, W_or, W_no, W_itee, W_setI, eq_s (show asc sVal = true by decide) (show asc [118, 97, 108, 117, 101] = true by decide), show (sVal == [118, 97, 108, 117, 101]) = true by decide, if_true]
    rw [W_cons]
    simp only [W_var, W_cst, W_app, W_nilE, W_consE, W_evT, W_asg, W_expr, W_ret, W_iff, W_call0, W_some, W_tp, W_tsN, W_tsC, W_nm, List.length_cons, List.length_nil, Nat.reduceAdd, Nat.reduceLT, List.getD_cons_succ, List.getD_cons_zero, List.set_cons_succ, List.set_cons_zero, List.getElem?_cons_succ, List.getElem?_cons_zero, p_add, p_sub, p_mul, p_fdiv, p_mod, p_pow, p_eq, p_ne, p_lt, p_le, p_gt, p_ge, p_neg, p_idx, p_len, pAdd_i, pSub_i, t_bl, t_int, eq_i, ne_i, Kn_nx, Kn_rt, W_nil, W_outR, W_outN, seqA_ref, seqL_ref, lstO_l, seqA_tup, seqA_lst, seqL_lst, idx_tup, idx_lst, len_tup, len_lst, p_min2, p_max2, p_toIntB, p_toIntI, p_slcTF, p_slcFT, p_isinst, W_an, W_or, W_no, W_itee, W_setI, at1, atD_nat hj, Ex.wv]
  | .now, ok, n + 2, l => by
    refine eq_of_W ?_
    rw [W_call (F := ⟨4, 7, b1⟩) rfl rfl]
    simp only [b1, Ex.d, enter, List.map, List.length, List.replicate, List.cons_append, List.nil_append, Nat.reduceSub]
    rw [W_cons]
    simp only [W_var, W_cst, W_app, W_nilE, W_consE, W_evT, W_asg, W_expr, W_ret, W_iff, W_call0, W_some, W_tp, W_tsN, W_tsC, W_nm, List.length_cons, List.length_nil, Nat.reduceAdd, Nat.reduceLT, List.getD_cons_succ, List.getD_cons_zero, List.set_cons_succ, List.set_cons_zero, List.getElem?_cons_succ, List.getElem?_cons_zero, p_add, p_sub, p_mul, p_fdiv, p_mod, p_pow, p_eq, p_ne, p_lt, p_le, p_gt, p_ge, p_neg, p_idx, p_len, pAdd_i, pSub_i, t_bl, t_int, eq_i, ne_i, Kn_nx, Kn_rt, W_nil, W_outR, W_outN, seqA_ref, seqL_ref, lstO_l, seqA_tup, seqA_lst, seqL_lst, idx_tup, idx_lst, len_tup, len_lst, p_min2, p_max2, p_toIntB, p_toIntI, p_slcTF, p_slcFT, p_isinst, W_an, W_or, W_no, W_itee, W_setI, at0]
    rw [W_cons]
    simp only [W_var, W_cst, W_app, W_nilE, W_consE, W_evT, W_asg, W_expr, W_ret, W_iff, W_call0, W_some, W_tp, W_tsN, W_tsC, W_nm, List.length_cons, List.length_nil, Nat.reduceAdd, Nat.reduceLT, List.getD_cons_succ, List.getD_cons_zero, List.set_cons_succ, List.set_cons_zero, List.getElem?_cons_succ, List.getElem?_cons_zero, p_add, p_sub, p_mul, p_fdiv, p_mod, p_pow, p_eq, p_ne, p_lt, p_le, p_gt, p_ge, p_neg, p_idx, p_len, pAdd_i, pSub_i, t_bl, t_int, eq_i, ne_i, Kn_nx, Kn_rt, W_nil, W_outR, W_outN, seqA_ref, seqL_ref, lstO_l, seqA_tup, seqA_lst, seqL_lst, idx_tup, idx_lst, len_tup, len_lst, p_min2, p_max2, p_toIntB, p_toIntI, p_slcTF, p_slcFT, p_isinst, W_an, W_or, W_no, W_itee, W_setI, eq_s (show asc sNow = true by decide) (show asc [110, 117, 109, 98, 101, 114] = true by decide), show (sNow == [110, 117, 109, 98, 101, 114]) = false by decide, Bool.false_eq_true, if_false]
    rw [W_cons]
    simp only [W_var, W_cst, W_app, W_nilE, W_consE, W_evT, W_asg, W_expr, W_ret, W_iff, W_call0, W_some, W_tp, W_tsN, W_tsC, W_nm, List.length_cons, List.length_nil, Nat.reduceAdd, Nat.reduceLT, List.getD_cons_succ, List.getD_cons_zero, List.set_cons_succ, List.set_cons_zero, List.getElem?_cons_succ, List.getElem?_cons_zero, p_add, p_sub, p_mul, p_fdiv, p_mod, p_pow, p_eq, p_ne, p_lt, p_le, p_gt, p_ge, p_neg, p_idx, p_len, pAdd_i, pSub_i, t_bl, t_int, eq_i, ne_i, Kn_nx, Kn_rt, W_nil, W_outR, W_outN, seqA_ref, seqL_ref, lstO_l, seqA_tup, seqA_lst, seqL_lst, idx_tup, idx_lst, len_tup, len_lst, p_min2, p_max2, p_toIntB, p_toIntI, p_slcTF, p_slcFT, p_isinst, W_an, W_or, W_no, W_itee, W_setI, eq_s (show asc sNow = true by decide) (show asc [99, 101, 108, 108] = true by decide), show (sNow == [99, 101, 108, 108]) = false by decide, Bool.false_eq_true, if_false]
    rw [W_cons]
    simp only [W_var, W_cst, W_app, W_nilE, W_consE, W_evT, W_asg, W_expr, W_ret, W_iff, W_call0, W_some, W_tp, W_tsN, W_tsC, W_nm, List.length_cons, List.length_nil, Nat.reduceAdd, Nat.reduceLT, List.getD_cons_succ, List.getD_cons_zero, List.set_cons_succ, List.set_cons_zero, List.getElem?_cons_succ, List.getElem?_cons_zero, p_add, p_sub, p_mul, p_fdiv, p_mod, p_pow, p_eq, p_ne, p_lt, p_le, p_gt, p_ge, p_neg, p_idx, p_len, pAdd_i, pSub_i, t_bl, t_int, eq_i, ne_i, Kn_nx, Kn_rt, W_nil, W_outR, W_outN, seqA_ref, seqL_ref, lstO_l, seqA_tup, seqA_lst, seqL_lst, idx_tup, idx_lst, len_tup, len_lst, p_min2, p_max2, p_toIntB, p_toIntI, p_slcTF, p_slcFT, p_isinst, W_an, W_or, W_no, W_itee, W_setI, eq_s (show asc sNow = true by decide) (show asc [118, 97, 108, 117, 101] = true by decide), show (sNow == [118, 97, 108, 117, 101]) = false by decide, Bool.false_eq_true, if_false]
    rw [W_cons]
    simp only [W_var, W_cst, W_app, W_nilE, W_consE, W_evT, W_asg, W_expr, W_ret, W_iff, W_call0, W_some, W_tp, W_tsN, W_tsC, W_nm, List.length_cons, List.length_nil, Nat.reduceAdd, Nat.reduceLT, List.getD_cons_succ, List.getD_cons_zero, List.set_cons_succ, List.set_cons_zero, List.getElem?_cons_succ, List.getElem?_cons_zero, p_add, p_sub, p_mul, p_fdiv, p_mod, p_pow, p_eq, p_ne, p_lt, p_le, p_gt, p_ge, p_neg, p_idx, p_len, pAdd_i, pSub_i, t_bl, t_int, eq_i, ne_i, Kn_nx, Kn_rt, W_nil, W_outR, W_outN, seqA_ref, seqL_ref, lstO_l, seqA_tup, seqA_lst, seqL_lst, idx_tup, idx_lst, len_tup, len_lst, p_min2, p_max2, p_toIntB, p_toIntI, p_slcTF, p_slcFT, p_isinst, W_an, W_or, W_no, W_itee, W_setI, eq_s (show asc sNow = true by decide) (show asc [110, 111, 119] = true by decide), show (sNow == [110, 111, 119]) = true by decide, if_true]
    rw [W_cons]
    simp only [W_var, W_cst, W_app, W_nilE, W_consE, W_evT, W_asg, W_expr, W_ret, W_iff, W_call0, W_some, W_tp, W_tsN, W_tsC, W_nm, List.length_cons, List.length_nil, Nat.reduceAdd, Nat.reduceLT, List.getD_cons_succ, List.getD_cons_zero, List.set_cons_succ, List.set_cons_zero, List.getElem?_cons_succ, List.getElem?_cons_zero, p_add, p_sub, p_mul, p_fdiv, p_mod, p_pow, p_eq, p_ne, p_lt, p_le, p_gt, p_ge, p_neg, p_idx, p_len, pAdd_i, pSub_i, t_bl, t_int, eq_i, ne_i, Kn_nx, Kn_rt, W_nil, W_outR, W_outN, seqA_ref, seqL_ref, lstO_l, seqA_tup, seqA_lst, seqL_lst, idx_tup, idx_lst, len_tup, len_lst, p_min2, p_max2, p_toIntB, p_toIntI, p_slcTF, p_slcFT, p_isinst, W_an, W_or, W_no, W_itee, W_setI, held_ok, Ex.wv]
  | .op o x y, ok, n + 2, l => by
    obtain ⟨ho, ox, oy⟩ := ok
    simp only [Ex.ht] at l
    have hx := worth_ok w hc x ox (n + 1) (by omega)
    have hy := worth_ok w hc y oy (n + 1) (by omega)
    have ha : asc (opS o) = true := by
      rcases o with _ | _ | _ | o <;> first | decide | rfl
    have n1 : (opS o == [110, 117, 109, 98, 101, 114]) = false := by rcases o with _ | _ | _ | o <;> first | decide | rfl
    have n2 : (opS o == [99, 101, 108, 108]) = false := by rcases o with _ | _ | _ | o <;> first | decide | rfl
    have n3 : (opS o == [118, 97, 108, 117, 101]) = false := by rcases o with _ | _ | _ | o <;> first | decide | rfl
    have n4 : (opS o == [110, 111, 119]) = false := by rcases o with _ | _ | _ | o <;> first | decide | rfl
    refine eq_of_W ?_
    rw [W_call (F := ⟨4, 7, b1⟩) rfl rfl]
    simp only [b1, Ex.d, enter, List.map, List.length, List.replicate, List.cons_append, List.nil_append, Nat.reduceSub]
    rw [W_cons]
    simp only [W_var, W_cst, W_app, W_nilE, W_consE, W_evT, W_asg, W_expr, W_ret, W_iff, W_call0, W_some, W_tp, W_tsN, W_tsC, W_nm, List.length_cons, List.length_nil, Nat.reduceAdd, Nat.reduceLT, List.getD_cons_succ, List.getD_cons_zero, List.set_cons_succ, List.set_cons_zero, List.getElem?_cons_succ, List.getElem?_cons_zero, p_add, p_sub, p_mul, p_fdiv, p_mod, p_pow, p_eq, p_ne, p_lt, p_le, p_gt, p_ge, p_neg, p_idx, p_len, pAdd_i, pSub_i, t_bl, t_int, eq_i, ne_i, Kn_nx, Kn_rt, W_nil, W_outR, W_outN, seqA_ref, seqL_ref, lstO_l, seqA_tup, seqA_lst, seqL_lst, idx_tup, idx_lst, len_tup, len_lst, p_min2, p_max2, p_toIntB, p_toIntI, p_slcTF, p_slcFT, p_isinst, W_an, W_or, W_no, W_itee, W_setI, at0]
    rw [W_cons]
    simp only [W_var, W_cst, W_app, W_nilE, W_consE, W_evT, W_asg, W_expr, W_ret, W_iff, W_call0, W_some, W_tp, W_tsN, W_tsC, W_nm, List.length_cons, List.length_nil, Nat.reduceAdd, Nat.reduceLT, List.getD_cons_succ, List.getD_cons_zero, List.set_cons_succ, List.set_cons_zero, List.getElem?_cons_succ, List.getElem?_cons_zero, p_add, p_sub, p_mul, p_fdiv, p_mod, p_pow, p_eq, p_ne, p_lt, p_le, p_gt, p_ge, p_neg, p_idx, p_len, pAdd_i, pSub_i, t_bl, t_int, eq_i, ne_i, Kn_nx, Kn_rt, W_nil, W_outR, W_outN, seqA_ref, seqL_ref, lstO_l, seqA_tup, seqA_lst, seqL_lst, idx_tup, idx_lst, len_tup, len_lst, p_min2, p_max2, p_toIntB, p_toIntI, p_slcTF, p_slcFT, p_isinst, W_an, W_or, W_no, W_itee, W_setI, eq_s ha (show asc [110, 117, 109, 98, 101, 114] = true by decide), n1, Bool.false_eq_true, if_false]
    rw [W_cons]
    simp only [W_var, W_cst, W_app, W_nilE, W_consE, W_evT, W_asg, W_expr, W_ret, W_iff, W_call0, W_some, W_tp, W_tsN, W_tsC, W_nm, List.length_cons, List.length_nil, Nat.reduceAdd, Nat.reduceLT, List.getD_cons_succ, List.getD_cons_zero, List.set_cons_succ, List.set_cons_zero, List.getElem?_cons_succ, List.getElem?_cons_zero, p_add, p_sub, p_mul, p_fdiv, p_mod, p_pow, p_eq, p_ne, p_lt, p_le, p_gt, p_ge, p_neg, p_idx, p_len, pAdd_i, pSub_i, t_bl, t_int, eq_i, ne_i, Kn_nx, Kn_rt, W_nil, W_outR, W_outN, seqA_ref, seqL_ref, lstO_l, seqA_tup, seqA_lst, seqL_lst, idx_tup, idx_lst, len_tup, len_lst, p_min2, p_max2, p_toIntB, p_toIntI, p_slcTF, p_slcFT, p_isinst, W_an, W_or, W_no, W_itee, W_setI, eq_s ha (show asc [99, 101, 108, 108] = true by decide), n2, Bool.false_eq_true, if_false]
    rw [W_cons]
    simp only [W_var, W_cst, W_app, W_nilE, W_consE, W_evT, W_asg, W_expr, W_ret, W_iff, W_call0, W_some, W_tp, W_tsN, W_tsC, W_nm, List.length_cons, List.length_nil, Nat.reduceAdd, Nat.reduceLT, List.getD_cons_succ, List.getD_cons_zero, List.set_cons_succ, List.set_cons_zero, List.getElem?_cons_succ, List.getElem?_cons_zero, p_add, p_sub, p_mul, p_fdiv, p_mod, p_pow, p_eq, p_ne, p_lt, p_le, p_gt, p_ge, p_neg, p_idx, p_len, pAdd_i, pSub_i, t_bl, t_int, eq_i, ne_i, Kn_nx, Kn_rt, W_nil, W_outR, W_outN, seqA_ref, seqL_ref, lstO_l, seqA_tup, seqA_lst, seqL_lst, idx_tup, idx_lst, len_tup, len_lst, p_min2, p_max2, p_toIntB, p_toIntI, p_slcTF, p_slcFT, p_isinst, W_an, W_or, W_no, W_itee, W_setI, eq_s ha (show asc [118, 97, 108, 117, 101] = true by decide), n3, Bool.false_eq_true, if_false]
    rw [W_cons]
    simp only [W_var, W_cst, W_app, W_nilE, W_consE, W_evT, W_asg, W_expr, W_ret, W_iff, W_call0, W_some, W_tp, W_tsN, W_tsC, W_nm, List.length_cons, List.length_nil, Nat.reduceAdd, Nat.reduceLT, List.getD_cons_succ, List.getD_cons_zero, List.set_cons_succ, List.set_cons_zero, List.getElem?_cons_succ, List.getElem?_cons_zero, p_add, p_sub, p_mul, p_fdiv, p_mod, p_pow, p_eq, p_ne, p_lt, p_le, p_gt, p_ge, p_neg, p_idx, p_len, pAdd_i, pSub_i, t_bl, t_int, eq_i, ne_i, Kn_nx, Kn_rt, W_nil, W_outR, W_outN, seqA_ref, seqL_ref, lstO_l, seqA_tup, seqA_lst, seqL_lst, idx_tup, idx_lst, len_tup, len_lst, p_min2, p_max2, p_toIntB, p_toIntI, p_slcTF, p_slcFT, p_isinst, W_an, W_or, W_no, W_itee, W_setI, eq_s ha (show asc [110, 111, 119] = true by decide), n4, Bool.false_eq_true, if_false]
    rw [W_cons]
    simp only [W_var, W_cst, W_app, W_nilE, W_consE, W_evT, W_asg, W_expr, W_ret, W_iff, W_call0, W_some, W_tp, W_tsN, W_tsC, W_nm, List.length_cons, List.length_nil, Nat.reduceAdd, Nat.reduceLT, List.getD_cons_succ, List.getD_cons_zero, List.set_cons_succ, List.set_cons_zero, List.getElem?_cons_succ, List.getElem?_cons_zero, p_add, p_sub, p_mul, p_fdiv, p_mod, p_pow, p_eq, p_ne, p_lt, p_le, p_gt, p_ge, p_neg, p_idx, p_len, pAdd_i, pSub_i, t_bl, t_int, eq_i, ne_i, Kn_nx, Kn_rt, W_nil, W_outR, W_outN, seqA_ref, seqL_ref, lstO_l, seqA_tup, seqA_lst, seqL_lst, idx_tup, idx_lst, len_tup, len_lst, p_min2, p_max2, p_toIntB, p_toIntI, p_slcTF, p_slcFT, p_isinst, W_an, W_or, W_no, W_itee, W_setI, at1, hx]
    rw [W_cons]
    simp only [W_var, W_cst, W_app, W_nilE, W_consE, W_evT, W_asg, W_expr, W_ret, W_iff, W_call0, W_some, W_tp, W_tsN, W_tsC, W_nm, List.length_cons, List.length_nil, Nat.reduceAdd, Nat.reduceLT, List.getD_cons_succ, List.getD_cons_zero, List.set_cons_succ, List.set_cons_zero, List.getElem?_cons_succ, List.getElem?_cons_zero, p_add, p_sub, p_mul, p_fdiv, p_mod, p_pow, p_eq, p_ne, p_lt, p_le, p_gt, p_ge, p_neg, p_idx, p_len, pAdd_i, pSub_i, t_bl, t_int, eq_i, ne_i, Kn_nx, Kn_rt, W_nil, W_outR, W_outN, seqA_ref, seqL_ref, lstO_l, seqA_tup, seqA_lst, seqL_lst, idx_tup, idx_lst, len_tup, len_lst, p_min2, p_max2, p_toIntB, p_toIntI, p_slcTF, p_slcFT, p_isinst, W_an, W_or, W_no, W_itee, W_setI, at2, hy]
    rw [W_cons]
    simp only [W_var, W_cst, W_app, W_nilE, W_consE, W_evT, W_asg, W_expr, W_ret, W_iff, W_call0, W_some, W_tp, W_tsN, W_tsC, W_nm, List.length_cons, List.length_nil, Nat.reduceAdd, Nat.reduceLT, List.getD_cons_succ, List.getD_cons_zero, List.set_cons_succ, List.set_cons_zero, List.getElem?_cons_succ, List.getElem?_cons_zero, p_add, p_sub, p_mul, p_fdiv, p_mod, p_pow, p_eq, p_ne, p_lt, p_le, p_gt, p_ge, p_neg, p_idx, p_len, pAdd_i, pSub_i, t_bl, t_int, eq_i, ne_i, Kn_nx, Kn_rt, W_nil, W_outR, W_outN, seqA_ref, seqL_ref, lstO_l, seqA_tup, seqA_lst, seqL_lst, idx_tup, idx_lst, len_tup, len_lst, p_min2, p_max2, p_toIntB, p_toIntI, p_slcTF, p_slcFT, p_isinst, W_an, W_or, W_no, W_itee, W_setI, eq_s ha (show asc [97, 100, 100] = true by decide)]
    match o, ho with
    | 0, _ =>
      simp only [show (opS 0 == [97, 100, 100]) = true by decide, if_true]
      rw [W_cons]
      simp only [W_var, W_cst, W_app, W_nilE, W_consE, W_evT, W_asg, W_expr, W_ret, W_iff, W_call0, W_some, W_tp, W_tsN, W_tsC, W_nm, List.length_cons, List.length_nil, Nat.reduceAdd, Nat.reduceLT, List.getD_cons_succ, List.getD_cons_zero, List.set_cons_succ, List.set_cons_zero, List.getElem?_cons_succ, List.getElem?_cons_zero, p_add, p_sub, p_mul, p_fdiv, p_mod, p_pow, p_eq, p_ne, p_lt, p_le, p_gt, p_ge, p_neg, p_idx, p_len, pAdd_i, pSub_i, t_bl, t_int, eq_i, ne_i, Kn_nx, Kn_rt, W_nil, W_outR, W_outN, seqA_ref, seqL_ref, lstO_l, seqA_tup, seqA_lst, seqL_lst, idx_tup, idx_lst, len_tup, len_lst, p_min2, p_max2, p_toIntB, p_toIntI, p_slcTF, p_slcFT, p_isinst, W_an, W_or, W_no, W_itee, W_setI, held_ok, Ex.wv, opV]
    | 1, _ =>
      simp only [show (opS 1 == [97, 100, 100]) = false by decide, Bool.false_eq_true, if_false]
      rw [W_cons]
      simp only [W_var, W_cst, W_app, W_nilE, W_consE, W_evT, W_asg, W_expr, W_ret, W_iff, W_call0, W_some, W_tp, W_tsN, W_tsC, W_nm, List.length_cons, List.length_nil, Nat.reduceAdd, Nat.reduceLT, List.getD_cons_succ, List.getD_cons_zero, List.set_cons_succ, List.set_cons_zero, List.getElem?_cons_succ, List.getElem?_cons_zero, p_add, p_sub, p_mul, p_fdiv, p_mod, p_pow, p_eq, p_ne, p_lt, p_le, p_gt, p_ge, p_neg, p_idx, p_len, pAdd_i, pSub_i, t_bl, t_int, eq_i, ne_i, Kn_nx, Kn_rt, W_nil, W_outR, W_outN, seqA_ref, seqL_ref, lstO_l, seqA_tup, seqA_lst, seqL_lst, idx_tup, idx_lst, len_tup, len_lst, p_min2, p_max2, p_toIntB, p_toIntI, p_slcTF, p_slcFT, p_isinst, W_an, W_or, W_no, W_itee, W_setI, eq_s ha (show asc [115, 117, 98] = true by decide), show (opS 1 == [115, 117, 98]) = true by decide, if_true]
      rw [W_cons]
      simp only [W_var, W_cst, W_app, W_nilE, W_consE, W_evT, W_asg, W_expr, W_ret, W_iff, W_call0, W_some, W_tp, W_tsN, W_tsC, W_nm, List.length_cons, List.length_nil, Nat.reduceAdd, Nat.reduceLT, List.getD_cons_succ, List.getD_cons_zero, List.set_cons_succ, List.set_cons_zero, List.getElem?_cons_succ, List.getElem?_cons_zero, p_add, p_sub, p_mul, p_fdiv, p_mod, p_pow, p_eq, p_ne, p_lt, p_le, p_gt, p_ge, p_neg, p_idx, p_len, pAdd_i, pSub_i, t_bl, t_int, eq_i, ne_i, Kn_nx, Kn_rt, W_nil, W_outR, W_outN, seqA_ref, seqL_ref, lstO_l, seqA_tup, seqA_lst, seqL_lst, idx_tup, idx_lst, len_tup, len_lst, p_min2, p_max2, p_toIntB, p_toIntI, p_slcTF, p_slcFT, p_isinst, W_an, W_or, W_no, W_itee, W_setI, held_ok, Ex.wv, opV]
    | 2, _ =>
      simp only [show (opS 2 == [97, 100, 100]) = false by decide, Bool.false_eq_true, if_false]
      rw [W_cons]
      simp only [W_var, W_cst, W_app, W_nilE, W_consE, W_evT, W_asg, W_expr, W_ret, W_iff, W_call0, W_some, W_tp, W_tsN, W_tsC, W_nm, List.length_cons, List.length_nil, Nat.reduceAdd, Nat.reduceLT, List.getD_cons_succ, List.getD_cons_zero, List.set_cons_succ, List.set_cons_zero, List.getElem?_cons_succ, List.getElem?_cons_zero, p_add, p_sub, p_mul, p_fdiv, p_mod, p_pow, p_eq, p_ne, p_lt, p_le, p_gt, p_ge, p_neg, p_idx, p_len, pAdd_i, pSub_i, t_bl, t_int, eq_i, ne_i, Kn_nx, Kn_rt, W_nil, W_outR, W_outN, seqA_ref, seqL_ref, lstO_l, seqA_tup, seqA_lst, seqL_lst, idx_tup, idx_lst, len_tup, len_lst, p_min2, p_max2, p_toIntB, p_toIntI, p_slcTF, p_slcFT, p_isinst, W_an, W_or, W_no, W_itee, W_setI, eq_s ha (show asc [115, 117, 98] = true by decide), show (opS 2 == [115, 117, 98]) = false by decide, Bool.false_eq_true, if_false]
      rw [W_cons]
      simp only [W_var, W_cst, W_app, W_nilE, W_consE, W_evT, W_asg, W_expr, W_ret, W_iff, W_call0, W_some, W_tp, W_tsN, W_tsC, W_nm, List.length_cons, List.length_nil, Nat.reduceAdd, Nat.reduceLT, List.getD_cons_succ, List.getD_cons_zero, List.set_cons_succ, List.set_cons_zero, List.getElem?_cons_succ, List.getElem?_cons_zero, p_add, p_sub, p_mul, p_fdiv, p_mod, p_pow, p_eq, p_ne, p_lt, p_le, p_gt, p_ge, p_neg, p_idx, p_len, pAdd_i, pSub_i, t_bl, t_int, eq_i, ne_i, Kn_nx, Kn_rt, W_nil, W_outR, W_outN, seqA_ref, seqL_ref, lstO_l, seqA_tup, seqA_lst, seqL_lst, idx_tup, idx_lst, len_tup, len_lst, p_min2, p_max2, p_toIntB, p_toIntI, p_slcTF, p_slcFT, p_isinst, W_an, W_or, W_no, W_itee, W_setI, eq_s ha (show asc [108, 101, 97, 115, 116] = true by decide), show (opS 2 == [108, 101, 97, 115, 116]) = true by decide, if_true, Ex.wv, opV]
    | 3, _ =>
      simp only [show (opS 3 == [97, 100, 100]) = false by decide, Bool.false_eq_true, if_false]
      rw [W_cons]
      simp only [W_var, W_cst, W_app, W_nilE, W_consE, W_evT, W_asg, W_expr, W_ret, W_iff, W_call0, W_some, W_tp, W_tsN, W_tsC, W_nm, List.length_cons, List.length_nil, Nat.reduceAdd, Nat.reduceLT, List.getD_cons_succ, List.getD_cons_zero, List.set_cons_succ, List.set_cons_zero, List.getElem?_cons_succ, List.getElem?_cons_zero, p_add, p_sub, p_mul, p_fdiv, p_mod, p_pow, p_eq, p_ne, p_lt, p_le, p_gt, p_ge, p_neg, p_idx, p_len, pAdd_i, pSub_i, t_bl, t_int, eq_i, ne_i, Kn_nx, Kn_rt, W_nil, W_outR, W_outN, seqA_ref, seqL_ref, lstO_l, seqA_tup, seqA_lst, seqL_lst, idx_tup, idx_lst, len_tup, len_lst, p_min2, p_max2, p_toIntB, p_toIntI, p_slcTF, p_slcFT, p_isinst, W_an, W_or, W_no, W_itee, W_setI, eq_s ha (show asc [115, 117, 98] = true by decide), show (opS 3 == [115, 117, 98]) = false by decide, Bool.false_eq_true, if_false]
      rw [W_cons]
      simp only [W_var, W_cst, W_app, W_nilE, W_consE, W_evT, W_asg, W_expr, W_ret, W_iff, W_call0, W_some, W_tp, W_tsN, W_tsC, W_nm, List.length_cons, List.length_nil, Nat.reduceAdd, Nat.reduceLT, List.getD_cons_succ, List.getD_cons_zero, List.set_cons_succ, List.set_cons_zero, List.getElem?_cons_succ, List.getElem?_cons_zero, p_add, p_sub, p_mul, p_fdiv, p_mod, p_pow, p_eq, p_ne, p_lt, p_le, p_gt, p_ge, p_neg, p_idx, p_len, pAdd_i, pSub_i, t_bl, t_int, eq_i, ne_i, Kn_nx, Kn_rt, W_nil, W_outR, W_outN, seqA_ref, seqL_ref, lstO_l, seqA_tup, seqA_lst, seqL_lst, idx_tup, idx_lst, len_tup, len_lst, p_min2, p_max2, p_toIntB, p_toIntI, p_slcTF, p_slcFT, p_isinst, W_an, W_or, W_no, W_itee, W_setI, eq_s ha (show asc [108, 101, 97, 115, 116] = true by decide), show (opS 3 == [108, 101, 97, 115, 116]) = false by decide, Bool.false_eq_true, if_false, Ex.wv, opV]
termination_by e _ n _ => (e.sz, n)
decreasing_by all_goals (simp_wf; simp [Prod.lex_def, Ex.sz]; omega)
end LW
end Dp

set_option Elab.async false
set_option linter.all false
set_option autoImplicit false
set_option maxRecDepth 100000
set_option maxHeartbeats 4000000
namespace Dp
namespace LW
def Ex.parts (w : Wo) : Ex → List D
  | .num i => [.int i]
  | .cell s => [.str s]
  | .val j => [.int j]
  | .now => []
  | .op _ a b => [.int (a.wv w), .int (b.wv w)]
theorem srt3 {h : Hs} {t : Int} : pSrt h (.lst [.int (-999), .int t, .int 999]) = some (.lst ((srtI [-999, t, 999]).map .int)) := by
  simp [pSrt, seqL, intsD]
theorem srt3_at {t : Int} : atD ((srtI [-999, t, 999]).map D.int) 1 = some (.int (held t)) := by
  refine atD_nat (i := 1) ?_
  simp only [srtI, insI]
  unfold held
  by_cases h1 : t ≤ 999
  · rw [if_pos h1]
    simp only [insI]
    by_cases h2 : (-999 : Int) ≤ t
    · rw [if_pos h2]
      simp
      split <;> split <;> omega
    · rw [if_neg h2]
      simp
      split <;> (intro _; omega)
  · rw [if_neg h1]
    simp only [insI]
    rw [if_pos (by decide)]
    simp
    split <;> split <;> omega
theorem srt2 {h : Hs} {x y : Int} : pSrt h (.lst [.int x, .int y]) = some (.lst ((srtI [x, y]).map .int)) := by
  simp [pSrt, seqL, intsD]
theorem srt2_0 {x y : Int} : atD ((srtI [x, y]).map D.int) 0 = some (.int (if y < x then y else x)) := by
  refine atD_nat (i := 0) ?_
  simp only [srtI, insI]
  by_cases h1 : x ≤ y
  · rw [if_pos h1, if_neg (by omega)]; rfl
  · rw [if_neg h1, if_pos (by omega)]; rfl
theorem srt2_1 {x y : Int} : atD ((srtI [x, y]).map D.int) 1 = some (.int (if y > x then y else x)) := by
  refine atD_nat (i := 1) ?_
  simp only [srtI, insI]
  by_cases h1 : x ≤ y
  · rw [if_pos h1]
    by_cases h2 : x = y
    · subst h2; simp
    · rw [if_pos (by omega)]; rfl
  · rw [if_neg h1, if_neg (by omega)]; rfl
theorem opS_asc (o : Nat) : asc (opS o) = true := by rcases o with _ | _ | _ | o <;> first | decide | rfl
theorem step_ok (w : Wo) {h : Hs} {c n : Nat} (hc : h[c]? = some (.dct w.ks w.vs)) : ∀ (e : Ex), e.Ok w → callF T (n + 1) 10 [e.d, .lst (e.parts w), .ref c, .tup (w.us.map .int), .int w.now] h = some (.int (e.wv w), h)
  | .num i, ok => by
    refine eq_of_W ?_
    rw [W_call (F := ⟨5, 6, b10⟩) rfl rfl]
    simp only [b10, Ex.d, enter, List.map, List.length, List.replicate, List.cons_append, List.nil_append, Nat.reduceSub]
    rw [W_cons]
    simp only [W_var, W_cst, W_app, W_nilE, W_consE, W_evT, W_asg, W_expr, W_ret, W_iff, W_call0, W_some, W_tp, W_tsN, W_tsC, W_nm, List.length_cons, List.length_nil, Nat.reduceAdd, Nat.reduceLT, List.getD_cons_succ, List.getD_cons_zero, List.set_cons_succ, List.set_cons_zero, List.getElem?_cons_succ, List.getElem?_cons_zero, p_add, p_sub, p_mul, p_fdiv, p_mod, p_pow, p_eq, p_ne, p_lt, p_le, p_gt, p_ge, p_neg, p_idx, p_len, pAdd_i, pSub_i, t_bl, t_int, eq_i, ne_i, Kn_nx, Kn_rt, W_nil, W_outR, W_outN, seqA_ref, seqL_ref, lstO_l, seqA_tup, seqA_lst, seqL_lst, idx_tup, idx_lst, len_tup, len_lst, p_min2, p_max2, p_toIntB, p_toIntI, p_slcTF, p_slcFT, p_isinst, W_an, W_or, W_no, W_itee, W_setI, at0, eq_s (show asc sNum = true by decide) (show asc [110, 117, 109, 98, 101, 114] = true by decide), show (sNum == [110, 117, 109, 98, 101, 114]) = true by decide, if_true]
    rw [W_cons]
    simp only [W_var, W_cst, W_app, W_nilE, W_consE, W_evT, W_asg, W_expr, W_ret, W_iff, W_call0, W_some, W_tp, W_tsN, W_tsC, W_nm, List.length_cons, List.length_nil, Nat.reduceAdd, Nat.reduceLT, List.getD_cons_succ, List.getD_cons_zero, List.set_cons_succ, List.set_cons_zero, List.getElem?_cons_succ, List.getElem?_cons_zero, p_add, p_sub, p_mul, p_fdiv, p_mod, p_pow, p_eq, p_ne, p_lt, p_le, p_gt, p_ge, p_neg, p_idx, p_len, pAdd_i, pSub_i, t_bl, t_int, eq_i, ne_i, Kn_nx, Kn_rt, W_nil, W_outR, W_outN, seqA_ref, seqL_ref, lstO_l, seqA_tup, seqA_lst, seqL_lst, idx_tup, idx_lst, len_tup, len_lst, p_min2, p_max2, p_toIntB, p_toIntI, p_slcTF, p_slcFT, p_isinst, W_an, W_or, W_no, W_itee, W_setI, at1, Ex.wv]
  | .cell s, ok => by
    obtain ⟨ha, i, hi⟩ := ok
    refine eq_of_W ?_
    rw [W_call (F := ⟨5, 6, b10⟩) rfl rfl]
    simp only [b10, Ex.d, enter, List.map, List.length, List.replicate, List.cons_append, List.nil_append, Nat.reduceSub]
    rw [W_cons]
    simp only [W_var, W_cst, W_app, W_nilE, W_consE, W_evT, W_asg, W_expr, W_ret, W_iff, W_call0, W_some, W_tp, W_tsN, W_tsC, W_nm, List.length_cons, List.length_nil, Nat.reduceAdd, Nat.reduceLT, List.getD_cons_succ, List.getD_cons_zero, List.set_cons_succ, List.set_cons_zero, List.getElem?_cons_succ, List.getElem?_cons_zero, p_add, p_sub, p_mul, p_fdiv, p_mod, p_pow, p_eq, p_ne, p_lt, p_le, p_gt, p_ge, p_neg, p_idx, p_len, pAdd_i, pSub_i, t_bl, t_int, eq_i, ne_i, Kn_nx, Kn_rt, W_nil, W_outR, W_outN, seqA_ref, seqL_ref, lstO_l, seqA_tup, seqA_lst, seqL_lst, idx_tup, idx_lst, len_tup, len_lst, p_min2, p_max2, p_toIntB, p_toIntI, p_slcTF, p_slcFT, p_isinst, W_an, W_or, W_no, W_itee, W_setI, at0, eq_s (show asc sCell = true by decide) (show asc [110, 117, 109, 98, 101, 114] = true by decide), show (sCell == [110, 117, 109, 98, 101, 114]) = false by decide, Bool.false_eq_true, if_false]
    rw [W_cons]
    simp only [W_var, W_cst, W_app, W_nilE, W_consE, W_evT, W_asg, W_expr, W_ret, W_iff, W_call0, W_some, W_tp, W_tsN, W_tsC, W_nm, List.length_cons, List.length_nil, Nat.reduceAdd, Nat.reduceLT, List.getD_cons_succ, List.getD_cons_zero, List.set_cons_succ, List.set_cons_zero, List.getElem?_cons_succ, List.getElem?_cons_zero, p_add, p_sub, p_mul, p_fdiv, p_mod, p_pow, p_eq, p_ne, p_lt, p_le, p_gt, p_ge, p_neg, p_idx, p_len, pAdd_i, pSub_i, t_bl, t_int, eq_i, ne_i, Kn_nx, Kn_rt, W_nil, W_outR, W_outN, seqA_ref, seqL_ref, lstO_l, seqA_tup, seqA_lst, seqL_lst, idx_tup, idx_lst, len_tup, len_lst, p_min2, p_max2, p_toIntB, p_toIntI, p_slcTF, p_slcFT, p_isinst, W_an, W_or, W_no, W_itee, W_setI, at0, eq_s (show asc sCell = true by decide) (show asc [99, 101, 108, 108] = true by decide), show (sCell == [99, 101, 108, 108]) = true by decide, if_true]
    rw [W_cons]
    simp only [W_var, W_cst, W_app, W_nilE, W_consE, W_evT, W_asg, W_expr, W_ret, W_iff, W_call0, W_some, W_tp, W_tsN, W_tsC, W_nm, List.length_cons, List.length_nil, Nat.reduceAdd, Nat.reduceLT, List.getD_cons_succ, List.getD_cons_zero, List.set_cons_succ, List.set_cons_zero, List.getElem?_cons_succ, List.getElem?_cons_zero, p_add, p_sub, p_mul, p_fdiv, p_mod, p_pow, p_eq, p_ne, p_lt, p_le, p_gt, p_ge, p_neg, p_idx, p_len, pAdd_i, pSub_i, t_bl, t_int, eq_i, ne_i, Kn_nx, Kn_rt, W_nil, W_outR, W_outN, seqA_ref, seqL_ref, lstO_l, seqA_tup, seqA_lst, seqL_lst, idx_tup, idx_lst, len_tup, len_lst, p_min2, p_max2, p_toIntB, p_toIntI, p_slcTF, p_slcFT, p_isinst, W_an, W_or, W_no, W_itee, W_setI, at1, idx_dct hc (show keyD (.str s) = some (.inr s) from rfl), hi, Ex.wv]
  | .val j, ok => by
    have hj : (w.us.map D.int)[j]? = some (.int (w.us.getD j 0)) := by
      have : j < w.us.length := ok
      simp [List.getD, this]
    refine eq_of_W ?_
    rw [W_call (F := ⟨5, 6, b10⟩) rfl rfl]
    simp only [b10, Ex.d, enter, List.map, List.length, List.replicate, List.cons_append, List.nil_append, Nat.reduceSub]
    rw [W_cons]
    simp only [W_var, W_cst, W_app, W_nilE, W_consE, W_evT, W_asg, W_expr, W_ret, W_iff, W_call0, W_some, W_tp, W_tsN, W_tsC, W_nm, List.length_cons, List.length_nil, Nat.reduceAdd, Nat.reduceLT, List.getD_cons_succ, List.getD_cons_zero, List.set_cons_succ, List.set_cons_zero, List.getElem?_cons_succ, List.getElem?_cons_zero, p_add, p_sub, p_mul, p_fdiv, p_mod, p_pow, p_eq, p_ne, p_lt, p_le, p_gt, p_ge, p_neg, p_idx, p_len, pAdd_i, pSub_i, t_bl, t_int, eq_i, ne_i, Kn_nx, Kn_rt, W_nil, W_outR, W_outN, seqA_ref, seqL_ref, lstO_l, seqA_tup, seqA_lst, seqL_lst, idx_tup, idx_lst, len_tup, len_lst, p_min2, p_max2, p_toIntB, p_toIntI, p_slcTF, p_slcFT, p_isinst, W_an, W_or, W_no, W_itee, W_setI, at0, eq_s (show asc sVal = true by decide) (show asc [110, 117, 109, 98, 101, 114] = true by decide), show (sVal == [110, 117, 109, 98, 101, 114]) = false by decide, Bool.false_eq_true, if_false]
    rw [W_cons]
    simp only [W_var, W_cst, W_app, W_nilE, W_consE, W_evT, W_asg, W_expr, W_ret, W_iff, W_call0, W_some, W_tp, W_tsN, W_tsC, W_nm, List.length_cons, List.length_nil, Nat.reduceAdd, Nat.reduceLT, List.getD_cons_succ, List.getD_cons_zero, List.set_cons_succ, List.set_cons_zero, List.getElem?_cons_succ, List.getElem?_cons_zero, p_add, p_sub, p_mul, p_fdiv, p_mod, p_pow, p_eq, p_ne, p_lt, p_le, p_gt, p_ge, p_neg, p_idx, p_len, pAdd_i, pSub_i, t_bl, t_int, eq_i, ne_i, Kn_nx, Kn_rt, W_nil, W_outR, W_outN, seqA_ref, seqL_ref, lstO_l, seqA_tup, seqA_lst, seqL_lst, idx_tup, idx_lst, len_tup, len_lst, p_min2, p_max2, p_toIntB, p_toIntI, p_slcTF, p_slcFT, p_isinst, W_an, W_or, W_no, W_itee, W_setI, at0, eq_s (show asc sVal = true by decide) (show asc [99, 101, 108, 108] = true by decide), show (sVal == [99, 101, 108, 108]) = false by decide, Bool.false_eq_true, if_false]
    rw [W_cons]
    simp only [W_var, W_cst, W_app, W_nilE, W_consE, W_evT, W_asg, W_expr, W_ret, W_iff, W_call0, W_some, W_tp, W_tsN, W_tsC, W_nm, List.length_cons, List.length_nil, Nat.reduceAdd, Nat.reduceLT, List.getD_cons_succ, List.getD_cons_zero, List.set_cons_succ, List.set_cons_zero, List.getElem?_cons_succ, List.getElem?_cons_zero, p_add, p_sub, p_mul, p_fdiv, p_mod, p_pow, p_eq, p_ne, p_lt, p_le, p_gt, p_ge, p_neg, p_idx, p_len, pAdd_i, pSub_i, t_bl, t_int, eq_i, ne_i, Kn_nx, Kn_rt, W_nil, W_outR, W_outN, seqA_ref, seqL_ref, lstO_l, seqA_tup, seqA_lst, seqL_lst, idx_tup, idx_lst, len_tup, len_lst, p_min2, p_max2, p_toIntB, p_toIntI, p_slcTF, p_slcFT, p_isinst, W_an, W_or, W_no, W_itee, W_setI, at0, eq_s (show asc sVal = true by decide) (show asc [118, 97, 108, 117, 101] = true by decide), show (sVal == [118, 97, 108, 117, 101]) = true by decide, if_true]
    rw [W_cons]
    simp only [W_var, W_cst, W_app, W_nilE, W_consE, W_evT, W_asg, W_expr, W_ret, W_iff, W_call0, W_some, W_tp, W_tsN, W_tsC, W_nm, List.length_cons, List.length_nil, Nat.reduceAdd, Nat.reduceLT, List.getD_cons_succ, List.getD_cons_zero, List.set_cons_succ, List.set_cons_zero, List.getElem?_cons_succ, List.getElem?_cons_zero, p_add, p_sub, p_mul, p_fdiv, p_mod, p_pow, p_eq, p_ne, p_lt, p_le, p_gt, p_ge, p_neg, p_idx, p_len, pAdd_i, pSub_i, t_bl, t_int, eq_i, ne_i, Kn_nx, Kn_rt, W_nil, W_outR, W_outN, seqA_ref, seqL_ref, lstO_l, seqA_tup, seqA_lst, seqL_lst, idx_tup, idx_lst, len_tup, len_lst, p_min2, p_max2, p_toIntB, p_toIntI, p_slcTF, p_slcFT, p_isinst, W_an, W_or, W_no, W_itee, W_setI, at1, atD_nat hj, Ex.wv]
  | .now, ok => by
    refine eq_of_W ?_
    rw [W_call (F := ⟨5, 6, b10⟩) rfl rfl]
    simp only [b10, Ex.d, enter, List.map, List.length, List.replicate, List.cons_append, List.nil_append, Nat.reduceSub]
    rw [W_cons]
    simp only [W_var, W_cst, W_app, W_nilE, W_consE, W_evT, W_asg, W_expr, W_ret, W_iff, W_call0, W_some, W_tp, W_tsN, W_tsC, W_nm, List.length_cons, List.length_nil, Nat.reduceAdd, Nat.reduceLT, List.getD_cons_succ, List.getD_cons_zero, List.set_cons_succ, List.set_cons_zero, List.getElem?_cons_succ, List.getElem?_cons_zero, p_add, p_sub, p_mul, p_fdiv, p_mod, p_pow, p_eq, p_ne, p_lt, p_le, p_gt, p_ge, p_neg, p_idx, p_len, pAdd_i, pSub_i, t_bl, t_int, eq_i, ne_i, Kn_nx, Kn_rt, W_nil, W_outR, W_outN, seqA_ref, seqL_ref, lstO_l, seqA_tup, seqA_lst, seqL_lst, idx_tup, idx_lst, len_tup, len_lst, p_min2, p_max2, p_toIntB, p_toIntI, p_slcTF, p_slcFT, p_isinst, W_an, W_or, W_no, W_itee, W_setI, at0, eq_s (show asc sNow = true by decide) (show asc [110, 117, 109, 98, 101, 114] = true by decide), show (sNow == [110, 117, 109, 98, 101, 114]) = false by decide, Bool.false_eq_true, if_false]
    rw [W_cons]
    simp only [W_var, W_cst, W_app, W_nilE, W_consE, W_evT, W_asg, W_expr, W_ret, W_iff, W_call0, W_some, W_tp, W_tsN, W_tsC, W_nm, List.length_cons, List.length_nil, Nat.reduceAdd, Nat.reduceLT, List.getD_cons_succ, List.getD_cons_zero, List.set_cons_succ, List.set_cons_zero, List.getElem?_cons_succ, List.getElem?_cons_zero, p_add, p_sub, p_mul, p_fdiv, p_mod, p_pow, p_eq, p_ne, p_lt, p_le, p_gt, p_ge, p_neg, p_idx, p_len, pAdd_i, pSub_i, t_bl, t_int, eq_i, ne_i, Kn_nx, Kn_rt, W_nil, W_outR, W_outN, seqA_ref, seqL_ref, lstO_l, seqA_tup, seqA_lst, seqL_lst, idx_tup, idx_lst, len_tup, len_lst, p_min2, p_max2, p_toIntB, p_toIntI, p_slcTF, p_slcFT, p_isinst, W_an, W_or, W_no, W_itee, W_setI, at0, eq_s (show asc sNow = true by decide) (show asc [99, 101, 108, 108] = true by decide), show (sNow == [99, 101, 108, 108]) = false by decide, Bool.false_eq_true, if_false]
    rw [W_cons]
    simp only [W_var, W_cst, W_app, W_nilE, W_consE, W_evT, W_asg, W_expr, W_ret, W_iff, W_call0, W_some, W_tp, W_tsN, W_tsC, W_nm, List.length_cons, List.length_nil, Nat.reduceAdd, Nat.reduceLT, List.getD_cons_succ, List.getD_cons_zero, List.set_cons_succ, List.set_cons_zero, List.getElem?_cons_succ, List.getElem?_cons_zero, p_add, p_sub, p_mul, p_fdiv, p_mod, p_pow, p_eq, p_ne, p_lt, p_le, p_gt, p_ge, p_neg, p_idx, p_len, pAdd_i, pSub_i, t_bl, t_int, eq_i, ne_i, Kn_nx, Kn_rt, W_nil, W_outR, W_outN, seqA_ref, seqL_ref, lstO_l, seqA_tup, seqA_lst, seqL_lst, idx_tup, idx_lst, len_tup, len_lst, p_min2, p_max2, p_toIntB, p_toIntI, p_slcTF, p_slcFT, p_isinst, W_an, W_or, W_no, W_itee, W_setI, at0, eq_s (show asc sNow = true by decide) (show asc [118, 97, 108, 117, 101] = true by decide), show (sNow == [118, 97, 108, 117, 101]) = false by decide, Bool.false_eq_true, if_false]
    rw [W_cons]
    simp only [W_var, W_cst, W_app, W_nilE, W_consE, W_evT, W_asg, W_expr, W_ret, W_iff, W_call0, W_some, W_tp, W_tsN, W_tsC, W_nm, List.length_cons, List.length_nil, Nat.reduceAdd, Nat.reduceLT, List.getD_cons_succ, List.getD_cons_zero, List.set_cons_succ, List.set_cons_zero, List.getElem?_cons_succ, List.getElem?_cons_zero, p_add, p_sub, p_mul, p_fdiv, p_mod, p_pow, p_eq, p_ne, p_lt, p_le, p_gt, p_ge, p_neg, p_idx, p_len, pAdd_i, pSub_i, t_bl, t_int, eq_i, ne_i, Kn_nx, Kn_rt, W_nil, W_outR, W_outN, seqA_ref, seqL_ref, lstO_l, seqA_tup, seqA_lst, seqL_lst, idx_tup, idx_lst, len_tup, len_lst, p_min2, p_max2, p_toIntB, p_toIntI, p_slcTF, p_slcFT, p_isinst, W_an, W_or, W_no, W_itee, W_setI, at0, eq_s (show asc sNow = true by decide) (show asc [110, 111, 119] = true by decide), show (sNow == [110, 111, 119]) = true by decide, if_true]
    rw [W_cons]
    simp only [W_var, W_cst, W_app, W_nilE, W_consE, W_evT, W_asg, W_expr, W_ret, W_iff, W_call0, W_some, W_tp, W_tsN, W_tsC, W_nm, List.length_cons, List.length_nil, Nat.reduceAdd, Nat.reduceLT, List.getD_cons_succ, List.getD_cons_zero, List.set_cons_succ, List.set_cons_zero, List.getElem?_cons_succ, List.getElem?_cons_zero, p_add, p_sub, p_mul, p_fdiv, p_mod, p_pow, p_eq, p_ne, p_lt, p_le, p_gt, p_ge, p_neg, p_idx, p_len, pAdd_i, pSub_i, t_bl, t_int, eq_i, ne_i, Kn_nx, Kn_rt, W_nil, W_outR, W_outN, seqA_ref, seqL_ref, lstO_l, seqA_tup, seqA_lst, seqL_lst, idx_tup, idx_lst, len_tup, len_lst, p_min2, p_max2, p_toIntB, p_toIntI, p_slcTF, p_slcFT, p_isinst, W_an, W_or, W_no, W_itee, W_setI, p_sorted]
    rw [p_lst (by simp), W_some, srt3]
    simp only [W_var, W_cst, W_app, W_nilE, W_consE, W_evT, W_asg, W_expr, W_ret, W_iff, W_call0, W_some, W_tp, W_tsN, W_tsC, W_nm, List.length_cons, List.length_nil, Nat.reduceAdd, Nat.reduceLT, List.getD_cons_succ, List.getD_cons_zero, List.set_cons_succ, List.set_cons_zero, List.getElem?_cons_succ, List.getElem?_cons_zero, p_add, p_sub, p_mul, p_fdiv, p_mod, p_pow, p_eq, p_ne, p_lt, p_le, p_gt, p_ge, p_neg, p_idx, p_len, pAdd_i, pSub_i, t_bl, t_int, eq_i, ne_i, Kn_nx, Kn_rt, W_nil, W_outR, W_outN, seqA_ref, seqL_ref, lstO_l, seqA_tup, seqA_lst, seqL_lst, idx_tup, idx_lst, len_tup, len_lst, p_min2, p_max2, p_toIntB, p_toIntI, p_slcTF, p_slcFT, p_isinst, W_an, W_or, W_no, W_itee, W_setI, srt3_at, Ex.wv]
  | .op o x y, ok => by
    obtain ⟨ho, ox, oy⟩ := ok
    have ha := opS_asc o
    have n1 : (opS o == [110, 117, 109, 98, 101, 114]) = false := by rcases o with _ | _ | _ | o <;> first | decide | rfl
    have n2 : (opS o == [99, 101, 108, 108]) = false := by rcases o with _ | _ | _ | o <;> first | decide | rfl
    have n3 : (opS o == [118, 97, 108, 117, 101]) = false := by rcases o with _ | _ | _ | o <;> first | decide | rfl
    have n4 : (opS o == [110, 111, 119]) = false := by rcases o with _ | _ | _ | o <;> first | decide | rfl
    refine eq_of_W ?_
    rw [W_call (F := ⟨5, 6, b10⟩) rfl rfl]
    simp only [b10, Ex.d, Ex.parts, enter, List.map, List.length, List.replicate, List.cons_append, List.nil_append, Nat.reduceSub]
    rw [W_cons]
    simp only [W_var, W_cst, W_app, W_nilE, W_consE, W_evT, W_asg, W_expr, W_ret, W_iff, W_call0, W_some, W_tp, W_tsN, W_tsC, W_nm, List.length_cons, List.length_nil, Nat.reduceAdd, Nat.reduceLT, List.getD_cons_succ, List.getD_cons_zero, List.set_cons_succ, List.set_cons_zero, List.getElem?_cons_succ, List.getElem?_cons_zero, p_add, p_sub, p_mul, p_fdiv, p_mod, p_pow, p_eq, p_ne, p_lt, p_le, p_gt, p_ge, p_neg, p_idx, p_len, pAdd_i, pSub_i, t_bl, t_int, eq_i, ne_i, Kn_nx, Kn_rt, W_nil, W_outR, W_outN, seqA_ref, seqL_ref, lstO_l, seqA_tup, seqA_lst, seqL_lst, idx_tup, idx_lst, len_tup, len_lst, p_min2, p_max2, p_toIntB, p_toIntI, p_slcTF, p_slcFT, p_isinst, W_an, W_or, W_no, W_itee, W_setI, at0, eq_s ha (show asc [110, 117, 109, 98, 101, 114] = true by decide), n1, Bool.false_eq_true, if_false]
    rw [W_cons]
    simp only [W_var, W_cst, W_app, W_nilE, W_consE, W_evT, W_asg, W_expr, W_ret, W_iff, W_call0, W_some, W_tp, W_tsN, W_tsC, W_nm, List.length_cons, List.length_nil, Nat.reduceAdd, Nat.reduceLT, List.getD_cons_succ, List.getD_cons_zero, List.set_cons_succ, List.set_cons_zero, List.getElem?_cons_succ, List.getElem?_cons_zero, p_add, p_sub, p_mul, p_fdiv, p_mod, p_pow, p_eq, p_ne, p_lt, p_le, p_gt, p_ge, p_neg, p_idx, p_len, pAdd_i, pSub_i, t_bl, t_int, eq_i, ne_i, Kn_nx, Kn_rt, W_nil, W_outR, W_outN, seqA_ref, seqL_ref, lstO_l, seqA_tup, seqA_lst, seqL_lst, idx_tup, idx_lst, len_tup, len_lst, p_min2, p_max2, p_toIntB, p_toIntI, p_slcTF, p_slcFT, p_isinst, W_an, W_or, W_no, W_itee, W_setI, at0, eq_s ha (show asc [99, 101, 108, 108] = true by decide), n2, Bool.false_eq_true, if_false]
    rw [W_cons]
    simp only [W_var, W_cst, W_app, W_nilE, W_consE, W_evT, W_asg, W_expr, W_ret, W_iff, W_call0, W_some, W_tp, W_tsN, W_tsC, W_nm, List.length_cons, List.length_nil, Nat.reduceAdd, Nat.reduceLT, List.getD_cons_succ, List.getD_cons_zero, List.set_cons_succ, List.set_cons_zero, List.getElem?_cons_succ, List.getElem?_cons_zero, p_add, p_sub, p_mul, p_fdiv, p_mod, p_pow, p_eq, p_ne, p_lt, p_le, p_gt, p_ge, p_neg, p_idx, p_len, pAdd_i, pSub_i, t_bl, t_int, eq_i, ne_i, Kn_nx, Kn_rt, W_nil, W_outR, W_outN, seqA_ref, seqL_ref, lstO_l, seqA_tup, seqA_lst, seqL_lst, idx_tup, idx_lst, len_tup, len_lst, p_min2, p_max2, p_toIntB, p_toIntI, p_slcTF, p_slcFT, p_isinst, W_an, W_or, W_no, W_itee, W_setI, at0, eq_s ha (show asc [118, 97, 108, 117, 101] = true by decide), n3, Bool.false_eq_true, if_false]
    rw [W_cons]
    simp only [W_var, W_cst, W_app, W_nilE, W_consE, W_evT, W_asg, W_expr, W_ret, W_iff, W_call0, W_some, W_tp, W_tsN, W_tsC, W_nm, List.length_cons, List.length_nil, Nat.reduceAdd, Nat.reduceLT, List.getD_cons_succ, List.getD_cons_zero, List.set_cons_succ, List.set_cons_zero, List.getElem?_cons_succ, List.getElem?_cons_zero, p_add, p_sub, p_mul, p_fdiv, p_mod, p_pow, p_eq, p_ne, p_lt, p_le, p_gt, p_ge, p_neg, p_idx, p_len, pAdd_i, pSub_i, t_bl, t_int, eq_i, ne_i, Kn_nx, Kn_rt, W_nil, W_outR, W_outN, seqA_ref, seqL_ref, lstO_l, seqA_tup, seqA_lst, seqL_lst, idx_tup, idx_lst, len_tup, len_lst, p_min2, p_max2, p_toIntB, p_toIntI, p_slcTF, p_slcFT, p_isinst, W_an, W_or, W_no, W_itee, W_setI, at0, eq_s ha (show asc [110, 111, 119] = true by decide), n4, Bool.false_eq_true, if_false]
    rw [W_cons]
    simp only [W_var, W_cst, W_app, W_nilE, W_consE, W_evT, W_asg, W_expr, W_ret, W_iff, W_call0, W_some, W_tp, W_tsN, W_tsC, W_nm, List.length_cons, List.length_nil, Nat.reduceAdd, Nat.reduceLT, List.getD_cons_succ, List.getD_cons_zero, List.set_cons_succ, List.set_cons_zero, List.getElem?_cons_succ, List.getElem?_cons_zero, p_add, p_sub, p_mul, p_fdiv, p_mod, p_pow, p_eq, p_ne, p_lt, p_le, p_gt, p_ge, p_neg, p_idx, p_len, pAdd_i, pSub_i, t_bl, t_int, eq_i, ne_i, Kn_nx, Kn_rt, W_nil, W_outR, W_outN, seqA_ref, seqL_ref, lstO_l, seqA_tup, seqA_lst, seqL_lst, idx_tup, idx_lst, len_tup, len_lst, p_min2, p_max2, p_toIntB, p_toIntI, p_slcTF, p_slcFT, p_isinst, W_an, W_or, W_no, W_itee, W_setI, at0, eq_s ha (show asc [97, 100, 100] = true by decide), eq_s ha (show asc [115, 117, 98] = true by decide)]
    match o, ho with
    | 0, _ =>
      simp only [show (opS 0 == [97, 100, 100]) = true by decide, if_true]
      rw [W_cons]
      simp only [W_var, W_cst, W_app, W_nilE, W_consE, W_evT, W_asg, W_expr, W_ret, W_iff, W_call0, W_some, W_tp, W_tsN, W_tsC, W_nm, List.length_cons, List.length_nil, Nat.reduceAdd, Nat.reduceLT, List.getD_cons_succ, List.getD_cons_zero, List.set_cons_succ, List.set_cons_zero, List.getElem?_cons_succ, List.getElem?_cons_zero, p_add, p_sub, p_mul, p_fdiv, p_mod, p_pow, p_eq, p_ne, p_lt, p_le, p_gt, p_ge, p_neg, p_idx, p_len, pAdd_i, pSub_i, t_bl, t_int, eq_i, ne_i, Kn_nx, Kn_rt, W_nil, W_outR, W_outN, seqA_ref, seqL_ref, lstO_l, seqA_tup, seqA_lst, seqL_lst, idx_tup, idx_lst, len_tup, len_lst, p_min2, p_max2, p_toIntB, p_toIntI, p_slcTF, p_slcFT, p_isinst, W_an, W_or, W_no, W_itee, W_setI, at0, at1, eq_s ha (show asc [115, 117, 98] = true by decide), show (opS 0 == [115, 117, 98]) = false by decide, pMul_l (show -B64 < 2 by decide) (show 2 < B64 by decide), Bool.false_eq_true, if_false]
      simp only [pMul_r (show -B64 < (1 - 2 * 0 : Int) by decide) (show (1 - 2 * 0 : Int) < B64 by decide), W_var, W_cst, W_app, W_nilE, W_consE, W_evT, W_asg, W_expr, W_ret, W_iff, W_call0, W_some, W_tp, W_tsN, W_tsC, W_nm, List.length_cons, List.length_nil, Nat.reduceAdd, Nat.reduceLT, List.getD_cons_succ, List.getD_cons_zero, List.set_cons_succ, List.set_cons_zero, List.getElem?_cons_succ, List.getElem?_cons_zero, p_add, p_sub, p_mul, p_fdiv, p_mod, p_pow, p_eq, p_ne, p_lt, p_le, p_gt, p_ge, p_neg, p_idx, p_len, pAdd_i, pSub_i, t_bl, t_int, eq_i, ne_i, Kn_nx, Kn_rt, W_nil, W_outR, W_outN, seqA_ref, seqL_ref, lstO_l, seqA_tup, seqA_lst, seqL_lst, idx_tup, idx_lst, len_tup, len_lst, p_min2, p_max2, p_toIntB, p_toIntI, p_slcTF, p_slcFT, p_isinst, W_an, W_or, W_no, W_itee, W_setI]
      rw [W_cons]
      simp only [W_var, W_cst, W_app, W_nilE, W_consE, W_evT, W_asg, W_expr, W_ret, W_iff, W_call0, W_some, W_tp, W_tsN, W_tsC, W_nm, List.length_cons, List.length_nil, Nat.reduceAdd, Nat.reduceLT, List.getD_cons_succ, List.getD_cons_zero, List.set_cons_succ, List.set_cons_zero, List.getElem?_cons_succ, List.getElem?_cons_zero, p_add, p_sub, p_mul, p_fdiv, p_mod, p_pow, p_eq, p_ne, p_lt, p_le, p_gt, p_ge, p_neg, p_idx, p_len, pAdd_i, pSub_i, t_bl, t_int, eq_i, ne_i, Kn_nx, Kn_rt, W_nil, W_outR, W_outN, seqA_ref, seqL_ref, lstO_l, seqA_tup, seqA_lst, seqL_lst, idx_tup, idx_lst, len_tup, len_lst, p_min2, p_max2, p_toIntB, p_toIntI, p_slcTF, p_slcFT, p_isinst, W_an, W_or, W_no, W_itee, W_setI, p_sorted]
      rw [p_lst (by simp), W_some, srt3]
      simp only [W_var, W_cst, W_app, W_nilE, W_consE, W_evT, W_asg, W_expr, W_ret, W_iff, W_call0, W_some, W_tp, W_tsN, W_tsC, W_nm, List.length_cons, List.length_nil, Nat.reduceAdd, Nat.reduceLT, List.getD_cons_succ, List.getD_cons_zero, List.set_cons_succ, List.set_cons_zero, List.getElem?_cons_succ, List.getElem?_cons_zero, p_add, p_sub, p_mul, p_fdiv, p_mod, p_pow, p_eq, p_ne, p_lt, p_le, p_gt, p_ge, p_neg, p_idx, p_len, pAdd_i, pSub_i, t_bl, t_int, eq_i, ne_i, Kn_nx, Kn_rt, W_nil, W_outR, W_outN, seqA_ref, seqL_ref, lstO_l, seqA_tup, seqA_lst, seqL_lst, idx_tup, idx_lst, len_tup, len_lst, p_min2, p_max2, p_toIntB, p_toIntI, p_slcTF, p_slcFT, p_isinst, W_an, W_or, W_no, W_itee, W_setI, srt3_at, Ex.wv, opV]
      congr 4
      omega
    | 1, _ =>
      simp only [show (opS 1 == [97, 100, 100]) = false by decide, show (opS 1 == [115, 117, 98]) = true by decide, Bool.false_eq_true, if_false, if_true, W_some, t_bl]
      rw [W_cons]
      simp only [W_var, W_cst, W_app, W_nilE, W_consE, W_evT, W_asg, W_expr, W_ret, W_iff, W_call0, W_some, W_tp, W_tsN, W_tsC, W_nm, List.length_cons, List.length_nil, Nat.reduceAdd, Nat.reduceLT, List.getD_cons_succ, List.getD_cons_zero, List.set_cons_succ, List.set_cons_zero, List.getElem?_cons_succ, List.getElem?_cons_zero, p_add, p_sub, p_mul, p_fdiv, p_mod, p_pow, p_eq, p_ne, p_lt, p_le, p_gt, p_ge, p_neg, p_idx, p_len, pAdd_i, pSub_i, t_bl, t_int, eq_i, ne_i, Kn_nx, Kn_rt, W_nil, W_outR, W_outN, seqA_ref, seqL_ref, lstO_l, seqA_tup, seqA_lst, seqL_lst, idx_tup, idx_lst, len_tup, len_lst, p_min2, p_max2, p_toIntB, p_toIntI, p_slcTF, p_slcFT, p_isinst, W_an, W_or, W_no, W_itee, W_setI, at0, at1, eq_s ha (show asc [115, 117, 98] = true by decide), show (opS 1 == [115, 117, 98]) = true by decide, pMul_l (show -B64 < 2 by decide) (show 2 < B64 by decide), if_true]
      simp only [pMul_r (show -B64 < (1 - 2 * 1 : Int) by decide) (show (1 - 2 * 1 : Int) < B64 by decide), W_var, W_cst, W_app, W_nilE, W_consE, W_evT, W_asg, W_expr, W_ret, W_iff, W_call0, W_some, W_tp, W_tsN, W_tsC, W_nm, List.length_cons, List.length_nil, Nat.reduceAdd, Nat.reduceLT, List.getD_cons_succ, List.getD_cons_zero, List.set_cons_succ, List.set_cons_zero, List.getElem?_cons_succ, List.getElem?_cons_zero, p_add, p_sub, p_mul, p_fdiv, p_mod, p_pow, p_eq, p_ne, p_lt, p_le, p_gt, p_ge, p_neg, p_idx, p_len, pAdd_i, pSub_i, t_bl, t_int, eq_i, ne_i, Kn_nx, Kn_rt, W_nil, W_outR, W_outN, seqA_ref, seqL_ref, lstO_l, seqA_tup, seqA_lst, seqL_lst, idx_tup, idx_lst, len_tup, len_lst, p_min2, p_max2, p_toIntB, p_toIntI, p_slcTF, p_slcFT, p_isinst, W_an, W_or, W_no, W_itee, W_setI]
      rw [W_cons]
      simp only [W_var, W_cst, W_app, W_nilE, W_consE, W_evT, W_asg, W_expr, W_ret, W_iff, W_call0, W_some, W_tp, W_tsN, W_tsC, W_nm, List.length_cons, List.length_nil, Nat.reduceAdd, Nat.reduceLT, List.getD_cons_succ, List.getD_cons_zero, List.set_cons_succ, List.set_cons_zero, List.getElem?_cons_succ, List.getElem?_cons_zero, p_add, p_sub, p_mul, p_fdiv, p_mod, p_pow, p_eq, p_ne, p_lt, p_le, p_gt, p_ge, p_neg, p_idx, p_len, pAdd_i, pSub_i, t_bl, t_int, eq_i, ne_i, Kn_nx, Kn_rt, W_nil, W_outR, W_outN, seqA_ref, seqL_ref, lstO_l, seqA_tup, seqA_lst, seqL_lst, idx_tup, idx_lst, len_tup, len_lst, p_min2, p_max2, p_toIntB, p_toIntI, p_slcTF, p_slcFT, p_isinst, W_an, W_or, W_no, W_itee, W_setI, p_sorted]
      rw [p_lst (by simp), W_some, srt3]
      simp only [W_var, W_cst, W_app, W_nilE, W_consE, W_evT, W_asg, W_expr, W_ret, W_iff, W_call0, W_some, W_tp, W_tsN, W_tsC, W_nm, List.length_cons, List.length_nil, Nat.reduceAdd, Nat.reduceLT, List.getD_cons_succ, List.getD_cons_zero, List.set_cons_succ, List.set_cons_zero, List.getElem?_cons_succ, List.getElem?_cons_zero, p_add, p_sub, p_mul, p_fdiv, p_mod, p_pow, p_eq, p_ne, p_lt, p_le, p_gt, p_ge, p_neg, p_idx, p_len, pAdd_i, pSub_i, t_bl, t_int, eq_i, ne_i, Kn_nx, Kn_rt, W_nil, W_outR, W_outN, seqA_ref, seqL_ref, lstO_l, seqA_tup, seqA_lst, seqL_lst, idx_tup, idx_lst, len_tup, len_lst, p_min2, p_max2, p_toIntB, p_toIntI, p_slcTF, p_slcFT, p_isinst, W_an, W_or, W_no, W_itee, W_setI, srt3_at, Ex.wv, opV]
      congr 4
      omega
    | 2, _ =>
      simp only [show (opS 2 == [97, 100, 100]) = false by decide, show (opS 2 == [115, 117, 98]) = false by decide, Bool.false_eq_true, if_false, W_some, t_bl]
      rw [W_cons]
      simp only [W_var, W_cst, W_app, W_nilE, W_consE, W_evT, W_asg, W_expr, W_ret, W_iff, W_call0, W_some, W_tp, W_tsN, W_tsC, W_nm, List.length_cons, List.length_nil, Nat.reduceAdd, Nat.reduceLT, List.getD_cons_succ, List.getD_cons_zero, List.set_cons_succ, List.set_cons_zero, List.getElem?_cons_succ, List.getElem?_cons_zero, p_add, p_sub, p_mul, p_fdiv, p_mod, p_pow, p_eq, p_ne, p_lt, p_le, p_gt, p_ge, p_neg, p_idx, p_len, pAdd_i, pSub_i, t_bl, t_int, eq_i, ne_i, Kn_nx, Kn_rt, W_nil, W_outR, W_outN, seqA_ref, seqL_ref, lstO_l, seqA_tup, seqA_lst, seqL_lst, idx_tup, idx_lst, len_tup, len_lst, p_min2, p_max2, p_toIntB, p_toIntI, p_slcTF, p_slcFT, p_isinst, W_an, W_or, W_no, W_itee, W_setI, at0, p_sorted, srt2, eq_s ha (show asc [109, 111, 115, 116] = true by decide), show (opS 2 == [109, 111, 115, 116]) = false by decide, Bool.false_eq_true, if_false, srt2_0, Ex.wv, opV]
    | 3, _ =>
      simp only [show (opS 3 == [97, 100, 100]) = false by decide, show (opS 3 == [115, 117, 98]) = false by decide, Bool.false_eq_true, if_false, W_some, t_bl]
      rw [W_cons]
      simp only [W_var, W_cst, W_app, W_nilE, W_consE, W_evT, W_asg, W_expr, W_ret, W_iff, W_call0, W_some, W_tp, W_tsN, W_tsC, W_nm, List.length_cons, List.length_nil, Nat.reduceAdd, Nat.reduceLT, List.getD_cons_succ, List.getD_cons_zero, List.set_cons_succ, List.set_cons_zero, List.getElem?_cons_succ, List.getElem?_cons_zero, p_add, p_sub, p_mul, p_fdiv, p_mod, p_pow, p_eq, p_ne, p_lt, p_le, p_gt, p_ge, p_neg, p_idx, p_len, pAdd_i, pSub_i, t_bl, t_int, eq_i, ne_i, Kn_nx, Kn_rt, W_nil, W_outR, W_outN, seqA_ref, seqL_ref, lstO_l, seqA_tup, seqA_lst, seqL_lst, idx_tup, idx_lst, len_tup, len_lst, p_min2, p_max2, p_toIntB, p_toIntI, p_slcTF, p_slcFT, p_isinst, W_an, W_or, W_no, W_itee, W_setI, at0, p_sorted, srt2, eq_s ha (show asc [109, 111, 115, 116] = true by decide), show (opS 3 == [109, 111, 115, 116]) = true by decide, if_true, srt2_1, Ex.wv, opV]
end LW
end Dp

set_option Elab.async false
set_option linter.all false
set_option autoImplicit false
set_option maxRecDepth 100000
set_option maxHeartbeats 4000000
namespace Dp
namespace LW
theorem Ex.dep : ∀ e : Ex, depD e.d = e.ht + 1
  | .num _ | .cell _ | .val _ | .now => by simp [Ex.d, Ex.ht, depD, depDs]
  | .op o a b => by
    simp only [Ex.d, Ex.ht, depD, depDs, Ex.dep a, Ex.dep b]
    omega
theorem Ex.tp {w : Wo} : ∀ e : Ex, e.Ok w → tp e.d = true
  | .num _, _ => by simp [Ex.d, Dp.tp, tps]; decide
  | .cell s, h => by simp [Ex.d, Dp.tp, tps, h.1]; decide
  | .val _, _ => by simp [Ex.d, Dp.tp, tps]; decide
  | .now, _ => by simp [Ex.d, Dp.tp, tps]; decide
  | .op o a b, h => by simp [Ex.d, Dp.tp, tps, Ex.tp a h.2.1, Ex.tp b h.2.2, opS_asc]
theorem opS_inj {o p : Nat} (ho : o < 4) (hp : p < 4) (h : opS o = opS p) : o = p := by
  have : ∀ o < 4, ∀ p < 4, opS o = opS p → o = p := by decide
  exact this o ho p hp h
theorem Ex.inj {w : Wo} : ∀ e c : Ex, e.Ok w → c.Ok w → e.d = c.d → e = c := by
  intro e
  induction e with
  | num i => intro c h1 h2 h; cases c <;> simp_all [Ex.d, sNum, sCell, sVal, sNow]
  | cell i => intro c h1 h2 h; cases c <;> simp_all [Ex.d, sNum, sCell, sVal, sNow]
  | val i => intro c h1 h2 h; cases c <;> simp_all [Ex.d, sNum, sCell, sVal, sNow]; omega
  | now => intro c h1 h2 h; cases c <;> simp_all [Ex.d, sNum, sCell, sVal, sNow]
  | op o a b iha ihb =>
    intro c h1 h2 h
    cases c with
    | op o' a' b' =>
      simp only [Ex.d, D.tup.injEq, List.cons.injEq, D.str.injEq] at h
      rw [opS_inj h1.1 h2.1 h.1, iha a' h1.2.1 h2.2.1 h.2.1, ihb b' h1.2.2 h2.2.2 h.2.2.1]
    | _ => simp [Ex.d] at h
def ent (w : Wo) (e : Ex) : D := .tup [e.d, .int (e.wv w)]
theorem found_ok (w : Wo) {h : Hs} {c n : Nat} {es : List Ex} (hc : h[c]? = some (.lst (es.map (ent w)))) (hok : ∀ e ∈ es, e.Ok w ∧ e.ht ≤ 5) {x : Ex} (hx : x ∈ es) : callF T (n + 10) 9 [.ref c, x.d] h = some (.int (x.wv w), h) := by
  obtain ⟨ox, lx⟩ := hok x hx
  obtain ⟨u, hu, u1, _, _⟩ := tyD_tp (h := h) (x.tp ox)
  have ht : isTupD x.d = true := by cases x <;> rfl
  refine eq_of_W ?_
  rw [W_call (F := ⟨2, 4, b9⟩) rfl rfl]
  simp only [b9, enter, List.map, List.length, List.replicate, List.cons_append, List.nil_append, Nat.reduceSub]
  rw [W_cons, W_for]
  simp only [W_var, W_cst, W_app, W_nilE, W_consE, W_evT, W_asg, W_expr, W_ret, W_iff, W_call0, W_some, W_tp, W_tsN, W_tsC, W_nm, List.length_cons, List.length_nil, Nat.reduceAdd, Nat.reduceLT, List.getD_cons_succ, List.getD_cons_zero, List.set_cons_succ, List.set_cons_zero, List.getElem?_cons_succ, List.getElem?_cons_zero, p_add, p_sub, p_mul, p_fdiv, p_mod, p_pow, p_eq, p_ne, p_lt, p_le, p_gt, p_ge, p_neg, p_idx, p_len, pAdd_i, pSub_i, t_bl, t_int, eq_i, ne_i, Kn_nx, Kn_rt, W_nil, W_outR, W_outN, seqA_ref, seqL_ref, lstO_l, seqA_tup, seqA_lst, seqL_lst, idx_tup, idx_lst, len_tup, len_lst, p_min2, p_max2, p_toIntB, p_toIntI, p_slcTF, p_slcFT, p_isinst, W_an, W_or, W_no, W_itee, W_setI, items, hc]
  refine loopF_W (fun r ρ h' => h' = h ∧ ∃ p q es', ρ = [some (.ref c), some x.d, p, q] ∧ r = es'.map (ent w) ∧ x ∈ es' ∧ ∀ e ∈ es', e.Ok w ∧ e.ht ≤ 5) ?_ ?_ ?_ _ _ _ ⟨rfl, none, none, es, rfl, rfl, hx, hok⟩
  · rintro r ρ h' ⟨rfl, _⟩
    simp only [chkS, seqL_ref, hc, lstO_l, beqDs_rfl]
  · rintro i xs ρ h' ⟨rfl, p, q, es', rfl, hr, hm, ho⟩
    cases es' with
    | nil => simp at hm
    | cons e es' =>
      simp only [List.map_cons, List.cons.injEq] at hr
      obtain ⟨rfl, rfl⟩ := hr
      obtain ⟨oe, le⟩ := ho e (by simp)
      have al := alike_ok (T := T) (f := 4) rfl (h := h') (n + 9) e.d x.d (by rw [e.dep]; omega) (e.tp oe) (x.tp ox) (by rw [e.dep]; omega) (by rw [x.dep]; omega)
      simp only [W_bind, ent, W_var, W_cst, W_app, W_nilE, W_consE, W_evT, W_asg, W_expr, W_ret, W_iff, W_call0, W_some, W_tp, W_tsN, W_tsC, W_nm, List.length_cons, List.length_nil, Nat.reduceAdd, Nat.reduceLT, List.getD_cons_succ, List.getD_cons_zero, List.set_cons_succ, List.set_cons_zero, List.getElem?_cons_succ, List.getElem?_cons_zero, p_add, p_sub, p_mul, p_fdiv, p_mod, p_pow, p_eq, p_ne, p_lt, p_le, p_gt, p_ge, p_neg, p_idx, p_len, pAdd_i, pSub_i, t_bl, t_int, eq_i, ne_i, Kn_nx, Kn_rt, W_nil, W_outR, W_outN, seqA_ref, seqL_ref, lstO_l, seqA_tup, seqA_lst, seqL_lst, idx_tup, idx_lst, len_tup, len_lst, p_min2, p_max2, p_toIntB, p_toIntI, p_slcTF, p_slcFT, p_isinst, W_an, W_or, W_no, W_itee, W_setI]
      rw [W_cons]
      simp only [W_var, W_cst, W_app, W_nilE, W_consE, W_evT, W_asg, W_expr, W_ret, W_iff, W_call0, W_some, W_tp, W_tsN, W_tsC, W_nm, List.length_cons, List.length_nil, Nat.reduceAdd, Nat.reduceLT, List.getD_cons_succ, List.getD_cons_zero, List.set_cons_succ, List.set_cons_zero, List.getElem?_cons_succ, List.getElem?_cons_zero, p_add, p_sub, p_mul, p_fdiv, p_mod, p_pow, p_eq, p_ne, p_lt, p_le, p_gt, p_ge, p_neg, p_idx, p_len, pAdd_i, pSub_i, t_bl, t_int, eq_i, ne_i, Kn_nx, Kn_rt, W_nil, W_outR, W_outN, seqA_ref, seqL_ref, lstO_l, seqA_tup, seqA_lst, seqL_lst, idx_tup, idx_lst, len_tup, len_lst, p_min2, p_max2, p_toIntB, p_toIntI, p_slcTF, p_slcFT, p_isinst, W_an, W_or, W_no, W_itee, W_setI, isi_ty hu (t := "tuple") (by decide), u1, ht, if_true, al]
      by_cases hq : beqD e.d x.d = true
      · have := e.inj x oe ox (beqD_eq _ _ hq)
        subst this
        rw [if_pos hq, W_cons]
        simp only [W_var, W_cst, W_app, W_nilE, W_consE, W_evT, W_asg, W_expr, W_ret, W_iff, W_call0, W_some, W_tp, W_tsN, W_tsC, W_nm, List.length_cons, List.length_nil, Nat.reduceAdd, Nat.reduceLT, List.getD_cons_succ, List.getD_cons_zero, List.set_cons_succ, List.set_cons_zero, List.getElem?_cons_succ, List.getElem?_cons_zero, p_add, p_sub, p_mul, p_fdiv, p_mod, p_pow, p_eq, p_ne, p_lt, p_le, p_gt, p_ge, p_neg, p_idx, p_len, pAdd_i, pSub_i, t_bl, t_int, eq_i, ne_i, Kn_nx, Kn_rt, W_nil, W_outR, W_outN, seqA_ref, seqL_ref, lstO_l, seqA_tup, seqA_lst, seqL_lst, idx_tup, idx_lst, len_tup, len_lst, p_min2, p_max2, p_toIntB, p_toIntI, p_slcTF, p_slcFT, p_isinst, W_an, W_or, W_no, W_itee, W_setI]
      · rw [if_neg hq]
        refine ⟨trivial, _, _, es', rfl, rfl, ?_, fun z hz => ho z (by simp [hz])⟩
        rcases List.mem_cons.mp hm with rfl | hm
        · exact absurd (beqD_rfl _) hq
        · exact hm
  · rintro ρ h' ⟨rfl, p, q, es', _, hr, hm, _⟩
    cases es' with
    | nil => simp at hm
    | cons e es' => simp at hr
theorem found_no (w : Wo) {h : Hs} {c n : Nat} {es : List Ex} (hc : h[c]? = some (.lst (es.map (ent w)))) {x : D} (tx : tp x = true) (hx : isTupD x = false) : callF T (n + 1) 9 [.ref c, x] h = some (x, h) := by
  obtain ⟨u, hu, u1, _, _⟩ := tyD_tp (h := h) tx
  refine eq_of_W ?_
  rw [W_call (F := ⟨2, 4, b9⟩) rfl rfl]
  simp only [b9, enter, List.map, List.length, List.replicate, List.cons_append, List.nil_append, Nat.reduceSub]
  rw [W_cons, W_for]
  simp only [W_var, W_cst, W_app, W_nilE, W_consE, W_evT, W_asg, W_expr, W_ret, W_iff, W_call0, W_some, W_tp, W_tsN, W_tsC, W_nm, List.length_cons, List.length_nil, Nat.reduceAdd, Nat.reduceLT, List.getD_cons_succ, List.getD_cons_zero, List.set_cons_succ, List.set_cons_zero, List.getElem?_cons_succ, List.getElem?_cons_zero, p_add, p_sub, p_mul, p_fdiv, p_mod, p_pow, p_eq, p_ne, p_lt, p_le, p_gt, p_ge, p_neg, p_idx, p_len, pAdd_i, pSub_i, t_bl, t_int, eq_i, ne_i, Kn_nx, Kn_rt, W_nil, W_outR, W_outN, seqA_ref, seqL_ref, lstO_l, seqA_tup, seqA_lst, seqL_lst, idx_tup, idx_lst, len_tup, len_lst, p_min2, p_max2, p_toIntB, p_toIntI, p_slcTF, p_slcFT, p_isinst, W_an, W_or, W_no, W_itee, W_setI, items, hc]
  refine loopF_W (fun r ρ h' => h' = h ∧ ∃ p q es', ρ = [some (.ref c), some x, p, q] ∧ r = es'.map (ent w)) ?_ ?_ ?_ _ _ _ ⟨rfl, none, none, es, rfl, rfl⟩
  · rintro r ρ h' ⟨rfl, _⟩
    simp only [chkS, seqL_ref, hc, lstO_l, beqDs_rfl]
  · rintro i xs ρ h' ⟨rfl, p, q, es', rfl, hr⟩
    cases es' with
    | nil => simp at hr
    | cons e es' =>
      simp only [List.map_cons, List.cons.injEq] at hr
      obtain ⟨rfl, rfl⟩ := hr
      simp only [W_bind, ent, W_var, W_cst, W_app, W_nilE, W_consE, W_evT, W_asg, W_expr, W_ret, W_iff, W_call0, W_some, W_tp, W_tsN, W_tsC, W_nm, List.length_cons, List.length_nil, Nat.reduceAdd, Nat.reduceLT, List.getD_cons_succ, List.getD_cons_zero, List.set_cons_succ, List.set_cons_zero, List.getElem?_cons_succ, List.getElem?_cons_zero, p_add, p_sub, p_mul, p_fdiv, p_mod, p_pow, p_eq, p_ne, p_lt, p_le, p_gt, p_ge, p_neg, p_idx, p_len, pAdd_i, pSub_i, t_bl, t_int, eq_i, ne_i, Kn_nx, Kn_rt, W_nil, W_outR, W_outN, seqA_ref, seqL_ref, lstO_l, seqA_tup, seqA_lst, seqL_lst, idx_tup, idx_lst, len_tup, len_lst, p_min2, p_max2, p_toIntB, p_toIntI, p_slcTF, p_slcFT, p_isinst, W_an, W_or, W_no, W_itee, W_setI]
      rw [W_cons]
      simp only [W_var, W_cst, W_app, W_nilE, W_consE, W_evT, W_asg, W_expr, W_ret, W_iff, W_call0, W_some, W_tp, W_tsN, W_tsC, W_nm, List.length_cons, List.length_nil, Nat.reduceAdd, Nat.reduceLT, List.getD_cons_succ, List.getD_cons_zero, List.set_cons_succ, List.set_cons_zero, List.getElem?_cons_succ, List.getElem?_cons_zero, p_add, p_sub, p_mul, p_fdiv, p_mod, p_pow, p_eq, p_ne, p_lt, p_le, p_gt, p_ge, p_neg, p_idx, p_len, pAdd_i, pSub_i, t_bl, t_int, eq_i, ne_i, Kn_nx, Kn_rt, W_nil, W_outR, W_outN, seqA_ref, seqL_ref, lstO_l, seqA_tup, seqA_lst, seqL_lst, idx_tup, idx_lst, len_tup, len_lst, p_min2, p_max2, p_toIntB, p_toIntI, p_slcTF, p_slcFT, p_isinst, W_an, W_or, W_no, W_itee, W_setI, isi_ty hu (t := "tuple") (by decide), u1, hx, Bool.false_eq_true, if_false]
      exact ⟨trivial, _, _, es', rfl, rfl⟩
  · rintro ρ h' ⟨rfl, p, q, es', rfl, hr⟩
    rw [Kn_nx, W_cons]
    simp only [W_var, W_cst, W_app, W_nilE, W_consE, W_evT, W_asg, W_expr, W_ret, W_iff, W_call0, W_some, W_tp, W_tsN, W_tsC, W_nm, List.length_cons, List.length_nil, Nat.reduceAdd, Nat.reduceLT, List.getD_cons_succ, List.getD_cons_zero, List.set_cons_succ, List.set_cons_zero, List.getElem?_cons_succ, List.getElem?_cons_zero, p_add, p_sub, p_mul, p_fdiv, p_mod, p_pow, p_eq, p_ne, p_lt, p_le, p_gt, p_ge, p_neg, p_idx, p_len, pAdd_i, pSub_i, t_bl, t_int, eq_i, ne_i, Kn_nx, Kn_rt, W_nil, W_outR, W_outN, seqA_ref, seqL_ref, lstO_l, seqA_tup, seqA_lst, seqL_lst, idx_tup, idx_lst, len_tup, len_lst, p_min2, p_max2, p_toIntB, p_toIntI, p_slcTF, p_slcFT, p_isinst, W_an, W_or, W_no, W_itee, W_setI]
def kids : Ex → List Ex
  | .op _ a b => [a, b]
  | _ => []
def szs : List Ex → Nat
  | [] => 0
  | e :: es => e.sz + szs es
theorem szs_app : ∀ a b : List Ex, szs (a ++ b) = szs a + szs b
  | [], b => by simp [szs]
  | e :: a, b => by simp only [List.cons_append, szs, szs_app a b]; omega
theorem sz_kids (e : Ex) : e.sz = szs (kids e) + 1 := by cases e <;> simp [Ex.sz, kids, szs]
theorem sz_pos (e : Ex) : 1 ≤ e.sz := by rw [sz_kids]; omega
theorem len_szs : ∀ es : List Ex, es.length ≤ szs es
  | [] => by simp [szs]
  | e :: es => by
    have := len_szs es
    have := sz_pos e
    simp only [List.length_cons, szs]
    omega
theorem kids_ok {w : Wo} {e c : Ex} (h : e.Ok w) (hc : c ∈ kids e) : c.Ok w ∧ c.ht ≤ e.ht := by
  cases e <;> simp [kids] at hc
  rcases hc with rfl | rfl
  · exact ⟨h.2.1, by simp [Ex.ht]; omega⟩
  · exact ⟨h.2.2, by simp [Ex.ht]; omega⟩
def Ex.tl (e : Ex) : List D := match e.d with
  | .tup (_ :: r) => r
  | _ => []
theorem cut1 {α : Type} {x : α} {xs : List α} : cutD (x :: xs) (some 1) none = xs := by
  have e : sIx (x :: xs).length 0 (some 1) = 1 := by
    show (if (1 : Int) < 0 then max (1 + ((x :: xs).length : Int)) 0 else min (1 : Int) ((x :: xs).length : Int)).toNat = 1
    rw [if_neg (by decide)]
    simp only [List.length_cons]
    omega
  unfold cutD
  rw [e]
  simp [sIx]
theorem slc_d {h : Hs} (e : Ex) : pSlc h e.d (some 1) none = some (.tup e.tl) := by
  cases e <;> simp only [Ex.d, Ex.tl, pSlc, cut1]
theorem tl_kids {w : Wo} (e : Ex) (h : e.Ok w) : e.tl.filterMap (fun d => if isTupD d then some d else none) = (kids e).map Ex.d := by
  cases e with
  | op o a b =>
    have h1 : isTupD a.d = true := by cases a <;> rfl
    have h2 : isTupD b.d = true := by cases b <;> rfl
    simp [Ex.tl, Ex.d, kids, h1, h2]
  | _ => simp [Ex.tl, Ex.d, kids, isTupD]
theorem tl_tp {w : Wo} (e : Ex) (h : e.Ok w) : ∀ d ∈ e.tl, tp d = true := by
  cases e with
  | op o a b =>
    intro d hd
    simp [Ex.tl, Ex.d] at hd
    rcases hd with rfl | rfl
    · exact a.tp h.2.1
    · exact b.tp h.2.2
  | cell s =>
    intro d hd
    simp [Ex.tl, Ex.d] at hd
    subst hd
    exact h.1
  | _ =>
    intro d hd
    simp [Ex.tl, Ex.d] at hd
    try (subst hd; rfl)
def Cl (ws : List Ex) (n : Nat) : Prop := ∀ j < n, ∀ e, ws[j]? = some e → ∀ c ∈ kids e, ∃ m, j < m ∧ ws[m]? = some c
theorem pAdd_l {h : Hs} {xs ys : List D} (hl : xs.length + ys.length ≤ 1000000) : pAdd h (.lst xs) (.lst ys) = some (.lst (xs ++ ys)) := by
  simp [pAdd, seqO, big, hl]
theorem neg1_at {α : Type} {xs : List α} {x : α} (h : xs.getLast? = some x) : atD xs (-1) = some x := by
  have hn : xs ≠ [] := by intro e; simp [e] at h
  have hl : 0 < xs.length := List.length_pos_iff.mpr hn
  unfold atD ixD
  rw [if_neg (by decide), if_pos (by omega)]
  have : ((-1 : Int) + (xs.length : Int)).toNat = xs.length - 1 := by omega
  simp only [this, Option.bind_some]
  rw [List.getLast?_eq_getElem?] at h
  exact h
theorem Cl_step {ws : List Ex} {n : Nat} {e : Ex} (he : ws[n]? = some e) (h : Cl ws n) : Cl (ws ++ kids e) (n + 1) := by
  have hn := (List.getElem?_eq_some_iff.mp he).1
  intro j hj f hf c hc
  by_cases hjn : j < n
  · rw [List.getElem?_append_left (by omega)] at hf
    obtain ⟨m, hm, e1⟩ := h j hjn f hf c hc
    exact ⟨m, hm, by rw [List.getElem?_append_left (List.getElem?_eq_some_iff.mp e1).1]; exact e1⟩
  · have : j = n := by omega
    subst this
    rw [List.getElem?_append_left hn, he] at hf
    cases hf
    obtain ⟨m, hm, e1⟩ := List.mem_iff_getElem.mp hc
    exact ⟨ws.length + m, by omega, by rw [List.getElem?_append_right (by omega)]; simp [hm, e1]⟩
theorem parts_ok (w : Wo) {h : Hs} {c n : Nat} {es : List Ex} (hc : h[c]? = some (.lst (es.map (ent w)))) (hok : ∀ e ∈ es, e.Ok w ∧ e.ht ≤ 5) {e : Ex} (oe : e.Ok w) (hk : ∀ k ∈ kids e, k ∈ es) :
    ∃ g : D → D, (∀ d ∈ e.tl, callF T (n + 10) 9 [.ref c, d] h = some (g d, h)) ∧ e.tl.map g = e.parts w := by
  cases e with
  | op o a b =>
    have h1 := found_ok (n := n) w hc hok (hk a (by simp [kids]))
    have h2 := found_ok (n := n) w hc hok (hk b (by simp [kids]))
    refine ⟨fun d => if beqD d a.d then .int (a.wv w) else .int (b.wv w), fun d hd => ?_, ?_⟩
    · simp [Ex.tl, Ex.d] at hd
      rcases hd with rfl | rfl
      · rw [h1]; simp [beqD_rfl]
      · rw [h2]
        by_cases hq : beqD b.d a.d = true
        · have := b.inj a oe.2.2 oe.2.1 (beqD_eq _ _ hq)
          subst this
          simp
        · simp [hq]
    · by_cases hq : beqD b.d a.d = true
      · have := b.inj a oe.2.2 oe.2.1 (beqD_eq _ _ hq)
        subst this
        simp [Ex.tl, Ex.d, Ex.parts, beqD_rfl]
      · simp [Ex.tl, Ex.d, Ex.parts, beqD_rfl, hq]
  | num i =>
    refine ⟨fun d => d, fun d hd => ?_, by simp [Ex.tl, Ex.d, Ex.parts]⟩
    simp [Ex.tl, Ex.d] at hd
    subst hd
    exact found_no (n := n + 9) w hc rfl rfl
  | cell s =>
    refine ⟨fun d => d, fun d hd => ?_, by simp [Ex.tl, Ex.d, Ex.parts]⟩
    simp [Ex.tl, Ex.d] at hd
    subst hd
    exact found_no (n := n + 9) w hc oe.1 rfl
  | val j =>
    refine ⟨fun d => d, fun d hd => ?_, by simp [Ex.tl, Ex.d, Ex.parts]⟩
    simp [Ex.tl, Ex.d] at hd
    subst hd
    exact found_no (n := n + 9) w hc rfl rfl
  | now => exact ⟨fun d => d, fun d hd => by simp [Ex.tl, Ex.d] at hd, by simp [Ex.tl, Ex.d, Ex.parts]⟩
theorem up_ok (w : Wo) {a b : O} {n : Nat} {e : Ex} (oe : e.Ok w) (le : e.ht ≤ 5) (ls : e.sz ≤ 100) :
    W (callF T (n + 11) 8 [e.d, .ref 2, .tup (w.us.map .int), .int w.now] [a, b, .dct w.ks w.vs]) fun r => ∃ o, r = (.int (e.wv w), [a, b, .dct w.ks w.vs, o]) := by
  rw [W_call (F := ⟨4, 10, b8⟩) rfl rfl]
  simp only [b8, enter, List.map, List.length, List.replicate, List.cons_append, List.nil_append, Nat.reduceSub]
  rw [W_cons]
  simp only [W_var, W_cst, W_app, W_nilE, W_consE, W_evT, W_asg, W_expr, W_ret, W_iff, W_call0, W_some, W_tp, W_tsN, W_tsC, W_nm, List.length_cons, List.length_nil, Nat.reduceAdd, Nat.reduceLT, List.getD_cons_succ, List.getD_cons_zero, List.set_cons_succ, List.set_cons_zero, List.getElem?_cons_succ, List.getElem?_cons_zero, p_add, p_sub, p_mul, p_fdiv, p_mod, p_pow, p_eq, p_ne, p_lt, p_le, p_gt, p_ge, p_neg, p_idx, p_len, pAdd_i, pSub_i, t_bl, t_int, eq_i, ne_i, Kn_nx, Kn_rt, W_nil, W_outR, W_outN, seqA_ref, seqL_ref, lstO_l, seqA_tup, seqA_lst, seqL_lst, idx_tup, idx_lst, len_tup, len_lst, p_min2, p_max2, p_toIntB, p_toIntI, p_slcTF, p_slcFT, p_isinst, W_an, W_or, W_no, W_itee, W_setI]
  rw [p_lst (by simp)]
  simp only [W_var, W_cst, W_app, W_nilE, W_consE, W_evT, W_asg, W_expr, W_ret, W_iff, W_call0, W_some, W_tp, W_tsN, W_tsC, W_nm, List.length_cons, List.length_nil, Nat.reduceAdd, Nat.reduceLT, List.getD_cons_succ, List.getD_cons_zero, List.set_cons_succ, List.set_cons_zero, List.getElem?_cons_succ, List.getElem?_cons_zero, p_add, p_sub, p_mul, p_fdiv, p_mod, p_pow, p_eq, p_ne, p_lt, p_le, p_gt, p_ge, p_neg, p_idx, p_len, pAdd_i, pSub_i, t_bl, t_int, eq_i, ne_i, Kn_nx, Kn_rt, W_nil, W_outR, W_outN, seqA_ref, seqL_ref, lstO_l, seqA_tup, seqA_lst, seqL_lst, idx_tup, idx_lst, len_tup, len_lst, p_min2, p_max2, p_toIntB, p_toIntI, p_slcTF, p_slcFT, p_isinst, W_an, W_or, W_no, W_itee, W_setI]
  rw [W_cons]
  simp only [W_var, W_cst, W_app, W_nilE, W_consE, W_evT, W_asg, W_expr, W_ret, W_iff, W_call0, W_some, W_tp, W_tsN, W_tsC, W_nm, List.length_cons, List.length_nil, Nat.reduceAdd, Nat.reduceLT, List.getD_cons_succ, List.getD_cons_zero, List.set_cons_succ, List.set_cons_zero, List.getElem?_cons_succ, List.getElem?_cons_zero, p_add, p_sub, p_mul, p_fdiv, p_mod, p_pow, p_eq, p_ne, p_lt, p_le, p_gt, p_ge, p_neg, p_idx, p_len, pAdd_i, pSub_i, t_bl, t_int, eq_i, ne_i, Kn_nx, Kn_rt, W_nil, W_outR, W_outN, seqA_ref, seqL_ref, lstO_l, seqA_tup, seqA_lst, seqL_lst, idx_tup, idx_lst, len_tup, len_lst, p_min2, p_max2, p_toIntB, p_toIntI, p_slcTF, p_slcFT, p_isinst, W_an, W_or, W_no, W_itee, W_setI]
  rw [W_cons, W_while]
  refine loopW_W (fun m ρ h => h = [a, b, .dct w.ks w.vs] ∧ ∃ (ws : List Ex) (t : Nat), ρ = [some e.d, some (.ref 2), some (.tup (w.us.map .int)), some (.int w.now), some (.lst (ws.map Ex.d)), some (.int t), none, none, none, none] ∧
    t ≤ ws.length ∧ m = szs (ws.drop t) ∧ t + m = e.sz ∧ Cl ws t ∧ (∀ x ∈ ws, x.Ok w ∧ x.ht ≤ 5) ∧ ws[0]? = some e) ?_ _ e.sz _ _ (by omega) ⟨rfl, [e], 0, rfl, by simp, by simp [szs], by simp, fun j hj => by omega, fun x hx => by simp at hx; subst hx; exact ⟨oe, le⟩, rfl⟩
  · rintro m ρ h ⟨rfl, ws, t, rfl, htl, hm, hts, hcl, hok, h0⟩
    simp only [W_var, W_cst, W_app, W_nilE, W_consE, W_evT, W_asg, W_expr, W_ret, W_iff, W_call0, W_some, W_tp, W_tsN, W_tsC, W_nm, List.length_cons, List.length_nil, Nat.reduceAdd, Nat.reduceLT, List.getD_cons_succ, List.getD_cons_zero, List.set_cons_succ, List.set_cons_zero, List.getElem?_cons_succ, List.getElem?_cons_zero, p_add, p_sub, p_mul, p_fdiv, p_mod, p_pow, p_eq, p_ne, p_lt, p_le, p_gt, p_ge, p_neg, p_idx, p_len, pAdd_i, pSub_i, t_bl, t_int, eq_i, ne_i, Kn_nx, Kn_rt, W_nil, W_outR, W_outN, seqA_ref, seqL_ref, lstO_l, seqA_tup, seqA_lst, seqL_lst, idx_tup, idx_lst, len_tup, len_lst, p_min2, p_max2, p_toIntB, p_toIntI, p_slcTF, p_slcFT, p_isinst, W_an, W_or, W_no, W_itee, W_setI, List.length_map]
    have hwl : ws.length ≤ t + szs (ws.drop t) := by
      have := len_szs (ws.drop t)
      rw [List.length_drop] at this
      omega
    by_cases ht : t < ws.length
    · rw [if_pos (by simpa using ht)]
      obtain ⟨x, hx⟩ : ∃ x, ws[t]? = some x := ⟨ws[t], by simp [ht]⟩
      have mx := List.mem_of_getElem? hx
      obtain ⟨ox, lx⟩ := hok x mx
      have hx' : (ws.map Ex.d)[t]? = some x.d := by simp [hx]
      have hdr : ws.drop t = x :: ws.drop (t + 1) := by
        rw [List.drop_eq_getElem_cons ht]
        congr 1
        rw [List.getElem?_eq_getElem ht] at hx
        exact Option.some.inj hx
      have hsz : szs (ws.drop t) = x.sz + szs (ws.drop (t + 1)) := by rw [hdr]; rfl
      have hkl : (kids x).length ≤ 2 := by cases x <;> simp [kids]
      rw [W_cons]
      simp only [W_var, W_cst, W_app, W_nilE, W_consE, W_evT, W_asg, W_expr, W_ret, W_iff, W_call0, W_some, W_tp, W_tsN, W_tsC, W_nm, List.length_cons, List.length_nil, Nat.reduceAdd, Nat.reduceLT, List.getD_cons_succ, List.getD_cons_zero, List.set_cons_succ, List.set_cons_zero, List.getElem?_cons_succ, List.getElem?_cons_zero, p_add, p_sub, p_mul, p_fdiv, p_mod, p_pow, p_eq, p_ne, p_lt, p_le, p_gt, p_ge, p_neg, p_idx, p_len, pAdd_i, pSub_i, t_bl, t_int, eq_i, ne_i, Kn_nx, Kn_rt, W_nil, W_outR, W_outN, seqA_ref, seqL_ref, lstO_l, seqA_tup, seqA_lst, seqL_lst, idx_tup, idx_lst, len_tup, len_lst, p_min2, p_max2, p_toIntB, p_toIntI, p_slcTF, p_slcFT, p_isinst, W_an, W_or, W_no, W_itee, W_setI, atD_nat hx', slc_d, W_comp, items]
      refine W.of (loopC_eq (fun d => if isTupD d then some d else none) rfl fun d hd => eq_of_W ?_) ?_
      · obtain ⟨u, hu, u1, _, _⟩ := tyD_tp (h := [a, b, .dct w.ks w.vs]) (tl_tp x ox d hd)
        simp only [W_bind, wipeE, W_nm, List.length_set, W_var, W_cst, W_app, W_nilE, W_consE, W_evT, W_asg, W_expr, W_ret, W_iff, W_call0, W_some, W_tp, W_tsN, W_tsC, W_nm, List.length_cons, List.length_nil, Nat.reduceAdd, Nat.reduceLT, List.getD_cons_succ, List.getD_cons_zero, List.set_cons_succ, List.set_cons_zero, List.getElem?_cons_succ, List.getElem?_cons_zero, p_add, p_sub, p_mul, p_fdiv, p_mod, p_pow, p_eq, p_ne, p_lt, p_le, p_gt, p_ge, p_neg, p_idx, p_len, pAdd_i, pSub_i, t_bl, t_int, eq_i, ne_i, Kn_nx, Kn_rt, W_nil, W_outR, W_outN, seqA_ref, seqL_ref, lstO_l, seqA_tup, seqA_lst, seqL_lst, idx_tup, idx_lst, len_tup, len_lst, p_min2, p_max2, p_toIntB, p_toIntI, p_slcTF, p_slcFT, p_isinst, W_an, W_or, W_no, W_itee, W_setI, W_evCs, isi_ty hu (t := "tuple") (by decide), u1]
        cases isTupD d
        · simp [W]
        · simp [W_map, W_var, W_cst, W_app, W_nilE, W_consE, W_evT, W_asg, W_expr, W_ret, W_iff, W_call0, W_some, W_tp, W_tsN, W_tsC, W_nm, List.length_cons, List.length_nil, Nat.reduceAdd, Nat.reduceLT, List.getD_cons_succ, List.getD_cons_zero, List.set_cons_succ, List.set_cons_zero, List.getElem?_cons_succ, List.getElem?_cons_zero, p_add, p_sub, p_mul, p_fdiv, p_mod, p_pow, p_eq, p_ne, p_lt, p_le, p_gt, p_ge, p_neg, p_idx, p_len, pAdd_i, pSub_i, t_bl, t_int, eq_i, ne_i, Kn_nx, Kn_rt, W_nil, W_outR, W_outN, seqA_ref, seqL_ref, lstO_l, seqA_tup, seqA_lst, seqL_lst, idx_tup, idx_lst, len_tup, len_lst, p_min2, p_max2, p_toIntB, p_toIntI, p_slcTF, p_slcFT, p_isinst, W_an, W_or, W_no, W_itee, W_setI]
      · rw [tl_kids x ox]
        refine ⟨by simp [big]; omega, ?_⟩
        rw [pAdd_l (by simp; omega)]
        simp only [W_var, W_cst, W_app, W_nilE, W_consE, W_evT, W_asg, W_expr, W_ret, W_iff, W_call0, W_some, W_tp, W_tsN, W_tsC, W_nm, List.length_cons, List.length_nil, Nat.reduceAdd, Nat.reduceLT, List.getD_cons_succ, List.getD_cons_zero, List.set_cons_succ, List.set_cons_zero, List.getElem?_cons_succ, List.getElem?_cons_zero, p_add, p_sub, p_mul, p_fdiv, p_mod, p_pow, p_eq, p_ne, p_lt, p_le, p_gt, p_ge, p_neg, p_idx, p_len, pAdd_i, pSub_i, t_bl, t_int, eq_i, ne_i, Kn_nx, Kn_rt, W_nil, W_outR, W_outN, seqA_ref, seqL_ref, lstO_l, seqA_tup, seqA_lst, seqL_lst, idx_tup, idx_lst, len_tup, len_lst, p_min2, p_max2, p_toIntB, p_toIntI, p_slcTF, p_slcFT, p_isinst, W_an, W_or, W_no, W_itee, W_setI]
        rw [W_cons]
        simp only [W_var, W_cst, W_app, W_nilE, W_consE, W_evT, W_asg, W_expr, W_ret, W_iff, W_call0, W_some, W_tp, W_tsN, W_tsC, W_nm, List.length_cons, List.length_nil, Nat.reduceAdd, Nat.reduceLT, List.getD_cons_succ, List.getD_cons_zero, List.set_cons_succ, List.set_cons_zero, List.getElem?_cons_succ, List.getElem?_cons_zero, p_add, p_sub, p_mul, p_fdiv, p_mod, p_pow, p_eq, p_ne, p_lt, p_le, p_gt, p_ge, p_neg, p_idx, p_len, pAdd_i, pSub_i, t_bl, t_int, eq_i, ne_i, Kn_nx, Kn_rt, W_nil, W_outR, W_outN, seqA_ref, seqL_ref, lstO_l, seqA_tup, seqA_lst, seqL_lst, idx_tup, idx_lst, len_tup, len_lst, p_min2, p_max2, p_toIntB, p_toIntI, p_slcTF, p_slcFT, p_isinst, W_an, W_or, W_no, W_itee, W_setI]
        refine ⟨szs (ws.drop (t + 1)) + szs (kids x), by rw [hm, hsz, sz_kids x]; omega, trivial, ws ++ kids x, t + 1, by simp, by simp; omega, ?_, ?_, Cl_step hx hcl, fun z hz => ?_, ?_⟩
        · rw [List.drop_append_of_le_length (by omega), szs_app]
        · rw [hm, hsz, sz_kids x] at hts; omega
        · rcases List.mem_append.mp hz with hz | hz
          · exact hok z hz
          · obtain ⟨h1, h2⟩ := kids_ok ox hz
            exact ⟨h1, by omega⟩
        · rw [List.getElem?_append_left (by omega)]; exact h0
    · rw [if_neg (by simpa using ht)]
      have hte : t = ws.length := by omega
      subst hte
      rw [W_cons]
      simp only [W_var, W_cst, W_app, W_nilE, W_consE, W_evT, W_asg, W_expr, W_ret, W_iff, W_call0, W_some, W_tp, W_tsN, W_tsC, W_nm, List.length_cons, List.length_nil, Nat.reduceAdd, Nat.reduceLT, List.getD_cons_succ, List.getD_cons_zero, List.set_cons_succ, List.set_cons_zero, List.getElem?_cons_succ, List.getElem?_cons_zero, p_add, p_sub, p_mul, p_fdiv, p_mod, p_pow, p_eq, p_ne, p_lt, p_le, p_gt, p_ge, p_neg, p_idx, p_len, pAdd_i, pSub_i, t_bl, t_int, eq_i, ne_i, Kn_nx, Kn_rt, W_nil, W_outR, W_outN, seqA_ref, seqL_ref, lstO_l, seqA_tup, seqA_lst, seqL_lst, idx_tup, idx_lst, len_tup, len_lst, p_min2, p_max2, p_toIntB, p_toIntI, p_slcTF, p_slcFT, p_isinst, W_an, W_or, W_no, W_itee, W_setI, W_mk]
      rw [p_lst (by simp)]
      simp only [W_var, W_cst, W_app, W_nilE, W_consE, W_evT, W_asg, W_expr, W_ret, W_iff, W_call0, W_some, W_tp, W_tsN, W_tsC, W_nm, List.length_cons, List.length_nil, Nat.reduceAdd, Nat.reduceLT, List.getD_cons_succ, List.getD_cons_zero, List.set_cons_succ, List.set_cons_zero, List.getElem?_cons_succ, List.getElem?_cons_zero, p_add, p_sub, p_mul, p_fdiv, p_mod, p_pow, p_eq, p_ne, p_lt, p_le, p_gt, p_ge, p_neg, p_idx, p_len, pAdd_i, pSub_i, t_bl, t_int, eq_i, ne_i, Kn_nx, Kn_rt, W_nil, W_outR, W_outN, seqA_ref, seqL_ref, lstO_l, seqA_tup, seqA_lst, seqL_lst, idx_tup, idx_lst, len_tup, len_lst, p_min2, p_max2, p_toIntB, p_toIntI, p_slcTF, p_slcFT, p_isinst, W_an, W_or, W_no, W_itee, W_setI, List.cons_append, List.nil_append]
      rw [W_cons, W_for]
      simp only [W_var, W_cst, W_app, W_nilE, W_consE, W_evT, W_asg, W_expr, W_ret, W_iff, W_call0, W_some, W_tp, W_tsN, W_tsC, W_nm, List.length_cons, List.length_nil, Nat.reduceAdd, Nat.reduceLT, List.getD_cons_succ, List.getD_cons_zero, List.set_cons_succ, List.set_cons_zero, List.getElem?_cons_succ, List.getElem?_cons_zero, p_add, p_sub, p_mul, p_fdiv, p_mod, p_pow, p_eq, p_ne, p_lt, p_le, p_gt, p_ge, p_neg, p_idx, p_len, pAdd_i, pSub_i, t_bl, t_int, eq_i, ne_i, Kn_nx, Kn_rt, W_nil, W_outR, W_outN, seqA_ref, seqL_ref, lstO_l, seqA_tup, seqA_lst, seqL_lst, idx_tup, idx_lst, len_tup, len_lst, p_min2, p_max2, p_toIntB, p_toIntI, p_slcTF, p_slcFT, p_isinst, W_an, W_or, W_no, W_itee, W_setI, p_rev, Option.map_some, items]
      refine loopF_W (fun r ρ h => ∃ (dn rm : List Ex) (p q r2 : Option D), ws.reverse = dn ++ rm ∧ r = rm.map Ex.d ∧ h = [a, b, .dct w.ks w.vs, .lst (dn.map (ent w))] ∧
        ρ = [some e.d, some (.ref 2), some (.tup (w.us.map .int)), some (.int w.now), some (.lst (ws.map Ex.d)), some (.int (ws.length : Nat)), some (.ref 3), p, q, r2]) (fun _ _ _ _ => rfl) ?_ ?_ _ _ _ ⟨[], ws.reverse, none, none, none, rfl, by simp, rfl, rfl⟩
      · rintro d xs ρ h ⟨dn, rm, p, q, r2, hrev, hr, rfl, rfl⟩
        cases rm with
        | nil => simp at hr
        | cons x rm =>
          simp only [List.map_cons, List.cons.injEq] at hr
          obtain ⟨rfl, rfl⟩ := hr
          have hws : ws = rm.reverse ++ x :: dn.reverse := by
            have := congrArg List.reverse hrev
            simpa using this
          have mx : x ∈ ws := by rw [hws]; simp
          obtain ⟨ox, lx⟩ := hok x mx
          have hdn : ∀ z ∈ dn, z.Ok w ∧ z.ht ≤ 5 := fun z hz => hok z (by rw [hws]; simp [hz])
          have hk : ∀ k ∈ kids x, k ∈ dn := fun k hk => by
            have hj : ws[rm.length]? = some x := by rw [hws]; simp
            obtain ⟨m', hm', e1⟩ := hcl rm.length (by have := (List.getElem?_eq_some_iff.mp hj).1; omega) x hj k hk
            rw [hws, List.getElem?_append_right (by simp; omega)] at e1
            obtain ⟨i, hi⟩ : ∃ i, m' - rm.reverse.length = i + 1 := ⟨m' - rm.length - 1, by simp; omega⟩
            rw [hi, List.getElem?_cons_succ] at e1
            simpa using List.mem_of_getElem? e1
          have hdl : dn.length ≤ 1000 := by
            have : ws.length = rm.length + (dn.length + 1) := by rw [hws]; simp
            omega
          obtain ⟨g, hg, hgp⟩ := parts_ok (n := n) (c := 3) (h := [a, b, .dct w.ks w.vs, .lst (dn.map (ent w))]) w rfl hdn ox hk
          simp only [W_bind, W_var, W_cst, W_app, W_nilE, W_consE, W_evT, W_asg, W_expr, W_ret, W_iff, W_call0, W_some, W_tp, W_tsN, W_tsC, W_nm, List.length_cons, List.length_nil, Nat.reduceAdd, Nat.reduceLT, List.getD_cons_succ, List.getD_cons_zero, List.set_cons_succ, List.set_cons_zero, List.getElem?_cons_succ, List.getElem?_cons_zero, p_add, p_sub, p_mul, p_fdiv, p_mod, p_pow, p_eq, p_ne, p_lt, p_le, p_gt, p_ge, p_neg, p_idx, p_len, pAdd_i, pSub_i, t_bl, t_int, eq_i, ne_i, Kn_nx, Kn_rt, W_nil, W_outR, W_outN, seqA_ref, seqL_ref, lstO_l, seqA_tup, seqA_lst, seqL_lst, idx_tup, idx_lst, len_tup, len_lst, p_min2, p_max2, p_toIntB, p_toIntI, p_slcTF, p_slcFT, p_isinst, W_an, W_or, W_no, W_itee, W_setI]
          rw [W_cons]
          simp only [W_var, W_cst, W_app, W_nilE, W_consE, W_evT, W_asg, W_expr, W_ret, W_iff, W_call0, W_some, W_tp, W_tsN, W_tsC, W_nm, List.length_cons, List.length_nil, Nat.reduceAdd, Nat.reduceLT, List.getD_cons_succ, List.getD_cons_zero, List.set_cons_succ, List.set_cons_zero, List.getElem?_cons_succ, List.getElem?_cons_zero, p_add, p_sub, p_mul, p_fdiv, p_mod, p_pow, p_eq, p_ne, p_lt, p_le, p_gt, p_ge, p_neg, p_idx, p_len, pAdd_i, pSub_i, t_bl, t_int, eq_i, ne_i, Kn_nx, Kn_rt, W_nil, W_outR, W_outN, seqA_ref, seqL_ref, lstO_l, seqA_tup, seqA_lst, seqL_lst, idx_tup, idx_lst, len_tup, len_lst, p_min2, p_max2, p_toIntB, p_toIntI, p_slcTF, p_slcFT, p_isinst, W_an, W_or, W_no, W_itee, W_setI, slc_d, W_comp, items]
          refine W.of (loopC_map g rfl fun d hd => eq_of_W ?_) ?_
          · simp only [W_bind, wipeE, W_nm, List.length_set, W_var, W_cst, W_app, W_nilE, W_consE, W_evT, W_asg, W_expr, W_ret, W_iff, W_call0, W_some, W_tp, W_tsN, W_tsC, W_nm, List.length_cons, List.length_nil, Nat.reduceAdd, Nat.reduceLT, List.getD_cons_succ, List.getD_cons_zero, List.set_cons_succ, List.set_cons_zero, List.getElem?_cons_succ, List.getElem?_cons_zero, p_add, p_sub, p_mul, p_fdiv, p_mod, p_pow, p_eq, p_ne, p_lt, p_le, p_gt, p_ge, p_neg, p_idx, p_len, pAdd_i, pSub_i, t_bl, t_int, eq_i, ne_i, Kn_nx, Kn_rt, W_nil, W_outR, W_outN, seqA_ref, seqL_ref, lstO_l, seqA_tup, seqA_lst, seqL_lst, idx_tup, idx_lst, len_tup, len_lst, p_min2, p_max2, p_toIntB, p_toIntI, p_slcTF, p_slcFT, p_isinst, W_an, W_or, W_no, W_itee, W_setI, W_nilC, if_true, W_map, hg d hd]
          · rw [hgp]
            refine ⟨by cases x <;> simp [Ex.parts, big], ?_⟩
            rw [W_cons]
            simp only [W_var, W_cst, W_app, W_nilE, W_consE, W_evT, W_asg, W_expr, W_ret, W_iff, W_call0, W_some, W_tp, W_tsN, W_tsC, W_nm, List.length_cons, List.length_nil, Nat.reduceAdd, Nat.reduceLT, List.getD_cons_succ, List.getD_cons_zero, List.set_cons_succ, List.set_cons_zero, List.getElem?_cons_succ, List.getElem?_cons_zero, p_add, p_sub, p_mul, p_fdiv, p_mod, p_pow, p_eq, p_ne, p_lt, p_le, p_gt, p_ge, p_neg, p_idx, p_len, pAdd_i, pSub_i, t_bl, t_int, eq_i, ne_i, Kn_nx, Kn_rt, W_nil, W_outR, W_outN, seqA_ref, seqL_ref, lstO_l, seqA_tup, seqA_lst, seqL_lst, idx_tup, idx_lst, len_tup, len_lst, p_min2, p_max2, p_toIntB, p_toIntI, p_slcTF, p_slcFT, p_isinst, W_an, W_or, W_no, W_itee, W_setI, W_eff]
            refine ⟨isLst_ref rfl, ?_⟩
            rw [step_ok (n := n + 9) (c := 2) w rfl x ox]
            simp only [W_var, W_cst, W_app, W_nilE, W_consE, W_evT, W_asg, W_expr, W_ret, W_iff, W_call0, W_some, W_tp, W_tsN, W_tsC, W_nm, List.length_cons, List.length_nil, Nat.reduceAdd, Nat.reduceLT, List.getD_cons_succ, List.getD_cons_zero, List.set_cons_succ, List.set_cons_zero, List.getElem?_cons_succ, List.getElem?_cons_zero, p_add, p_sub, p_mul, p_fdiv, p_mod, p_pow, p_eq, p_ne, p_lt, p_le, p_gt, p_ge, p_neg, p_idx, p_len, pAdd_i, pSub_i, t_bl, t_int, eq_i, ne_i, Kn_nx, Kn_rt, W_nil, W_outR, W_outN, seqA_ref, seqL_ref, lstO_l, seqA_tup, seqA_lst, seqL_lst, idx_tup, idx_lst, len_tup, len_lst, p_min2, p_max2, p_toIntB, p_toIntI, p_slcTF, p_slcFT, p_isinst, W_an, W_or, W_no, W_itee, W_setI]
            rw [p_tup (by simp)]
            simp only [W_var, W_cst, W_app, W_nilE, W_consE, W_evT, W_asg, W_expr, W_ret, W_iff, W_call0, W_some, W_tp, W_tsN, W_tsC, W_nm, List.length_cons, List.length_nil, Nat.reduceAdd, Nat.reduceLT, List.getD_cons_succ, List.getD_cons_zero, List.set_cons_succ, List.set_cons_zero, List.getElem?_cons_succ, List.getElem?_cons_zero, p_add, p_sub, p_mul, p_fdiv, p_mod, p_pow, p_eq, p_ne, p_lt, p_le, p_gt, p_ge, p_neg, p_idx, p_len, pAdd_i, pSub_i, t_bl, t_int, eq_i, ne_i, Kn_nx, Kn_rt, W_nil, W_outR, W_outN, seqA_ref, seqL_ref, lstO_l, seqA_tup, seqA_lst, seqL_lst, idx_tup, idx_lst, len_tup, len_lst, p_min2, p_max2, p_toIntB, p_toIntI, p_slcTF, p_slcFT, p_isinst, W_an, W_or, W_no, W_itee, W_setI]
            rw [app_ref (ds := dn.map (ent w)) rfl (by simp; omega)]
            simp only [W_var, W_cst, W_app, W_nilE, W_consE, W_evT, W_asg, W_expr, W_ret, W_iff, W_call0, W_some, W_tp, W_tsN, W_tsC, W_nm, List.length_cons, List.length_nil, Nat.reduceAdd, Nat.reduceLT, List.getD_cons_succ, List.getD_cons_zero, List.set_cons_succ, List.set_cons_zero, List.getElem?_cons_succ, List.getElem?_cons_zero, p_add, p_sub, p_mul, p_fdiv, p_mod, p_pow, p_eq, p_ne, p_lt, p_le, p_gt, p_ge, p_neg, p_idx, p_len, pAdd_i, pSub_i, t_bl, t_int, eq_i, ne_i, Kn_nx, Kn_rt, W_nil, W_outR, W_outN, seqA_ref, seqL_ref, lstO_l, seqA_tup, seqA_lst, seqL_lst, idx_tup, idx_lst, len_tup, len_lst, p_min2, p_max2, p_toIntB, p_toIntI, p_slcTF, p_slcFT, p_isinst, W_an, W_or, W_no, W_itee, W_setI]
            exact ⟨dn ++ [x], rm, _, _, _, by simp [hrev], rfl, by simp [ent], rfl⟩
      · rintro ρ h ⟨dn, rm, p, q, r2, hrev, hr, rfl, rfl⟩
        have hrm : rm = [] := by cases rm with | nil => rfl | cons _ _ => simp at hr
        subst hrm
        rw [List.append_nil] at hrev
        subst hrev
        have hl : (ws.reverse.map (ent w)).getLast? = some (ent w e) := by
          rw [List.getLast?_map, List.getLast?_reverse, List.head?_eq_getElem?, h0]
          rfl
        simp only [Kn_nx]
        rw [W_cons]
        simp only [W_var, W_cst, W_app, W_nilE, W_consE, W_evT, W_asg, W_expr, W_ret, W_iff, W_call0, W_some, W_tp, W_tsN, W_tsC, W_nm, List.length_cons, List.length_nil, Nat.reduceAdd, Nat.reduceLT, List.getD_cons_succ, List.getD_cons_zero, List.set_cons_succ, List.set_cons_zero, List.getElem?_cons_succ, List.getElem?_cons_zero, p_add, p_sub, p_mul, p_fdiv, p_mod, p_pow, p_eq, p_ne, p_lt, p_le, p_gt, p_ge, p_neg, p_idx, p_len, pAdd_i, pSub_i, t_bl, t_int, eq_i, ne_i, Kn_nx, Kn_rt, W_nil, W_outR, W_outN, seqA_ref, seqL_ref, lstO_l, seqA_tup, seqA_lst, seqL_lst, idx_tup, idx_lst, len_tup, len_lst, p_min2, p_max2, p_toIntB, p_toIntI, p_slcTF, p_slcFT, p_isinst, W_an, W_or, W_no, W_itee, W_setI]
        rw [idx_ref (ds := ws.reverse.map (ent w)) rfl, neg1_at hl]
        simp only [W_var, W_cst, W_app, W_nilE, W_consE, W_evT, W_asg, W_expr, W_ret, W_iff, W_call0, W_some, W_tp, W_tsN, W_tsC, W_nm, List.length_cons, List.length_nil, Nat.reduceAdd, Nat.reduceLT, List.getD_cons_succ, List.getD_cons_zero, List.set_cons_succ, List.set_cons_zero, List.getElem?_cons_succ, List.getElem?_cons_zero, p_add, p_sub, p_mul, p_fdiv, p_mod, p_pow, p_eq, p_ne, p_lt, p_le, p_gt, p_ge, p_neg, p_idx, p_len, pAdd_i, pSub_i, t_bl, t_int, eq_i, ne_i, Kn_nx, Kn_rt, W_nil, W_outR, W_outN, seqA_ref, seqL_ref, lstO_l, seqA_tup, seqA_lst, seqL_lst, idx_tup, idx_lst, len_tup, len_lst, p_min2, p_max2, p_toIntB, p_toIntI, p_slcTF, p_slcFT, p_isinst, W_an, W_or, W_no, W_itee, W_setI, ent, at1]
        exact ⟨_, rfl⟩
end LW
end Dp

set_option Elab.async false
set_option linter.all false
set_option autoImplicit false
set_option maxRecDepth 100000
set_option maxHeartbeats 4000000
namespace Dp
namespace LW
theorem wdraw_ok {a b : O} {tl : Hs} {t n : Nat} (dr : Dr a b t) (ht : t + 4 ≤ B24) : W (callF T (n + 2) 7 [.ref 1] (a :: b :: tl)) fun r => ∃ (i : Int) (a' b' : O), r = (.int i, a' :: b' :: tl) ∧ Dr a' b' (t + 4) := by
  rw [W_call (F := ⟨1, 2, b7⟩) rfl rfl]
  simp only [b7, enter, List.map, List.length, List.replicate, List.cons_append, List.nil_append, Nat.reduceSub]
  rw [W_cons]
  simp only [W_var, W_cst, W_app, W_nilE, W_consE, W_evT, W_asg, W_expr, W_ret, W_iff, W_call0, W_some, W_tp, W_tsN, W_tsC, W_nm, List.length_cons, List.length_nil, Nat.reduceAdd, Nat.reduceLT, List.getD_cons_succ, List.getD_cons_zero, List.set_cons_succ, List.set_cons_zero, List.getElem?_cons_succ, List.getElem?_cons_zero, p_add, p_sub, p_mul, p_fdiv, p_mod, p_pow, p_eq, p_ne, p_lt, p_le, p_gt, p_ge, p_neg, p_idx, p_len, pAdd_i, pSub_i, t_bl, t_int, eq_i, ne_i, Kn_nx, Kn_rt, W_nil, W_outR, W_outN, seqA_ref, seqL_ref, lstO_l, seqA_tup, seqA_lst, seqL_lst, idx_tup, idx_lst, len_tup, len_lst, p_min2, p_max2, p_toIntB, p_toIntI, p_slcTF, p_slcFT, p_isinst, W_an, W_or, W_no, W_itee, W_setI]
  refine (next_ok (T := T) (f := 3) rfl dr (by omega) (by decide) (by decide)).mono ?_
  rintro _ ⟨d, a1, b1, rfl, hd0, hd1, dr1⟩
  simp only [W_var, W_cst, W_app, W_nilE, W_consE, W_evT, W_asg, W_expr, W_ret, W_iff, W_call0, W_some, W_tp, W_tsN, W_tsC, W_nm, List.length_cons, List.length_nil, Nat.reduceAdd, Nat.reduceLT, List.getD_cons_succ, List.getD_cons_zero, List.set_cons_succ, List.set_cons_zero, List.getElem?_cons_succ, List.getElem?_cons_zero, p_add, p_sub, p_mul, p_fdiv, p_mod, p_pow, p_eq, p_ne, p_lt, p_le, p_gt, p_ge, p_neg, p_idx, p_len, pAdd_i, pSub_i, t_bl, t_int, eq_i, ne_i, Kn_nx, Kn_rt, W_nil, W_outR, W_outN, seqA_ref, seqL_ref, lstO_l, seqA_tup, seqA_lst, seqL_lst, idx_tup, idx_lst, len_tup, len_lst, p_min2, p_max2, p_toIntB, p_toIntI, p_slcTF, p_slcFT, p_isinst, W_an, W_or, W_no, W_itee, W_setI]
  rw [W_cons]
  simp only [W_var, W_cst, W_app, W_nilE, W_consE, W_evT, W_asg, W_expr, W_ret, W_iff, W_call0, W_some, W_tp, W_tsN, W_tsC, W_nm, List.length_cons, List.length_nil, Nat.reduceAdd, Nat.reduceLT, List.getD_cons_succ, List.getD_cons_zero, List.set_cons_succ, List.set_cons_zero, List.getElem?_cons_succ, List.getElem?_cons_zero, p_add, p_sub, p_mul, p_fdiv, p_mod, p_pow, p_eq, p_ne, p_lt, p_le, p_gt, p_ge, p_neg, p_idx, p_len, pAdd_i, pSub_i, t_bl, t_int, eq_i, ne_i, Kn_nx, Kn_rt, W_nil, W_outR, W_outN, seqA_ref, seqL_ref, lstO_l, seqA_tup, seqA_lst, seqL_lst, idx_tup, idx_lst, len_tup, len_lst, p_min2, p_max2, p_toIntB, p_toIntI, p_slcTF, p_slcFT, p_isinst, W_an, W_or, W_no, W_itee, W_setI]
  by_cases h2 : d < 2
  · rw [if_pos (by simpa using h2), W_cons]
    simp only [W_var, W_cst, W_app, W_nilE, W_consE, W_evT, W_asg, W_expr, W_ret, W_iff, W_call0, W_some, W_tp, W_tsN, W_tsC, W_nm, List.length_cons, List.length_nil, Nat.reduceAdd, Nat.reduceLT, List.getD_cons_succ, List.getD_cons_zero, List.set_cons_succ, List.set_cons_zero, List.getElem?_cons_succ, List.getElem?_cons_zero, p_add, p_sub, p_mul, p_fdiv, p_mod, p_pow, p_eq, p_ne, p_lt, p_le, p_gt, p_ge, p_neg, p_idx, p_len, pAdd_i, pSub_i, t_bl, t_int, eq_i, ne_i, Kn_nx, Kn_rt, W_nil, W_outR, W_outN, seqA_ref, seqL_ref, lstO_l, seqA_tup, seqA_lst, seqL_lst, idx_tup, idx_lst, len_tup, len_lst, p_min2, p_max2, p_toIntB, p_toIntI, p_slcTF, p_slcFT, p_isinst, W_an, W_or, W_no, W_itee, W_setI]
    refine (next_ok (T := T) (f := 3) rfl dr1 (by omega) (by decide) (by decide)).mono ?_
    rintro _ ⟨d2, a2, b2, rfl, hd20, hd21, dr2⟩
    simp only [W_var, W_cst, W_app, W_nilE, W_consE, W_evT, W_asg, W_expr, W_ret, W_iff, W_call0, W_some, W_tp, W_tsN, W_tsC, W_nm, List.length_cons, List.length_nil, Nat.reduceAdd, Nat.reduceLT, List.getD_cons_succ, List.getD_cons_zero, List.set_cons_succ, List.set_cons_zero, List.getElem?_cons_succ, List.getElem?_cons_zero, p_add, p_sub, p_mul, p_fdiv, p_mod, p_pow, p_eq, p_ne, p_lt, p_le, p_gt, p_ge, p_neg, p_idx, p_len, pAdd_i, pSub_i, t_bl, t_int, eq_i, ne_i, Kn_nx, Kn_rt, W_nil, W_outR, W_outN, seqA_ref, seqL_ref, lstO_l, seqA_tup, seqA_lst, seqL_lst, idx_tup, idx_lst, len_tup, len_lst, p_min2, p_max2, p_toIntB, p_toIntI, p_slcTF, p_slcFT, p_isinst, W_an, W_or, W_no, W_itee, W_setI, pMul_l (show -B64 < 2 by decide) (show 2 < B64 by decide), pMul_r (show -B64 < 1 - 2 * d by unfold B64; omega) (show 1 - 2 * d < B64 by unfold B64; omega)]
    exact ⟨_, _, _, rfl, dr2.le (by omega)⟩
  · rw [if_neg (by simpa using h2), W_cons]
    simp only [W_var, W_cst, W_app, W_nilE, W_consE, W_evT, W_asg, W_expr, W_ret, W_iff, W_call0, W_some, W_tp, W_tsN, W_tsC, W_nm, List.length_cons, List.length_nil, Nat.reduceAdd, Nat.reduceLT, List.getD_cons_succ, List.getD_cons_zero, List.set_cons_succ, List.set_cons_zero, List.getElem?_cons_succ, List.getElem?_cons_zero, p_add, p_sub, p_mul, p_fdiv, p_mod, p_pow, p_eq, p_ne, p_lt, p_le, p_gt, p_ge, p_neg, p_idx, p_len, pAdd_i, pSub_i, t_bl, t_int, eq_i, ne_i, Kn_nx, Kn_rt, W_nil, W_outR, W_outN, seqA_ref, seqL_ref, lstO_l, seqA_tup, seqA_lst, seqL_lst, idx_tup, idx_lst, len_tup, len_lst, p_min2, p_max2, p_toIntB, p_toIntI, p_slcTF, p_slcFT, p_isinst, W_an, W_or, W_no, W_itee, W_setI]
    refine (next_ok (T := T) (f := 3) rfl dr1 (by omega) (by decide) (by decide)).mono ?_
    rintro _ ⟨d2, a2, b2, rfl, _, _, dr2⟩
    simp only [W_var, W_cst, W_app, W_nilE, W_consE, W_evT, W_asg, W_expr, W_ret, W_iff, W_call0, W_some, W_tp, W_tsN, W_tsC, W_nm, List.length_cons, List.length_nil, Nat.reduceAdd, Nat.reduceLT, List.getD_cons_succ, List.getD_cons_zero, List.set_cons_succ, List.set_cons_zero, List.getElem?_cons_succ, List.getElem?_cons_zero, p_add, p_sub, p_mul, p_fdiv, p_mod, p_pow, p_eq, p_ne, p_lt, p_le, p_gt, p_ge, p_neg, p_idx, p_len, pAdd_i, pSub_i, t_bl, t_int, eq_i, ne_i, Kn_nx, Kn_rt, W_nil, W_outR, W_outN, seqA_ref, seqL_ref, lstO_l, seqA_tup, seqA_lst, seqL_lst, idx_tup, idx_lst, len_tup, len_lst, p_min2, p_max2, p_toIntB, p_toIntI, p_slcTF, p_slcFT, p_isinst, W_an, W_or, W_no, W_itee, W_setI]
    refine (next_ok (T := T) (f := 3) rfl dr2 (by omega) (by decide) (by decide)).mono ?_
    rintro _ ⟨d3, a3, b3, rfl, _, _, dr3⟩
    simp only [W_var, W_cst, W_app, W_nilE, W_consE, W_evT, W_asg, W_expr, W_ret, W_iff, W_call0, W_some, W_tp, W_tsN, W_tsC, W_nm, List.length_cons, List.length_nil, Nat.reduceAdd, Nat.reduceLT, List.getD_cons_succ, List.getD_cons_zero, List.set_cons_succ, List.set_cons_zero, List.getElem?_cons_succ, List.getElem?_cons_zero, p_add, p_sub, p_mul, p_fdiv, p_mod, p_pow, p_eq, p_ne, p_lt, p_le, p_gt, p_ge, p_neg, p_idx, p_len, pAdd_i, pSub_i, t_bl, t_int, eq_i, ne_i, Kn_nx, Kn_rt, W_nil, W_outR, W_outN, seqA_ref, seqL_ref, lstO_l, seqA_tup, seqA_lst, seqL_lst, idx_tup, idx_lst, len_tup, len_lst, p_min2, p_max2, p_toIntB, p_toIntI, p_slcTF, p_slcFT, p_isinst, W_an, W_or, W_no, W_itee, W_setI]
    refine (next_ok (T := T) (f := 3) rfl dr3 (by omega) (by decide) (by decide)).mono ?_
    rintro _ ⟨d4, a4, b4, rfl, _, _, dr4⟩
    simp only [W_var, W_cst, W_app, W_nilE, W_consE, W_evT, W_asg, W_expr, W_ret, W_iff, W_call0, W_some, W_tp, W_tsN, W_tsC, W_nm, List.length_cons, List.length_nil, Nat.reduceAdd, Nat.reduceLT, List.getD_cons_succ, List.getD_cons_zero, List.set_cons_succ, List.set_cons_zero, List.getElem?_cons_succ, List.getElem?_cons_zero, p_add, p_sub, p_mul, p_fdiv, p_mod, p_pow, p_eq, p_ne, p_lt, p_le, p_gt, p_ge, p_neg, p_idx, p_len, pAdd_i, pSub_i, t_bl, t_int, eq_i, ne_i, Kn_nx, Kn_rt, W_nil, W_outR, W_outN, seqA_ref, seqL_ref, lstO_l, seqA_tup, seqA_lst, seqL_lst, idx_tup, idx_lst, len_tup, len_lst, p_min2, p_max2, p_toIntB, p_toIntI, p_slcTF, p_slcFT, p_isinst, W_an, W_or, W_no, W_itee, W_setI]
    rw [p_lst (by simp)]
    simp only [W_var, W_cst, W_app, W_nilE, W_consE, W_evT, W_asg, W_expr, W_ret, W_iff, W_call0, W_some, W_tp, W_tsN, W_tsC, W_nm, List.length_cons, List.length_nil, Nat.reduceAdd, Nat.reduceLT, List.getD_cons_succ, List.getD_cons_zero, List.set_cons_succ, List.set_cons_zero, List.getElem?_cons_succ, List.getElem?_cons_zero, p_add, p_sub, p_mul, p_fdiv, p_mod, p_pow, p_eq, p_ne, p_lt, p_le, p_gt, p_ge, p_neg, p_idx, p_len, pAdd_i, pSub_i, t_bl, t_int, eq_i, ne_i, Kn_nx, Kn_rt, W_nil, W_outR, W_outN, seqA_ref, seqL_ref, lstO_l, seqA_tup, seqA_lst, seqL_lst, idx_tup, idx_lst, len_tup, len_lst, p_min2, p_max2, p_toIntB, p_toIntI, p_slcTF, p_slcFT, p_isinst, W_an, W_or, W_no, W_itee, W_setI]
    obtain ⟨x, hx, mx⟩ := atD_int (xs := [D.int (d2 - 999), .int (d3 - 2), .int d4]) (i := d - 2) (by omega) (by simp; omega)
    rw [hx]
    simp only [W_var, W_cst, W_app, W_nilE, W_consE, W_evT, W_asg, W_expr, W_ret, W_iff, W_call0, W_some, W_tp, W_tsN, W_tsC, W_nm, List.length_cons, List.length_nil, Nat.reduceAdd, Nat.reduceLT, List.getD_cons_succ, List.getD_cons_zero, List.set_cons_succ, List.set_cons_zero, List.getElem?_cons_succ, List.getElem?_cons_zero, p_add, p_sub, p_mul, p_fdiv, p_mod, p_pow, p_eq, p_ne, p_lt, p_le, p_gt, p_ge, p_neg, p_idx, p_len, pAdd_i, pSub_i, t_bl, t_int, eq_i, ne_i, Kn_nx, Kn_rt, W_nil, W_outR, W_outN, seqA_ref, seqL_ref, lstO_l, seqA_tup, seqA_lst, seqL_lst, idx_tup, idx_lst, len_tup, len_lst, p_min2, p_max2, p_toIntB, p_toIntI, p_slcTF, p_slcFT, p_isinst, W_an, W_or, W_no, W_itee, W_setI]
    obtain ⟨i, rfl⟩ : ∃ i, x = .int i := by
      simp at mx
      rcases mx with rfl | rfl | rfl <;> exact ⟨_, rfl⟩
    exact ⟨_, _, _, rfl, dr4.le (by omega)⟩
def Ex.Gen (ns : List (List Nat)) (m : Nat) : Ex → Prop
  | .num _ => True
  | .cell s => s ∈ ns
  | .val j => j < m
  | .now => True
  | .op o a b => o < 4 ∧ a.Gen ns m ∧ b.Gen ns m
def Cst : Nat → Nat
  | 0 => 4
  | r + 1 => 2 * Cst r + 4
theorem ne_nil {h : Hs} {ns : List (List Nat)} (ha : ∀ s ∈ ns, asc s = true) : pEq h (fun b => !b) (.lst (ns.map .str)) (.lst []) = some (.bl (!ns.isEmpty)) := by
  have h1 : purs (ns.map .str) = true ∧ depDs (ns.map .str) ≤ 1 := by
    induction ns with
    | nil => exact ⟨rfl, by decide⟩
    | cons s ns ih =>
      obtain ⟨h1, h2⟩ := ih fun s hs => ha s (by simp [hs])
      have := ha s (by simp)
      unfold asc at this
      refine ⟨by simp only [List.map_cons, purs, pur, this, h1, Bool.and_self], ?_⟩
      simp only [List.map_cons, depDs, depD]
      omega
  have h2 := h1.2
  have h3 : depDs (ns.map .str) + 1 ≤ 60 := by omega
  have hg : good (.lst (ns.map .str)) = true := by simp [good, pur, depD, h1.1, h3]
  simp only [pEq, plainD, hg, show good (.lst []) = true from rfl, Bool.and_self, if_true]
  cases ns <;> simp [eqD, eqDs]
theorem expr_ok {ns : List (List Nat)} {m : Nat} (ha : ∀ s ∈ ns, asc s = true) (hl : ns.length ≤ 100) (hm : m ≤ 100) : ∀ (r : Nat) {a b : O} {tl : Hs} {t n : Nat}, r ≤ 2 → Dr a b t → t + Cst r ≤ B24 →
    W (callF T (n + r + 2) 6 [.ref 1, .lst (ns.map .str), .int m, .int (2 - (r : Int))] (a :: b :: tl)) fun q => ∃ (e : Ex) (a' b' : O), q = (e.d, a' :: b' :: tl) ∧ e.Gen ns m ∧ e.ht ≤ r ∧ e.sz + 1 ≤ 2 ^ (r + 1) ∧ Dr a' b' (t + Cst r)
  | r, a, b, tl, t, n, hr, dr, ht => by
    have hc4 : 4 ≤ Cst r := by cases r <;> simp [Cst]
    have h2r : 2 ≤ 2 ^ (r + 1) := by rw [Nat.pow_succ]; have := Nat.one_le_two_pow (n := r); omega
    rw [W_call (F := ⟨4, 7, b6⟩) rfl rfl]
    simp only [b6, enter, List.map, List.length, List.replicate, List.cons_append, List.nil_append, Nat.reduceSub]
    rw [W_cons]
    simp only [W_var, W_cst, W_app, W_nilE, W_consE, W_evT, W_asg, W_expr, W_ret, W_iff, W_call0, W_some, W_tp, W_tsN, W_tsC, W_nm, List.length_cons, List.length_nil, Nat.reduceAdd, Nat.reduceLT, List.getD_cons_succ, List.getD_cons_zero, List.set_cons_succ, List.set_cons_zero, List.getElem?_cons_succ, List.getElem?_cons_zero, p_add, p_sub, p_mul, p_fdiv, p_mod, p_pow, p_eq, p_ne, p_lt, p_le, p_gt, p_ge, p_neg, p_idx, p_len, pAdd_i, pSub_i, t_bl, t_int, eq_i, ne_i, Kn_nx, Kn_rt, W_nil, W_outR, W_outN, seqA_ref, seqL_ref, lstO_l, seqA_tup, seqA_lst, seqL_lst, idx_tup, idx_lst, len_tup, len_lst, p_min2, p_max2, p_toIntB, p_toIntI, p_slcTF, p_slcFT, p_isinst, W_an, W_or, W_no, W_itee, W_setI]
    refine (next_ok (T := T) (f := 3) rfl dr (by omega) (by decide) (by decide)).mono ?_
    rintro _ ⟨d, a1, b1, rfl, hd0, hd1, dr1⟩
    simp only [W_var, W_cst, W_app, W_nilE, W_consE, W_evT, W_asg, W_expr, W_ret, W_iff, W_call0, W_some, W_tp, W_tsN, W_tsC, W_nm, List.length_cons, List.length_nil, Nat.reduceAdd, Nat.reduceLT, List.getD_cons_succ, List.getD_cons_zero, List.set_cons_succ, List.set_cons_zero, List.getElem?_cons_succ, List.getElem?_cons_zero, p_add, p_sub, p_mul, p_fdiv, p_mod, p_pow, p_eq, p_ne, p_lt, p_le, p_gt, p_ge, p_neg, p_idx, p_len, pAdd_i, pSub_i, t_bl, t_int, eq_i, ne_i, Kn_nx, Kn_rt, W_nil, W_outR, W_outN, seqA_ref, seqL_ref, lstO_l, seqA_tup, seqA_lst, seqL_lst, idx_tup, idx_lst, len_tup, len_lst, p_min2, p_max2, p_toIntB, p_toIntI, p_slcTF, p_slcFT, p_isinst, W_an, W_or, W_no, W_itee, W_setI]
    rw [W_cons]
    simp only [W_var, W_cst, W_app, W_nilE, W_consE, W_evT, W_asg, W_expr, W_ret, W_iff, W_call0, W_some, W_tp, W_tsN, W_tsC, W_nm, List.length_cons, List.length_nil, Nat.reduceAdd, Nat.reduceLT, List.getD_cons_succ, List.getD_cons_zero, List.set_cons_succ, List.set_cons_zero, List.getElem?_cons_succ, List.getElem?_cons_zero, p_add, p_sub, p_mul, p_fdiv, p_mod, p_pow, p_eq, p_ne, p_lt, p_le, p_gt, p_ge, p_neg, p_idx, p_len, pAdd_i, pSub_i, t_bl, t_int, eq_i, ne_i, Kn_nx, Kn_rt, W_nil, W_outR, W_outN, seqA_ref, seqL_ref, lstO_l, seqA_tup, seqA_lst, seqL_lst, idx_tup, idx_lst, len_tup, len_lst, p_min2, p_max2, p_toIntB, p_toIntI, p_slcTF, p_slcFT, p_isinst, W_an, W_or, W_no, W_itee, W_setI]
    have rest : W (exSs (callF T (n + r + 1)) (b6.drop 2) [some (.ref 1), some (.lst (ns.map .str)), some (.int m), some (.int (2 - (r : Int))), some (.int d), none, none] (a1 :: b1 :: tl)) (fun z => W (out z) fun q => ∃ (e : Ex) (a' b' : O), q = (e.d, a' :: b' :: tl) ∧ e.Gen ns m ∧ e.ht ≤ r ∧ e.sz + 1 ≤ 2 ^ (r + 1) ∧ Dr a' b' (t + Cst r)) := by
      simp only [b6, List.drop]
      have cell : ¬ (d < 6 ∧ ns ≠ []) → W (exSs (callF T (n + r + 1)) (b6.drop 3) [some (.ref 1), some (.lst (ns.map .str)), some (.int m), some (.int (2 - (r : Int))), some (.int d), none, none] (a1 :: b1 :: tl)) (fun z => W (out z) fun q => ∃ (e : Ex) (a' b' : O), q = (e.d, a' :: b' :: tl) ∧ e.Gen ns m ∧ e.ht ≤ r ∧ e.sz + 1 ≤ 2 ^ (r + 1) ∧ Dr a' b' (t + Cst r)) := fun _ => by
        simp only [b6, List.drop]
        have val : ¬ (d < 8 ∧ 0 < m) → W (exSs (callF T (n + r + 1)) (b6.drop 4) [some (.ref 1), some (.lst (ns.map .str)), some (.int m), some (.int (2 - (r : Int))), some (.int d), none, none] (a1 :: b1 :: tl)) (fun z => W (out z) fun q => ∃ (e : Ex) (a' b' : O), q = (e.d, a' :: b' :: tl) ∧ e.Gen ns m ∧ e.ht ≤ r ∧ e.sz + 1 ≤ 2 ^ (r + 1) ∧ Dr a' b' (t + Cst r)) := fun _ => by
          simp only [b6, List.drop]
          rw [W_cons]
          simp only [W_var, W_cst, W_app, W_nilE, W_consE, W_evT, W_asg, W_expr, W_ret, W_iff, W_call0, W_some, W_tp, W_tsN, W_tsC, W_nm, List.length_cons, List.length_nil, Nat.reduceAdd, Nat.reduceLT, List.getD_cons_succ, List.getD_cons_zero, List.set_cons_succ, List.set_cons_zero, List.getElem?_cons_succ, List.getElem?_cons_zero, p_add, p_sub, p_mul, p_fdiv, p_mod, p_pow, p_eq, p_ne, p_lt, p_le, p_gt, p_ge, p_neg, p_idx, p_len, pAdd_i, pSub_i, t_bl, t_int, eq_i, ne_i, Kn_nx, Kn_rt, W_nil, W_outR, W_outN, seqA_ref, seqL_ref, lstO_l, seqA_tup, seqA_lst, seqL_lst, idx_tup, idx_lst, len_tup, len_lst, p_min2, p_max2, p_toIntB, p_toIntI, p_slcTF, p_slcFT, p_isinst, W_an, W_or, W_no, W_itee, W_setI]
          by_cases h8 : d = 8
          · rw [if_pos (by simpa using h8), W_cons]
            simp only [W_var, W_cst, W_app, W_nilE, W_consE, W_evT, W_asg, W_expr, W_ret, W_iff, W_call0, W_some, W_tp, W_tsN, W_tsC, W_nm, List.length_cons, List.length_nil, Nat.reduceAdd, Nat.reduceLT, List.getD_cons_succ, List.getD_cons_zero, List.set_cons_succ, List.set_cons_zero, List.getElem?_cons_succ, List.getElem?_cons_zero, p_add, p_sub, p_mul, p_fdiv, p_mod, p_pow, p_eq, p_ne, p_lt, p_le, p_gt, p_ge, p_neg, p_idx, p_len, pAdd_i, pSub_i, t_bl, t_int, eq_i, ne_i, Kn_nx, Kn_rt, W_nil, W_outR, W_outN, seqA_ref, seqL_ref, lstO_l, seqA_tup, seqA_lst, seqL_lst, idx_tup, idx_lst, len_tup, len_lst, p_min2, p_max2, p_toIntB, p_toIntI, p_slcTF, p_slcFT, p_isinst, W_an, W_or, W_no, W_itee, W_setI]
            rw [p_tup (by simp)]
            simp only [W_var, W_cst, W_app, W_nilE, W_consE, W_evT, W_asg, W_expr, W_ret, W_iff, W_call0, W_some, W_tp, W_tsN, W_tsC, W_nm, List.length_cons, List.length_nil, Nat.reduceAdd, Nat.reduceLT, List.getD_cons_succ, List.getD_cons_zero, List.set_cons_succ, List.set_cons_zero, List.getElem?_cons_succ, List.getElem?_cons_zero, p_add, p_sub, p_mul, p_fdiv, p_mod, p_pow, p_eq, p_ne, p_lt, p_le, p_gt, p_ge, p_neg, p_idx, p_len, pAdd_i, pSub_i, t_bl, t_int, eq_i, ne_i, Kn_nx, Kn_rt, W_nil, W_outR, W_outN, seqA_ref, seqL_ref, lstO_l, seqA_tup, seqA_lst, seqL_lst, idx_tup, idx_lst, len_tup, len_lst, p_min2, p_max2, p_toIntB, p_toIntI, p_slcTF, p_slcFT, p_isinst, W_an, W_or, W_no, W_itee, W_setI]
            exact ⟨.now, _, _, rfl, trivial, by simp [Ex.ht], by simp [Ex.sz]; omega, dr1.le (by omega)⟩
          · rw [if_neg (by simpa using h8), W_cons]
            simp only [W_var, W_cst, W_app, W_nilE, W_consE, W_evT, W_asg, W_expr, W_ret, W_iff, W_call0, W_some, W_tp, W_tsN, W_tsC, W_nm, List.length_cons, List.length_nil, Nat.reduceAdd, Nat.reduceLT, List.getD_cons_succ, List.getD_cons_zero, List.set_cons_succ, List.set_cons_zero, List.getElem?_cons_succ, List.getElem?_cons_zero, p_add, p_sub, p_mul, p_fdiv, p_mod, p_pow, p_eq, p_ne, p_lt, p_le, p_gt, p_ge, p_neg, p_idx, p_len, pAdd_i, pSub_i, t_bl, t_int, eq_i, ne_i, Kn_nx, Kn_rt, W_nil, W_outR, W_outN, seqA_ref, seqL_ref, lstO_l, seqA_tup, seqA_lst, seqL_lst, idx_tup, idx_lst, len_tup, len_lst, p_min2, p_max2, p_toIntB, p_toIntI, p_slcTF, p_slcFT, p_isinst, W_an, W_or, W_no, W_itee, W_setI]
            refine (next_ok (T := T) (f := 3) rfl dr1 (by omega) (by decide) (by decide)).mono ?_
            rintro _ ⟨d2, a2, b2, rfl, _, _, dr2⟩
            simp only [W_var, W_cst, W_app, W_nilE, W_consE, W_evT, W_asg, W_expr, W_ret, W_iff, W_call0, W_some, W_tp, W_tsN, W_tsC, W_nm, List.length_cons, List.length_nil, Nat.reduceAdd, Nat.reduceLT, List.getD_cons_succ, List.getD_cons_zero, List.set_cons_succ, List.set_cons_zero, List.getElem?_cons_succ, List.getElem?_cons_zero, p_add, p_sub, p_mul, p_fdiv, p_mod, p_pow, p_eq, p_ne, p_lt, p_le, p_gt, p_ge, p_neg, p_idx, p_len, pAdd_i, pSub_i, t_bl, t_int, eq_i, ne_i, Kn_nx, Kn_rt, W_nil, W_outR, W_outN, seqA_ref, seqL_ref, lstO_l, seqA_tup, seqA_lst, seqL_lst, idx_tup, idx_lst, len_tup, len_lst, p_min2, p_max2, p_toIntB, p_toIntI, p_slcTF, p_slcFT, p_isinst, W_an, W_or, W_no, W_itee, W_setI]
            refine (next_ok (T := T) (f := 3) rfl dr2 (by omega) (by decide) (by decide)).mono ?_
            rintro _ ⟨d3, a3, b3, rfl, _, _, dr3⟩
            simp only [W_var, W_cst, W_app, W_nilE, W_consE, W_evT, W_asg, W_expr, W_ret, W_iff, W_call0, W_some, W_tp, W_tsN, W_tsC, W_nm, List.length_cons, List.length_nil, Nat.reduceAdd, Nat.reduceLT, List.getD_cons_succ, List.getD_cons_zero, List.set_cons_succ, List.set_cons_zero, List.getElem?_cons_succ, List.getElem?_cons_zero, p_add, p_sub, p_mul, p_fdiv, p_mod, p_pow, p_eq, p_ne, p_lt, p_le, p_gt, p_ge, p_neg, p_idx, p_len, pAdd_i, pSub_i, t_bl, t_int, eq_i, ne_i, Kn_nx, Kn_rt, W_nil, W_outR, W_outN, seqA_ref, seqL_ref, lstO_l, seqA_tup, seqA_lst, seqL_lst, idx_tup, idx_lst, len_tup, len_lst, p_min2, p_max2, p_toIntB, p_toIntI, p_slcTF, p_slcFT, p_isinst, W_an, W_or, W_no, W_itee, W_setI]
            refine (next_ok (T := T) (f := 3) rfl dr3 (by omega) (by decide) (by decide)).mono ?_
            rintro _ ⟨d4, a4, b4, rfl, _, _, dr4⟩
            simp only [W_var, W_cst, W_app, W_nilE, W_consE, W_evT, W_asg, W_expr, W_ret, W_iff, W_call0, W_some, W_tp, W_tsN, W_tsC, W_nm, List.length_cons, List.length_nil, Nat.reduceAdd, Nat.reduceLT, List.getD_cons_succ, List.getD_cons_zero, List.set_cons_succ, List.set_cons_zero, List.getElem?_cons_succ, List.getElem?_cons_zero, p_add, p_sub, p_mul, p_fdiv, p_mod, p_pow, p_eq, p_ne, p_lt, p_le, p_gt, p_ge, p_neg, p_idx, p_len, pAdd_i, pSub_i, t_bl, t_int, eq_i, ne_i, Kn_nx, Kn_rt, W_nil, W_outR, W_outN, seqA_ref, seqL_ref, lstO_l, seqA_tup, seqA_lst, seqL_lst, idx_tup, idx_lst, len_tup, len_lst, p_min2, p_max2, p_toIntB, p_toIntI, p_slcTF, p_slcFT, p_isinst, W_an, W_or, W_no, W_itee, W_setI, pMul_l (show -B64 < 1998 by decide) (show 1998 < B64 by decide)]
            rw [p_lst (by simp)]
            simp only [W_var, W_cst, W_app, W_nilE, W_consE, W_evT, W_asg, W_expr, W_ret, W_iff, W_call0, W_some, W_tp, W_tsN, W_tsC, W_nm, List.length_cons, List.length_nil, Nat.reduceAdd, Nat.reduceLT, List.getD_cons_succ, List.getD_cons_zero, List.set_cons_succ, List.set_cons_zero, List.getElem?_cons_succ, List.getElem?_cons_zero, p_add, p_sub, p_mul, p_fdiv, p_mod, p_pow, p_eq, p_ne, p_lt, p_le, p_gt, p_ge, p_neg, p_idx, p_len, pAdd_i, pSub_i, t_bl, t_int, eq_i, ne_i, Kn_nx, Kn_rt, W_nil, W_outR, W_outN, seqA_ref, seqL_ref, lstO_l, seqA_tup, seqA_lst, seqL_lst, idx_tup, idx_lst, len_tup, len_lst, p_min2, p_max2, p_toIntB, p_toIntI, p_slcTF, p_slcFT, p_isinst, W_an, W_or, W_no, W_itee, W_setI, pMod_p (show (0 : Int) < 3 by decide)]
            obtain ⟨x, hx, mx⟩ := atD_int (xs := [D.int d2, .int (d3 - 3), .int (999 - 1998 * d4)]) (i := d % 3) (Int.emod_nonneg _ (by decide)) (by have := Int.emod_lt_of_pos d (show (0 : Int) < 3 by decide); simp; omega)
            rw [hx]
            simp only [W_var, W_cst, W_app, W_nilE, W_consE, W_evT, W_asg, W_expr, W_ret, W_iff, W_call0, W_some, W_tp, W_tsN, W_tsC, W_nm, List.length_cons, List.length_nil, Nat.reduceAdd, Nat.reduceLT, List.getD_cons_succ, List.getD_cons_zero, List.set_cons_succ, List.set_cons_zero, List.getElem?_cons_succ, List.getElem?_cons_zero, p_add, p_sub, p_mul, p_fdiv, p_mod, p_pow, p_eq, p_ne, p_lt, p_le, p_gt, p_ge, p_neg, p_idx, p_len, pAdd_i, pSub_i, t_bl, t_int, eq_i, ne_i, Kn_nx, Kn_rt, W_nil, W_outR, W_outN, seqA_ref, seqL_ref, lstO_l, seqA_tup, seqA_lst, seqL_lst, idx_tup, idx_lst, len_tup, len_lst, p_min2, p_max2, p_toIntB, p_toIntI, p_slcTF, p_slcFT, p_isinst, W_an, W_or, W_no, W_itee, W_setI]
            rw [p_tup (by simp)]
            simp only [W_var, W_cst, W_app, W_nilE, W_consE, W_evT, W_asg, W_expr, W_ret, W_iff, W_call0, W_some, W_tp, W_tsN, W_tsC, W_nm, List.length_cons, List.length_nil, Nat.reduceAdd, Nat.reduceLT, List.getD_cons_succ, List.getD_cons_zero, List.set_cons_succ, List.set_cons_zero, List.getElem?_cons_succ, List.getElem?_cons_zero, p_add, p_sub, p_mul, p_fdiv, p_mod, p_pow, p_eq, p_ne, p_lt, p_le, p_gt, p_ge, p_neg, p_idx, p_len, pAdd_i, pSub_i, t_bl, t_int, eq_i, ne_i, Kn_nx, Kn_rt, W_nil, W_outR, W_outN, seqA_ref, seqL_ref, lstO_l, seqA_tup, seqA_lst, seqL_lst, idx_tup, idx_lst, len_tup, len_lst, p_min2, p_max2, p_toIntB, p_toIntI, p_slcTF, p_slcFT, p_isinst, W_an, W_or, W_no, W_itee, W_setI]
            obtain ⟨i, rfl⟩ : ∃ i, x = .int i := by
              simp at mx
              rcases mx with rfl | rfl | rfl <;> exact ⟨_, rfl⟩
            exact ⟨.num i, _, _, rfl, trivial, by simp [Ex.ht], by simp [Ex.sz]; omega, dr4.le (by omega)⟩
        rw [W_cons]
        simp only [W_var, W_cst, W_app, W_nilE, W_consE, W_evT, W_asg, W_expr, W_ret, W_iff, W_call0, W_some, W_tp, W_tsN, W_tsC, W_nm, List.length_cons, List.length_nil, Nat.reduceAdd, Nat.reduceLT, List.getD_cons_succ, List.getD_cons_zero, List.set_cons_succ, List.set_cons_zero, List.getElem?_cons_succ, List.getElem?_cons_zero, p_add, p_sub, p_mul, p_fdiv, p_mod, p_pow, p_eq, p_ne, p_lt, p_le, p_gt, p_ge, p_neg, p_idx, p_len, pAdd_i, pSub_i, t_bl, t_int, eq_i, ne_i, Kn_nx, Kn_rt, W_nil, W_outR, W_outN, seqA_ref, seqL_ref, lstO_l, seqA_tup, seqA_lst, seqL_lst, idx_tup, idx_lst, len_tup, len_lst, p_min2, p_max2, p_toIntB, p_toIntI, p_slcTF, p_slcFT, p_isinst, W_an, W_or, W_no, W_itee, W_setI]
        by_cases h8 : d < 8
        · rw [if_pos (by simpa using h8)]
          by_cases hm0 : 0 < m
          · rw [if_pos (by simpa using hm0), W_cons]
            simp only [W_var, W_cst, W_app, W_nilE, W_consE, W_evT, W_asg, W_expr, W_ret, W_iff, W_call0, W_some, W_tp, W_tsN, W_tsC, W_nm, List.length_cons, List.length_nil, Nat.reduceAdd, Nat.reduceLT, List.getD_cons_succ, List.getD_cons_zero, List.set_cons_succ, List.set_cons_zero, List.getElem?_cons_succ, List.getElem?_cons_zero, p_add, p_sub, p_mul, p_fdiv, p_mod, p_pow, p_eq, p_ne, p_lt, p_le, p_gt, p_ge, p_neg, p_idx, p_len, pAdd_i, pSub_i, t_bl, t_int, eq_i, ne_i, Kn_nx, Kn_rt, W_nil, W_outR, W_outN, seqA_ref, seqL_ref, lstO_l, seqA_tup, seqA_lst, seqL_lst, idx_tup, idx_lst, len_tup, len_lst, p_min2, p_max2, p_toIntB, p_toIntI, p_slcTF, p_slcFT, p_isinst, W_an, W_or, W_no, W_itee, W_setI]
            refine (next_ok (T := T) (f := 3) rfl dr1 (by omega) (by omega) (by omega)).mono ?_
            rintro _ ⟨d2, a2, b2, rfl, h20, h21, dr2⟩
            simp only [W_var, W_cst, W_app, W_nilE, W_consE, W_evT, W_asg, W_expr, W_ret, W_iff, W_call0, W_some, W_tp, W_tsN, W_tsC, W_nm, List.length_cons, List.length_nil, Nat.reduceAdd, Nat.reduceLT, List.getD_cons_succ, List.getD_cons_zero, List.set_cons_succ, List.set_cons_zero, List.getElem?_cons_succ, List.getElem?_cons_zero, p_add, p_sub, p_mul, p_fdiv, p_mod, p_pow, p_eq, p_ne, p_lt, p_le, p_gt, p_ge, p_neg, p_idx, p_len, pAdd_i, pSub_i, t_bl, t_int, eq_i, ne_i, Kn_nx, Kn_rt, W_nil, W_outR, W_outN, seqA_ref, seqL_ref, lstO_l, seqA_tup, seqA_lst, seqL_lst, idx_tup, idx_lst, len_tup, len_lst, p_min2, p_max2, p_toIntB, p_toIntI, p_slcTF, p_slcFT, p_isinst, W_an, W_or, W_no, W_itee, W_setI]
            rw [p_tup (by simp)]
            simp only [W_var, W_cst, W_app, W_nilE, W_consE, W_evT, W_asg, W_expr, W_ret, W_iff, W_call0, W_some, W_tp, W_tsN, W_tsC, W_nm, List.length_cons, List.length_nil, Nat.reduceAdd, Nat.reduceLT, List.getD_cons_succ, List.getD_cons_zero, List.set_cons_succ, List.set_cons_zero, List.getElem?_cons_succ, List.getElem?_cons_zero, p_add, p_sub, p_mul, p_fdiv, p_mod, p_pow, p_eq, p_ne, p_lt, p_le, p_gt, p_ge, p_neg, p_idx, p_len, pAdd_i, pSub_i, t_bl, t_int, eq_i, ne_i, Kn_nx, Kn_rt, W_nil, W_outR, W_outN, seqA_ref, seqL_ref, lstO_l, seqA_tup, seqA_lst, seqL_lst, idx_tup, idx_lst, len_tup, len_lst, p_min2, p_max2, p_toIntB, p_toIntI, p_slcTF, p_slcFT, p_isinst, W_an, W_or, W_no, W_itee, W_setI]
            obtain ⟨j, rfl⟩ := Int.eq_ofNat_of_zero_le h20
            exact ⟨.val j, _, _, rfl, by simpa [Ex.Gen] using h21, by simp [Ex.ht], by simp [Ex.sz]; omega, dr2.le (by omega)⟩
          · rw [if_neg (by simpa using hm0)]
            exact val fun h => hm0 h.2
        · rw [if_neg (by simpa using h8)]
          try simp only [W_var, W_cst, W_app, W_nilE, W_consE, W_evT, W_asg, W_expr, W_ret, W_iff, W_call0, W_some, W_tp, W_tsN, W_tsC, W_nm, List.length_cons, List.length_nil, Nat.reduceAdd, Nat.reduceLT, List.getD_cons_succ, List.getD_cons_zero, List.set_cons_succ, List.set_cons_zero, List.getElem?_cons_succ, List.getElem?_cons_zero, p_add, p_sub, p_mul, p_fdiv, p_mod, p_pow, p_eq, p_ne, p_lt, p_le, p_gt, p_ge, p_neg, p_idx, p_len, pAdd_i, pSub_i, t_bl, t_int, eq_i, ne_i, Kn_nx, Kn_rt, W_nil, W_outR, W_outN, seqA_ref, seqL_ref, lstO_l, seqA_tup, seqA_lst, seqL_lst, idx_tup, idx_lst, len_tup, len_lst, p_min2, p_max2, p_toIntB, p_toIntI, p_slcTF, p_slcFT, p_isinst, W_an, W_or, W_no, W_itee, W_setI, decide_eq_false h8, Bool.false_eq_true, if_false]
          exact val fun h => h8 h.1
      rw [W_cons]
      simp only [W_var, W_cst, W_app, W_nilE, W_consE, W_evT, W_asg, W_expr, W_ret, W_iff, W_call0, W_some, W_tp, W_tsN, W_tsC, W_nm, List.length_cons, List.length_nil, Nat.reduceAdd, Nat.reduceLT, List.getD_cons_succ, List.getD_cons_zero, List.set_cons_succ, List.set_cons_zero, List.getElem?_cons_succ, List.getElem?_cons_zero, p_add, p_sub, p_mul, p_fdiv, p_mod, p_pow, p_eq, p_ne, p_lt, p_le, p_gt, p_ge, p_neg, p_idx, p_len, pAdd_i, pSub_i, t_bl, t_int, eq_i, ne_i, Kn_nx, Kn_rt, W_nil, W_outR, W_outN, seqA_ref, seqL_ref, lstO_l, seqA_tup, seqA_lst, seqL_lst, idx_tup, idx_lst, len_tup, len_lst, p_min2, p_max2, p_toIntB, p_toIntI, p_slcTF, p_slcFT, p_isinst, W_an, W_or, W_no, W_itee, W_setI]
      by_cases h6 : d < 6
      · rw [if_pos (by simpa using h6)]
        rw [p_lst (by simp)]
        simp only [W_var, W_cst, W_app, W_nilE, W_consE, W_evT, W_asg, W_expr, W_ret, W_iff, W_call0, W_some, W_tp, W_tsN, W_tsC, W_nm, List.length_cons, List.length_nil, Nat.reduceAdd, Nat.reduceLT, List.getD_cons_succ, List.getD_cons_zero, List.set_cons_succ, List.set_cons_zero, List.getElem?_cons_succ, List.getElem?_cons_zero, p_add, p_sub, p_mul, p_fdiv, p_mod, p_pow, p_eq, p_ne, p_lt, p_le, p_gt, p_ge, p_neg, p_idx, p_len, pAdd_i, pSub_i, t_bl, t_int, eq_i, ne_i, Kn_nx, Kn_rt, W_nil, W_outR, W_outN, seqA_ref, seqL_ref, lstO_l, seqA_tup, seqA_lst, seqL_lst, idx_tup, idx_lst, len_tup, len_lst, p_min2, p_max2, p_toIntB, p_toIntI, p_slcTF, p_slcFT, p_isinst, W_an, W_or, W_no, W_itee, W_setI, ne_nil ha]
        by_cases hn : ns = []
        · rw [if_neg (by simp [hn])]
          exact cell fun h => h.2 hn
        · rw [if_pos (by simp [hn]), W_cons]
          have hpos : 0 < ns.length := List.length_pos_iff.mpr hn
          simp only [W_var, W_cst, W_app, W_nilE, W_consE, W_evT, W_asg, W_expr, W_ret, W_iff, W_call0, W_some, W_tp, W_tsN, W_tsC, W_nm, List.length_cons, List.length_nil, Nat.reduceAdd, Nat.reduceLT, List.getD_cons_succ, List.getD_cons_zero, List.set_cons_succ, List.set_cons_zero, List.getElem?_cons_succ, List.getElem?_cons_zero, p_add, p_sub, p_mul, p_fdiv, p_mod, p_pow, p_eq, p_ne, p_lt, p_le, p_gt, p_ge, p_neg, p_idx, p_len, pAdd_i, pSub_i, t_bl, t_int, eq_i, ne_i, Kn_nx, Kn_rt, W_nil, W_outR, W_outN, seqA_ref, seqL_ref, lstO_l, seqA_tup, seqA_lst, seqL_lst, idx_tup, idx_lst, len_tup, len_lst, p_min2, p_max2, p_toIntB, p_toIntI, p_slcTF, p_slcFT, p_isinst, W_an, W_or, W_no, W_itee, W_setI, List.length_map]
          refine (next_ok (T := T) (f := 3) rfl dr1 (by omega) (by omega) (by omega)).mono ?_
          rintro _ ⟨d2, a2, b2, rfl, h20, h21, dr2⟩
          obtain ⟨x, hx, mx⟩ := atD_int (xs := ns.map D.str) (i := d2) h20 (by simpa using h21)
          simp only [W_var, W_cst, W_app, W_nilE, W_consE, W_evT, W_asg, W_expr, W_ret, W_iff, W_call0, W_some, W_tp, W_tsN, W_tsC, W_nm, List.length_cons, List.length_nil, Nat.reduceAdd, Nat.reduceLT, List.getD_cons_succ, List.getD_cons_zero, List.set_cons_succ, List.set_cons_zero, List.getElem?_cons_succ, List.getElem?_cons_zero, p_add, p_sub, p_mul, p_fdiv, p_mod, p_pow, p_eq, p_ne, p_lt, p_le, p_gt, p_ge, p_neg, p_idx, p_len, pAdd_i, pSub_i, t_bl, t_int, eq_i, ne_i, Kn_nx, Kn_rt, W_nil, W_outR, W_outN, seqA_ref, seqL_ref, lstO_l, seqA_tup, seqA_lst, seqL_lst, idx_tup, idx_lst, len_tup, len_lst, p_min2, p_max2, p_toIntB, p_toIntI, p_slcTF, p_slcFT, p_isinst, W_an, W_or, W_no, W_itee, W_setI, hx]
          rw [p_tup (by simp)]
          simp only [W_var, W_cst, W_app, W_nilE, W_consE, W_evT, W_asg, W_expr, W_ret, W_iff, W_call0, W_some, W_tp, W_tsN, W_tsC, W_nm, List.length_cons, List.length_nil, Nat.reduceAdd, Nat.reduceLT, List.getD_cons_succ, List.getD_cons_zero, List.set_cons_succ, List.set_cons_zero, List.getElem?_cons_succ, List.getElem?_cons_zero, p_add, p_sub, p_mul, p_fdiv, p_mod, p_pow, p_eq, p_ne, p_lt, p_le, p_gt, p_ge, p_neg, p_idx, p_len, pAdd_i, pSub_i, t_bl, t_int, eq_i, ne_i, Kn_nx, Kn_rt, W_nil, W_outR, W_outN, seqA_ref, seqL_ref, lstO_l, seqA_tup, seqA_lst, seqL_lst, idx_tup, idx_lst, len_tup, len_lst, p_min2, p_max2, p_toIntB, p_toIntI, p_slcTF, p_slcFT, p_isinst, W_an, W_or, W_no, W_itee, W_setI]
          obtain ⟨s, hs, rfl⟩ := List.mem_map.mp mx
          exact ⟨.cell s, _, _, rfl, hs, by simp [Ex.ht], by simp [Ex.sz]; omega, dr2.le (by omega)⟩
      · rw [if_neg (by simpa using h6)]
        try simp only [W_var, W_cst, W_app, W_nilE, W_consE, W_evT, W_asg, W_expr, W_ret, W_iff, W_call0, W_some, W_tp, W_tsN, W_tsC, W_nm, List.length_cons, List.length_nil, Nat.reduceAdd, Nat.reduceLT, List.getD_cons_succ, List.getD_cons_zero, List.set_cons_succ, List.set_cons_zero, List.getElem?_cons_succ, List.getElem?_cons_zero, p_add, p_sub, p_mul, p_fdiv, p_mod, p_pow, p_eq, p_ne, p_lt, p_le, p_gt, p_ge, p_neg, p_idx, p_len, pAdd_i, pSub_i, t_bl, t_int, eq_i, ne_i, Kn_nx, Kn_rt, W_nil, W_outR, W_outN, seqA_ref, seqL_ref, lstO_l, seqA_tup, seqA_lst, seqL_lst, idx_tup, idx_lst, len_tup, len_lst, p_min2, p_max2, p_toIntB, p_toIntI, p_slcTF, p_slcFT, p_isinst, W_an, W_or, W_no, W_itee, W_setI, decide_eq_false h6, Bool.false_eq_true, if_false]
        exact cell fun h => h6 h.1
    simp only [b6, List.drop] at rest
    by_cases h2 : d < 2
    · rw [if_pos (by simpa using h2)]
      match r, hr, ht with
      | 0, _, _ =>
        rw [if_neg (by simp)]
        exact rest
      | r + 1, hr, ht =>
        rw [if_pos (by simp; omega), W_cons]
        simp only [W_var, W_cst, W_app, W_nilE, W_consE, W_evT, W_asg, W_expr, W_ret, W_iff, W_call0, W_some, W_tp, W_tsN, W_tsC, W_nm, List.length_cons, List.length_nil, Nat.reduceAdd, Nat.reduceLT, List.getD_cons_succ, List.getD_cons_zero, List.set_cons_succ, List.set_cons_zero, List.getElem?_cons_succ, List.getElem?_cons_zero, p_add, p_sub, p_mul, p_fdiv, p_mod, p_pow, p_eq, p_ne, p_lt, p_le, p_gt, p_ge, p_neg, p_idx, p_len, pAdd_i, pSub_i, t_bl, t_int, eq_i, ne_i, Kn_nx, Kn_rt, W_nil, W_outR, W_outN, seqA_ref, seqL_ref, lstO_l, seqA_tup, seqA_lst, seqL_lst, idx_tup, idx_lst, len_tup, len_lst, p_min2, p_max2, p_toIntB, p_toIntI, p_slcTF, p_slcFT, p_isinst, W_an, W_or, W_no, W_itee, W_setI]
        simp only [Cst] at ht ⊢
        have ih := @expr_ok ns m ha hl hm r
        have e1 : (2 - ((r + 1 : Nat) : Int) + 1) = 2 - (r : Int) := by omega
        rw [e1]
        refine (ih (a := a1) (b := b1) (tl := tl) (t := t + 1) (n := n) (by omega) dr1 (by omega)).mono ?_
        rintro _ ⟨x, a2, b2, rfl, gx, lx, sx, dr2⟩
        simp only [W_var, W_cst, W_app, W_nilE, W_consE, W_evT, W_asg, W_expr, W_ret, W_iff, W_call0, W_some, W_tp, W_tsN, W_tsC, W_nm, List.length_cons, List.length_nil, Nat.reduceAdd, Nat.reduceLT, List.getD_cons_succ, List.getD_cons_zero, List.set_cons_succ, List.set_cons_zero, List.getElem?_cons_succ, List.getElem?_cons_zero, p_add, p_sub, p_mul, p_fdiv, p_mod, p_pow, p_eq, p_ne, p_lt, p_le, p_gt, p_ge, p_neg, p_idx, p_len, pAdd_i, pSub_i, t_bl, t_int, eq_i, ne_i, Kn_nx, Kn_rt, W_nil, W_outR, W_outN, seqA_ref, seqL_ref, lstO_l, seqA_tup, seqA_lst, seqL_lst, idx_tup, idx_lst, len_tup, len_lst, p_min2, p_max2, p_toIntB, p_toIntI, p_slcTF, p_slcFT, p_isinst, W_an, W_or, W_no, W_itee, W_setI]
        rw [W_cons]
        simp only [W_var, W_cst, W_app, W_nilE, W_consE, W_evT, W_asg, W_expr, W_ret, W_iff, W_call0, W_some, W_tp, W_tsN, W_tsC, W_nm, List.length_cons, List.length_nil, Nat.reduceAdd, Nat.reduceLT, List.getD_cons_succ, List.getD_cons_zero, List.set_cons_succ, List.set_cons_zero, List.getElem?_cons_succ, List.getElem?_cons_zero, p_add, p_sub, p_mul, p_fdiv, p_mod, p_pow, p_eq, p_ne, p_lt, p_le, p_gt, p_ge, p_neg, p_idx, p_len, pAdd_i, pSub_i, t_bl, t_int, eq_i, ne_i, Kn_nx, Kn_rt, W_nil, W_outR, W_outN, seqA_ref, seqL_ref, lstO_l, seqA_tup, seqA_lst, seqL_lst, idx_tup, idx_lst, len_tup, len_lst, p_min2, p_max2, p_toIntB, p_toIntI, p_slcTF, p_slcFT, p_isinst, W_an, W_or, W_no, W_itee, W_setI]
        rw [p_lst (by simp)]
        simp only [W_var, W_cst, W_app, W_nilE, W_consE, W_evT, W_asg, W_expr, W_ret, W_iff, W_call0, W_some, W_tp, W_tsN, W_tsC, W_nm, List.length_cons, List.length_nil, Nat.reduceAdd, Nat.reduceLT, List.getD_cons_succ, List.getD_cons_zero, List.set_cons_succ, List.set_cons_zero, List.getElem?_cons_succ, List.getElem?_cons_zero, p_add, p_sub, p_mul, p_fdiv, p_mod, p_pow, p_eq, p_ne, p_lt, p_le, p_gt, p_ge, p_neg, p_idx, p_len, pAdd_i, pSub_i, t_bl, t_int, eq_i, ne_i, Kn_nx, Kn_rt, W_nil, W_outR, W_outN, seqA_ref, seqL_ref, lstO_l, seqA_tup, seqA_lst, seqL_lst, idx_tup, idx_lst, len_tup, len_lst, p_min2, p_max2, p_toIntB, p_toIntI, p_slcTF, p_slcFT, p_isinst, W_an, W_or, W_no, W_itee, W_setI]
        refine (next_ok (T := T) (f := 3) rfl dr2 (by omega) (by decide) (by decide)).mono ?_
        rintro _ ⟨d2, a3, b3, rfl, h20, h21, dr3⟩
        obtain ⟨j, rfl⟩ := Int.eq_ofNat_of_zero_le h20
        have hj : j < 4 := by omega
        have hop : atD [D.str [97, 100, 100], .str [115, 117, 98], .str [108, 101, 97, 115, 116], .str [109, 111, 115, 116]] (j : Int) = some (.str (opS j)) := by
          refine atD_nat ?_
          match j, hj with
          | 0, _ | 1, _ | 2, _ | 3, _ => rfl
        simp only [W_var, W_cst, W_app, W_nilE, W_consE, W_evT, W_asg, W_expr, W_ret, W_iff, W_call0, W_some, W_tp, W_tsN, W_tsC, W_nm, List.length_cons, List.length_nil, Nat.reduceAdd, Nat.reduceLT, List.getD_cons_succ, List.getD_cons_zero, List.set_cons_succ, List.set_cons_zero, List.getElem?_cons_succ, List.getElem?_cons_zero, p_add, p_sub, p_mul, p_fdiv, p_mod, p_pow, p_eq, p_ne, p_lt, p_le, p_gt, p_ge, p_neg, p_idx, p_len, pAdd_i, pSub_i, t_bl, t_int, eq_i, ne_i, Kn_nx, Kn_rt, W_nil, W_outR, W_outN, seqA_ref, seqL_ref, lstO_l, seqA_tup, seqA_lst, seqL_lst, idx_tup, idx_lst, len_tup, len_lst, p_min2, p_max2, p_toIntB, p_toIntI, p_slcTF, p_slcFT, p_isinst, W_an, W_or, W_no, W_itee, W_setI, hop]
        rw [W_cons]
        simp only [W_var, W_cst, W_app, W_nilE, W_consE, W_evT, W_asg, W_expr, W_ret, W_iff, W_call0, W_some, W_tp, W_tsN, W_tsC, W_nm, List.length_cons, List.length_nil, Nat.reduceAdd, Nat.reduceLT, List.getD_cons_succ, List.getD_cons_zero, List.set_cons_succ, List.set_cons_zero, List.getElem?_cons_succ, List.getElem?_cons_zero, p_add, p_sub, p_mul, p_fdiv, p_mod, p_pow, p_eq, p_ne, p_lt, p_le, p_gt, p_ge, p_neg, p_idx, p_len, pAdd_i, pSub_i, t_bl, t_int, eq_i, ne_i, Kn_nx, Kn_rt, W_nil, W_outR, W_outN, seqA_ref, seqL_ref, lstO_l, seqA_tup, seqA_lst, seqL_lst, idx_tup, idx_lst, len_tup, len_lst, p_min2, p_max2, p_toIntB, p_toIntI, p_slcTF, p_slcFT, p_isinst, W_an, W_or, W_no, W_itee, W_setI]
        rw [e1]
        refine (ih (a := a3) (b := b3) (tl := tl) (t := t + 1 + Cst r + 1) (n := n) (by omega) dr3 (by omega)).mono ?_
        rintro _ ⟨y, a4, b4, rfl, gy, ly, sy, dr4⟩
        simp only [W_var, W_cst, W_app, W_nilE, W_consE, W_evT, W_asg, W_expr, W_ret, W_iff, W_call0, W_some, W_tp, W_tsN, W_tsC, W_nm, List.length_cons, List.length_nil, Nat.reduceAdd, Nat.reduceLT, List.getD_cons_succ, List.getD_cons_zero, List.set_cons_succ, List.set_cons_zero, List.getElem?_cons_succ, List.getElem?_cons_zero, p_add, p_sub, p_mul, p_fdiv, p_mod, p_pow, p_eq, p_ne, p_lt, p_le, p_gt, p_ge, p_neg, p_idx, p_len, pAdd_i, pSub_i, t_bl, t_int, eq_i, ne_i, Kn_nx, Kn_rt, W_nil, W_outR, W_outN, seqA_ref, seqL_ref, lstO_l, seqA_tup, seqA_lst, seqL_lst, idx_tup, idx_lst, len_tup, len_lst, p_min2, p_max2, p_toIntB, p_toIntI, p_slcTF, p_slcFT, p_isinst, W_an, W_or, W_no, W_itee, W_setI]
        rw [p_tup (by simp)]
        simp only [W_var, W_cst, W_app, W_nilE, W_consE, W_evT, W_asg, W_expr, W_ret, W_iff, W_call0, W_some, W_tp, W_tsN, W_tsC, W_nm, List.length_cons, List.length_nil, Nat.reduceAdd, Nat.reduceLT, List.getD_cons_succ, List.getD_cons_zero, List.set_cons_succ, List.set_cons_zero, List.getElem?_cons_succ, List.getElem?_cons_zero, p_add, p_sub, p_mul, p_fdiv, p_mod, p_pow, p_eq, p_ne, p_lt, p_le, p_gt, p_ge, p_neg, p_idx, p_len, pAdd_i, pSub_i, t_bl, t_int, eq_i, ne_i, Kn_nx, Kn_rt, W_nil, W_outR, W_outN, seqA_ref, seqL_ref, lstO_l, seqA_tup, seqA_lst, seqL_lst, idx_tup, idx_lst, len_tup, len_lst, p_min2, p_max2, p_toIntB, p_toIntI, p_slcTF, p_slcFT, p_isinst, W_an, W_or, W_no, W_itee, W_setI]
        exact ⟨.op j x y, _, _, rfl, ⟨hj, gx, gy⟩, by simp [Ex.ht]; omega, by simp only [Ex.sz]; rw [Nat.pow_succ] ; omega, dr4.le (by omega)⟩
    · rw [if_neg (by simpa using h2)]
      try simp only [W_var, W_cst, W_app, W_nilE, W_consE, W_evT, W_asg, W_expr, W_ret, W_iff, W_call0, W_some, W_tp, W_tsN, W_tsC, W_nm, List.length_cons, List.length_nil, Nat.reduceAdd, Nat.reduceLT, List.getD_cons_succ, List.getD_cons_zero, List.set_cons_succ, List.set_cons_zero, List.getElem?_cons_succ, List.getElem?_cons_zero, p_add, p_sub, p_mul, p_fdiv, p_mod, p_pow, p_eq, p_ne, p_lt, p_le, p_gt, p_ge, p_neg, p_idx, p_len, pAdd_i, pSub_i, t_bl, t_int, eq_i, ne_i, Kn_nx, Kn_rt, W_nil, W_outR, W_outN, seqA_ref, seqL_ref, lstO_l, seqA_tup, seqA_lst, seqL_lst, idx_tup, idx_lst, len_tup, len_lst, p_min2, p_max2, p_toIntB, p_toIntI, p_slcTF, p_slcFT, p_isinst, W_an, W_or, W_no, W_itee, W_setI, decide_eq_false h2, Bool.false_eq_true, if_false]
      exact rest
end LW
end Dp

set_option Elab.async false
set_option linter.all false
set_option autoImplicit false
set_option maxRecDepth 100000
set_option maxHeartbeats 4000000
namespace Dp
namespace LW
def L0 : List Nat := [97, 98, 99, 100, 101, 102, 103, 104, 105, 106, 107, 108, 109, 110, 111, 112, 113, 114, 115, 116, 117, 118, 119, 120, 121, 122]
abbrev chs (l : List Nat) : List D := l.map fun c => .str [c]
theorem rng_items {h : Hs} {d : Int} (h0 : 0 ≤ d) (h1 : d ≤ 1000000) {Q : List D → Prop} : W (items h .rng1 [.int d]) Q ↔ Q (rngD 0 d.toNat) := by
  have : (decide ((-1000000 : Int) ≤ d) && decide (d ≤ 1000000)) = true := by simp only [Bool.and_eq_true, decide_eq_true_eq]; omega
  simp only [items, this, if_true, W_some]
theorem rngD_len {a : Int} {n : Nat} : (rngD a n).length = n := by rw [rngD_map]; simp
theorem erase_map {α β : Type} {f : α → β} : ∀ {l : List α} {k : Nat}, (l.map f).eraseIdx k = (l.eraseIdx k).map f
  | [], k => by simp
  | x :: l, 0 => by simp
  | x :: l, k + 1 => by simp [erase_map]
theorem words_ok {a b : O} {t n m : Nat} (dr : Dr a b t) (ht : t + 20 ≤ B24) (hm : m ≤ 4) : W (callF T (n + 2) 5 [.ref 1, .int m] [a, b]) fun r => ∃ (ns : List (List Nat)) (a' b' o : O), r = (.lst (ns.map .str), [a', b', o]) ∧ ns.length = m ∧ (∀ s ∈ ns, asc s = true) ∧ Dr a' b' (t + 20) := by
  rw [W_call (F := ⟨2, 8, b5⟩) rfl rfl]
  simp only [b5, enter, List.map, List.length, List.replicate, List.cons_append, List.nil_append, Nat.reduceSub]
  rw [W_cons]
  have hp : pList [a, b] (.str [97, 98, 99, 100, 101, 102, 103, 104, 105, 106, 107, 108, 109, 110, 111, 112, 113, 114, 115, 116, 117, 118, 119, 120, 121, 122]) = some (.lst (chs L0)) := rfl
  have hL : ∀ c ∈ L0, c < 128 := by decide
  simp only [W_var, W_cst, W_app, W_nilE, W_consE, W_evT, W_asg, W_expr, W_ret, W_iff, W_call0, W_some, W_tp, W_tsN, W_tsC, W_nm, List.length_cons, List.length_nil, Nat.reduceAdd, Nat.reduceLT, List.getD_cons_succ, List.getD_cons_zero, List.set_cons_succ, List.set_cons_zero, List.getElem?_cons_succ, List.getElem?_cons_zero, p_add, p_sub, p_mul, p_fdiv, p_mod, p_pow, p_eq, p_ne, p_lt, p_le, p_gt, p_ge, p_neg, p_idx, p_len, pAdd_i, pSub_i, t_bl, t_int, eq_i, ne_i, Kn_nx, Kn_rt, W_nil, W_outR, W_outN, seqA_ref, seqL_ref, lstO_l, seqA_tup, seqA_lst, seqL_lst, idx_tup, idx_lst, len_tup, len_lst, p_min2, p_max2, p_toIntB, p_toIntI, p_slcTF, p_slcFT, p_isinst, W_an, W_or, W_no, W_itee, W_setI, W_mk, p_toList, hp, List.cons_append, List.nil_append]
  rw [W_cons]
  simp only [W_var, W_cst, W_app, W_nilE, W_consE, W_evT, W_asg, W_expr, W_ret, W_iff, W_call0, W_some, W_tp, W_tsN, W_tsC, W_nm, List.length_cons, List.length_nil, Nat.reduceAdd, Nat.reduceLT, List.getD_cons_succ, List.getD_cons_zero, List.set_cons_succ, List.set_cons_zero, List.getElem?_cons_succ, List.getElem?_cons_zero, p_add, p_sub, p_mul, p_fdiv, p_mod, p_pow, p_eq, p_ne, p_lt, p_le, p_gt, p_ge, p_neg, p_idx, p_len, pAdd_i, pSub_i, t_bl, t_int, eq_i, ne_i, Kn_nx, Kn_rt, W_nil, W_outR, W_outN, seqA_ref, seqL_ref, lstO_l, seqA_tup, seqA_lst, seqL_lst, idx_tup, idx_lst, len_tup, len_lst, p_min2, p_max2, p_toIntB, p_toIntI, p_slcTF, p_slcFT, p_isinst, W_an, W_or, W_no, W_itee, W_setI, W_comp]
  refine (next_ok (T := T) (f := 3) rfl dr (by omega) (by decide) (by decide)).mono ?_
  rintro _ ⟨d, a1, b1, rfl, hd0, hd1, dr1⟩
  simp only [W_var, W_cst, W_app, W_nilE, W_consE, W_evT, W_asg, W_expr, W_ret, W_iff, W_call0, W_some, W_tp, W_tsN, W_tsC, W_nm, List.length_cons, List.length_nil, Nat.reduceAdd, Nat.reduceLT, List.getD_cons_succ, List.getD_cons_zero, List.set_cons_succ, List.set_cons_zero, List.getElem?_cons_succ, List.getElem?_cons_zero, p_add, p_sub, p_mul, p_fdiv, p_mod, p_pow, p_eq, p_ne, p_lt, p_le, p_gt, p_ge, p_neg, p_idx, p_len, pAdd_i, pSub_i, t_bl, t_int, eq_i, ne_i, Kn_nx, Kn_rt, W_nil, W_outR, W_outN, seqA_ref, seqL_ref, lstO_l, seqA_tup, seqA_lst, seqL_lst, idx_tup, idx_lst, len_tup, len_lst, p_min2, p_max2, p_toIntB, p_toIntI, p_slcTF, p_slcFT, p_isinst, W_an, W_or, W_no, W_itee, W_setI, rng_items hd0 (show d ≤ 1000000 by omega)]
  refine loopC_W0 (fun r acc h => ∃ (a b : O) (cs : List Nat), h = [a, b, .lst (chs L0)] ∧ acc = chs cs ∧ asc cs = true ∧ r.length + cs.length ≤ 8 ∧ Dr a b (t + 1 + cs.length)) ⟨a1, b1, [], rfl, rfl, rfl, by rw [rngD_len]; simp; omega, dr1⟩ (fun _ _ _ _ => rfl) ?_ ?_
  · rintro x xs acc h ⟨a, b, cs, rfl, rfl, hcs, hl, dr⟩
    simp only [List.length_cons] at hl
    simp only [W_bind, wipeE, W_nm, List.length_set, W_var, W_cst, W_app, W_nilE, W_consE, W_evT, W_asg, W_expr, W_ret, W_iff, W_call0, W_some, W_tp, W_tsN, W_tsC, W_nm, List.length_cons, List.length_nil, Nat.reduceAdd, Nat.reduceLT, List.getD_cons_succ, List.getD_cons_zero, List.set_cons_succ, List.set_cons_zero, List.getElem?_cons_succ, List.getElem?_cons_zero, p_add, p_sub, p_mul, p_fdiv, p_mod, p_pow, p_eq, p_ne, p_lt, p_le, p_gt, p_ge, p_neg, p_idx, p_len, pAdd_i, pSub_i, t_bl, t_int, eq_i, ne_i, Kn_nx, Kn_rt, W_nil, W_outR, W_outN, seqA_ref, seqL_ref, lstO_l, seqA_tup, seqA_lst, seqL_lst, idx_tup, idx_lst, len_tup, len_lst, p_min2, p_max2, p_toIntB, p_toIntI, p_slcTF, p_slcFT, p_isinst, W_an, W_or, W_no, W_itee, W_setI, W_nilC, if_true, W_map]
    refine (next_ok (T := T) (f := 3) rfl dr (by omega) (by decide) (by decide)).mono ?_
    rintro _ ⟨d, a1, b1, rfl, hd0, hd1, dr1⟩
    simp only [W_var, W_cst, W_app, W_nilE, W_consE, W_evT, W_asg, W_expr, W_ret, W_iff, W_call0, W_some, W_tp, W_tsN, W_tsC, W_nm, List.length_cons, List.length_nil, Nat.reduceAdd, Nat.reduceLT, List.getD_cons_succ, List.getD_cons_zero, List.set_cons_succ, List.set_cons_zero, List.getElem?_cons_succ, List.getElem?_cons_zero, p_add, p_sub, p_mul, p_fdiv, p_mod, p_pow, p_eq, p_ne, p_lt, p_le, p_gt, p_ge, p_neg, p_idx, p_len, pAdd_i, pSub_i, t_bl, t_int, eq_i, ne_i, Kn_nx, Kn_rt, W_nil, W_outR, W_outN, seqA_ref, seqL_ref, lstO_l, seqA_tup, seqA_lst, seqL_lst, idx_tup, idx_lst, len_tup, len_lst, p_min2, p_max2, p_toIntB, p_toIntI, p_slcTF, p_slcFT, p_isinst, W_an, W_or, W_no, W_itee, W_setI]
    rw [idx_ref (ds := chs L0) rfl]
    obtain ⟨x, hx, mx⟩ := atD_int (xs := chs L0) (i := d) hd0 (by simp [L0]; omega)
    obtain ⟨c, hc, rfl⟩ := List.mem_map.mp mx
    simp only [hx, W_some]
    exact ⟨a1, b1, cs ++ [c], rfl, by simp, asc_append hcs (by simp [asc, hL c hc]), by simp; omega, dr1.le (by simp only [List.length_append, List.length_cons, List.length_nil]; omega)⟩
  rintro acc h ⟨a2, b2, cs, rfl, rfl, hcs, hl, dr2⟩
  simp only [List.length_nil] at hl
  refine ⟨by simp [big]; omega, ?_⟩
  simp only [W_var, W_cst, W_app, W_nilE, W_consE, W_evT, W_asg, W_expr, W_ret, W_iff, W_call0, W_some, W_tp, W_tsN, W_tsC, W_nm, List.length_cons, List.length_nil, Nat.reduceAdd, Nat.reduceLT, List.getD_cons_succ, List.getD_cons_zero, List.set_cons_succ, List.set_cons_zero, List.getElem?_cons_succ, List.getElem?_cons_zero, p_add, p_sub, p_mul, p_fdiv, p_mod, p_pow, p_eq, p_ne, p_lt, p_le, p_gt, p_ge, p_neg, p_idx, p_len, pAdd_i, pSub_i, t_bl, t_int, eq_i, ne_i, Kn_nx, Kn_rt, W_nil, W_outR, W_outN, seqA_ref, seqL_ref, lstO_l, seqA_tup, seqA_lst, seqL_lst, idx_tup, idx_lst, len_tup, len_lst, p_min2, p_max2, p_toIntB, p_toIntI, p_slcTF, p_slcFT, p_isinst, W_an, W_or, W_no, W_itee, W_setI, p_join, join_one (show cs.length ≤ 1000 by omega)]
  rw [W_cons]
  simp only [W_var, W_cst, W_app, W_nilE, W_consE, W_evT, W_asg, W_expr, W_ret, W_iff, W_call0, W_some, W_tp, W_tsN, W_tsC, W_nm, List.length_cons, List.length_nil, Nat.reduceAdd, Nat.reduceLT, List.getD_cons_succ, List.getD_cons_zero, List.set_cons_succ, List.set_cons_zero, List.getElem?_cons_succ, List.getElem?_cons_zero, p_add, p_sub, p_mul, p_fdiv, p_mod, p_pow, p_eq, p_ne, p_lt, p_le, p_gt, p_ge, p_neg, p_idx, p_len, pAdd_i, pSub_i, t_bl, t_int, eq_i, ne_i, Kn_nx, Kn_rt, W_nil, W_outR, W_outN, seqA_ref, seqL_ref, lstO_l, seqA_tup, seqA_lst, seqL_lst, idx_tup, idx_lst, len_tup, len_lst, p_min2, p_max2, p_toIntB, p_toIntI, p_slcTF, p_slcFT, p_isinst, W_an, W_or, W_no, W_itee, W_setI, len_s (show cs.length ≤ 1000000 by omega)]
  refine (next_ok (T := T) (f := 3) rfl dr2 (by omega) (by omega) (by omega)).mono ?_
  rintro _ ⟨at_, a3, b3, rfl, hat0, hat1, dr3⟩
  simp only [W_var, W_cst, W_app, W_nilE, W_consE, W_evT, W_asg, W_expr, W_ret, W_iff, W_call0, W_some, W_tp, W_tsN, W_tsC, W_nm, List.length_cons, List.length_nil, Nat.reduceAdd, Nat.reduceLT, List.getD_cons_succ, List.getD_cons_zero, List.set_cons_succ, List.set_cons_zero, List.getElem?_cons_succ, List.getElem?_cons_zero, p_add, p_sub, p_mul, p_fdiv, p_mod, p_pow, p_eq, p_ne, p_lt, p_le, p_gt, p_ge, p_neg, p_idx, p_len, pAdd_i, pSub_i, t_bl, t_int, eq_i, ne_i, Kn_nx, Kn_rt, W_nil, W_outR, W_outN, seqA_ref, seqL_ref, lstO_l, seqA_tup, seqA_lst, seqL_lst, idx_tup, idx_lst, len_tup, len_lst, p_min2, p_max2, p_toIntB, p_toIntI, p_slcTF, p_slcFT, p_isinst, W_an, W_or, W_no, W_itee, W_setI]
  rw [W_cons]
  simp only [W_var, W_cst, W_app, W_nilE, W_consE, W_evT, W_asg, W_expr, W_ret, W_iff, W_call0, W_some, W_tp, W_tsN, W_tsC, W_nm, List.length_cons, List.length_nil, Nat.reduceAdd, Nat.reduceLT, List.getD_cons_succ, List.getD_cons_zero, List.set_cons_succ, List.set_cons_zero, List.getElem?_cons_succ, List.getElem?_cons_zero, p_add, p_sub, p_mul, p_fdiv, p_mod, p_pow, p_eq, p_ne, p_lt, p_le, p_gt, p_ge, p_neg, p_idx, p_len, pAdd_i, pSub_i, t_bl, t_int, eq_i, ne_i, Kn_nx, Kn_rt, W_nil, W_outR, W_outN, seqA_ref, seqL_ref, lstO_l, seqA_tup, seqA_lst, seqL_lst, idx_tup, idx_lst, len_tup, len_lst, p_min2, p_max2, p_toIntB, p_toIntI, p_slcTF, p_slcFT, p_isinst, W_an, W_or, W_no, W_itee, W_setI, W_comp, rng_items (show (0 : Int) ≤ (m : Int) by omega) (show (m : Int) ≤ 1000000 by omega)]
  refine loopC_W0 (fun r acc h => ∃ (a b : O) (L : List Nat) (ns : List (List Nat)), h = [a, b, .lst (chs L)] ∧ acc = ns.map .str ∧ (∀ s ∈ ns, asc s = true ∧ s.length ≤ 20) ∧ (∀ c ∈ L, c < 128) ∧ L.length + ns.length = 26 ∧ r.length + ns.length = m ∧ Dr a b (t + 10 + ns.length)) ⟨a3, b3, L0, [], rfl, rfl, by simp, hL, rfl, by rw [rngD_len]; simp, dr3.le (by simp; omega)⟩ (fun _ _ _ _ => rfl) ?_ ?_
  · rintro x xs acc h ⟨a, b, L, ns, rfl, rfl, hns, hLL, hl, hr, dr⟩
    simp only [List.length_cons] at hr
    simp only [W_bind, wipeE, W_nm, List.length_set, W_var, W_cst, W_app, W_nilE, W_consE, W_evT, W_asg, W_expr, W_ret, W_iff, W_call0, W_some, W_tp, W_tsN, W_tsC, W_nm, List.length_cons, List.length_nil, Nat.reduceAdd, Nat.reduceLT, List.getD_cons_succ, List.getD_cons_zero, List.set_cons_succ, List.set_cons_zero, List.getElem?_cons_succ, List.getElem?_cons_zero, p_add, p_sub, p_mul, p_fdiv, p_mod, p_pow, p_eq, p_ne, p_lt, p_le, p_gt, p_ge, p_neg, p_idx, p_len, pAdd_i, pSub_i, t_bl, t_int, eq_i, ne_i, Kn_nx, Kn_rt, W_nil, W_outR, W_outN, seqA_ref, seqL_ref, lstO_l, seqA_tup, seqA_lst, seqL_lst, idx_tup, idx_lst, len_tup, len_lst, p_min2, p_max2, p_toIntB, p_toIntI, p_slcTF, p_slcFT, p_isinst, W_an, W_or, W_no, W_itee, W_setI, W_nilC, if_true, W_map, slc_s (show cs.length ≤ 1000000 by omega), W_eff]
    refine ⟨isLst_ref rfl, ?_⟩
    rw [len_ref (ds := chs L) rfl]
    simp only [W_var, W_cst, W_app, W_nilE, W_consE, W_evT, W_asg, W_expr, W_ret, W_iff, W_call0, W_some, W_tp, W_tsN, W_tsC, W_nm, List.length_cons, List.length_nil, Nat.reduceAdd, Nat.reduceLT, List.getD_cons_succ, List.getD_cons_zero, List.set_cons_succ, List.set_cons_zero, List.getElem?_cons_succ, List.getElem?_cons_zero, p_add, p_sub, p_mul, p_fdiv, p_mod, p_pow, p_eq, p_ne, p_lt, p_le, p_gt, p_ge, p_neg, p_idx, p_len, pAdd_i, pSub_i, t_bl, t_int, eq_i, ne_i, Kn_nx, Kn_rt, W_nil, W_outR, W_outN, seqA_ref, seqL_ref, lstO_l, seqA_tup, seqA_lst, seqL_lst, idx_tup, idx_lst, len_tup, len_lst, p_min2, p_max2, p_toIntB, p_toIntI, p_slcTF, p_slcFT, p_isinst, W_an, W_or, W_no, W_itee, W_setI]
    have hL0 : 0 < L.length := by omega
    refine (next_ok (T := T) (f := 3) rfl dr (by omega) (by simp; omega) (by simp; omega)).mono ?_
    rintro _ ⟨d, a1, b1, rfl, hd0, hd1, dr1⟩
    obtain ⟨k, rfl⟩ := Int.eq_ofNat_of_zero_le hd0
    have hk : k < L.length := by simpa using hd1
    have hkc : (chs L)[k]? = some (.str [L[k]]) := by simp [hk]
    simp only [W_var, W_cst, W_app, W_nilE, W_consE, W_evT, W_asg, W_expr, W_ret, W_iff, W_call0, W_some, W_tp, W_tsN, W_tsC, W_nm, List.length_cons, List.length_nil, Nat.reduceAdd, Nat.reduceLT, List.getD_cons_succ, List.getD_cons_zero, List.set_cons_succ, List.set_cons_zero, List.getElem?_cons_succ, List.getElem?_cons_zero, p_add, p_sub, p_mul, p_fdiv, p_mod, p_pow, p_eq, p_ne, p_lt, p_le, p_gt, p_ge, p_neg, p_idx, p_len, pAdd_i, pSub_i, t_bl, t_int, eq_i, ne_i, Kn_nx, Kn_rt, W_nil, W_outR, W_outN, seqA_ref, seqL_ref, lstO_l, seqA_tup, seqA_lst, seqL_lst, idx_tup, idx_lst, len_tup, len_lst, p_min2, p_max2, p_toIntB, p_toIntI, p_slcTF, p_slcFT, p_isinst, W_an, W_or, W_no, W_itee, W_setI]
    rw [popI_ref (ds := chs L) rfl (ixD_nat (by simpa using hk)) hkc]
    have hcl : ∀ lo hi, (cutD cs lo hi).length ≤ 8 := fun lo hi => Nat.le_trans cut_sub.length_le (by omega)
    have c1 := hcl none (some at_)
    have c2 := hcl (some at_) none
    simp only [W_var, W_cst, W_app, W_nilE, W_consE, W_evT, W_asg, W_expr, W_ret, W_iff, W_call0, W_some, W_tp, W_tsN, W_tsC, W_nm, List.length_cons, List.length_nil, Nat.reduceAdd, Nat.reduceLT, List.getD_cons_succ, List.getD_cons_zero, List.set_cons_succ, List.set_cons_zero, List.getElem?_cons_succ, List.getElem?_cons_zero, p_add, p_sub, p_mul, p_fdiv, p_mod, p_pow, p_eq, p_ne, p_lt, p_le, p_gt, p_ge, p_neg, p_idx, p_len, pAdd_i, pSub_i, t_bl, t_int, eq_i, ne_i, Kn_nx, Kn_rt, W_nil, W_outR, W_outN, seqA_ref, seqL_ref, lstO_l, seqA_tup, seqA_lst, seqL_lst, idx_tup, idx_lst, len_tup, len_lst, p_min2, p_max2, p_toIntB, p_toIntI, p_slcTF, p_slcFT, p_isinst, W_an, W_or, W_no, W_itee, W_setI]
    rw [pAdd_s (by simp; omega), W_some, pAdd_s (by simp; omega), W_some]
    refine ⟨a1, b1, L.eraseIdx k, ns ++ [cutD cs none (some at_) ++ [L[k]] ++ cutD cs (some at_) none], by simp [erase_map], by simp, ?_, fun c hc => hLL c (List.mem_of_mem_eraseIdx hc), by rw [List.length_eraseIdx_of_lt hk]; simp; omega, by simp; omega, dr1.le (by simp only [List.length_append, List.length_cons, List.length_nil]; omega)⟩
    intro s hs
    rcases List.mem_append.mp hs with hs | hs
    · exact hns s hs
    · simp only [List.mem_singleton] at hs
      subst hs
      refine ⟨asc_append (asc_append (asc_cut hcs) (by simp [asc, hLL _ (List.getElem_mem hk)])) (asc_cut hcs), ?_⟩
      simp
      omega
  rintro acc h ⟨a4, b4, L, ns, rfl, rfl, hns, hLL, hl4, hr4, dr4⟩
  simp only [List.length_nil] at hr4
  refine ⟨by simp [big]; omega, ?_⟩
  simp only [W_var, W_cst, W_app, W_nilE, W_consE, W_evT, W_asg, W_expr, W_ret, W_iff, W_call0, W_some, W_tp, W_tsN, W_tsC, W_nm, List.length_cons, List.length_nil, Nat.reduceAdd, Nat.reduceLT, List.getD_cons_succ, List.getD_cons_zero, List.set_cons_succ, List.set_cons_zero, List.getElem?_cons_succ, List.getElem?_cons_zero, p_add, p_sub, p_mul, p_fdiv, p_mod, p_pow, p_eq, p_ne, p_lt, p_le, p_gt, p_ge, p_neg, p_idx, p_len, pAdd_i, pSub_i, t_bl, t_int, eq_i, ne_i, Kn_nx, Kn_rt, W_nil, W_outR, W_outN, seqA_ref, seqL_ref, lstO_l, seqA_tup, seqA_lst, seqL_lst, idx_tup, idx_lst, len_tup, len_lst, p_min2, p_max2, p_toIntB, p_toIntI, p_slcTF, p_slcFT, p_isinst, W_an, W_or, W_no, W_itee, W_setI]
  rw [W_cons]
  simp only [W_var, W_cst, W_app, W_nilE, W_consE, W_evT, W_asg, W_expr, W_ret, W_iff, W_call0, W_some, W_tp, W_tsN, W_tsC, W_nm, List.length_cons, List.length_nil, Nat.reduceAdd, Nat.reduceLT, List.getD_cons_succ, List.getD_cons_zero, List.set_cons_succ, List.set_cons_zero, List.getElem?_cons_succ, List.getElem?_cons_zero, p_add, p_sub, p_mul, p_fdiv, p_mod, p_pow, p_eq, p_ne, p_lt, p_le, p_gt, p_ge, p_neg, p_idx, p_len, pAdd_i, pSub_i, t_bl, t_int, eq_i, ne_i, Kn_nx, Kn_rt, W_nil, W_outR, W_outN, seqA_ref, seqL_ref, lstO_l, seqA_tup, seqA_lst, seqL_lst, idx_tup, idx_lst, len_tup, len_lst, p_min2, p_max2, p_toIntB, p_toIntI, p_slcTF, p_slcFT, p_isinst, W_an, W_or, W_no, W_itee, W_setI, W_comp, items]
  refine W.of (loopC_map (fun d => match d with | .str s => D.str (s ++ (if s == [98, 101, 97, 116] then [115] else [])) | d => d) rfl fun d hd => eq_of_W ?_) ?_
  · obtain ⟨s, hs, rfl⟩ := List.mem_map.mp hd
    obtain ⟨h1, h2⟩ := hns s hs
    have hmul : ∀ (hp : Hs) (b : Bool), pMul hp (.str [115]) (.int (if b then 1 else 0)) = some (.str (if b then [115] else [])) := fun hp b => by cases b <;> rfl
    simp only [W_bind, wipeE, W_nm, List.length_set, W_var, W_cst, W_app, W_nilE, W_consE, W_evT, W_asg, W_expr, W_ret, W_iff, W_call0, W_some, W_tp, W_tsN, W_tsC, W_nm, List.length_cons, List.length_nil, Nat.reduceAdd, Nat.reduceLT, List.getD_cons_succ, List.getD_cons_zero, List.set_cons_succ, List.set_cons_zero, List.getElem?_cons_succ, List.getElem?_cons_zero, p_add, p_sub, p_mul, p_fdiv, p_mod, p_pow, p_eq, p_ne, p_lt, p_le, p_gt, p_ge, p_neg, p_idx, p_len, pAdd_i, pSub_i, t_bl, t_int, eq_i, ne_i, Kn_nx, Kn_rt, W_nil, W_outR, W_outN, seqA_ref, seqL_ref, lstO_l, seqA_tup, seqA_lst, seqL_lst, idx_tup, idx_lst, len_tup, len_lst, p_min2, p_max2, p_toIntB, p_toIntI, p_slcTF, p_slcFT, p_isinst, W_an, W_or, W_no, W_itee, W_setI, W_nilC, if_true, W_map, eq_s h1 (show asc [98, 101, 97, 116] = true by decide), hmul]
    rw [pAdd_s (by split <;> simp <;> omega)]
    simp only [W_var, W_cst, W_app, W_nilE, W_consE, W_evT, W_asg, W_expr, W_ret, W_iff, W_call0, W_some, W_tp, W_tsN, W_tsC, W_nm, List.length_cons, List.length_nil, Nat.reduceAdd, Nat.reduceLT, List.getD_cons_succ, List.getD_cons_zero, List.set_cons_succ, List.set_cons_zero, List.getElem?_cons_succ, List.getElem?_cons_zero, p_add, p_sub, p_mul, p_fdiv, p_mod, p_pow, p_eq, p_ne, p_lt, p_le, p_gt, p_ge, p_neg, p_idx, p_len, pAdd_i, pSub_i, t_bl, t_int, eq_i, ne_i, Kn_nx, Kn_rt, W_nil, W_outR, W_outN, seqA_ref, seqL_ref, lstO_l, seqA_tup, seqA_lst, seqL_lst, idx_tup, idx_lst, len_tup, len_lst, p_min2, p_max2, p_toIntB, p_toIntI, p_slcTF, p_slcFT, p_isinst, W_an, W_or, W_no, W_itee, W_setI]
  · refine ⟨by simp [big]; omega, ?_⟩
    simp only [W_var, W_cst, W_app, W_nilE, W_consE, W_evT, W_asg, W_expr, W_ret, W_iff, W_call0, W_some, W_tp, W_tsN, W_tsC, W_nm, List.length_cons, List.length_nil, Nat.reduceAdd, Nat.reduceLT, List.getD_cons_succ, List.getD_cons_zero, List.set_cons_succ, List.set_cons_zero, List.getElem?_cons_succ, List.getElem?_cons_zero, p_add, p_sub, p_mul, p_fdiv, p_mod, p_pow, p_eq, p_ne, p_lt, p_le, p_gt, p_ge, p_neg, p_idx, p_len, pAdd_i, pSub_i, t_bl, t_int, eq_i, ne_i, Kn_nx, Kn_rt, W_nil, W_outR, W_outN, seqA_ref, seqL_ref, lstO_l, seqA_tup, seqA_lst, seqL_lst, idx_tup, idx_lst, len_tup, len_lst, p_min2, p_max2, p_toIntB, p_toIntI, p_slcTF, p_slcFT, p_isinst, W_an, W_or, W_no, W_itee, W_setI]
    refine ⟨ns.map (fun s => s ++ (if s == [98, 101, 97, 116] then [115] else [])), a4, b4, .lst (chs L), by simp [Function.comp_def], by simpa using hr4, ?_, dr4.le (by omega)⟩
    intro s hs
    obtain ⟨s', hs', rfl⟩ := List.mem_map.mp hs
    exact asc_append (hns s' hs').1 (by split <;> decide)
end LW
end Dp

set_option Elab.async false
set_option linter.all false
set_option autoImplicit false
set_option maxRecDepth 100000
set_option maxHeartbeats 4000000
namespace Dp
namespace LW
theorem lookK_put {k : Ky} {d : D} : ∀ (ks : List Ky) (vs : List D), ks.length = vs.length → lookK k (putK k d ks vs).1 (putK k d ks vs).2 = some d
  | [], [], _ => by simp [putK, lookK]
  | k' :: ks, v :: vs, h => by
    unfold putK
    by_cases e : k = k'
    · rw [if_pos e]; simp [lookK, e]
    · rw [if_neg e]; simp only [lookK, if_neg e]; exact lookK_put ks vs (by simpa using h)
theorem lookK_ne {k k2 : Ky} {d : D} (hne : k2 ≠ k) : ∀ (ks : List Ky) (vs : List D), ks.length = vs.length → lookK k2 (putK k d ks vs).1 (putK k d ks vs).2 = lookK k2 ks vs
  | [], [], _ => by simp [putK, lookK, hne]
  | k' :: ks, v :: vs, h => by
    unfold putK
    by_cases e : k = k'
    · subst e; rw [if_pos rfl]; simp [lookK, hne]
    · rw [if_neg e]; simp only [lookK]; rw [lookK_ne hne ks vs (by simpa using h)]
theorem put_len {k : Ky} {d : D} : ∀ (ks : List Ky) (vs : List D), ks.length = vs.length → (putK k d ks vs).1.length = (putK k d ks vs).2.length ∧ (putK k d ks vs).1.length ≤ ks.length + 1
  | [], [], _ => by simp [putK]
  | k' :: ks, v :: vs, h => by
    unfold putK
    by_cases e : k = k'
    · rw [if_pos e]; simp; simpa using h
    · rw [if_neg e]; obtain ⟨h1, h2⟩ := put_len (k := k) (d := d) ks vs (by simpa using h); simp; omega
theorem put_ok {b : Nat} {k : Ky} {d : D} (hd : okB b d = true) : ∀ (ks : List Ky) (vs : List D), ks.length = vs.length → okBs b vs = true → okBs b (putK k d ks vs).2 = true
  | [], [], _, _ => by simp [putK, okBs, hd]
  | k' :: ks, v :: vs, h, o => by
    simp only [okBs, Bool.and_eq_true] at o
    unfold putK
    by_cases e : k = k'
    · rw [if_pos e]; simp [okBs, hd, o.2]
    · rw [if_neg e]; simp [okBs, o.1, put_ok hd ks vs (by simpa using h) o.2]
theorem Ex.ok_of {w : Wo} {ns : List (List Nat)} (h1 : ∀ s ∈ ns, asc s = true ∧ ∃ i, lookK (.inr s) w.ks w.vs = some (.int i)) : ∀ e : Ex, e.Gen ns w.us.length → e.Ok w
  | .num _, _ => trivial
  | .cell s, h => h1 s h
  | .val j, h => h
  | .now, _ => trivial
  | .op o a b, h => ⟨h.1, Ex.ok_of h1 a h.2.1, Ex.ok_of h1 b h.2.2⟩
theorem alike_i {n : Nat} {h : Hs} {i : Int} : callF T (n + 1) 4 [.int i, .int i] h = some (.bl true, h) := by
  have := alike_ok (T := T) (f := 4) rfl (h := h) (n + 1) (.int i) (.int i) (by simp [depD]) rfl rfl (by simp [depD]) (by simp [depD])
  rw [beqD_rfl] at this
  exact this
theorem expr0 {ns : List (List Nat)} {m : Nat} (ha : ∀ s ∈ ns, asc s = true) (hl : ns.length ≤ 100) (hm : m ≤ 100) {a b : O} {tl : Hs} {t n : Nat} (dr : Dr a b t) (ht : t + 28 ≤ B24) :
    W (callF T (n + 4) 6 [.ref 1, .lst (ns.map .str), .int m, .int 0] (a :: b :: tl)) fun q => ∃ (e : Ex) (a' b' : O), q = (e.d, a' :: b' :: tl) ∧ e.Gen ns m ∧ e.ht ≤ 2 ∧ e.sz ≤ 7 ∧ Dr a' b' (t + 28) := by
  refine (expr_ok ha hl hm 2 (n := n) (tl := tl) (by omega) dr ht).mono ?_
  rintro _ ⟨e, a', b', rfl, h1, h2, h3, h4⟩
  exact ⟨e, a', b', rfl, h1, h2, by omega, h4⟩
theorem expr1 {ns : List (List Nat)} {m : Nat} (ha : ∀ s ∈ ns, asc s = true) (hl : ns.length ≤ 100) (hm : m ≤ 100) {a b : O} {tl : Hs} {t n : Nat} (dr : Dr a b t) (ht : t + 12 ≤ B24) :
    W (callF T (n + 3) 6 [.ref 1, .lst (ns.map .str), .int m, .int 1] (a :: b :: tl)) fun q => ∃ (e : Ex) (a' b' : O), q = (e.d, a' :: b' :: tl) ∧ e.Gen ns m ∧ e.ht ≤ 1 ∧ Dr a' b' (t + 12) := by
  refine (expr_ok ha hl hm 1 (n := n) (tl := tl) (by omega) dr ht).mono ?_
  rintro _ ⟨e, a', b', rfl, h1, h2, h3, h4⟩
  exact ⟨e, a', b', rfl, h1, h2, h4⟩
theorem law_ok : ∀ ns : List Int, ns.length ≤ 63 → ∃ h', callF (tabF ds) 40 11 [.scr (ns.map .int)] [] = some (.bl true, h') := by
  intro sc hsc
  suffices H : W (callF T 40 11 [.scr (sc.map .int)] []) fun r => r.1 = .bl true by
    obtain ⟨⟨d, h'⟩, e, rfl⟩ := H
    exact ⟨h', e⟩
  rw [W_call (k := 39) (F := ⟨1, 16, b11⟩) rfl rfl]
  simp only [b11, enter, List.map, List.length, List.replicate, List.cons_append, List.nil_append, Nat.reduceSub]
  rw [W_cons]
  simp only [W_var, W_cst, W_app, W_nilE, W_consE, W_evT, W_asg, W_expr, W_ret, W_iff, W_call0, W_some, W_tp, W_tsN, W_tsC, W_nm, List.length_cons, List.length_nil, Nat.reduceAdd, Nat.reduceLT, List.getD_cons_succ, List.getD_cons_zero, List.set_cons_succ, List.set_cons_zero, List.getElem?_cons_succ, List.getElem?_cons_zero, p_add, p_sub, p_mul, p_fdiv, p_mod, p_pow, p_eq, p_ne, p_lt, p_le, p_gt, p_ge, p_neg, p_idx, p_len, pAdd_i, pSub_i, t_bl, t_int, eq_i, ne_i, Kn_nx, Kn_rt, W_nil, W_outR, W_outN, seqA_ref, seqL_ref, lstO_l, seqA_tup, seqA_lst, seqL_lst, idx_tup, idx_lst, len_tup, len_lst, p_min2, p_max2, p_toIntB, p_toIntI, p_slcTF, p_slcFT, p_isinst, W_an, W_or, W_no, W_itee, W_setI]
  refine (draws_ok (T := T) (f := 2) rfl hsc rfl).mono ?_
  rintro _ ⟨a, b, rfl, dr⟩
  simp only [W_var, W_cst, W_app, W_nilE, W_consE, W_evT, W_asg, W_expr, W_ret, W_iff, W_call0, W_some, W_tp, W_tsN, W_tsC, W_nm, List.length_cons, List.length_nil, Nat.reduceAdd, Nat.reduceLT, List.getD_cons_succ, List.getD_cons_zero, List.set_cons_succ, List.set_cons_zero, List.getElem?_cons_succ, List.getElem?_cons_zero, p_add, p_sub, p_mul, p_fdiv, p_mod, p_pow, p_eq, p_ne, p_lt, p_le, p_gt, p_ge, p_neg, p_idx, p_len, pAdd_i, pSub_i, t_bl, t_int, eq_i, ne_i, Kn_nx, Kn_rt, W_nil, W_outR, W_outN, seqA_ref, seqL_ref, lstO_l, seqA_tup, seqA_lst, seqL_lst, idx_tup, idx_lst, len_tup, len_lst, p_min2, p_max2, p_toIntB, p_toIntI, p_slcTF, p_slcFT, p_isinst, W_an, W_or, W_no, W_itee, W_setI]
  rw [W_cons]
  simp only [W_var, W_cst, W_app, W_nilE, W_consE, W_evT, W_asg, W_expr, W_ret, W_iff, W_call0, W_some, W_tp, W_tsN, W_tsC, W_nm, List.length_cons, List.length_nil, Nat.reduceAdd, Nat.reduceLT, List.getD_cons_succ, List.getD_cons_zero, List.set_cons_succ, List.set_cons_zero, List.getElem?_cons_succ, List.getElem?_cons_zero, p_add, p_sub, p_mul, p_fdiv, p_mod, p_pow, p_eq, p_ne, p_lt, p_le, p_gt, p_ge, p_neg, p_idx, p_len, pAdd_i, pSub_i, t_bl, t_int, eq_i, ne_i, Kn_nx, Kn_rt, W_nil, W_outR, W_outN, seqA_ref, seqL_ref, lstO_l, seqA_tup, seqA_lst, seqL_lst, idx_tup, idx_lst, len_tup, len_lst, p_min2, p_max2, p_toIntB, p_toIntI, p_slcTF, p_slcFT, p_isinst, W_an, W_or, W_no, W_itee, W_setI, W_callB]
  refine (next_ok (T := T) (f := 3) rfl dr (by decide) (by decide) (by decide)).mono ?_
  rintro _ ⟨d, a1, b1, rfl, hd0, hd1, dr1⟩
  simp only [W_var, W_cst, W_app, W_nilE, W_consE, W_evT, W_asg, W_expr, W_ret, W_iff, W_call0, W_some, W_tp, W_tsN, W_tsC, W_nm, List.length_cons, List.length_nil, Nat.reduceAdd, Nat.reduceLT, List.getD_cons_succ, List.getD_cons_zero, List.set_cons_succ, List.set_cons_zero, List.getElem?_cons_succ, List.getElem?_cons_zero, p_add, p_sub, p_mul, p_fdiv, p_mod, p_pow, p_eq, p_ne, p_lt, p_le, p_gt, p_ge, p_neg, p_idx, p_len, pAdd_i, pSub_i, t_bl, t_int, eq_i, ne_i, Kn_nx, Kn_rt, W_nil, W_outR, W_outN, seqA_ref, seqL_ref, lstO_l, seqA_tup, seqA_lst, seqL_lst, idx_tup, idx_lst, len_tup, len_lst, p_min2, p_max2, p_toIntB, p_toIntI, p_slcTF, p_slcFT, p_isinst, W_an, W_or, W_no, W_itee, W_setI]
  obtain ⟨m, hm⟩ := Int.eq_ofNat_of_zero_le (show (0 : Int) ≤ 1 + d by omega)
  have hm4 : m ≤ 4 := by omega
  rw [hm]
  have o1 := dr1.okO (Nat.le_refl 2)
  refine ⟨by simp [okBs, okB, o1.1, o1.2], ?_⟩
  simp only [List.take]
  refine (words_ok (n := 37) dr1 (by decide) hm4).mono ?_
  rintro _ ⟨ns, a2, b2, o, rfl, hnl, hns, dr2⟩
  have o2 := dr2.okO (Nat.le_refl 2)
  refine ⟨by simp [o2.1, o2.2], ?_⟩
  have hns0 : okBs 2 (ns.map .str) = true := okBs_mem fun d hd => by
    obtain ⟨s, _, rfl⟩ := List.mem_map.mp hd
    rfl
  rw [fz_ok _ (by simpa [okB] using hns0), W_some]
  simp only [W_var, W_cst, W_app, W_nilE, W_consE, W_evT, W_asg, W_expr, W_ret, W_iff, W_call0, W_some, W_tp, W_tsN, W_tsC, W_nm, List.length_cons, List.length_nil, Nat.reduceAdd, Nat.reduceLT, List.getD_cons_succ, List.getD_cons_zero, List.set_cons_succ, List.set_cons_zero, List.getElem?_cons_succ, List.getElem?_cons_zero, p_add, p_sub, p_mul, p_fdiv, p_mod, p_pow, p_eq, p_ne, p_lt, p_le, p_gt, p_ge, p_neg, p_idx, p_len, pAdd_i, pSub_i, t_bl, t_int, eq_i, ne_i, Kn_nx, Kn_rt, W_nil, W_outR, W_outN, seqA_ref, seqL_ref, lstO_l, seqA_tup, seqA_lst, seqL_lst, idx_tup, idx_lst, len_tup, len_lst, p_min2, p_max2, p_toIntB, p_toIntI, p_slcTF, p_slcFT, p_isinst, W_an, W_or, W_no, W_itee, W_setI, List.take, List.drop, List.append_nil]
  rw [W_cons]
  simp only [W_var, W_cst, W_app, W_nilE, W_consE, W_evT, W_asg, W_expr, W_ret, W_iff, W_call0, W_some, W_tp, W_tsN, W_tsC, W_nm, List.length_cons, List.length_nil, Nat.reduceAdd, Nat.reduceLT, List.getD_cons_succ, List.getD_cons_zero, List.set_cons_succ, List.set_cons_zero, List.getElem?_cons_succ, List.getElem?_cons_zero, p_add, p_sub, p_mul, p_fdiv, p_mod, p_pow, p_eq, p_ne, p_lt, p_le, p_gt, p_ge, p_neg, p_idx, p_len, pAdd_i, pSub_i, t_bl, t_int, eq_i, ne_i, Kn_nx, Kn_rt, W_nil, W_outR, W_outN, seqA_ref, seqL_ref, lstO_l, seqA_tup, seqA_lst, seqL_lst, idx_tup, idx_lst, len_tup, len_lst, p_min2, p_max2, p_toIntB, p_toIntI, p_slcTF, p_slcFT, p_isinst, W_an, W_or, W_no, W_itee, W_setI, W_comp]
  refine (next_ok (T := T) (f := 3) rfl dr2 (by decide) (by decide) (by decide)).mono ?_
  rintro _ ⟨v, a3, b3, rfl, hv0, hv1, dr3⟩
  simp only [W_var, W_cst, W_app, W_nilE, W_consE, W_evT, W_asg, W_expr, W_ret, W_iff, W_call0, W_some, W_tp, W_tsN, W_tsC, W_nm, List.length_cons, List.length_nil, Nat.reduceAdd, Nat.reduceLT, List.getD_cons_succ, List.getD_cons_zero, List.set_cons_succ, List.set_cons_zero, List.getElem?_cons_succ, List.getElem?_cons_zero, p_add, p_sub, p_mul, p_fdiv, p_mod, p_pow, p_eq, p_ne, p_lt, p_le, p_gt, p_ge, p_neg, p_idx, p_len, pAdd_i, pSub_i, t_bl, t_int, eq_i, ne_i, Kn_nx, Kn_rt, W_nil, W_outR, W_outN, seqA_ref, seqL_ref, lstO_l, seqA_tup, seqA_lst, seqL_lst, idx_tup, idx_lst, len_tup, len_lst, p_min2, p_max2, p_toIntB, p_toIntI, p_slcTF, p_slcFT, p_isinst, W_an, W_or, W_no, W_itee, W_setI, rng_items hv0 (show v ≤ 1000000 by omega)]
  refine loopC_W0 (fun r acc h => ∃ (a b : O) (us : List Int), h = [a, b] ∧ acc = us.map .int ∧ r.length + us.length ≤ 3 ∧ Dr a b (30 + 4 * us.length)) ⟨a3, b3, [], rfl, rfl, by rw [rngD_len]; simp; omega, dr3.le (by simp)⟩ (fun _ _ _ _ => rfl) ?_ ?_
  · rintro x xs acc h ⟨a, b, us, rfl, rfl, hl, dr⟩
    simp only [List.length_cons] at hl
    simp only [W_bind, wipeE, W_nm, List.length_set, W_var, W_cst, W_app, W_nilE, W_consE, W_evT, W_asg, W_expr, W_ret, W_iff, W_call0, W_some, W_tp, W_tsN, W_tsC, W_nm, List.length_cons, List.length_nil, Nat.reduceAdd, Nat.reduceLT, List.getD_cons_succ, List.getD_cons_zero, List.set_cons_succ, List.set_cons_zero, List.getElem?_cons_succ, List.getElem?_cons_zero, p_add, p_sub, p_mul, p_fdiv, p_mod, p_pow, p_eq, p_ne, p_lt, p_le, p_gt, p_ge, p_neg, p_idx, p_len, pAdd_i, pSub_i, t_bl, t_int, eq_i, ne_i, Kn_nx, Kn_rt, W_nil, W_outR, W_outN, seqA_ref, seqL_ref, lstO_l, seqA_tup, seqA_lst, seqL_lst, idx_tup, idx_lst, len_tup, len_lst, p_min2, p_max2, p_toIntB, p_toIntI, p_slcTF, p_slcFT, p_isinst, W_an, W_or, W_no, W_itee, W_setI, W_nilC, if_true, W_map]
    refine (wdraw_ok (n := 37) dr (by unfold B24; omega)).mono ?_
    rintro _ ⟨i, a', b', rfl, dr'⟩
    exact ⟨a', b', us ++ [i], rfl, by simp, by simp; omega, dr'.le (by simp only [List.length_append, List.length_cons, List.length_nil]; omega)⟩
  rintro acc h ⟨a4, b4, us, rfl, rfl, hul, dr4⟩
  simp only [List.length_nil] at hul
  refine ⟨by simp [big]; omega, ?_⟩
  simp only [W_var, W_cst, W_app, W_nilE, W_consE, W_evT, W_asg, W_expr, W_ret, W_iff, W_call0, W_some, W_tp, W_tsN, W_tsC, W_nm, List.length_cons, List.length_nil, Nat.reduceAdd, Nat.reduceLT, List.getD_cons_succ, List.getD_cons_zero, List.set_cons_succ, List.set_cons_zero, List.getElem?_cons_succ, List.getElem?_cons_zero, p_add, p_sub, p_mul, p_fdiv, p_mod, p_pow, p_eq, p_ne, p_lt, p_le, p_gt, p_ge, p_neg, p_idx, p_len, pAdd_i, pSub_i, t_bl, t_int, eq_i, ne_i, Kn_nx, Kn_rt, W_nil, W_outR, W_outN, seqA_ref, seqL_ref, lstO_l, seqA_tup, seqA_lst, seqL_lst, idx_tup, idx_lst, len_tup, len_lst, p_min2, p_max2, p_toIntB, p_toIntI, p_slcTF, p_slcFT, p_isinst, W_an, W_or, W_no, W_itee, W_setI, p_toTuple, Option.map_some]
  rw [W_cons]
  simp only [W_var, W_cst, W_app, W_nilE, W_consE, W_evT, W_asg, W_expr, W_ret, W_iff, W_call0, W_some, W_tp, W_tsN, W_tsC, W_nm, List.length_cons, List.length_nil, Nat.reduceAdd, Nat.reduceLT, List.getD_cons_succ, List.getD_cons_zero, List.set_cons_succ, List.set_cons_zero, List.getElem?_cons_succ, List.getElem?_cons_zero, p_add, p_sub, p_mul, p_fdiv, p_mod, p_pow, p_eq, p_ne, p_lt, p_le, p_gt, p_ge, p_neg, p_idx, p_len, pAdd_i, pSub_i, t_bl, t_int, eq_i, ne_i, Kn_nx, Kn_rt, W_nil, W_outR, W_outN, seqA_ref, seqL_ref, lstO_l, seqA_tup, seqA_lst, seqL_lst, idx_tup, idx_lst, len_tup, len_lst, p_min2, p_max2, p_toIntB, p_toIntI, p_slcTF, p_slcFT, p_isinst, W_an, W_or, W_no, W_itee, W_setI, W_mk, W_edct, List.cons_append, List.nil_append]
  rw [W_cons, W_for]
  simp only [W_var, W_cst, W_app, W_nilE, W_consE, W_evT, W_asg, W_expr, W_ret, W_iff, W_call0, W_some, W_tp, W_tsN, W_tsC, W_nm, List.length_cons, List.length_nil, Nat.reduceAdd, Nat.reduceLT, List.getD_cons_succ, List.getD_cons_zero, List.set_cons_succ, List.set_cons_zero, List.getElem?_cons_succ, List.getElem?_cons_zero, p_add, p_sub, p_mul, p_fdiv, p_mod, p_pow, p_eq, p_ne, p_lt, p_le, p_gt, p_ge, p_neg, p_idx, p_len, pAdd_i, pSub_i, t_bl, t_int, eq_i, ne_i, Kn_nx, Kn_rt, W_nil, W_outR, W_outN, seqA_ref, seqL_ref, lstO_l, seqA_tup, seqA_lst, seqL_lst, idx_tup, idx_lst, len_tup, len_lst, p_min2, p_max2, p_toIntB, p_toIntI, p_slcTF, p_slcFT, p_isinst, W_an, W_or, W_no, W_itee, W_setI, items]
  refine loopF_W (fun r ρ h => ∃ (a b : O) (ks : List Ky) (vs : List D) (dn rm : List (List Nat)) (p : Option D), ns = dn ++ rm ∧ r = rm.map .str ∧ h = [a, b, .dct ks vs] ∧ ks.length = vs.length ∧ ks.length ≤ dn.length ∧ okBs 2 vs = true ∧ (∀ s ∈ dn, ∃ i, lookK (.inr s) ks vs = some (.int i)) ∧ Dr a b (50 + 4 * dn.length) ∧
    ρ = [some (.scr (sc.map .int)), some (.ref 1), some (.lst (ns.map .str)), some (.tup (us.map .int)), some (.ref 2), p, none, none, none, none, none, none, none, none, none, none]) (fun _ _ _ _ => rfl) ?_ ?_ _ _ _ ⟨a4, b4, [], [], [], ns, none, rfl, rfl, rfl, rfl, by simp, rfl, by simp, dr4.le (by simp; omega), rfl⟩
  · rintro x xs ρ h ⟨a, b, ks, vs, dn, rm, p, hdn, hr, rfl, hkl, hkd, hok, hlk, dr, rfl⟩
    cases rm with
    | nil => simp at hr
    | cons s rm =>
      simp only [List.map_cons, List.cons.injEq] at hr
      obtain ⟨rfl, rfl⟩ := hr
      have hdl : dn.length ≤ 4 := by
        have := congrArg List.length hdn
        simp at this
        omega
      simp only [W_bind, W_var, W_cst, W_app, W_nilE, W_consE, W_evT, W_asg, W_expr, W_ret, W_iff, W_call0, W_some, W_tp, W_tsN, W_tsC, W_nm, List.length_cons, List.length_nil, Nat.reduceAdd, Nat.reduceLT, List.getD_cons_succ, List.getD_cons_zero, List.set_cons_succ, List.set_cons_zero, List.getElem?_cons_succ, List.getElem?_cons_zero, p_add, p_sub, p_mul, p_fdiv, p_mod, p_pow, p_eq, p_ne, p_lt, p_le, p_gt, p_ge, p_neg, p_idx, p_len, pAdd_i, pSub_i, t_bl, t_int, eq_i, ne_i, Kn_nx, Kn_rt, W_nil, W_outR, W_outN, seqA_ref, seqL_ref, lstO_l, seqA_tup, seqA_lst, seqL_lst, idx_tup, idx_lst, len_tup, len_lst, p_min2, p_max2, p_toIntB, p_toIntI, p_slcTF, p_slcFT, p_isinst, W_an, W_or, W_no, W_itee, W_setI]
      rw [W_cons, W_setI]
      simp only [W_var, W_cst, W_app, W_nilE, W_consE, W_evT, W_asg, W_expr, W_ret, W_iff, W_call0, W_some, W_tp, W_tsN, W_tsC, W_nm, List.length_cons, List.length_nil, Nat.reduceAdd, Nat.reduceLT, List.getD_cons_succ, List.getD_cons_zero, List.set_cons_succ, List.set_cons_zero, List.getElem?_cons_succ, List.getElem?_cons_zero, p_add, p_sub, p_mul, p_fdiv, p_mod, p_pow, p_eq, p_ne, p_lt, p_le, p_gt, p_ge, p_neg, p_idx, p_len, pAdd_i, pSub_i, t_bl, t_int, eq_i, ne_i, Kn_nx, Kn_rt, W_nil, W_outR, W_outN, seqA_ref, seqL_ref, lstO_l, seqA_tup, seqA_lst, seqL_lst, idx_tup, idx_lst, len_tup, len_lst, p_min2, p_max2, p_toIntB, p_toIntI, p_slcTF, p_slcFT, p_isinst, W_an, W_or, W_no, W_itee, W_setI]
      refine (wdraw_ok (n := 37) dr (by unfold B24; omega)).mono ?_
      rintro _ ⟨i, a', b', rfl, dr'⟩
      simp only [W_var, W_cst, W_app, W_nilE, W_consE, W_evT, W_asg, W_expr, W_ret, W_iff, W_call0, W_some, W_tp, W_tsN, W_tsC, W_nm, List.length_cons, List.length_nil, Nat.reduceAdd, Nat.reduceLT, List.getD_cons_succ, List.getD_cons_zero, List.set_cons_succ, List.set_cons_zero, List.getElem?_cons_succ, List.getElem?_cons_zero, p_add, p_sub, p_mul, p_fdiv, p_mod, p_pow, p_eq, p_ne, p_lt, p_le, p_gt, p_ge, p_neg, p_idx, p_len, pAdd_i, pSub_i, t_bl, t_int, eq_i, ne_i, Kn_nx, Kn_rt, W_nil, W_outR, W_outN, seqA_ref, seqL_ref, lstO_l, seqA_tup, seqA_lst, seqL_lst, idx_tup, idx_lst, len_tup, len_lst, p_min2, p_max2, p_toIntB, p_toIntI, p_slcTF, p_slcFT, p_isinst, W_an, W_or, W_no, W_itee, W_setI]
      rw [set_dct (ks := ks) (vs := vs) (k' := .inr s) rfl (by omega) rfl]
      simp only [W_var, W_cst, W_app, W_nilE, W_consE, W_evT, W_asg, W_expr, W_ret, W_iff, W_call0, W_some, W_tp, W_tsN, W_tsC, W_nm, List.length_cons, List.length_nil, Nat.reduceAdd, Nat.reduceLT, List.getD_cons_succ, List.getD_cons_zero, List.set_cons_succ, List.set_cons_zero, List.getElem?_cons_succ, List.getElem?_cons_zero, p_add, p_sub, p_mul, p_fdiv, p_mod, p_pow, p_eq, p_ne, p_lt, p_le, p_gt, p_ge, p_neg, p_idx, p_len, pAdd_i, pSub_i, t_bl, t_int, eq_i, ne_i, Kn_nx, Kn_rt, W_nil, W_outR, W_outN, seqA_ref, seqL_ref, lstO_l, seqA_tup, seqA_lst, seqL_lst, idx_tup, idx_lst, len_tup, len_lst, p_min2, p_max2, p_toIntB, p_toIntI, p_slcTF, p_slcFT, p_isinst, W_an, W_or, W_no, W_itee, W_setI]
      obtain ⟨p1, p2⟩ := put_len (k := .inr s) (d := .int i) ks vs hkl
      refine ⟨a', b', _, _, dn ++ [s], rm, _, by simp [hdn], rfl, rfl, p1, by simp; omega, put_ok rfl ks vs hkl hok, fun s' hs' => ?_, dr'.le (by simp only [List.length_append, List.length_cons, List.length_nil]; omega), rfl⟩
      by_cases e : s' = s
      · subst e; exact ⟨i, lookK_put ks vs hkl⟩
      · rw [lookK_ne (by simpa using e) ks vs hkl]
        rcases List.mem_append.mp hs' with hs' | hs'
        · exact hlk s' hs'
        · exact absurd (by simpa using hs') e
  rintro ρ h ⟨a5, b5, ks, vs, dn, rm, p, hdn, hr, rfl, hkl, hkd, hok, hlk, dr5, rfl⟩
  have hrm : rm = [] := by cases rm with | nil => rfl | cons _ _ => simp at hr
  subst hrm
  rw [List.append_nil] at hdn
  subst hdn
  simp only [W_var, W_cst, W_app, W_nilE, W_consE, W_evT, W_asg, W_expr, W_ret, W_iff, W_call0, W_some, W_tp, W_tsN, W_tsC, W_nm, List.length_cons, List.length_nil, Nat.reduceAdd, Nat.reduceLT, List.getD_cons_succ, List.getD_cons_zero, List.set_cons_succ, List.set_cons_zero, List.getElem?_cons_succ, List.getElem?_cons_zero, p_add, p_sub, p_mul, p_fdiv, p_mod, p_pow, p_eq, p_ne, p_lt, p_le, p_gt, p_ge, p_neg, p_idx, p_len, pAdd_i, pSub_i, t_bl, t_int, eq_i, ne_i, Kn_nx, Kn_rt, W_nil, W_outR, W_outN, seqA_ref, seqL_ref, lstO_l, seqA_tup, seqA_lst, seqL_lst, idx_tup, idx_lst, len_tup, len_lst, p_min2, p_max2, p_toIntB, p_toIntI, p_slcTF, p_slcFT, p_isinst, W_an, W_or, W_no, W_itee, W_setI]
  rw [W_cons, W_for]
  simp only [W_var, W_cst, W_app, W_nilE, W_consE, W_evT, W_asg, W_expr, W_ret, W_iff, W_call0, W_some, W_tp, W_tsN, W_tsC, W_nm, List.length_cons, List.length_nil, Nat.reduceAdd, Nat.reduceLT, List.getD_cons_succ, List.getD_cons_zero, List.set_cons_succ, List.set_cons_zero, List.getElem?_cons_succ, List.getElem?_cons_zero, p_add, p_sub, p_mul, p_fdiv, p_mod, p_pow, p_eq, p_ne, p_lt, p_le, p_gt, p_ge, p_neg, p_idx, p_len, pAdd_i, pSub_i, t_bl, t_int, eq_i, ne_i, Kn_nx, Kn_rt, W_nil, W_outR, W_outN, seqA_ref, seqL_ref, lstO_l, seqA_tup, seqA_lst, seqL_lst, idx_tup, idx_lst, len_tup, len_lst, p_min2, p_max2, p_toIntB, p_toIntI, p_slcTF, p_slcFT, p_isinst, W_an, W_or, W_no, W_itee, W_setI, rng_items (show (0 : Int) ≤ 8 by decide) (show (8 : Int) ≤ 1000000 by decide)]
  have hnl4 : ns.length ≤ 4 := by omega
  refine loopF_W (fun r ρ h => ∃ (a b : O) (p6 p7 p8 p9 p10 p11 p12 p13 p14 p15 : Option D), r.length ≤ 8 ∧ h = [a, b, .dct ks vs] ∧ Dr a b (100 + 100 * (8 - r.length)) ∧
    ρ = [some (.scr (sc.map .int)), some (.ref 1), some (.lst (ns.map .str)), some (.tup (us.map .int)), some (.ref 2), p, p6, p7, p8, p9, p10, p11, p12, p13, p14, p15]) (fun _ _ _ _ => rfl) ?_ ?_ _ _ _ ⟨a5, b5, none, none, none, none, none, none, none, none, none, none, by rw [rngD_len]; decide, rfl, dr5.le (by omega), rfl⟩
  · rintro x xs ρ h ⟨a, b, p6, p7, p8, p9, p10, p11, p12, p13, p14, p15, hxl, rfl, dr, rfl⟩
    simp only [List.length_cons] at hxl dr
    generalize hT0 : 100 + 100 * (8 - (xs.length + 1)) = T0 at dr
    have hT1 : T0 ≤ 1000 := by omega
    have hB : B24 = 16777216 := rfl
    simp only [W_bind, W_var, W_cst, W_app, W_nilE, W_consE, W_evT, W_asg, W_expr, W_ret, W_iff, W_call0, W_some, W_tp, W_tsN, W_tsC, W_nm, List.length_cons, List.length_nil, Nat.reduceAdd, Nat.reduceLT, List.getD_cons_succ, List.getD_cons_zero, List.set_cons_succ, List.set_cons_zero, List.getElem?_cons_succ, List.getElem?_cons_zero, p_add, p_sub, p_mul, p_fdiv, p_mod, p_pow, p_eq, p_ne, p_lt, p_le, p_gt, p_ge, p_neg, p_idx, p_len, pAdd_i, pSub_i, t_bl, t_int, eq_i, ne_i, Kn_nx, Kn_rt, W_nil, W_outR, W_outN, seqA_ref, seqL_ref, lstO_l, seqA_tup, seqA_lst, seqL_lst, idx_tup, idx_lst, len_tup, len_lst, p_min2, p_max2, p_toIntB, p_toIntI, p_slcTF, p_slcFT, p_isinst, W_an, W_or, W_no, W_itee, W_setI]
    rw [W_cons]
    simp only [W_var, W_cst, W_app, W_nilE, W_consE, W_evT, W_asg, W_expr, W_ret, W_iff, W_call0, W_some, W_tp, W_tsN, W_tsC, W_nm, List.length_cons, List.length_nil, Nat.reduceAdd, Nat.reduceLT, List.getD_cons_succ, List.getD_cons_zero, List.set_cons_succ, List.set_cons_zero, List.getElem?_cons_succ, List.getElem?_cons_zero, p_add, p_sub, p_mul, p_fdiv, p_mod, p_pow, p_eq, p_ne, p_lt, p_le, p_gt, p_ge, p_neg, p_idx, p_len, pAdd_i, pSub_i, t_bl, t_int, eq_i, ne_i, Kn_nx, Kn_rt, W_nil, W_outR, W_outN, seqA_ref, seqL_ref, lstO_l, seqA_tup, seqA_lst, seqL_lst, idx_tup, idx_lst, len_tup, len_lst, p_min2, p_max2, p_toIntB, p_toIntI, p_slcTF, p_slcFT, p_isinst, W_an, W_or, W_no, W_itee, W_setI, List.length_map]
    refine (expr0 (n := 35) hns (by omega) (by omega) dr (by omega)).mono ?_
    rintro _ ⟨e, a1, b1, rfl, ge, le, se, dr1⟩
    simp only [W_var, W_cst, W_app, W_nilE, W_consE, W_evT, W_asg, W_expr, W_ret, W_iff, W_call0, W_some, W_tp, W_tsN, W_tsC, W_nm, List.length_cons, List.length_nil, Nat.reduceAdd, Nat.reduceLT, List.getD_cons_succ, List.getD_cons_zero, List.set_cons_succ, List.set_cons_zero, List.getElem?_cons_succ, List.getElem?_cons_zero, p_add, p_sub, p_mul, p_fdiv, p_mod, p_pow, p_eq, p_ne, p_lt, p_le, p_gt, p_ge, p_neg, p_idx, p_len, pAdd_i, pSub_i, t_bl, t_int, eq_i, ne_i, Kn_nx, Kn_rt, W_nil, W_outR, W_outN, seqA_ref, seqL_ref, lstO_l, seqA_tup, seqA_lst, seqL_lst, idx_tup, idx_lst, len_tup, len_lst, p_min2, p_max2, p_toIntB, p_toIntI, p_slcTF, p_slcFT, p_isinst, W_an, W_or, W_no, W_itee, W_setI]
    rw [W_cons]
    simp only [W_var, W_cst, W_app, W_nilE, W_consE, W_evT, W_asg, W_expr, W_ret, W_iff, W_call0, W_some, W_tp, W_tsN, W_tsC, W_nm, List.length_cons, List.length_nil, Nat.reduceAdd, Nat.reduceLT, List.getD_cons_succ, List.getD_cons_zero, List.set_cons_succ, List.set_cons_zero, List.getElem?_cons_succ, List.getElem?_cons_zero, p_add, p_sub, p_mul, p_fdiv, p_mod, p_pow, p_eq, p_ne, p_lt, p_le, p_gt, p_ge, p_neg, p_idx, p_len, pAdd_i, pSub_i, t_bl, t_int, eq_i, ne_i, Kn_nx, Kn_rt, W_nil, W_outR, W_outN, seqA_ref, seqL_ref, lstO_l, seqA_tup, seqA_lst, seqL_lst, idx_tup, idx_lst, len_tup, len_lst, p_min2, p_max2, p_toIntB, p_toIntI, p_slcTF, p_slcFT, p_isinst, W_an, W_or, W_no, W_itee, W_setI]
    refine (next_ok (T := T) (f := 3) rfl dr1 (by omega) (by decide) (by decide)).mono ?_
    rintro _ ⟨n1, a2, b2, rfl, _, _, dr2⟩
    simp only [W_var, W_cst, W_app, W_nilE, W_consE, W_evT, W_asg, W_expr, W_ret, W_iff, W_call0, W_some, W_tp, W_tsN, W_tsC, W_nm, List.length_cons, List.length_nil, Nat.reduceAdd, Nat.reduceLT, List.getD_cons_succ, List.getD_cons_zero, List.set_cons_succ, List.set_cons_zero, List.getElem?_cons_succ, List.getElem?_cons_zero, p_add, p_sub, p_mul, p_fdiv, p_mod, p_pow, p_eq, p_ne, p_lt, p_le, p_gt, p_ge, p_neg, p_idx, p_len, pAdd_i, pSub_i, t_bl, t_int, eq_i, ne_i, Kn_nx, Kn_rt, W_nil, W_outR, W_outN, seqA_ref, seqL_ref, lstO_l, seqA_tup, seqA_lst, seqL_lst, idx_tup, idx_lst, len_tup, len_lst, p_min2, p_max2, p_toIntB, p_toIntI, p_slcTF, p_slcFT, p_isinst, W_an, W_or, W_no, W_itee, W_setI]
    refine (next_ok (T := T) (f := 3) rfl dr2 (by omega) (by decide) (by decide)).mono ?_
    rintro _ ⟨n2, a3, b3, rfl, _, _, dr3⟩
    simp only [W_var, W_cst, W_app, W_nilE, W_consE, W_evT, W_asg, W_expr, W_ret, W_iff, W_call0, W_some, W_tp, W_tsN, W_tsC, W_nm, List.length_cons, List.length_nil, Nat.reduceAdd, Nat.reduceLT, List.getD_cons_succ, List.getD_cons_zero, List.set_cons_succ, List.set_cons_zero, List.getElem?_cons_succ, List.getElem?_cons_zero, p_add, p_sub, p_mul, p_fdiv, p_mod, p_pow, p_eq, p_ne, p_lt, p_le, p_gt, p_ge, p_neg, p_idx, p_len, pAdd_i, pSub_i, t_bl, t_int, eq_i, ne_i, Kn_nx, Kn_rt, W_nil, W_outR, W_outN, seqA_ref, seqL_ref, lstO_l, seqA_tup, seqA_lst, seqL_lst, idx_tup, idx_lst, len_tup, len_lst, p_min2, p_max2, p_toIntB, p_toIntI, p_slcTF, p_slcFT, p_isinst, W_an, W_or, W_no, W_itee, W_setI]
    rw [p_lst (by simp)]
    simp only [W_var, W_cst, W_app, W_nilE, W_consE, W_evT, W_asg, W_expr, W_ret, W_iff, W_call0, W_some, W_tp, W_tsN, W_tsC, W_nm, List.length_cons, List.length_nil, Nat.reduceAdd, Nat.reduceLT, List.getD_cons_succ, List.getD_cons_zero, List.set_cons_succ, List.set_cons_zero, List.getElem?_cons_succ, List.getElem?_cons_zero, p_add, p_sub, p_mul, p_fdiv, p_mod, p_pow, p_eq, p_ne, p_lt, p_le, p_gt, p_ge, p_neg, p_idx, p_len, pAdd_i, pSub_i, t_bl, t_int, eq_i, ne_i, Kn_nx, Kn_rt, W_nil, W_outR, W_outN, seqA_ref, seqL_ref, lstO_l, seqA_tup, seqA_lst, seqL_lst, idx_tup, idx_lst, len_tup, len_lst, p_min2, p_max2, p_toIntB, p_toIntI, p_slcTF, p_slcFT, p_isinst, W_an, W_or, W_no, W_itee, W_setI]
    refine (next_ok (T := T) (f := 3) rfl dr3 (by omega) (by decide) (by decide)).mono ?_
    rintro _ ⟨n3, a4, b4, rfl, h30, h31, dr4⟩
    obtain ⟨nd, hnd, mnd⟩ := atD_int (xs := [D.int n1, .int (n2 - 999)]) (i := n3) h30 (by simpa using h31)
    obtain ⟨now, rfl⟩ : ∃ i, nd = .int i := by
      simp at mnd
      rcases mnd with rfl | rfl <;> exact ⟨_, rfl⟩
    simp only [W_var, W_cst, W_app, W_nilE, W_consE, W_evT, W_asg, W_expr, W_ret, W_iff, W_call0, W_some, W_tp, W_tsN, W_tsC, W_nm, List.length_cons, List.length_nil, Nat.reduceAdd, Nat.reduceLT, List.getD_cons_succ, List.getD_cons_zero, List.set_cons_succ, List.set_cons_zero, List.getElem?_cons_succ, List.getElem?_cons_zero, p_add, p_sub, p_mul, p_fdiv, p_mod, p_pow, p_eq, p_ne, p_lt, p_le, p_gt, p_ge, p_neg, p_idx, p_len, pAdd_i, pSub_i, t_bl, t_int, eq_i, ne_i, Kn_nx, Kn_rt, W_nil, W_outR, W_outN, seqA_ref, seqL_ref, lstO_l, seqA_tup, seqA_lst, seqL_lst, idx_tup, idx_lst, len_tup, len_lst, p_min2, p_max2, p_toIntB, p_toIntI, p_slcTF, p_slcFT, p_isinst, W_an, W_or, W_no, W_itee, W_setI, hnd]
    let w : Wo := ⟨ks, vs, us, now⟩
    have hw : ∀ e : Ex, e.Gen ns us.length → e.Ok w := fun e g => Ex.ok_of (w := w) (ns := ns) (fun s hs => ⟨hns s hs, hlk s hs⟩) e g
    have oe := hw e ge
    have wk : ∀ (hp : Hs) (q : Ex), hp[2]? = some (.dct ks vs) → q.Ok w → q.ht ≤ 5 → callF T 39 1 [q.d, .ref 2, .tup (us.map .int), .int now] hp = some (.int (q.wv w), hp) := fun hp q h1 h2 h3 => worth_ok w h1 q h2 39 (by omega)
    rw [W_cons]
    simp only [W_var, W_cst, W_app, W_nilE, W_consE, W_evT, W_asg, W_expr, W_ret, W_iff, W_call0, W_some, W_tp, W_tsN, W_tsC, W_nm, List.length_cons, List.length_nil, Nat.reduceAdd, Nat.reduceLT, List.getD_cons_succ, List.getD_cons_zero, List.set_cons_succ, List.set_cons_zero, List.getElem?_cons_succ, List.getElem?_cons_zero, p_add, p_sub, p_mul, p_fdiv, p_mod, p_pow, p_eq, p_ne, p_lt, p_le, p_gt, p_ge, p_neg, p_idx, p_len, pAdd_i, pSub_i, t_bl, t_int, eq_i, ne_i, Kn_nx, Kn_rt, W_nil, W_outR, W_outN, seqA_ref, seqL_ref, lstO_l, seqA_tup, seqA_lst, seqL_lst, idx_tup, idx_lst, len_tup, len_lst, p_min2, p_max2, p_toIntB, p_toIntI, p_slcTF, p_slcFT, p_isinst, W_an, W_or, W_no, W_itee, W_setI, W_callB]
    have o4 := dr4.okO (show 2 ≤ 3 by decide)
    have oes : okB 3 e.d = true := okB_mono (by decide) _ (tp_okB _ (e.tp oe))
    have od : okO 3 (.dct ks vs) = true := okBs_mono (show 2 ≤ 3 by decide) _ hok
    refine ⟨by simp [okBs, okB, o4.1, o4.2, oes, okBs_ints, od], ?_⟩
    simp only [List.take]
    refine (up_ok (n := 28) w (a := a4) (b := b4) oe (by omega) (by omega)).mono ?_
    rintro _ ⟨o, rfl⟩
    refine ⟨by simp [o4.1, o4.2, od, w], ?_⟩
    rw [fz_ok _ rfl, W_some]
    simp only [W_var, W_cst, W_app, W_nilE, W_consE, W_evT, W_asg, W_expr, W_ret, W_iff, W_call0, W_some, W_tp, W_tsN, W_tsC, W_nm, List.length_cons, List.length_nil, Nat.reduceAdd, Nat.reduceLT, List.getD_cons_succ, List.getD_cons_zero, List.set_cons_succ, List.set_cons_zero, List.getElem?_cons_succ, List.getElem?_cons_zero, p_add, p_sub, p_mul, p_fdiv, p_mod, p_pow, p_eq, p_ne, p_lt, p_le, p_gt, p_ge, p_neg, p_idx, p_len, pAdd_i, pSub_i, t_bl, t_int, eq_i, ne_i, Kn_nx, Kn_rt, W_nil, W_outR, W_outN, seqA_ref, seqL_ref, lstO_l, seqA_tup, seqA_lst, seqL_lst, idx_tup, idx_lst, len_tup, len_lst, p_min2, p_max2, p_toIntB, p_toIntI, p_slcTF, p_slcFT, p_isinst, W_an, W_or, W_no, W_itee, W_setI, List.take, List.drop, List.append_nil, List.cons_append, List.nil_append]
    rw [W_cons]
    simp only [W_var, W_cst, W_app, W_nilE, W_consE, W_evT, W_asg, W_expr, W_ret, W_iff, W_call0, W_some, W_tp, W_tsN, W_tsC, W_nm, List.length_cons, List.length_nil, Nat.reduceAdd, Nat.reduceLT, List.getD_cons_succ, List.getD_cons_zero, List.set_cons_succ, List.set_cons_zero, List.getElem?_cons_succ, List.getElem?_cons_zero, p_add, p_sub, p_mul, p_fdiv, p_mod, p_pow, p_eq, p_ne, p_lt, p_le, p_gt, p_ge, p_neg, p_idx, p_len, pAdd_i, pSub_i, t_bl, t_int, eq_i, ne_i, Kn_nx, Kn_rt, W_nil, W_outR, W_outN, seqA_ref, seqL_ref, lstO_l, seqA_tup, seqA_lst, seqL_lst, idx_tup, idx_lst, len_tup, len_lst, p_min2, p_max2, p_toIntB, p_toIntI, p_slcTF, p_slcFT, p_isinst, W_an, W_or, W_no, W_itee, W_setI]
    rw [wk _ e rfl oe (by omega)]
    simp only [W_var, W_cst, W_app, W_nilE, W_consE, W_evT, W_asg, W_expr, W_ret, W_iff, W_call0, W_some, W_tp, W_tsN, W_tsC, W_nm, List.length_cons, List.length_nil, Nat.reduceAdd, Nat.reduceLT, List.getD_cons_succ, List.getD_cons_zero, List.set_cons_succ, List.set_cons_zero, List.getElem?_cons_succ, List.getElem?_cons_zero, p_add, p_sub, p_mul, p_fdiv, p_mod, p_pow, p_eq, p_ne, p_lt, p_le, p_gt, p_ge, p_neg, p_idx, p_len, pAdd_i, pSub_i, t_bl, t_int, eq_i, ne_i, Kn_nx, Kn_rt, W_nil, W_outR, W_outN, seqA_ref, seqL_ref, lstO_l, seqA_tup, seqA_lst, seqL_lst, idx_tup, idx_lst, len_tup, len_lst, p_min2, p_max2, p_toIntB, p_toIntI, p_slcTF, p_slcFT, p_isinst, W_an, W_or, W_no, W_itee, W_setI, alike_i (n := 38), Bool.not_true, Bool.false_eq_true, if_false]
    rw [W_cons]
    simp only [W_var, W_cst, W_app, W_nilE, W_consE, W_evT, W_asg, W_expr, W_ret, W_iff, W_call0, W_some, W_tp, W_tsN, W_tsC, W_nm, List.length_cons, List.length_nil, Nat.reduceAdd, Nat.reduceLT, List.getD_cons_succ, List.getD_cons_zero, List.set_cons_succ, List.set_cons_zero, List.getElem?_cons_succ, List.getElem?_cons_zero, p_add, p_sub, p_mul, p_fdiv, p_mod, p_pow, p_eq, p_ne, p_lt, p_le, p_gt, p_ge, p_neg, p_idx, p_len, pAdd_i, pSub_i, t_bl, t_int, eq_i, ne_i, Kn_nx, Kn_rt, W_nil, W_outR, W_outN, seqA_ref, seqL_ref, lstO_l, seqA_tup, seqA_lst, seqL_lst, idx_tup, idx_lst, len_tup, len_lst, p_min2, p_max2, p_toIntB, p_toIntI, p_slcTF, p_slcFT, p_isinst, W_an, W_or, W_no, W_itee, W_setI, W_comp, rng_items (show (0 : Int) ≤ 2 by decide) (show (2 : Int) ≤ 1000000 by decide)]
    rw [show rngD 0 (2 : Int).toNat = [.int 0, .int 1] from rfl]
    simp only [loopC, chkS, if_true, W_bind, wipeE, W_nm, List.length_set, W_var, W_cst, W_app, W_nilE, W_consE, W_evT, W_asg, W_expr, W_ret, W_iff, W_call0, W_some, W_tp, W_tsN, W_tsC, W_nm, List.length_cons, List.length_nil, Nat.reduceAdd, Nat.reduceLT, List.getD_cons_succ, List.getD_cons_zero, List.set_cons_succ, List.set_cons_zero, List.getElem?_cons_succ, List.getElem?_cons_zero, p_add, p_sub, p_mul, p_fdiv, p_mod, p_pow, p_eq, p_ne, p_lt, p_le, p_gt, p_ge, p_neg, p_idx, p_len, pAdd_i, pSub_i, t_bl, t_int, eq_i, ne_i, Kn_nx, Kn_rt, W_nil, W_outR, W_outN, seqA_ref, seqL_ref, lstO_l, seqA_tup, seqA_lst, seqL_lst, idx_tup, idx_lst, len_tup, len_lst, p_min2, p_max2, p_toIntB, p_toIntI, p_slcTF, p_slcFT, p_isinst, W_an, W_or, W_no, W_itee, W_setI, W_nilC, W_map, List.length_map]
    refine (expr1 (n := 36) hns (by omega) (by omega) dr4 (by omega)).mono ?_
    rintro _ ⟨x, a5, b5, rfl, gx, lx, dr5⟩
    simp only [W_var, W_cst, W_app, W_nilE, W_consE, W_evT, W_asg, W_expr, W_ret, W_iff, W_call0, W_some, W_tp, W_tsN, W_tsC, W_nm, List.length_cons, List.length_nil, Nat.reduceAdd, Nat.reduceLT, List.getD_cons_succ, List.getD_cons_zero, List.set_cons_succ, List.set_cons_zero, List.getElem?_cons_succ, List.getElem?_cons_zero, p_add, p_sub, p_mul, p_fdiv, p_mod, p_pow, p_eq, p_ne, p_lt, p_le, p_gt, p_ge, p_neg, p_idx, p_len, pAdd_i, pSub_i, t_bl, t_int, eq_i, ne_i, Kn_nx, Kn_rt, W_nil, W_outR, W_outN, seqA_ref, seqL_ref, lstO_l, seqA_tup, seqA_lst, seqL_lst, idx_tup, idx_lst, len_tup, len_lst, p_min2, p_max2, p_toIntB, p_toIntI, p_slcTF, p_slcFT, p_isinst, W_an, W_or, W_no, W_itee, W_setI]
    refine (expr1 (n := 36) hns (by omega) (by omega) dr5 (by omega)).mono ?_
    rintro _ ⟨y, a6, b6, rfl, gy, ly, dr6⟩
    have ox := hw x gx
    have oy := hw y gy
    simp only [W_var, W_cst, W_app, W_nilE, W_consE, W_evT, W_asg, W_expr, W_ret, W_iff, W_call0, W_some, W_tp, W_tsN, W_tsC, W_nm, List.length_cons, List.length_nil, Nat.reduceAdd, Nat.reduceLT, List.getD_cons_succ, List.getD_cons_zero, List.set_cons_succ, List.set_cons_zero, List.getElem?_cons_succ, List.getElem?_cons_zero, p_add, p_sub, p_mul, p_fdiv, p_mod, p_pow, p_eq, p_ne, p_lt, p_le, p_gt, p_ge, p_neg, p_idx, p_len, pAdd_i, pSub_i, t_bl, t_int, eq_i, ne_i, Kn_nx, Kn_rt, W_nil, W_outR, W_outN, seqA_ref, seqL_ref, lstO_l, seqA_tup, seqA_lst, seqL_lst, idx_tup, idx_lst, len_tup, len_lst, p_min2, p_max2, p_toIntB, p_toIntI, p_slcTF, p_slcFT, p_isinst, W_an, W_or, W_no, W_itee, W_setI]
    refine ⟨rfl, ?_⟩
    rw [W_cons]
    simp only [W_var, W_cst, W_app, W_nilE, W_consE, W_evT, W_asg, W_expr, W_ret, W_iff, W_call0, W_some, W_tp, W_tsN, W_tsC, W_nm, List.length_cons, List.length_nil, Nat.reduceAdd, Nat.reduceLT, List.getD_cons_succ, List.getD_cons_zero, List.set_cons_succ, List.set_cons_zero, List.getElem?_cons_succ, List.getElem?_cons_zero, p_add, p_sub, p_mul, p_fdiv, p_mod, p_pow, p_eq, p_ne, p_lt, p_le, p_gt, p_ge, p_neg, p_idx, p_len, pAdd_i, pSub_i, t_bl, t_int, eq_i, ne_i, Kn_nx, Kn_rt, W_nil, W_outR, W_outN, seqA_ref, seqL_ref, lstO_l, seqA_tup, seqA_lst, seqL_lst, idx_tup, idx_lst, len_tup, len_lst, p_min2, p_max2, p_toIntB, p_toIntI, p_slcTF, p_slcFT, p_isinst, W_an, W_or, W_no, W_itee, W_setI, W_comp, items, loopC, chkS, if_true, W_bind, wipeE, W_nm, List.length_set, W_nilC, W_map]
    rw [wk _ x rfl ox (by omega)]
    simp only [W_var, W_cst, W_app, W_nilE, W_consE, W_evT, W_asg, W_expr, W_ret, W_iff, W_call0, W_some, W_tp, W_tsN, W_tsC, W_nm, List.length_cons, List.length_nil, Nat.reduceAdd, Nat.reduceLT, List.getD_cons_succ, List.getD_cons_zero, List.set_cons_succ, List.set_cons_zero, List.getElem?_cons_succ, List.getElem?_cons_zero, p_add, p_sub, p_mul, p_fdiv, p_mod, p_pow, p_eq, p_ne, p_lt, p_le, p_gt, p_ge, p_neg, p_idx, p_len, pAdd_i, pSub_i, t_bl, t_int, eq_i, ne_i, Kn_nx, Kn_rt, W_nil, W_outR, W_outN, seqA_ref, seqL_ref, lstO_l, seqA_tup, seqA_lst, seqL_lst, idx_tup, idx_lst, len_tup, len_lst, p_min2, p_max2, p_toIntB, p_toIntI, p_slcTF, p_slcFT, p_isinst, W_an, W_or, W_no, W_itee, W_setI]
    rw [wk _ y rfl oy (by omega)]
    simp only [W_var, W_cst, W_app, W_nilE, W_consE, W_evT, W_asg, W_expr, W_ret, W_iff, W_call0, W_some, W_tp, W_tsN, W_tsC, W_nm, List.length_cons, List.length_nil, Nat.reduceAdd, Nat.reduceLT, List.getD_cons_succ, List.getD_cons_zero, List.set_cons_succ, List.set_cons_zero, List.getElem?_cons_succ, List.getElem?_cons_zero, p_add, p_sub, p_mul, p_fdiv, p_mod, p_pow, p_eq, p_ne, p_lt, p_le, p_gt, p_ge, p_neg, p_idx, p_len, pAdd_i, pSub_i, t_bl, t_int, eq_i, ne_i, Kn_nx, Kn_rt, W_nil, W_outR, W_outN, seqA_ref, seqL_ref, lstO_l, seqA_tup, seqA_lst, seqL_lst, idx_tup, idx_lst, len_tup, len_lst, p_min2, p_max2, p_toIntB, p_toIntI, p_slcTF, p_slcFT, p_isinst, W_an, W_or, W_no, W_itee, W_setI]
    refine ⟨rfl, ?_⟩
    rw [W_cons, W_for]
    have hmn : ∀ hp : Hs, pIntL hp minI (.lst [.int (x.wv w), .int (y.wv w)]) = some (.int (if y.wv w < x.wv w then y.wv w else x.wv w)) := fun hp => rfl
    have hmx : ∀ hp : Hs, pIntL hp maxI (.lst [.int (x.wv w), .int (y.wv w)]) = some (.int (if x.wv w < y.wv w then y.wv w else x.wv w)) := fun hp => rfl
    simp only [W_var, W_cst, W_app, W_nilE, W_consE, W_evT, W_asg, W_expr, W_ret, W_iff, W_call0, W_some, W_tp, W_tsN, W_tsC, W_nm, List.length_cons, List.length_nil, Nat.reduceAdd, Nat.reduceLT, List.getD_cons_succ, List.getD_cons_zero, List.set_cons_succ, List.set_cons_zero, List.getElem?_cons_succ, List.getElem?_cons_zero, p_add, p_sub, p_mul, p_fdiv, p_mod, p_pow, p_eq, p_ne, p_lt, p_le, p_gt, p_ge, p_neg, p_idx, p_len, pAdd_i, pSub_i, t_bl, t_int, eq_i, ne_i, Kn_nx, Kn_rt, W_nil, W_outR, W_outN, seqA_ref, seqL_ref, lstO_l, seqA_tup, seqA_lst, seqL_lst, idx_tup, idx_lst, len_tup, len_lst, p_min2, p_max2, p_toIntB, p_toIntI, p_slcTF, p_slcFT, p_isinst, W_an, W_or, W_no, W_itee, W_setI, p_minL, p_maxL, hmn, hmx]
    rw [p_tup (by simp)]
    simp only [W_var, W_cst, W_app, W_nilE, W_consE, W_evT, W_asg, W_expr, W_ret, W_iff, W_call0, W_some, W_tp, W_tsN, W_tsC, W_nm, List.length_cons, List.length_nil, Nat.reduceAdd, Nat.reduceLT, List.getD_cons_succ, List.getD_cons_zero, List.set_cons_succ, List.set_cons_zero, List.getElem?_cons_succ, List.getElem?_cons_zero, p_add, p_sub, p_mul, p_fdiv, p_mod, p_pow, p_eq, p_ne, p_lt, p_le, p_gt, p_ge, p_neg, p_idx, p_len, pAdd_i, pSub_i, t_bl, t_int, eq_i, ne_i, Kn_nx, Kn_rt, W_nil, W_outR, W_outN, seqA_ref, seqL_ref, lstO_l, seqA_tup, seqA_lst, seqL_lst, idx_tup, idx_lst, len_tup, len_lst, p_min2, p_max2, p_toIntB, p_toIntI, p_slcTF, p_slcFT, p_isinst, W_an, W_or, W_no, W_itee, W_setI]
    rw [p_tup (by simp)]
    simp only [W_var, W_cst, W_app, W_nilE, W_consE, W_evT, W_asg, W_expr, W_ret, W_iff, W_call0, W_some, W_tp, W_tsN, W_tsC, W_nm, List.length_cons, List.length_nil, Nat.reduceAdd, Nat.reduceLT, List.getD_cons_succ, List.getD_cons_zero, List.set_cons_succ, List.set_cons_zero, List.getElem?_cons_succ, List.getElem?_cons_zero, p_add, p_sub, p_mul, p_fdiv, p_mod, p_pow, p_eq, p_ne, p_lt, p_le, p_gt, p_ge, p_neg, p_idx, p_len, pAdd_i, pSub_i, t_bl, t_int, eq_i, ne_i, Kn_nx, Kn_rt, W_nil, W_outR, W_outN, seqA_ref, seqL_ref, lstO_l, seqA_tup, seqA_lst, seqL_lst, idx_tup, idx_lst, len_tup, len_lst, p_min2, p_max2, p_toIntB, p_toIntI, p_slcTF, p_slcFT, p_isinst, W_an, W_or, W_no, W_itee, W_setI]
    rw [p_lst (by simp)]
    simp only [W_var, W_cst, W_app, W_nilE, W_consE, W_evT, W_asg, W_expr, W_ret, W_iff, W_call0, W_some, W_tp, W_tsN, W_tsC, W_nm, List.length_cons, List.length_nil, Nat.reduceAdd, Nat.reduceLT, List.getD_cons_succ, List.getD_cons_zero, List.set_cons_succ, List.set_cons_zero, List.getElem?_cons_succ, List.getElem?_cons_zero, p_add, p_sub, p_mul, p_fdiv, p_mod, p_pow, p_eq, p_ne, p_lt, p_le, p_gt, p_ge, p_neg, p_idx, p_len, pAdd_i, pSub_i, t_bl, t_int, eq_i, ne_i, Kn_nx, Kn_rt, W_nil, W_outR, W_outN, seqA_ref, seqL_ref, lstO_l, seqA_tup, seqA_lst, seqL_lst, idx_tup, idx_lst, len_tup, len_lst, p_min2, p_max2, p_toIntB, p_toIntI, p_slcTF, p_slcFT, p_isinst, W_an, W_or, W_no, W_itee, W_setI, items, loopF, chkS, if_true, W_bind]
    rw [W_cons]
    simp only [W_var, W_cst, W_app, W_nilE, W_consE, W_evT, W_asg, W_expr, W_ret, W_iff, W_call0, W_some, W_tp, W_tsN, W_tsC, W_nm, List.length_cons, List.length_nil, Nat.reduceAdd, Nat.reduceLT, List.getD_cons_succ, List.getD_cons_zero, List.set_cons_succ, List.set_cons_zero, List.getElem?_cons_succ, List.getElem?_cons_zero, p_add, p_sub, p_mul, p_fdiv, p_mod, p_pow, p_eq, p_ne, p_lt, p_le, p_gt, p_ge, p_neg, p_idx, p_len, pAdd_i, pSub_i, t_bl, t_int, eq_i, ne_i, Kn_nx, Kn_rt, W_nil, W_outR, W_outN, seqA_ref, seqL_ref, lstO_l, seqA_tup, seqA_lst, seqL_lst, idx_tup, idx_lst, len_tup, len_lst, p_min2, p_max2, p_toIntB, p_toIntI, p_slcTF, p_slcFT, p_isinst, W_an, W_or, W_no, W_itee, W_setI, at0, at1]
    rw [p_tup (by simp)]
    simp only [W_var, W_cst, W_app, W_nilE, W_consE, W_evT, W_asg, W_expr, W_ret, W_iff, W_call0, W_some, W_tp, W_tsN, W_tsC, W_nm, List.length_cons, List.length_nil, Nat.reduceAdd, Nat.reduceLT, List.getD_cons_succ, List.getD_cons_zero, List.set_cons_succ, List.set_cons_zero, List.getElem?_cons_succ, List.getElem?_cons_zero, p_add, p_sub, p_mul, p_fdiv, p_mod, p_pow, p_eq, p_ne, p_lt, p_le, p_gt, p_ge, p_neg, p_idx, p_len, pAdd_i, pSub_i, t_bl, t_int, eq_i, ne_i, Kn_nx, Kn_rt, W_nil, W_outR, W_outN, seqA_ref, seqL_ref, lstO_l, seqA_tup, seqA_lst, seqL_lst, idx_tup, idx_lst, len_tup, len_lst, p_min2, p_max2, p_toIntB, p_toIntI, p_slcTF, p_slcFT, p_isinst, W_an, W_or, W_no, W_itee, W_setI]
    have k1 := fun hp h => wk hp (.op 2 x y) h ⟨by decide, ox, oy⟩ (by simp [Ex.ht]; omega)
    have k2 := fun hp h => wk hp (.op 3 x y) h ⟨by decide, ox, oy⟩ (by simp [Ex.ht]; omega)
    have k3 := fun hp h => wk hp (.op 1 x x) h ⟨by decide, ox, ox⟩ (by simp [Ex.ht]; omega)
    simp only [Ex.d, Ex.wv, opV, opS] at k1 k2 k3
    rw [k1 _ rfl]
    simp only [W_var, W_cst, W_app, W_nilE, W_consE, W_evT, W_asg, W_expr, W_ret, W_iff, W_call0, W_some, W_tp, W_tsN, W_tsC, W_nm, List.length_cons, List.length_nil, Nat.reduceAdd, Nat.reduceLT, List.getD_cons_succ, List.getD_cons_zero, List.set_cons_succ, List.set_cons_zero, List.getElem?_cons_succ, List.getElem?_cons_zero, p_add, p_sub, p_mul, p_fdiv, p_mod, p_pow, p_eq, p_ne, p_lt, p_le, p_gt, p_ge, p_neg, p_idx, p_len, pAdd_i, pSub_i, t_bl, t_int, eq_i, ne_i, Kn_nx, Kn_rt, W_nil, W_outR, W_outN, seqA_ref, seqL_ref, lstO_l, seqA_tup, seqA_lst, seqL_lst, idx_tup, idx_lst, len_tup, len_lst, p_min2, p_max2, p_toIntB, p_toIntI, p_slcTF, p_slcFT, p_isinst, W_an, W_or, W_no, W_itee, W_setI, alike_i (n := 38), Bool.not_true, Bool.false_eq_true, if_false, W_bind]
    rw [W_cons]
    simp only [W_var, W_cst, W_app, W_nilE, W_consE, W_evT, W_asg, W_expr, W_ret, W_iff, W_call0, W_some, W_tp, W_tsN, W_tsC, W_nm, List.length_cons, List.length_nil, Nat.reduceAdd, Nat.reduceLT, List.getD_cons_succ, List.getD_cons_zero, List.set_cons_succ, List.set_cons_zero, List.getElem?_cons_succ, List.getElem?_cons_zero, p_add, p_sub, p_mul, p_fdiv, p_mod, p_pow, p_eq, p_ne, p_lt, p_le, p_gt, p_ge, p_neg, p_idx, p_len, pAdd_i, pSub_i, t_bl, t_int, eq_i, ne_i, Kn_nx, Kn_rt, W_nil, W_outR, W_outN, seqA_ref, seqL_ref, lstO_l, seqA_tup, seqA_lst, seqL_lst, idx_tup, idx_lst, len_tup, len_lst, p_min2, p_max2, p_toIntB, p_toIntI, p_slcTF, p_slcFT, p_isinst, W_an, W_or, W_no, W_itee, W_setI, at0, at1]
    rw [p_tup (by simp)]
    simp only [W_var, W_cst, W_app, W_nilE, W_consE, W_evT, W_asg, W_expr, W_ret, W_iff, W_call0, W_some, W_tp, W_tsN, W_tsC, W_nm, List.length_cons, List.length_nil, Nat.reduceAdd, Nat.reduceLT, List.getD_cons_succ, List.getD_cons_zero, List.set_cons_succ, List.set_cons_zero, List.getElem?_cons_succ, List.getElem?_cons_zero, p_add, p_sub, p_mul, p_fdiv, p_mod, p_pow, p_eq, p_ne, p_lt, p_le, p_gt, p_ge, p_neg, p_idx, p_len, pAdd_i, pSub_i, t_bl, t_int, eq_i, ne_i, Kn_nx, Kn_rt, W_nil, W_outR, W_outN, seqA_ref, seqL_ref, lstO_l, seqA_tup, seqA_lst, seqL_lst, idx_tup, idx_lst, len_tup, len_lst, p_min2, p_max2, p_toIntB, p_toIntI, p_slcTF, p_slcFT, p_isinst, W_an, W_or, W_no, W_itee, W_setI]
    rw [k2 _ rfl]
    have hgt : (if y.wv w > x.wv w then y.wv w else x.wv w) = (if x.wv w < y.wv w then y.wv w else x.wv w) := rfl
    simp only [W_var, W_cst, W_app, W_nilE, W_consE, W_evT, W_asg, W_expr, W_ret, W_iff, W_call0, W_some, W_tp, W_tsN, W_tsC, W_nm, List.length_cons, List.length_nil, Nat.reduceAdd, Nat.reduceLT, List.getD_cons_succ, List.getD_cons_zero, List.set_cons_succ, List.set_cons_zero, List.getElem?_cons_succ, List.getElem?_cons_zero, p_add, p_sub, p_mul, p_fdiv, p_mod, p_pow, p_eq, p_ne, p_lt, p_le, p_gt, p_ge, p_neg, p_idx, p_len, pAdd_i, pSub_i, t_bl, t_int, eq_i, ne_i, Kn_nx, Kn_rt, W_nil, W_outR, W_outN, seqA_ref, seqL_ref, lstO_l, seqA_tup, seqA_lst, seqL_lst, idx_tup, idx_lst, len_tup, len_lst, p_min2, p_max2, p_toIntB, p_toIntI, p_slcTF, p_slcFT, p_isinst, W_an, W_or, W_no, W_itee, W_setI, hgt, alike_i (n := 38), Bool.not_true, Bool.false_eq_true, if_false, W_bind]
    rw [W_cons]
    simp only [W_var, W_cst, W_app, W_nilE, W_consE, W_evT, W_asg, W_expr, W_ret, W_iff, W_call0, W_some, W_tp, W_tsN, W_tsC, W_nm, List.length_cons, List.length_nil, Nat.reduceAdd, Nat.reduceLT, List.getD_cons_succ, List.getD_cons_zero, List.set_cons_succ, List.set_cons_zero, List.getElem?_cons_succ, List.getElem?_cons_zero, p_add, p_sub, p_mul, p_fdiv, p_mod, p_pow, p_eq, p_ne, p_lt, p_le, p_gt, p_ge, p_neg, p_idx, p_len, pAdd_i, pSub_i, t_bl, t_int, eq_i, ne_i, Kn_nx, Kn_rt, W_nil, W_outR, W_outN, seqA_ref, seqL_ref, lstO_l, seqA_tup, seqA_lst, seqL_lst, idx_tup, idx_lst, len_tup, len_lst, p_min2, p_max2, p_toIntB, p_toIntI, p_slcTF, p_slcFT, p_isinst, W_an, W_or, W_no, W_itee, W_setI, at0, at1]
    rw [p_tup (by simp)]
    simp only [W_var, W_cst, W_app, W_nilE, W_consE, W_evT, W_asg, W_expr, W_ret, W_iff, W_call0, W_some, W_tp, W_tsN, W_tsC, W_nm, List.length_cons, List.length_nil, Nat.reduceAdd, Nat.reduceLT, List.getD_cons_succ, List.getD_cons_zero, List.set_cons_succ, List.set_cons_zero, List.getElem?_cons_succ, List.getElem?_cons_zero, p_add, p_sub, p_mul, p_fdiv, p_mod, p_pow, p_eq, p_ne, p_lt, p_le, p_gt, p_ge, p_neg, p_idx, p_len, pAdd_i, pSub_i, t_bl, t_int, eq_i, ne_i, Kn_nx, Kn_rt, W_nil, W_outR, W_outN, seqA_ref, seqL_ref, lstO_l, seqA_tup, seqA_lst, seqL_lst, idx_tup, idx_lst, len_tup, len_lst, p_min2, p_max2, p_toIntB, p_toIntI, p_slcTF, p_slcFT, p_isinst, W_an, W_or, W_no, W_itee, W_setI]
    rw [k3 _ rfl, Int.sub_self, show held 0 = 0 from rfl]
    simp only [W_var, W_cst, W_app, W_nilE, W_consE, W_evT, W_asg, W_expr, W_ret, W_iff, W_call0, W_some, W_tp, W_tsN, W_tsC, W_nm, List.length_cons, List.length_nil, Nat.reduceAdd, Nat.reduceLT, List.getD_cons_succ, List.getD_cons_zero, List.set_cons_succ, List.set_cons_zero, List.getElem?_cons_succ, List.getElem?_cons_zero, p_add, p_sub, p_mul, p_fdiv, p_mod, p_pow, p_eq, p_ne, p_lt, p_le, p_gt, p_ge, p_neg, p_idx, p_len, pAdd_i, pSub_i, t_bl, t_int, eq_i, ne_i, Kn_nx, Kn_rt, W_nil, W_outR, W_outN, seqA_ref, seqL_ref, lstO_l, seqA_tup, seqA_lst, seqL_lst, idx_tup, idx_lst, len_tup, len_lst, p_min2, p_max2, p_toIntB, p_toIntI, p_slcTF, p_slcFT, p_isinst, W_an, W_or, W_no, W_itee, W_setI, alike_i (n := 38), Bool.not_true, Bool.false_eq_true, if_false]
    exact ⟨a6, b6, _, _, _, _, _, _, _, _, _, _, by omega, rfl, dr6.le (by omega), rfl⟩
  · rintro ρ h ⟨a, b, p6, p7, p8, p9, p10, p11, p12, p13, p14, p15, hxl, rfl, dr, rfl⟩
    rw [Kn_nx, W_cons]
    simp only [W_var, W_cst, W_app, W_nilE, W_consE, W_evT, W_asg, W_expr, W_ret, W_iff, W_call0, W_some, W_tp, W_tsN, W_tsC, W_nm, List.length_cons, List.length_nil, Nat.reduceAdd, Nat.reduceLT, List.getD_cons_succ, List.getD_cons_zero, List.set_cons_succ, List.set_cons_zero, List.getElem?_cons_succ, List.getElem?_cons_zero, p_add, p_sub, p_mul, p_fdiv, p_mod, p_pow, p_eq, p_ne, p_lt, p_le, p_gt, p_ge, p_neg, p_idx, p_len, pAdd_i, pSub_i, t_bl, t_int, eq_i, ne_i, Kn_nx, Kn_rt, W_nil, W_outR, W_outN, seqA_ref, seqL_ref, lstO_l, seqA_tup, seqA_lst, seqL_lst, idx_tup, idx_lst, len_tup, len_lst, p_min2, p_max2, p_toIntB, p_toIntI, p_slcTF, p_slcFT, p_isinst, W_an, W_or, W_no, W_itee, W_setI]
end LW
end Dp

set_option Elab.async false
set_option linter.all false
set_option autoImplicit false
set_option maxRecDepth 100000
set_option maxHeartbeats 4000000
namespace Dp
namespace LW
open PySem L2 PySem.Spec PyProof.Rows
abbrev pr : Program := PySem.Challenge.pw_harmbound_k01_worths_reckoned
theorem chk_ok : (ds.all fun d => d.chk pr (gt ds cs)) = true := by decide +kernel
theorem bk0 : Fd.BOk pr d0 := fun _ _ _ _ _ _ us hl => match us, hl with | [_], _ => rfl
theorem bk1 : Fd.BOk pr d1 := fun _ _ _ _ _ _ us hl => match us, hl with | [_, _, _, _], _ => rfl
theorem bk2 : Fd.BOk pr d2 := fun _ _ _ _ _ _ us hl => match us, hl with | [_, _], _ => rfl
theorem bk3 : Fd.BOk pr d3 := fun _ _ _ _ _ _ us hl => match us, hl with | [_, _], _ => rfl
theorem bk4 : Fd.BOk pr d4 := fun _ _ _ _ _ _ us hl => match us, hl with | [_, _], _ => rfl
theorem bk5 : Fd.BOk pr d5 := fun _ _ _ _ _ _ us hl => match us, hl with | [_, _], _ => rfl
theorem bk6 : Fd.BOk pr d6 := fun _ _ _ _ _ _ us hl => match us, hl with | [_, _, _, _], _ => rfl
theorem bk7 : Fd.BOk pr d7 := fun _ _ _ _ _ _ us hl => match us, hl with | [_], _ => rfl
theorem bk8 : Fd.BOk pr d8 := fun _ _ _ _ _ _ us hl => match us, hl with | [_, _, _, _], _ => rfl
theorem bk9 : Fd.BOk pr d9 := fun _ _ _ _ _ _ us hl => match us, hl with | [_, _], _ => rfl
theorem bk10 : Fd.BOk pr d10 := fun _ _ _ _ _ _ us hl => match us, hl with | [_, _, _, _, _], _ => rfl
theorem bk11 : Fd.BOk pr d11 := fun _ _ _ _ _ _ us hl => match us, hl with | [_], _ => rfl
theorem bks : AllF (Fd.BOk pr) ds := ⟨bk0, bk1, bk2, bk3, bk4, bk5, bk6, bk7, bk8, bk9, bk10, bk11, trivial⟩
def fn : List He.DefD := ds.map (Fd.dd pr)
def fa : List He.Fa := faOf ds cs
abbrev R : PySem.W.OpenRow := PySem.W.OpenLaw.row PySem.Challenge.rw_harmbound_k01_worths_reckoned
abbrev hk : PySem.W.Hook := He.hookD 4 fa fn
def ob (s : PySem.W.SharedT) : He.AlD := He.obsDG 4 fa fn (HandSHeadRun.getT s)
theorem ob_eq (s : PySem.W.SharedT) : ob s = hk.obs s.abs := He.obsDG_eq (HandSHeadRun.getT_eq s)
theorem run (w : World) : HandSHeadRun.RunEq R (PySem.W.view R.prog [14]) hk ob 800 ["HELD", "held", "worth", "_law_draws", "_law_next", "_law_alike", "_law_words", "_law_expression", "_law_worth", "_law_leaves_up", "_law_found", "_law_step"] w := by
  intro os
  kernel_rfl
end LW
end Dp
open PySem PySem.W PySem.Calls PyProof.Rows
theorem PySem.Challenge.cw_harmbound_k01_worths_reckoned_holds : PySem.Challenge.rw_harmbound_k01_worths_reckoned.Holds := by
  w_on; o_law
  refine HandSHeadRun.head_any (r := OpenLaw.row PySem.Challenge.rw_harmbound_k01_worths_reckoned) (q := view (OpenLaw.row PySem.Challenge.rw_harmbound_k01_worths_reckoned).prog [14]) (H := Dp.LW.hk) (ob := Dp.LW.ob) (M := 800) (loose := ["HELD", "held", "worth", "_law_draws", "_law_next", "_law_alike", "_law_words", "_law_expression", "_law_worth", "_law_leaves_up", "_law_found", "_law_step"]) (d := HandSHeadRun.topDef (OpenLaw.row PySem.Challenge.rw_harmbound_k01_worths_reckoned).prog 14) (kwd := []) Dp.LW.ob_eq
    (by kernel_rfl) (fun s => by kernel_rfl) Dp.LW.run (by kernel_rfl) (by kernel_rfl) (by kernel_rfl) (by rfl) (by first | assumption | decide +kernel) (by decide +kernel) ⟨rfl, rfl, rfl, rfl, rfl, by decide +kernel⟩ ?hw ?hc
  case hw => w_witness2
  case hc =>
    refine L2.walk_ofE (l := PySem.Challenge.rw_harmbound_k01_worths_reckoned) (n := 63) (k := 40) (x := "_law_script") (CX := L2.CX0) rfl (by decide) (by kernel_rfl) ⟨rfl, by decide, by decide⟩ ?F (fun _ _ _ _ z => z)
    intro w mg fa h Y G hmg0
    obtain ⟨K, KX, c⟩ := Y
    have hmg : mg ("law" : PySem.Str) = some (.ref fa) := by
      have e : (HandSHeadRun.topDef (OpenLaw.row PySem.Challenge.rw_harmbound_k01_worths_reckoned).prog 14).name = ("law" : PySem.Str) := by kernel_rfl
      rw [← e]
      exact hmg0
    exact Dp.law_fn (p := Dp.LW.pr) (ds := Dp.LW.ds) (cs := Dp.LW.cs) (w := w) (k := 40) (f := 11) (d := Dp.LW.d11) KX G c Dp.LW.chk_ok Dp.LW.bks rfl (by decide +kernel) rfl hmg Dp.LW.law_ok

