import PyProof.Rows.All
import Wide.All
import OpenK.AllK
import Wide.FinOn
import HandS.ForMost
import HandS.Wide
import HandS.Deep
import HandS.TupMul
import HandS.IsInst
import HandS.Style
import HandS.Replace
import HandS.StrMore
import KE.GoesMore
import KE.DatumOrd
import HandS.ExcCtx
import HandS.HotCalls
import HandS.ExcField
import HandS.WordsExc
import KE.KExcIs
import HandS.ExcInit
import PySem.Challenge.RW_ringlands_k49_whole_turns_of_tables
set_option Elab.async false
set_option linter.all false
set_option maxRecDepth 100000
set_option maxHeartbeats 4000000

/-! DLCore: Python's plain data, the slots of a frame, and the meaning of the language's pieces over them, as predicate transformers. No model here. -/
namespace DL

/-- plain data; a text is the list of its code points -/
inductive D where
  | none
  | bool (b : Bool)
  | int (i : Int)
  | str (s : List Nat)
  | list (ds : List D)
  | tup (ds : List D)

mutual
/-- == -/
def eqD : D → D → Bool
  | .none, .none => true
  | .bool a, .bool b => a == b
  | .bool a, .int j => (if a then (1 : Int) else 0) == j
  | .int i, .bool b => i == (if b then (1 : Int) else 0)
  | .int i, .int j => i == j
  | .str x, .str y => x == y
  | .list xs, .list ys => eqDs xs ys
  | .tup xs, .tup ys => eqDs xs ys
  | .none, .bool _ | .none, .int _ | .none, .str _ | .none, .list _ | .none, .tup _ => false
  | .bool _, .none | .bool _, .str _ | .bool _, .list _ | .bool _, .tup _ => false
  | .int _, .none | .int _, .str _ | .int _, .list _ | .int _, .tup _ => false
  | .str _, .none | .str _, .bool _ | .str _, .int _ | .str _, .list _ | .str _, .tup _ => false
  | .list _, .none | .list _, .bool _ | .list _, .int _ | .list _, .str _ | .list _, .tup _ => false
  | .tup _, .none | .tup _, .bool _ | .tup _, .int _ | .tup _, .str _ | .tup _, .list _ => false
def eqDs : List D → List D → Bool
  | [], [] => true
  | x :: xs, y :: ys => eqD x y && eqDs xs ys
  | [], _ :: _ => false
  | _ :: _, [] => false
end
/-- data of a depth at most n, texts of code points -/
def okD : Nat → D → Bool
  | _, .none => true
  | _, .bool _ => true
  | _, .int _ => true
  | _, .str s => s.all fun c => decide (c < 1114112)
  | 0, .list _ => false
  | 0, .tup _ => false
  | n + 1, .list ds => ds.all (okD n)
  | n + 1, .tup ds => ds.all (okD n)

/-- the longest list or text -/
abbrev LINE : Nat := 16777216

/-- an error: its class's name, its field -/
structure Exn where
  cls : String
  arg : Option (String × D)
inductive Slot where
  | gone
  /-- a value that nobody changes any more -/
  | val (d : D)
  /-- a list that only this name holds -/
  | own (ds : List D)
  /-- the law's feed -/
  | feed
  /-- the error that an except suite holds -/
  | exn (e : Exn)
/-- the state of the feed -/
structure W where
  sc : List Int
  ix : Int
  big : Int
  seed : Int
structure S where
  v : List Slot
  w : W
/-- what an expression gives: a value; a new list; the list of a name, read only -/
inductive R where
  | val (d : D)
  | own (ds : List D)
  | bor (ds : List D)
def R.d : R → D
  | .val d => d
  | .own ds => .list ds
  | .bor ds => .list ds

def get : List Slot → Nat → Slot
  | [], _ => .gone
  | x :: _, 0 => x
  | _ :: r, n + 1 => get r n
def put : List Slot → Nat → Slot → List Slot
  | [], _, _ => []
  | _ :: r, 0, y => y :: r
  | x :: r, n + 1, y => x :: put r n y
def puts : List Slot → List Nat → Slot → List Slot
  | v, [], _ => v
  | v, i :: r, y => put (puts v r y) i y

abbrev M := S → (R → S → Prop) → Prop
abbrev T := S → (Bool → S → Prop) → Prop
abbrev Ms := S → (List D → S → Prop) → Prop
structure Outs where
  nx : S → Prop
  rt : R → W → Prop
  bk : S → Prop := fun _ => False
  ct : S → Prop := fun _ => False
abbrev MS := S → Outs → Prop
/-- a def's meaning: its arguments, the feed ahead, what is wanted -/
abbrev Sem := List D → W → (R → W → Prop) → Prop

/-! ### expressions -/
def mC (d : D) (s : S) (Q : R → S → Prop) : Prop := Q (.val d) s
/-- a name, read only -/
def mVar (i : Nat) (s : S) (Q : R → S → Prop) : Prop := match get s.v i with
  | .val d => Q (.val d) s
  | .own ds => Q (.bor ds) s
  | _ => False
/-- a name whose value goes elsewhere: nobody changes it from here on -/
def mFzV (i : Nat) (s : S) (Q : R → S → Prop) : Prop := match get s.v i with
  | .val d => Q (.val d) s
  | .own ds => Q (.val (.list ds)) { s with v := put s.v i (.val (.list ds)) }
  | _ => False
/-- feed[0], feed[1], feed[2], feed[3] -/
def mFeed (i k : Nat) (s : S) (Q : R → S → Prop) : Prop := match get s.v i with
  | .feed => (match k with
    | 0 => Q (.val (.list (s.w.sc.map D.int))) s
    | 1 => Q (.val (.int s.w.ix)) s
    | 2 => Q (.val (.int s.w.big)) s
    | 3 => Q (.val (.int s.w.seed)) s
    | _ => False)
  | _ => False
/-- a value for good -/
def frz (r : R) (k : D → Prop) : Prop := match r with
  | .val d => k d
  | .own ds => k (.list ds)
  | .bor _ => False
def msN (s : S) (Q : List D → S → Prop) : Prop := Q [] s
def msC (a : M) (r : Ms) (s : S) (Q : List D → S → Prop) : Prop := a s fun x s1 => frz x fun d => r s1 fun ds s2 => Q (d :: ds) s2
def mBin (f : D → D → (R → Prop) → Prop) (a b : M) (s : S) (Q : R → S → Prop) : Prop := a s fun x s1 => b s1 fun y s2 => f x.d y.d fun r => Q r s2
def mUn (f : D → (R → Prop) → Prop) (a : M) (s : S) (Q : R → S → Prop) : Prop := a s fun x s1 => f x.d fun r => Q r s1

def dAdd : D → D → (R → Prop) → Prop
  | .int i, .int j, k => k (.val (.int (i + j)))
  | .str a, .str b, k => a.length + b.length ≤ LINE ∧ k (.val (.str (a ++ b)))
  | .list a, .list b, k => a.length + b.length ≤ LINE ∧ k (.own (a ++ b))
  | _, _, _ => False
def dSub : D → D → (R → Prop) → Prop
  | .int i, .int j, k => k (.val (.int (i - j)))
  | _, _, _ => False
def dMul : D → D → (R → Prop) → Prop
  | .int i, .int j, k => i.natAbs.log2 + j.natAbs.log2 < 1000000 ∧ k (.val (.int (i * j)))
  | .list a, .int n, k => (-(2 ^ 63) ≤ n ∧ n < 2 ^ 63) ∧ a.length * n.toNat ≤ LINE ∧ k (.own (List.replicate n.toNat a).flatten)
  | .str a, .int n, k => (-(2 ^ 63) ≤ n ∧ n < 2 ^ 63) ∧ a.length * n.toNat ≤ LINE ∧ k (.val (.str (List.replicate n.toNat a).flatten))
  | _, _, _ => False
def dDiv : D → D → (R → Prop) → Prop
  | .int i, .int j, k => 0 < j ∧ j.natAbs.log2 < 9000 ∧ k (.val (.int (i / j)))
  | _, _, _ => False
def dMod : D → D → (R → Prop) → Prop
  | .int i, .int j, k => 0 < j ∧ k (.val (.int (i % j)))
  | _, _, _ => False
def dPow : D → D → (R → Prop) → Prop
  | .int i, .int j, k => (0 ≤ j ∧ j ≤ 1000000 ∧ i.natAbs < 2 ^ 64) ∧ k (.val (.int (i ^ j.toNat)))
  | _, _, _ => False
def dNeg : D → (R → Prop) → Prop
  | .int i, k => k (.val (.int (-i)))
  | _, _ => False
def dCmp (p : Int → Int → Bool) : D → D → (R → Prop) → Prop
  | .int i, .int j, k => k (.val (.bool (p i j)))
  | _, _, _ => False
def dLt : D → D → (R → Prop) → Prop
  | .int i, .int j, k => k (.val (.bool (decide (i < j))))
  | .str a, .str b, k => k (.val (.bool (decide (a < b))))
  | _, _, _ => False
abbrev dLe := dCmp fun i j => decide (i ≤ j)
abbrev dGt := dCmp fun i j => decide (j < i)
abbrev dGe := dCmp fun i j => decide (j ≤ i)
def dEq (x y : D) (k : R → Prop) : Prop := okD 8 x = true ∧ okD 8 y = true ∧ k (.val (.bool (eqD x y)))
def dNe (x y : D) (k : R → Prop) : Prop := okD 8 x = true ∧ okD 8 y = true ∧ k (.val (.bool (!eqD x y)))
def flatD : D → Bool
  | .list _ => false
  | .tup _ => false
  | _ => true
/-- x in ys -/
def dIn (neg : Bool) (x y : D) (k : R → Prop) : Prop := match y with
  | .list ds => okD 8 x = true ∧ ds.all (okD 8) = true ∧ k (.val (.bool (xor neg (ds.any fun d => eqD d x))))
  | .tup ds => flatD x = true ∧ ds.all flatD = true ∧ k (.val (.bool (xor neg (ds.any fun d => eqD d x))))
  | .str s => (match x with
    | .str [c] => k (.val (.bool (xor neg (s.any fun d => d == c))))
    | _ => False)
  | _ => False
def isN : D → Bool
  | .none => true
  | _ => false
def dIsN (d : D) (k : R → Prop) : Prop := k (.val (.bool (isN d)))
def dIsNotN (d : D) (k : R → Prop) : Prop := k (.val (.bool (!isN d)))
/-- truth -/
def truth : D → Bool
  | .none => false
  | .bool b => b
  | .int i => i != 0
  | .str s => !s.isEmpty
  | .list ds => !ds.isEmpty
  | .tup ds => !ds.isEmpty
def okT : D → Prop
  | .str x => x.length ≤ LINE
  | _ => True
def tV (m : M) (s : S) (Q : Bool → S → Prop) : Prop := m s fun r s1 => okT r.d ∧ Q (truth r.d) s1
/-- a value that is True or False -/
def tB (m : M) (s : S) (Q : Bool → S → Prop) : Prop := m s fun r s1 => match r.d with
  | .bool b => Q b s1
  | _ => False
def tAnd (a b : T) (s : S) (Q : Bool → S → Prop) : Prop := a s fun c s1 => if c = true then b s1 Q else Q false s1
def tOr (a b : T) (s : S) (Q : Bool → S → Prop) : Prop := a s fun c s1 => if c = true then Q true s1 else b s1 Q
def tNot (a : T) (s : S) (Q : Bool → S → Prop) : Prop := a s fun c s1 => Q (!c) s1
def mAnd (a b : M) (s : S) (Q : R → S → Prop) : Prop := a s fun r s1 => match r.d with
  | .bool c => if c = true then b s1 Q else Q (.val (.bool false)) s1
  | _ => False
def mOr (a b : M) (s : S) (Q : R → S → Prop) : Prop := a s fun r s1 => match r.d with
  | .bool c => if c = true then Q (.val (.bool true)) s1 else b s1 Q
  | _ => False
def mNot (a : M) (s : S) (Q : R → S → Prop) : Prop := a s fun r s1 => match r.d with
  | .bool c => Q (.val (.bool (!c))) s1
  | _ => False
def mIf (c : T) (a b : M) (s : S) (Q : R → S → Prop) : Prop := c s fun t s1 => if t = true then a s1 Q else b s1 Q
/-- a < b < c -/
def mChain (f g : D → D → (R → Prop) → Prop) (a b c : M) (s : S) (Q : R → S → Prop) : Prop := a s fun x s1 => b s1 fun y s2 => f x.d y.d fun r => match r.d with
  | .bool t => if t = true then c s2 fun z s3 => g y.d z.d fun q => Q q s3 else Q (.val (.bool false)) s2
  | _ => False
def mList (es : Ms) (s : S) (Q : R → S → Prop) : Prop := es s fun ds s1 => ds.length ≤ LINE ∧ Q (.own ds) s1
def mTup (es : Ms) (s : S) (Q : R → S → Prop) : Prop := es s fun ds s1 => ds.length ≤ LINE ∧ Q (.val (.tup ds)) s1
/-- the place that an index of any sign means -/
def ixN (n : Nat) (i : Int) : Option Nat := if 0 ≤ i then (if i < n then some i.toNat else none) else if -(n : Int) ≤ i then some (i + n).toNat else none
def atI {α : Type} (xs : List α) (i : Int) : Option α := (ixN xs.length i).bind fun j => xs[j]?
def dIx : D → D → (R → Prop) → Prop
  | .list ds, .int i, k => ∃ d, atI ds i = some d ∧ k (.val d)
  | .tup ds, .int i, k => ∃ d, atI ds i = some d ∧ k (.val d)
  | .str s, .int i, k => s.length ≤ LINE ∧ ∃ c, atI s i = some c ∧ k (.val (.str [c]))
  | _, _, _ => False
/-- a bound of a slice -/
def sIx (n d : Nat) : Option Int → Nat
  | none => d
  | some v => if v < 0 then (v + (n : Int)).toNat else min v.toNat n
def cut {α : Type} (xs : List α) (lo hi : Option Int) : List α := (xs.drop (sIx xs.length 0 lo)).take (sIx xs.length xs.length hi - sIx xs.length 0 lo)
abbrev MO := S → (Option Int → S → Prop) → Prop
def oN (s : S) (Q : Option Int → S → Prop) : Prop := Q none s
def oS (m : M) (s : S) (Q : Option Int → S → Prop) : Prop := m s fun r s1 => match r.d with
  | .int i => Q (some i) s1
  | _ => False
def mSl (a : M) (lo hi : MO) (s : S) (Q : R → S → Prop) : Prop := a s fun r s1 => lo s1 fun l s2 => hi s2 fun h s3 => match r.d with
  | .list ds => Q (.own (cut ds l h)) s3
  | .str x => x.length ≤ LINE ∧ Q (.val (.str (cut x l h))) s3
  | _ => False
/-- a[::-1] -/
def mRev (a : M) (s : S) (Q : R → S → Prop) : Prop := a s fun r s1 => match r.d with
  | .list ds => Q (.own ds.reverse) s1
  | .str x => x.length ≤ LINE ∧ Q (.val (.str x.reverse)) s1
  | _ => False
def mCall (g : Sem) (es : Ms) (s : S) (Q : R → S → Prop) : Prop := es s fun ds s1 => g ds s1.w fun r _ => Q r s1
/-- a call with the feed ahead of its arguments -/
def mCallF (g : Sem) (i : Nat) (es : Ms) (s : S) (Q : R → S → Prop) : Prop := match get s.v i with
  | .feed => es s fun ds s1 => g ds s1.w fun r w => Q r { s1 with w := w }
  | _ => False

/-! ### built-in functions -/
def dLen : D → (R → Prop) → Prop
  | .list ds, k => k (.val (.int ds.length))
  | .tup ds, k => k (.val (.int ds.length))
  | .str s, k => s.length ≤ LINE ∧ k (.val (.int s.length))
  | _, _ => False
def dAbs : D → (R → Prop) → Prop
  | .int i, k => k (.val (.int (if i < 0 then -i else i)))
  | _, _ => False
def dInt : D → (R → Prop) → Prop
  | .int i, k => k (.val (.int i))
  | .bool b, k => k (.val (.int (if b then 1 else 0)))
  | _, _ => False
def dMin2 : D → D → (R → Prop) → Prop
  | .int i, .int j, k => k (.val (.int (if j < i then j else i)))
  | _, _, _ => False
def dMax2 : D → D → (R → Prop) → Prop
  | .int i, .int j, k => k (.val (.int (if j > i then j else i)))
  | _, _, _ => False
/-- list(x) -/
def dList : D → (R → Prop) → Prop
  | .list ds, k => k (.own ds)
  | .tup ds, k => k (.own ds)
  | _, _ => False
def dTup : D → (R → Prop) → Prop
  | .list ds, k => k (.val (.tup ds))
  | .tup ds, k => k (.val (.tup ds))
  | _, _ => False
/-- all numbers -/
def ints? : List D → Option (List Int)
  | [] => some []
  | .int i :: r => (ints? r).map (i :: ·)
  | _ :: _ => none
def dSum : D → (R → Prop) → Prop
  | .list ds, k => ∃ ns : List Int, ds = ns.map D.int ∧ k (.val (.int ns.sum))
  | _, _ => False
/-- min(xs), max(xs) of whole numbers -/
def dMin : D → (R → Prop) → Prop
  | .list ds, k => ∃ ns : List Int, ds = ns.map D.int ∧ 0 < ns.length ∧ ∀ m, m ∈ ns → (∀ y, y ∈ ns → m ≤ y) → k (.val (.int m))
  | _, _ => False
def dMax : D → (R → Prop) → Prop
  | .list ds, k => ∃ ns : List Int, ds = ns.map D.int ∧ 0 < ns.length ∧ ∀ m, m ∈ ns → (∀ y, y ∈ ns → y ≤ m) → k (.val (.int m))
  | _, _ => False
mutual
/-- the two are of one make, so that < tells -/
def likeD : D → D → Bool
  | .int _, .int _ => true
  | .str _, .str _ => true
  | .list xs, .list ys => likeDs xs ys
  | .tup xs, .tup ys => likeDs xs ys
  | _, _ => false
def likeDs : List D → List D → Bool
  | x :: xs, y :: ys => likeD x y && likeDs xs ys
  | _, _ => true
end
mutual
/-- < of two of one make -/
def ltD : D → D → Bool
  | .int i, .int j => decide (i < j)
  | .str a, .str b => decide (a < b)
  | .list xs, .list ys => ltDs xs ys
  | .tup xs, .tup ys => ltDs xs ys
  | _, _ => false
def ltDs : List D → List D → Bool
  | _, [] => false
  | [], _ :: _ => true
  | x :: xs, y :: ys => if eqD x y = true then ltDs xs ys else ltD x y
end
/-- min(xs), max(xs) of data of one make -/
def dMinG : D → (R → Prop) → Prop
  | .list ds, k => (∀ x, x ∈ ds → ∀ y, y ∈ ds → likeD x y = true) ∧ ds.all (okD 8) = true ∧ 0 < ds.length ∧ ∀ m, m ∈ ds → (∀ y, y ∈ ds → ltD y m = false) → k (.val m)
  | _, _ => False
def dMaxG : D → (R → Prop) → Prop
  | .list ds, k => (∀ x, x ∈ ds → ∀ y, y ∈ ds → likeD x y = true) ∧ ds.all (okD 8) = true ∧ 0 < ds.length ∧ ∀ m, m ∈ ds → (∀ y, y ∈ ds → ltD m y = false) → k (.val m)
  | _, _ => False
/-- all([..]) of truth values -/
def dAll : D → (R → Prop) → Prop
  | .list ds, k => ∃ bs : List Bool, ds = bs.map D.bool ∧ k (.val (.bool (bs.all id)))
  | _, _ => False
/-- the first place of c -/
def fstIx (c : Nat) : List Nat → Nat
  | [] => 0
  | x :: r => if x = c then 0 else fstIx c r + 1
/-- s.split(c) -/
def splitC (c : Nat) : List Nat → List (List Nat)
  | [] => [[]]
  | x :: r => if x = c then [] :: splitC c r else match splitC c r with
    | [] => [[x]]
    | p :: ps => (x :: p) :: ps
def joinS (sep : List Nat) : List (List Nat) → List Nat
  | [] => []
  | [p] => p
  | p :: q :: r => p ++ (sep ++ joinS sep (q :: r))
def dIndexS : D → D → (R → Prop) → Prop
  | .str s, .str [c], k => c ∈ s ∧ k (.val (.int (fstIx c s)))
  | _, _, _ => False
/-- s.index(c, i) -/
def dIndexFrom : D → D → D → (R → Prop) → Prop
  | .str s, .str [c], .int i, k => 0 ≤ i ∧ ∃ j : Nat, i ≤ j ∧ s[j]? = some c ∧ (∀ m : Nat, i ≤ m → m < j → s[m]? ≠ some c) ∧ k (.val (.int (j : Nat)))
  | _, _, _, _ => False
def dIndexL : D → D → (R → Prop) → Prop
  | .list ds, x, k => okD 8 x = true ∧ okD 9 (.list ds) = true ∧ ∃ j z, ds[j]? = some z ∧ eqD z x = true ∧ (∀ i y, i < j → ds[i]? = some y → eqD y x = false) ∧ k (.val (.int (j : Nat)))
  | _, _, _ => False
def dCount : D → D → (R → Prop) → Prop
  | .str s, .str [c], k => s.length + 2 ≤ LINE ∧ c < 256 ∧ k (.val (.int ((splitC c s).length - 1 : Nat)))
  | _, _, _ => False
def dSplit : D → D → (R → Prop) → Prop
  | .str s, .str [c], k => s.length + 2 ≤ LINE ∧ c < 256 ∧ k (.own ((splitC c s).map D.str))
  | _, _, _ => False
def dJoin : D → D → (R → Prop) → Prop
  | .str a, .list ds, k => ∃ ls : List (List Nat), ds = ls.map D.str ∧ (ls.map List.length).sum + ls.length * a.length ≤ LINE ∧ k (.val (.str (joinS a ls)))
  | _, _, _ => False
/-- a[:k:-1] of a list -/
def mRevTo (a : M) (k : Nat) (s : S) (Q : R → S → Prop) : Prop := a s fun r s1 => match r.d with
  | .list ds => k < ds.length ∧ Q (.own (ds.drop (k + 1)).reverse) s1
  | _ => False
/-- methods of texts, of lists -/
def isS (d : D) (k : Prop) : Prop := match d with
  | .str _ => k
  | _ => False
def isL (d : D) (k : Prop) : Prop := match d with
  | .list _ => k
  | _ => False
def mMS (f : D → D → (R → Prop) → Prop) (a b : M) (s : S) (Q : R → S → Prop) : Prop := a s fun x s1 => isS x.d (b s1 fun y s2 => f x.d y.d fun r => Q r s2)
def mML (f : D → D → (R → Prop) → Prop) (a b : M) (s : S) (Q : R → S → Prop) : Prop := a s fun x s1 => isL x.d (b s1 fun y s2 => f x.d y.d fun r => Q r s2)
/-- a text's method of two arguments -/
def mMS2 (f : D → D → D → (R → Prop) → Prop) (a b e : M) (s : S) (Q : R → S → Prop) : Prop := a s fun x s1 => isS x.d (b s1 fun y s2 => e s2 fun z s3 => f x.d y.d z.d fun r => Q r s3)
inductive Ty where
  | int | bool | str | list | tuple
def isTy : D → Ty → Bool
  | .int _, .int => true
  | .bool _, .int => true
  | .bool _, .bool => true
  | .str _, .str => true
  | .list _, .list => true
  | .tup _, .tuple => true
  | _, _ => false
def mIsI (a : M) (t : Ty) (s : S) (Q : R → S → Prop) : Prop := a s fun r s1 => Q (.val (.bool (isTy r.d t))) s1

/-! ### targets -/
/-- what a target does with a value for good -/
abbrev Gt := D → S → (S → Prop) → Prop
def gV (i : Nat) (d : D) (s : S) (Q : S → Prop) : Prop := Q { s with v := put s.v i (.val d) }
def gSkip (_ : D) (s : S) (Q : S → Prop) : Prop := Q s
abbrev Gts := List D → S → (S → Prop) → Prop
def gsN (ds : List D) (s : S) (Q : S → Prop) : Prop := match ds with
  | [] => Q s
  | _ => False
def gsC (g : Gt) (r : Gts) (ds : List D) (s : S) (Q : S → Prop) : Prop := match ds with
  | d :: ds => g d s fun s1 => r ds s1 Q
  | [] => False
def gT (n : Nat) (r : Gts) (d : D) (s : S) (Q : S → Prop) : Prop := match d with
  | .tup ds => ds.length = n ∧ r ds s Q
  | _ => False

/-! ### what is walked -/
abbrev Src := S → (List D → S → Prop) → Prop
/-- a list, a tuple, a text -/
def srcV (m : M) (s : S) (Q : List D → S → Prop) : Prop := m s fun r s1 => match r with
  | .val (.list ds) => Q ds s1
  | .val (.tup ds) => Q ds s1
  | .val (.str x) => Q (x.map fun c => .str [c]) s1
  | .own ds => Q ds s1
  | _ => False
def ran (lo : Int) (n : Nat) : List D := (List.range n).map fun (k : Nat) => D.int (lo + k)
def srcR1 (m : M) (s : S) (Q : List D → S → Prop) : Prop := m s fun r s1 => match r.d with
  | .int j => (-(2 ^ 62) ≤ j ∧ j < 2 ^ 62) ∧ Q (ran 0 j.toNat) s1
  | _ => False
def srcR2 (a b : M) (s : S) (Q : List D → S → Prop) : Prop := a s fun x s1 => b s1 fun y s2 => match x.d, y.d with
  | .int i, .int j => (-(2 ^ 62) ≤ i ∧ i < 2 ^ 62 ∧ -(2 ^ 62) ≤ j ∧ j < 2 ^ 62) ∧ Q (ran i (j - i).toNat) s2
  | _, _ => False
def enumFrom (i : Nat) : List D → List D
  | [] => []
  | d :: r => .tup [.int i, d] :: enumFrom (i + 1) r
def srcEnum (m : M) (s : S) (Q : List D → S → Prop) : Prop := m s fun r s1 => match r with
  | .val (.list ds) => Q (enumFrom 0 ds) s1
  | .val (.str x) => Q (enumFrom 0 (x.map fun c => .str [c])) s1
  | .own ds => Q (enumFrom 0 ds) s1
  | _ => False
def srcRev (m : M) (s : S) (Q : List D → S → Prop) : Prop := m s fun r s1 => match r with
  | .val (.list ds) => Q ds.reverse s1
  | .own ds => Q ds.reverse s1
  | _ => False

/-! ### comprehensions -/
/-- the slots of the comprehension's own names are empty ahead of each turn -/
def compL (own : List Nat) (g : Gt) (t : T) (e : M) : List D → List D → S → (List D → S → Prop) → Prop
  | [], acc, s, Q => Q acc s
  | d :: r, acc, s, Q => g d { s with v := puts s.v own .gone } fun s1 => t s1 fun c s2 =>
      if c = true then e s2 fun x s3 => frz x fun y => acc.length < LINE ∧ compL own g t e r (acc ++ [y]) s3 Q
      else compL own g t e r acc s2 Q
def tYes (s : S) (Q : Bool → S → Prop) : Prop := Q true s
/-- behind it the own names' slots are as they were (but for an own list, which is lost) -/
def back (v0 : List Slot) : List Slot → List Nat → List Slot
  | v, [] => v
  | v, i :: r => put (back v0 v r) i (match get v0 i with
    | .val d => .val d
    | _ => .gone)
def mComp (own : List Nat) (src : Src) (g : Gt) (t : T) (e : M) (s : S) (Q : R → S → Prop) : Prop := src s fun ds s1 => compL own g t e ds [] s1 fun acc s2 => Q (.own acc) { s2 with v := back s1.v s2.v own }

/-! ### statements -/
def sNil (s : S) (O : Outs) : Prop := O.nx s
def sSeq (a b : MS) (s : S) (O : Outs) : Prop := a s { O with nx := fun s1 => b s1 O }
def sSet (i : Nat) (m : M) (s : S) (O : Outs) : Prop := m s fun r s1 => match r with
  | .val d => O.nx { s1 with v := put s1.v i (.val d) }
  | .own ds => O.nx { s1 with v := put s1.v i (.own ds) }
  | .bor _ => False
/-- a target of another form -/
def sAsg (g : Gt) (m : M) (s : S) (O : Outs) : Prop := m s fun r s1 => frz r fun d => g d s1 O.nx
/-- i, j = a, b -/
def sPar (i j : Nat) (a b : M) (s : S) (O : Outs) : Prop := a s fun x s1 => frz x fun d => b s1 fun y s2 => frz y fun e => O.nx { s2 with v := put (put s2.v i (.val d)) j (.val e) }
def retK (r : R) (rt : R → W → Prop) (w : W) : Prop := match r with
  | .val d => rt (.val d) w
  | .own ds => rt (.own ds) w
  | .bor ds => rt (.own ds) w
def sRet (m : M) (s : S) (O : Outs) : Prop := m s fun r s1 => retK r O.rt s1.w
def sRetN (s : S) (O : Outs) : Prop := O.rt (.val .none) s.w
def sIf (c : T) (a b : MS) (s : S) (O : Outs) : Prop := c s fun t s1 => if t = true then a s1 O else b s1 O
def sPass (s : S) (O : Outs) : Prop := O.nx s
def sBrk (s : S) (O : Outs) : Prop := O.bk s
def sCont (s : S) (O : Outs) : Prop := O.ct s
def sNever (_ : S) (_ : Outs) : Prop := False
def sExpr (m : M) (s : S) (O : Outs) : Prop := m s fun _ s1 => O.nx s1
def sAug (i : Nat) (f : Int → Int → Int) (m : M) (s : S) (O : Outs) : Prop := match get s.v i with
  | .val (.int x) => m s fun y s1 => (match y.d with
    | .int y => O.nx { s1 with v := put s1.v i (.val (.int (f x y))) }
    | _ => False)
  | _ => False
/-- slot i holds an own list -/
def ownAt (s : S) (i : Nat) (k : List D → Prop) : Prop := match get s.v i with
  | .own ds => k ds
  | _ => False
/-- slot i holds the feed -/
def feedAt (s : S) (i : Nat) (k : Prop) : Prop := match get s.v i with
  | .feed => k
  | _ => False
def intD (d : D) (k : Int → Prop) : Prop := match d with
  | .int n => k n
  | _ => False
/-- xs.append(e), xs an own list at slot i -/
def sApp (i : Nat) (m : M) (s : S) (O : Outs) : Prop := ownAt s i fun _ => m s fun r s1 => frz r fun d => ownAt s1 i fun ds => ds.length < LINE ∧ O.nx { s1 with v := put s1.v i (.own (ds ++ [d])) }
/-- xs.extend(e) -/
def sExt (i : Nat) (m : M) (s : S) (O : Outs) : Prop := ownAt s i fun _ => m s fun r s1 => ownAt s1 i fun ds => match r.d with
  | .list es => ds.length + es.length ≤ LINE ∧ O.nx { s1 with v := put s1.v i (.own (ds ++ es)) }
  | _ => False
/-- xs[k] = e -/
def sSetI (i : Nat) (k m : M) (s : S) (O : Outs) : Prop := m s fun r s1 => frz r fun d => ownAt s1 i fun _ => k s1 fun x s2 => ownAt s2 i fun ds => intD x.d fun n => ∃ j, ixN ds.length n = some j ∧ O.nx { s2 with v := put s2.v i (.own (ds.set j d)) }
/-- xs[k] op= e -/
def sAugI (i : Nat) (f : Int → Int → Int) (k m : M) (s : S) (O : Outs) : Prop := ownAt s i fun _ => k s fun x s1 => ownAt s1 i fun ds => intD x.d fun n => ∃ j z, ixN ds.length n = some j ∧ ds[j]? = some (.int z) ∧
  m s1 fun y s2 => ownAt s2 i fun ds2 => intD y.d fun y => ds2.length = ds.length ∧ O.nx { s2 with v := put s2.v i (.own (ds2.set j (.int (f z y)))) }
/-- feed[1] += e, feed[k] = e -/
def W.set (w : W) (k : Nat) (n : Int) : W := match k with
  | 1 => { w with ix := n }
  | 2 => { w with big := n }
  | _ => { w with seed := n }
def W.at (w : W) (k : Nat) : Int := match k with
  | 1 => w.ix
  | 2 => w.big
  | _ => w.seed
def sFeed (i k : Nat) (m : M) (s : S) (O : Outs) : Prop := (1 ≤ k ∧ k ≤ 3) ∧ m s fun r s1 => feedAt s1 i (intD r.d fun n => O.nx { s1 with w := s1.w.set k n })
/-- feed[k] += n, n a constant -/
def sFeedA (i k : Nat) (n : Int) (s : S) (O : Outs) : Prop := (1 ≤ k ∧ k ≤ 3) ∧ feedAt s i (O.nx { s with w := s.w.set k (s.w.at k + n) })
/-- xs.pop(k) -/
def popD (i : Nat) (k : M) (s : S) (Q : D → S → Prop) : Prop := ownAt s i fun _ => k s fun x s1 => ownAt s1 i fun ds => intD x.d fun n => ∃ j d, ixN ds.length n = some j ∧ ds[j]? = some d ∧ (-(2 ^ 63) ≤ n ∧ n < 2 ^ 63) ∧ Q d { s1 with v := put s1.v i (.own (ds.eraseIdx j)) }
def sPop (i : Nat) (k : M) (s : S) (O : Outs) : Prop := popD i k s fun _ s1 => O.nx s1
/-- x = x + xs.pop(k), x a text -/
def sAddPop (j i : Nat) (k : M) (s : S) (O : Outs) : Prop := match get s.v j with
  | .val (.str a) => popD i k s fun d s1 => (match d with
    | .str b => a.length + b.length ≤ LINE ∧ O.nx { s1 with v := put s1.v j (.val (.str (a ++ b))) }
    | _ => False)
  | _ => False
def forL (g : Gt) (body : MS) : List D → S → Outs → Prop
  | [], s, O => O.nx s
  | d :: r, s, O => g d s fun s1 => body s1 { nx := fun s2 => forL g body r s2 O, ct := fun s2 => forL g body r s2 O, bk := O.nx, rt := O.rt }
def sFor (src : Src) (g : Gt) (body : MS) (s : S) (O : Outs) : Prop := src s fun ds s1 => forL g body ds s1 O
def sWhile (c : T) (body : MS) (s : S) (O : Outs) : Prop := ∃ I : Nat → S → Prop, (∃ m, I m s) ∧ ∀ m s, I m s → c s fun t s1 =>
  if t = true then body s1 { nx := fun s2 => ∃ m', m' < m ∧ I m' s2, ct := fun s2 => ∃ m', m' < m ∧ I m' s2, bk := O.nx, rt := O.rt } else O.nx s1

/-- a def's body as a meaning: n names in all -/
def run (n : Nat) (body : MS) (ds : List D) (w : W) (Q : R → W → Prop) : Prop := body ⟨ds.map Slot.val ++ List.replicate (n - ds.length) .gone, w⟩ { nx := fun s => Q (.val .none) s.w, rt := Q }
/-- .. whose first parameter is the feed -/
def runF (n : Nat) (body : MS) (ds : List D) (w : W) (Q : R → W → Prop) : Prop := body ⟨.feed :: ds.map Slot.val ++ List.replicate (n - 1 - ds.length) .gone, w⟩ { nx := fun s => Q (.val .none) s.w, rt := Q }
def ar (n : Nat) (g : Sem) : Sem := fun ds w Q => ds.length = n ∧ g ds w Q
def lawTrue (n : Nat) (body : MS) (ns : List Int) : Prop := body ⟨.gone :: .feed :: List.replicate (n - 2) .gone, ⟨ns, 0, 0, 1⟩⟩ { nx := fun _ => False, rt := fun r _ => r = .val (.bool true) }
theorem enum_len : ∀ (n : Nat) (ds : List D), (enumFrom n ds).length = ds.length
  | _, [] => rfl
  | n, _ :: r => congrArg (· + 1) (enum_len (n + 1) r)
theorem enum_get : ∀ (n : Nat) (ds : List D) (i : Nat) (d : D), (enumFrom n ds)[i]? = some d → ∃ z, ds[i]? = some z ∧ d = .tup [.int ((n + i : Nat) : Int), z]
  | n, [], i, d, h => by simp [enumFrom] at h
  | n, x :: r, 0, d, h => ⟨x, rfl, by simp only [enumFrom, List.getElem?_cons_zero, Option.some.injEq] at h; rw [← h]; rfl⟩
  | n, x :: r, i + 1, d, h => by
    obtain ⟨z, h1, h2⟩ := enum_get (n + 1) r i d h
    exact ⟨z, h1, by rw [h2, show n + 1 + i = n + (i + 1) by omega]⟩

/-! ### errors -/
/-- a def's meaning that may raise: its arguments, the feed ahead, what is wanted, what is wanted of an error -/
abbrev SemX := List D → W → (R → W → Prop) → (Exn → W → Prop) → Prop
/-- a call of a def that may raise; x: what is wanted of an error here -/
def mCallX (g : SemX) (x : Exn → S → Prop) (es : Ms) (s : S) (Q : R → S → Prop) : Prop := es s fun ds s1 => g ds s1.w (fun r _ => Q r s1) fun e _ => x e s1
def sRaise0 (x : Exn → S → Prop) (c : String) (s : S) (_ : Outs) : Prop := x ⟨c, none⟩ s
def sRaise1 (x : Exn → S → Prop) (c f : String) (m : M) (s : S) (_ : Outs) : Prop := m s fun r s1 => frz r fun d => x ⟨c, some (f, d)⟩ s1
/-- the suites of a try, one after the other: the names of the classes that are caught, the slot of the name, the suite -/
structure Hd where
  yes : List String
  i : Nat
  nm : Bool
  suite : MS
def Slot.isExn : Slot → Bool
  | .exn _ => true
  | _ => false
/-- behind a suite: the name is gone, no error is held -/
def unheld (h : Hd) (K : S → Prop) (s : S) : Prop := if h.nm = true then (put s.v h.i .gone).all (fun x => !x.isExn) = true ∧ K { s with v := put s.v h.i .gone } else s.v.all (fun x => !x.isExn) = true ∧ K s
def unslot (h : Hd) (O : Outs) : Outs := { nx := unheld h O.nx, rt := O.rt, bk := unheld h O.bk, ct := unheld h O.ct }
def caught (no : List String) : List Hd → Exn → S → Outs → Prop
  | [], _, _, _ => False
  | h :: r, e, s, O => if h.yes.contains e.cls = true then h.suite (if h.nm = true then { s with v := put s.v h.i (.exn e) } else s) (unslot h O) else no.contains e.cls = true ∧ caught no r e s O
/-- try: .. except ..; all: the classes that are known -/
def sTry (all : List String) (body : (Exn → S → Prop) → MS) (hs : List Hd) (s : S) (O : Outs) : Prop := body (fun e s1 => caught all hs e s1 O) s O
/-- e.f, e the error of slot i -/
def mXArg (i : Nat) (all : List String) (f : String) (s : S) (Q : R → S → Prop) : Prop := match get s.v i with
  | .exn e => all.contains e.cls = true ∧ ∃ d, e.arg = some (f, d) ∧ Q (.val d) s
  | _ => False
/-- isinstance(e, C) -/
def mXIs (i : Nat) (all yes : List String) (s : S) (Q : R → S → Prop) : Prop := match get s.v i with
  | .exn e => all.contains e.cls = true ∧ Q (.val (.bool (yes.contains e.cls))) s
  | _ => False
/-- a body that may raise -/
def runX (n : Nat) (body : (Exn → S → Prop) → MS) (ds : List D) (w : W) (Q : R → W → Prop) (E : Exn → W → Prop) : Prop := body (fun e s => E e s.w) ⟨ds.map Slot.val ++ List.replicate (n - ds.length) .gone, w⟩ { nx := fun s => Q (.val .none) s.w, rt := Q }
def arX (n : Nat) (g : SemX) : SemX := fun ds w Q E => ds.length = n ∧ g ds w Q E
/-- an argument that is only looked at: a name; what leaves all as it is -/
inductive Ar where
  | nm (i : Nat)
  | ex (m : M)
def peekA (v : List Slot) (i : Nat) : Option D := match get v i with
  | .val d => some d
  | .own ds => some (.list ds)
  | _ => none
def evA (a : Ar) (s : S) (k : D → Prop) : Prop := match a with
  | .nm i => ∃ d, peekA s.v i = some d ∧ k d
  | .ex m => m s fun r s1 => s1 = s ∧ frz r k
def evAs : List Ar → S → (List D → Prop) → Prop
  | [], _, k => k []
  | a :: r, s, k => evA a s fun d => evAs r s fun ds => k (d :: ds)
/-- a call whose result holds nothing of the arguments -/
def mCallB (g : Sem) (as : List Ar) (s : S) (Q : R → S → Prop) : Prop := evAs as s fun ds => g ds s.w fun r _ => match r with
  | .val d => flatD d = true ∧ Q (.val d) s
  | _ => False
end DL

/-! DLS1: the pieces' meanings hold in the model: expressions. -/
namespace DL
open PySem PySem.Spec PyProof.Rows L2

abbrev sT (s : List Nat) : Str := ⟨s.toArray⟩
abbrev St := L2.St
mutual
/-- the value v, read in G, is the data d -/
inductive Dg (K : PySem.W.Frag) (G : Hp) : V → D → Prop
  | non : Dg K G .non .none
  | bl (b : Bool) : Dg K G (.bl b) (.bool b)
  | int (i : Int) : Dg K G (.int i) (.int i)
  | str (s : List Nat) : Dg K G (.str (sT s)) (.str s)
  | lst {a : Addr} {xs : List V} {ds : List D} : G a = some (.lst xs) → Dgs K G xs ds → Dg K G (.ref a) (.list ds)
  | tup {a : Addr} {xs : List V} {ds : List D} : SqT K G a xs → Dgs K G xs ds → Dg K G (.ref a) (.tup ds)
inductive Dgs (K : PySem.W.Frag) (G : Hp) : List V → List D → Prop
  | nil : Dgs K G [] []
  | cons {v : V} {vs : List V} {d : D} {ds : List D} : Dg K G v d → Dgs K G vs ds → Dgs K G (v :: vs) (d :: ds)
end
theorem same_seqT {K : PySem.W.Frag} {H H' : Hp} {a : Addr} {xs : List V} (e : Same H H') (h : SqT K H a xs) : SqT K H' a xs := by
  rcases h with (h | ⟨o, h⟩) | h
  · exact .inl (.inl (e _ _ h))
  · exact .inl (.inr ⟨o, e _ _ h⟩)
  · exact .inr h
mutual
theorem Dg.mono {K : PySem.W.Frag} {G G' : Hp} (e : Same G G') : ∀ {v : V} {d : D}, Dg K G v d → Dg K G' v d
  | _, _, .non => .non
  | _, _, .bl b => .bl b
  | _, _, .int i => .int i
  | _, _, .str s => .str s
  | _, _, .lst h r => .lst (e _ _ h) (Dgs.mono e r)
  | _, _, .tup h r => .tup (same_seqT e h) (Dgs.mono e r)
theorem Dgs.mono {K : PySem.W.Frag} {G G' : Hp} (e : Same G G') : ∀ {v : List V} {d : List D}, Dgs K G v d → Dgs K G' v d
  | _, _, .nil => .nil
  | _, _, .cons h r => .cons (Dg.mono e h) (Dgs.mono e r)
end
section
variable {K : PySem.W.Frag} {G : Hp}
theorem Dgs.length : ∀ {v : List V} {d : List D}, Dgs K G v d → v.length = d.length
  | _, _, .nil => rfl
  | _, _, .cons _ r => congrArg (· + 1) r.length
theorem Dgs.append : ∀ {v w : List V} {d e : List D}, Dgs K G v d → Dgs K G w e → Dgs K G (v ++ w) (d ++ e)
  | _, _, _, _, .nil, h => h
  | _, _, _, _, .cons h r, q => .cons h (Dgs.append r q)
theorem Dgs.get : ∀ {v : List V} {d : List D} {i : Nat} {x : D}, Dgs K G v d → d[i]? = some x → ∃ u, v[i]? = some u ∧ Dg K G u x
  | _, _, _, _, .nil, e => by simp at e
  | _, _, 0, _, .cons h _, e => by simp at e; subst e; exact ⟨_, rfl, h⟩
  | _, _, i + 1, x, .cons _ r, e => by
    obtain ⟨u, h1, h2⟩ := Dgs.get (i := i) (x := x) r (by simpa using e)
    exact ⟨u, by simpa using h1, h2⟩
theorem Dgs.get' : ∀ {v : List V} {d : List D} {i : Nat} {u : V}, Dgs K G v d → v[i]? = some u → ∃ x, d[i]? = some x ∧ Dg K G u x
  | _, _, _, _, .nil, e => by simp at e
  | _, _, 0, _, .cons h _, e => by simp at e; subst e; exact ⟨_, rfl, h⟩
  | _, _, i + 1, x, .cons _ r, e => by
    obtain ⟨u, h1, h2⟩ := Dgs.get' (i := i) (u := x) r (by simpa using e)
    exact ⟨u, by simpa using h1, h2⟩
theorem Dgs.take : ∀ {v : List V} {d : List D} (n : Nat), Dgs K G v d → Dgs K G (v.take n) (d.take n)
  | _, _, 0, _ => .nil
  | _, _, _ + 1, .nil => .nil
  | _, _, n + 1, .cons r t => .cons r (Dgs.take n t)
theorem Dgs.drop : ∀ {v : List V} {d : List D} (n : Nat), Dgs K G v d → Dgs K G (v.drop n) (d.drop n)
  | _, _, 0, r => r
  | _, _, _ + 1, .nil => .nil
  | _, _, n + 1, .cons _ t => Dgs.drop n t
theorem Dgs.set : ∀ {v : List V} {d : List D} {u : V} {x : D} (i : Nat), Dgs K G v d → Dg K G u x → Dgs K G (v.set i u) (d.set i x)
  | _, _, _, _, _, .nil, _ => .nil
  | _, _, _, _, 0, .cons _ t, q => .cons q t
  | _, _, _, _, i + 1, .cons r t, q => .cons r (Dgs.set i t q)
theorem Dgs.eraseIdx : ∀ {v : List V} {d : List D} (i : Nat), Dgs K G v d → Dgs K G (v.eraseIdx i) (d.eraseIdx i)
  | _, _, _, .nil => .nil
  | _, _, 0, .cons _ t => t
  | _, _, i + 1, .cons r t => .cons r (Dgs.eraseIdx i t)
theorem Dgs.reverse : ∀ {v : List V} {d : List D}, Dgs K G v d → Dgs K G v.reverse d.reverse
  | _, _, .nil => .nil
  | _, _, .cons r t => by
    rw [List.reverse_cons, List.reverse_cons]
    exact (Dgs.reverse t).append (.cons r .nil)
theorem Dgs.rep {v : List V} {d : List D} (h : Dgs K G v d) : ∀ n : Nat, Dgs K G (List.replicate n v).flatten (List.replicate n d).flatten
  | 0 => .nil
  | n + 1 => by
    rw [List.replicate_succ, List.replicate_succ, List.flatten_cons, List.flatten_cons]
    exact h.append (Dgs.rep h n)
theorem Dgs.ints : ∀ {v : List V} {ns : List Int}, Dgs K G v (ns.map D.int) → v = ns.map V.int
  | [], [], _ => rfl
  | _, n :: ns, h => by
    rw [List.map_cons] at h
    cases h with
    | cons h r => cases h; rw [Dgs.ints r]; rfl
theorem Dgs.ofInts : ∀ (ns : List Int), Dgs K G (ns.map V.int) (ns.map D.int)
  | [] => .nil
  | n :: ns => .cons (.int n) (Dgs.ofInts ns)
theorem Dgs.bools : ∀ {v : List V} {ns : List Bool}, Dgs K G v (ns.map D.bool) → v = ns.map V.bl
  | [], [], _ => rfl
  | _, n :: ns, h => by
    rw [List.map_cons] at h
    cases h with
    | cons h r => cases h; rw [Dgs.bools r]; rfl
end
/-- what stays the same through a def's body: the written part, the heap that may be read, the heap at the entry, the feed's address, the lists that comprehensions around are making -/
structure Ct where
  K : PySem.W.Frag
  G0 : Hp
  H0 : Hp
  fa : Option Addr
  rs : Addr → Prop := fun _ => False
  mg : Str → Option Value := fun _ => none
  xe : Option (Addr × Value × Option Addr) := none
/-- the error e, of the class cls, with the dict d -/
def ExcK (K : PySem.W.Frag) (mg : Str → Option Value) (G : Hp) (cls : Value) (d : Option Addr) (e : Exn) : Prop :=
  ∃ C, mg (Str.ofString e.cls) = some (.ref C) ∧ cls = .ref C ∧ match e.arg with
    | none => d = none
    | some (f, x) => ∃ dd v, d = some dd ∧ G dd = some (.xd [(Str.ofString f, v)]) ∧ Dg K G v x
theorem ExcK.mono {K : PySem.W.Frag} {mg : Str → Option Value} {G G' : Hp} {cls : Value} {d : Option Addr} {e : Exn} (sm : Same G G') (h : ExcK K mg G cls d e) : ExcK K mg G' cls d e := by
  obtain ⟨C, h1, h2, h3⟩ := h
  refine ⟨C, h1, h2, ?_⟩
  cases q : e.arg with
  | none => rw [q] at h3; exact h3
  | some p =>
    obtain ⟨f, x⟩ := p
    rw [q] at h3
    obtain ⟨dd, v, e1, e2, e3⟩ := h3
    exact ⟨dd, v, e1, sm _ _ e2, e3.mono sm⟩
def Slot.isOwn : Slot → Bool
  | .own _ => true
  | _ => false
def SlotOk (c : Ct) (H G : Hp) (o : Option (Option V)) : Slot → Prop
  | .gone => True
  | .val d => ∃ v, o = some (some v) ∧ Dg c.K G v d
  | .own ds => ∃ a vs, o = some (some (.ref a)) ∧ H a = some (.lst vs) ∧ Dgs c.K G vs ds ∧ G a = none ∧ c.H0 a = none ∧ c.fa ≠ some a ∧ ¬ c.rs a
  | .feed => ∃ a, o = some (some (.ref a)) ∧ c.fa = some a
  | .exn e => ∃ a cls d, c.xe = some (a, cls, d) ∧ o = some (some (.ref a)) ∧ ExcK c.K c.mg G cls d e
def FeedOk (fa : Option Addr) (H G : Hp) (w : W) : Prop := ∀ a, fa = some a → G a = none ∧ ∃ sa, H a = some (.lst [.ref sa, .int w.ix, .int w.big, .int w.seed]) ∧ G sa = some (.lst (w.sc.map V.int))
structure Rel (c : Ct) (σ : St) (H G : Hp) (s : S) : Prop where
  g0 : Same c.G0 G
  gH : Same G H
  kH : ∀ b o, c.H0 b = some o → c.fa ≠ some b → H b = some o
  gN : ∀ a o, G a = some o → c.G0 a = some o ∨ c.H0 a = none
  len : s.v.length = σ.length
  sl : ∀ i, SlotOk c H G σ[i]? (get s.v i)
  ap : ∀ i j a, i ≠ j → (get s.v i).isOwn = true → (get s.v j).isOwn = true → σ[i]? = some (some (.ref a)) → σ[j]? = some (some (.ref a)) → False
  fd : FeedOk c.fa H G s.w
  rs : ∀ a, c.rs a → G a = none ∧ c.fa ≠ some a ∧ ∃ o, H a = some o
def Keep (c : Ct) (H H' : Hp) : Prop := ∀ b o, H b = some o → c.fa ≠ some b → H' b = some o
theorem Keep.refl {c : Ct} {H : Hp} : Keep c H H := fun _ _ e _ => e
theorem Keep.trans {c : Ct} {H H1 H2 : Hp} (a : Keep c H H1) (b : Keep c H1 H2) : Keep c H H2 := fun x o e n => b x o (a x o e n) n
def ResOk (c : Ct) (σ : St) (H G : Hp) (s : S) (v : V) : R → Prop
  | .val d => Dg c.K G v d
  | .own ds => ∃ a vs, v = .ref a ∧ H a = some (.lst vs) ∧ Dgs c.K G vs ds ∧ G a = none ∧ c.H0 a = none ∧ c.fa ≠ some a ∧ ¬ c.rs a ∧ ∀ i, (get s.v i).isOwn = true → σ[i]? ≠ some (some (.ref a))
  | .bor ds => ∃ a vs, v = .ref a ∧ H a = some (.lst vs) ∧ Dgs c.K G vs ds ∧ G a = none ∧ c.H0 a = none ∧ c.fa ≠ some a ∧ ¬ c.rs a
/-- what may be read of a value right now -/
def Peek (c : Ct) (H G : Hp) (v : V) : D → Prop
  | .list ds => ∃ a vs, v = .ref a ∧ H a = some (.lst vs) ∧ Dgs c.K G vs ds ∧ c.fa ≠ some a
  | d => Dg c.K G v d
section
variable {c : Ct} {σ : St} {H G H' G' : Hp} {s : S} {v : V} {r : R}
theorem Rel.fa (R : Rel c σ H G s) {a : Addr} {o : HO} (h : G a = some o) : c.fa ≠ some a := fun e => by
  have q := (R.fd a e).1
  rw [h] at q; cases q
theorem Peek.ofDg (R : Rel c σ H G s) {d : D} (h : Dg c.K G v d) : Peek c H G v d := by
  cases d with
  | list ds =>
    cases h with
    | lst h r => exact ⟨_, _, rfl, R.gH _ _ h, r, R.fa h⟩
  | _ => exact h
theorem ResOk.peek (R : Rel c σ H G s) (h : ResOk c σ H G s v r) : Peek c H G v r.d := by
  cases r with
  | val d => exact .ofDg R h
  | own ds =>
    obtain ⟨a, vs, e, h1, h2, h3, h4, h5, h6⟩ := h
    exact ⟨a, vs, e, h1, h2, h5⟩
  | bor ds =>
    obtain ⟨a, vs, e, h1, h2, h3, h4, h5, _⟩ := h
    exact ⟨a, vs, e, h1, h2, h5⟩
theorem Peek.keep {d : D} (h : Peek c H G v d) (sm : Same G G') (k : Keep c H H') : Peek c H' G' v d := by
  cases d with
  | list ds =>
    obtain ⟨a, vs, e, h1, h2, h3⟩ := h
    exact ⟨a, vs, e, k _ _ h1 h3, h2.mono sm, h3⟩
  | _ => exact Dg.mono sm (show Dg c.K G v _ from h)
theorem Rel.nrs (R : Rel c σ H G s) {p : Addr} (n : H p = none) : ¬ c.rs p := fun h => by
  obtain ⟨_, _, o, q⟩ := R.rs p h
  rw [n] at q; cases q
theorem Rel.h0 (R : Rel c σ H G s) {p : Addr} (n : H p = none) : c.H0 p = none ∧ c.fa ≠ some p ∧ G p = none := by
  have f : c.fa ≠ some p := fun e => by
    obtain ⟨_, sa, h, _⟩ := R.fd p e
    rw [n] at h; cases h
  refine ⟨?_, f, R.gH.free n⟩
  cases e : c.H0 p with
  | none => rfl
  | some o =>
    have q := R.kH p o e f
    rw [n] at q; cases q
theorem same_upd {H : Hp} {p : Addr} {o : HO} (h : H p = none) : Same H (upd H p o) := fun b x e => by
  rw [upd_ne (ne_of_none e h)]
  exact e
theorem Keep.upd {p : Addr} {o : HO} (n : H p = none) : Keep c H (L2.upd H p o) := fun b x e _ => same_upd n b x e
/-- the heap has grown, the readable heap too (by new objects alone) -/
theorem Rel.grow (R : Rel c σ H G s) (sm : Same G G') (gH : Same G' H') (k : Keep c H H') (gN : ∀ a o, G' a = some o → G a = some o ∨ H a = none) (fd : ∀ a, c.fa = some a → H' a = H a) : Rel c σ H' G' s where
  g0 := R.g0.trans sm
  gH := gH
  kH := fun b o e n => k b o (R.kH b o e n) n
  gN := fun a o e => by
    rcases gN a o e with h | h
    · exact R.gN a o h
    · exact .inr (R.h0 h).1
  len := R.len
  sl := fun i => by
    have h := R.sl i
    cases e : get s.v i with
    | gone => trivial
    | val d =>
      rw [e] at h
      obtain ⟨v, h1, h2⟩ := h
      exact ⟨v, h1, h2.mono sm⟩
    | own ds =>
      rw [e] at h
      obtain ⟨a, vs, h1, h2, h3, h4, h5, h6, h7⟩ := h
      refine ⟨a, vs, h1, k _ _ h2 h6, h3.mono sm, ?_, h5, h6, h7⟩
      cases q : G' a with
      | none => rfl
      | some o =>
        rcases gN a o q with z | z
        · rw [h4] at z; cases z
        · rw [h2] at z; cases z
    | feed =>
      rw [e] at h
      exact h
    | exn x =>
      rw [e] at h
      obtain ⟨a, cls, d, q1, q2, q3⟩ := h
      exact ⟨a, cls, d, q1, q2, q3.mono sm⟩
  ap := R.ap
  fd := fun a e => by
    obtain ⟨h1, sa, h2, h3⟩ := R.fd a e
    refine ⟨?_, sa, by rw [fd a e]; exact h2, sm _ _ h3⟩
    cases q : G' a with
    | none => rfl
    | some o =>
      rcases gN a o q with z | z
      · rw [h1] at z; cases z
      · rw [h2] at z; cases z
  rs := fun a e => by
    obtain ⟨h1, h2, o, h3⟩ := R.rs a e
    refine ⟨?_, h2, o, k _ _ h3 h2⟩
    cases q : G' a with
    | none => rfl
    | some o =>
      rcases gN a o q with z | z
      · rw [h1] at z; cases z
      · rw [h3] at z; cases z
theorem Rel.newL (R : Rel c σ H G s) {p : Addr} {o : HO} (n : H p = none) : Rel c σ (upd H p o) G s :=
  R.grow (fun _ _ e => e) (fun b x e => same_upd n b x (R.gH b x e)) (Keep.upd n) (fun _ _ e => .inl e) fun a e => upd_ne fun z => (R.h0 n).2.1 (z ▸ e)
theorem Rel.newG (R : Rel c σ H G s) {p : Addr} {o : HO} (n : H p = none) : Rel c σ (upd H p o) (upd G p o) s ∧ Same G (upd G p o) := by
  have sm : Same G (upd G p o) := same_upd (R.h0 n).2.2
  refine ⟨R.grow sm (fun b x e => ?_) (Keep.upd n) (fun a x e => ?_) fun a e => upd_ne fun z => (R.h0 n).2.1 (z ▸ e), sm⟩
  · by_cases hb : b = p
    · subst hb; rw [upd_same] at e ⊢; exact e
    · rw [upd_ne hb] at e ⊢; exact R.gH b x e
  · by_cases hb : a = p
    · subst hb; exact .inr n
    · rw [upd_ne hb] at e; exact .inl e
theorem Rel.own_new (R : Rel c σ H G s) {p : Addr} {vs : List V} {ds : List D} (n : H p = none) (h : Dgs c.K G vs ds) : ResOk c σ (upd H p (.lst vs)) G s (.ref p) (.own ds) := by
  obtain ⟨h1, h2, h3⟩ := R.h0 n
  refine ⟨p, vs, rfl, upd_same, h, h3, h1, h2, R.nrs n, fun i hi e => ?_⟩
  have q := R.sl i
  cases z : get s.v i with
  | own es =>
    rw [z] at q
    obtain ⟨a, us, e1, e2, _⟩ := q
    rw [e] at e1
    cases e1
    rw [n] at e2; cases e2
  | _ => rw [z] at hi; cases hi
/-- a list of one's own that goes elsewhere is frozen -/
theorem Rel.freeze (R : Rel c σ H G s) {a : Addr} {vs : List V} (h1 : H a = some (.lst vs)) (h3 : G a = none) (h4 : c.H0 a = none) (h5 : c.fa ≠ some a) (h7 : ¬ c.rs a) (h6 : ∀ i, (get s.v i).isOwn = true → σ[i]? ≠ some (some (.ref a))) :
    Rel c σ H (upd G a (.lst vs)) s ∧ Same G (upd G a (.lst vs)) := by
  have sm : Same G (upd G a (.lst vs)) := same_upd h3
  refine ⟨⟨R.g0.trans sm, fun b x e => ?_, R.kH, fun b x e => ?_, R.len, fun i => ?_, R.ap, fun b e => ?_, fun b e => ?_⟩, sm⟩
  · by_cases hb : b = a
    · subst hb; rw [upd_same] at e; cases e; exact h1
    · rw [upd_ne hb] at e; exact R.gH b x e
  · by_cases hb : b = a
    · subst hb; exact .inr h4
    · rw [upd_ne hb] at e; exact R.gN b x e
  · have h := R.sl i
    cases e : get s.v i with
    | gone => trivial
    | val d =>
      rw [e] at h
      obtain ⟨v, q1, q2⟩ := h
      exact ⟨v, q1, q2.mono sm⟩
    | own ds =>
      rw [e] at h
      obtain ⟨b, us, q1, q2, q3, q4, q5, q6, q7⟩ := h
      have hb : b ≠ a := fun z => h6 i (by rw [e]; rfl) (z ▸ q1)
      exact ⟨b, us, q1, q2, q3.mono sm, by rw [upd_ne hb]; exact q4, q5, q6, q7⟩
    | feed =>
      rw [e] at h
      exact h
    | exn x =>
      rw [e] at h
      obtain ⟨a, cls, d, q1, q2, q3⟩ := h
      exact ⟨a, cls, d, q1, q2, q3.mono sm⟩
  · obtain ⟨q1, sa, q2, q3⟩ := R.fd b e
    exact ⟨by rw [upd_ne (fun z : b = a => h5 (z ▸ e))]; exact q1, sa, q2, sm _ _ q3⟩
  · obtain ⟨q1, q2, q3⟩ := R.rs b e
    exact ⟨by rw [upd_ne (fun z : b = a => h7 (z ▸ e))]; exact q1, q2, q3⟩
/-- a result made good -/
theorem ResOk.frz (R : Rel c σ H G s) (h : ResOk c σ H G s v r) {k : D → Prop} (q : DL.frz r k) : ∃ d G1, k d ∧ Rel c σ H G1 s ∧ Same G G1 ∧ Dg c.K G1 v d := by
  cases r with
  | val d => exact ⟨d, G, q, R, Same.refl _, h⟩
  | own ds =>
    obtain ⟨a, vs, e, h1, h2, h3, h4, h5, h7, h6⟩ := h
    obtain ⟨R1, sm⟩ := R.freeze h1 h3 h4 h5 h7 h6
    subst e
    exact ⟨.list ds, _, q, R1, sm, .lst upd_same (h2.mono sm)⟩
  | bor ds => exact False.elim q
end
/-! ### slots -/
theorem get_put : ∀ (v : List Slot) (i j : Nat) (y : Slot), i < v.length → get (put v i y) j = if j = i then y else get v j
  | [], i, j, y, h => by simp at h
  | x :: r, 0, 0, y, _ => rfl
  | x :: r, 0, j + 1, y, _ => rfl
  | x :: r, i + 1, 0, y, _ => rfl
  | x :: r, i + 1, j + 1, y, h => by
    have ih := get_put r i j y (by simpa using h)
    show get (put r i y) j = _
    rw [ih]
    by_cases e : j = i
    · rw [if_pos e, if_pos (by omega)]
    · rw [if_neg e, if_neg (by omega)]
      rfl
theorem put_length : ∀ (v : List Slot) (i : Nat) (y : Slot), (put v i y).length = v.length
  | [], _, _ => rfl
  | _ :: _, 0, _ => rfl
  | _ :: r, i + 1, y => congrArg (· + 1) (put_length r i y)
theorem put_out : ∀ (v : List Slot) (i : Nat) (y : Slot), ¬ i < v.length → put v i y = v
  | [], _, _, _ => rfl
  | _ :: _, 0, _, h => absurd (Nat.succ_pos _) h
  | x :: r, i + 1, y, h => by
    show x :: put r i y = x :: r
    rw [put_out r i y (by simpa using h)]
theorem get_out : ∀ (v : List Slot) (i : Nat), ¬ i < v.length → get v i = .gone
  | [], _, _ => rfl
  | _ :: _, 0, h => absurd (Nat.succ_pos _) h
  | _ :: r, i + 1, h => get_out r i (by simpa using h)
theorem get_lt {v : List Slot} {i : Nat} (h : get v i ≠ .gone) : i < v.length := by
  by_cases q : i < v.length
  · exact q
  · exact absurd (get_out v i q) h
end DL

/-! DLS2: expressions. -/
namespace DL
open PySem PySem.Spec PyProof.Rows L2
/-- the built-in names that no module shadows -/
def bltNames : List Str := ["len", "abs", "int", "min", "max", "list", "tuple", "sum", "all", "range", "enumerate", "reversed", "isinstance", "sorted", "zip", "str", "bool"]
/-- what the pieces ask of where they stand -/
class Ok (X : Cx) (c : Ct) : Prop where
  K : X.K = c.K
  blt : ∀ x ∈ bltNames, X.mg x = none
  hu : X.A.units + 66 < cLine
  nd : X.N.Nodup
  mg : X.mg = c.mg
  xe : X.calm = true → c.xe = none
/-- no error is handled -/
class Calm (X : Cx) : Prop where
  calm : X.calm = true
instance {X : Cx} [o : Calm X] {s : Shared} {H : Hp} {sc : Scope} {ce : PySem.Env} {fp : List Addr} : Calm (X.blk s H sc ce fp) := ⟨o.calm⟩
instance {CX : CXT} {P : Program} {w : World} {K : PySem.W.Frag} {mg : Str → Option Value} {base : Heap} {N : List Str} {qual : Str} {scope : Scope} {f : Addr} {cd : Value} {A : Around} {outer : List PySem.Env} {s : Shared} {H : Hp} {E : XK} : Calm (cxOf CX P w K mg base N qual scope f cd A outer s H E) := ⟨rfl⟩
instance {X : Cx} [o : Calm X] {E : Value → Shared → Prop} : Calm (X.wish E) := ⟨o.calm⟩
instance {X : Cx} {c : Ct} [o : Ok X c] {s : Shared} {H : Hp} {sc : Scope} {ce : PySem.Env} {fp : List Addr} : Ok (X.blk s H sc ce fp) c := ⟨o.K, o.blt, o.hu, o.nd, o.mg, o.xe⟩

def tE (c : Ct) (m : M) : TE := fun σ H Q => ∃ G s Q0, Rel c σ H G s ∧ m s Q0 ∧ ∀ r s' v H' G', Q0 r s' → Rel c σ H' G' s' → Same G G' → Keep c H H' → ResOk c σ H' G' s' v r → Q v H'
def tT (c : Ct) (t : T) : TT := fun σ H Q => ∃ G s Q0, Rel c σ H G s ∧ t s Q0 ∧ ∀ b s' H' G', Q0 b s' → Rel c σ H' G' s' → Same G G' → Keep c H H' → Q b H'
def tAs (c : Ct) (ms : Ms) : TA := fun σ H Q => ∃ G s Q0, Rel c σ H G s ∧ ms s Q0 ∧ ∀ ds s' vs H' G', Q0 ds s' → Rel c σ H' G' s' → Same G G' → Keep c H H' → Dgs c.K G' vs ds → Q vs H'
theorem pe_imp {X : Cx} {e : Expr} {t t' : TE} (h : PE X e t) (i : ∀ σ H Q, t' σ H Q → t σ H Q) : PE X e t' := ⟨fun pins s σ H Q I q => h.run pins s σ H Q I (i σ H Q q)⟩
theorem pt_imp {X : Cx} {e : Expr} {t t' : TT} (h : PT X e t) (i : ∀ σ H Q, t' σ H Q → t σ H Q) : PT X e t' := ⟨fun pins s σ H Q I q => h.run pins s σ H Q I (i σ H Q q)⟩
theorem pw_imp {X : Cx} {e : Expr} {t t' : TT} (h : PW X e t) (i : ∀ σ H Q, t' σ H Q → t σ H Q) : PW X e t' := ⟨fun w pins s σ H Q I q => h.run w pins s σ H Q I (i σ H Q q)⟩
theorem pa_imp {X : Cx} {e : List Expr} {t t' : TA} (h : PA X e t) (i : ∀ σ H Q, t' σ H Q → t σ H Q) : PA X e t' := ⟨fun pos pins s σ H Q I q => h.run pos pins s σ H Q I (i σ H Q q)⟩

section
variable {X : Cx} {c : Ct} {a b e : Expr} {m m1 m2 m3 : M} {pos : Pos}
/-! ### constants and names -/
theorem tE_const {d : D} {v : V} (h : ∀ G, Dg c.K G v d) : ∀ σ H Q, tE c (mC d) σ H Q → tC v σ H Q := by
  rintro σ H Q ⟨G, s, Q0, R, hm, hQ⟩
  exact hQ _ s v H G hm R (Same.refl _) Keep.refl (h G)
theorem de_int {i : Int} {j pos} : PE X (.Constant (.int i) j pos) (tE c (mC (.int i))) := pe_imp pe_int (tE_const fun _ => .int i)
theorem de_bool {i : Bool} {j pos} : PE X (.Constant (.bool i) j pos) (tE c (mC (.bool i))) := pe_imp pe_bl (tE_const fun _ => .bl i)
theorem de_none {j pos} : PE X (.Constant .none j pos) (tE c (mC .none)) := pe_imp pe_non (tE_const fun _ => .non)
theorem de_str {x : Str} {l : List Nat} {j pos} (h : x.cps.toList = l := by decide +kernel) : PE X (.Constant (.str x) j pos) (tE c (mC (.str l))) := by
  have e : x = sT l := by
    subst h
    cases x
    rfl
  subst e
  exact pe_imp pe_str (tE_const fun _ => .str l)
/-- a module's constant -/
theorem de_glob {x : Str} {u : Value} {v : V} {d : D} (hg : Gl X x) (hm : X.mg x = some u) (r : RelV v u) (h : ∀ G, Dg c.K G v d) (hd : (x == ("__debug__" : Str)) = false := by decide) : PE X (.Name x pos) (tE c (mC d)) := pe_imp (pe_glob hg hm r hd) (tE_const h)
theorem Rel.at {σ : St} {H G : Hp} {s : S} (R : Rel c σ H G s) {i : Nat} {x : Slot} (h : get s.v i = x) : SlotOk c H G σ[i]? x := h ▸ R.sl i
theorem de_var (i : Nat) {x : Str} (hN : X.N[i]? = some x := by rfl) (hv : Vis X.env.scope x := by first | exact Or.inl rfl | exact Or.inr (Or.inl rfl) | exact Or.inr (Or.inr rfl)) (hd : (x == ("__debug__" : Str)) = false := by decide)
    (hcd : (x == ("__classdict__" : Str)) = false := by decide) : PE X (.Name x pos) (tE c (mVar i)) := by
  refine pe_imp (pe_var hN hv hd hcd) ?_
  rintro σ H Q ⟨G, s, Q0, R, hm, hQ⟩
  unfold mVar at hm
  split at hm
  · rename_i d e
    obtain ⟨v, h1, h2⟩ := R.at e
    exact ⟨v, h1, hQ _ s v H G hm R (Same.refl _) Keep.refl h2⟩
  · rename_i ds e
    obtain ⟨a, vs, h1, h2, h3, h4, h5, h6, h7⟩ := R.at e
    exact ⟨_, h1, hQ _ s _ H G hm R (Same.refl _) Keep.refl ⟨a, vs, rfl, h2, h3, h4, h5, h6, h7⟩⟩
  · exact hm.elim
/-- a slot is stored anew -/
theorem Rel.put_val {σ : St} {H G : Hp} {s : S} (R : Rel c σ H G s) {i : Nat} {v : V} {d : D} (h : Dg c.K G v d) : Rel c (σ.set i (some v)) H G { s with v := put s.v i (.val d) } := by
  by_cases hi : i < s.v.length
  · have hi2 : i < σ.length := by rw [← R.len]; exact hi
    refine ⟨R.g0, R.gH, R.kH, R.gN, by rw [List.length_set]; show (put s.v i _).length = _; rw [put_length]; exact R.len, fun j => ?_, fun j k a hjk h1 h2 e1 e2 => ?_, R.fd, R.rs⟩
    · show SlotOk c H G (σ.set i (some v))[j]? (get (put s.v i (.val d)) j)
      rw [get_put _ _ _ _ hi]
      by_cases hj : j = i
      · subst hj
        rw [if_pos rfl, List.getElem?_set_self hi2]
        exact ⟨v, rfl, h⟩
      · rw [if_neg hj, List.getElem?_set_ne (Ne.symm hj)]
        exact R.sl j
    · have g : ∀ j, (get (put s.v i (.val d)) j).isOwn = true → j ≠ i ∧ (get s.v j).isOwn = true := fun j h => by
        rw [get_put _ _ _ _ hi] at h
        by_cases hj : j = i
        · rw [if_pos hj] at h; cases h
        · rw [if_neg hj] at h; exact ⟨hj, h⟩
      obtain ⟨n1, o1⟩ := g j h1
      obtain ⟨n2, o2⟩ := g k h2
      rw [List.getElem?_set_ne (Ne.symm n1)] at e1
      rw [List.getElem?_set_ne (Ne.symm n2)] at e2
      exact R.ap j k a hjk o1 o2 e1 e2
  · rw [put_out _ _ _ hi, List.set_eq_of_length_le (by rw [← R.len]; omega)]
    exact R
/-- a slot is looked at in another way: the same V -/
theorem Rel.reslot {σ : St} {H G : Hp} {s : S} (R : Rel c σ H G s) {i : Nat} {y : Slot} (hy : y.isOwn = false) (h : SlotOk c H G σ[i]? y) : Rel c σ H G { s with v := put s.v i y } := by
  by_cases hi : i < s.v.length
  · refine ⟨R.g0, R.gH, R.kH, R.gN, by show (put s.v i _).length = _; rw [put_length]; exact R.len, fun j => ?_, fun j k a hjk h1 h2 e1 e2 => ?_, R.fd, R.rs⟩
    · show SlotOk c H G σ[j]? (get (put s.v i y) j)
      rw [get_put _ _ _ _ hi]
      by_cases hj : j = i
      · subst hj
        rw [if_pos rfl]
        exact h
      · rw [if_neg hj]
        exact R.sl j
    · have g : ∀ j, (get (put s.v i y) j).isOwn = true → (get s.v j).isOwn = true := fun j h => by
        rw [get_put _ _ _ _ hi] at h
        by_cases hj : j = i
        · rw [if_pos hj, hy] at h; cases h
        · rw [if_neg hj] at h; exact h
      exact R.ap j k a hjk (g j h1) (g k h2) e1 e2
  · rw [put_out _ _ _ hi]
    exact R
theorem Rel.lose {σ : St} {H G : Hp} {s : S} (R : Rel c σ H G s) (i : Nat) : Rel c σ H G { s with v := put s.v i .gone } := R.reslot rfl trivial
/-- the own list at slot i is frozen -/
theorem Rel.freezeAt {σ : St} {H G : Hp} {s : S} (R : Rel c σ H G s) {i : Nat} {ds : List D} (e : get s.v i = .own ds) : ∃ a vs, σ[i]? = some (some (.ref a)) ∧ Rel c σ H (upd G a (.lst vs)) { s with v := put s.v i (.val (.list ds)) } ∧ Same G (upd G a (.lst vs)) ∧ Dg c.K (upd G a (.lst vs)) (.ref a) (.list ds) := by
  obtain ⟨a, vs, h1, h2, h3, h4, h5, h6, h7⟩ := R.at e
  have R1 := R.lose i
  have hi : i < s.v.length := get_lt (by rw [e]; intro z; cases z)
  obtain ⟨R2, sm⟩ := R1.freeze h2 h4 h5 h6 h7 fun j hj ej => by
    have q : get (put s.v i .gone) j = if j = i then .gone else get s.v j := get_put _ _ _ _ hi
    have hj' : (get (put s.v i .gone) j).isOwn = true := hj
    rw [q] at hj'
    by_cases hji : j = i
    · rw [if_pos hji] at hj'; cases hj'
    · rw [if_neg hji] at hj'
      exact R.ap j i a hji hj' (by rw [e]; rfl) ej h1
  have dg : Dg c.K (upd G a (.lst vs)) (.ref a) (.list ds) := .lst upd_same (h3.mono sm)
  refine ⟨a, vs, h1, ?_, sm, dg⟩
  have R3 := R2.reslot (i := i) (y := .val (.list ds)) rfl ⟨_, h1, dg⟩
  have e2 : put (put s.v i .gone) i (.val (.list ds)) = put s.v i (.val (.list ds)) := by
    clear R R1 R2 R3 h1 e
    revert hi
    generalize s.v = w
    intro hi
    induction w generalizing i with
    | nil => rfl
    | cons x r ih => cases i with
      | zero => rfl
      | succ i =>
        show x :: put (put r i .gone) i _ = x :: put r i _
        rw [ih (by simpa using hi)]
  have e3 : ({ s with v := put (put s.v i .gone) i (.val (.list ds)) } : S) = { s with v := put s.v i (.val (.list ds)) } := by rw [e2]
  rw [← e3]
  exact R3
theorem de_fz (i : Nat) {x : Str} (hN : X.N[i]? = some x := by rfl) (hv : Vis X.env.scope x := by first | exact Or.inl rfl | exact Or.inr (Or.inl rfl) | exact Or.inr (Or.inr rfl)) (hd : (x == ("__debug__" : Str)) = false := by decide)
    (hcd : (x == ("__classdict__" : Str)) = false := by decide) : PE X (.Name x pos) (tE c (mFzV i)) := by
  refine pe_imp (pe_var hN hv hd hcd) ?_
  rintro σ H Q ⟨G, s, Q0, R, hm, hQ⟩
  unfold mFzV at hm
  split at hm
  · rename_i d e
    obtain ⟨v, h1, h2⟩ := R.at e
    exact ⟨v, h1, hQ _ s v H G hm R (Same.refl _) Keep.refl h2⟩
  · rename_i ds e
    obtain ⟨a, vs, h1, R1, sm, dg⟩ := R.freezeAt e
    exact ⟨_, h1, hQ _ _ _ H _ hm R1 sm Keep.refl dg⟩
  · exact hm.elim
/-! ### operators -/
def Fin (c : Ct) (σ : St) (H G : Hp) (s : S) (Qr : R → Prop) (Q : VK) : Prop := ∀ r v H' G', Qr r → Rel c σ H' G' s → Same G G' → Keep c H H' → ResOk c σ H' G' s v r → Q v H'
def OpD (c : Ct) (f : D → D → (R → Prop) → Prop) (r : R2) : Prop := ∀ {σ : St} {H G : Hp} {s : S} {x y : D} {v u : V} {Qr : R → Prop} {Q : VK}, Rel c σ H G s → Peek c H G v x → Peek c H G u y → f x y Qr → Fin c σ H G s Qr Q → r v u H Q
theorem Fin.val {σ : St} {H G : Hp} {s : S} {Qr : R → Prop} {Q : VK} (F : Fin c σ H G s Qr Q) (R : Rel c σ H G s) {v : V} {d : D} (q : Qr (.val d)) (h : Dg c.K G v d) : Q v H := F _ v H G q R (Same.refl _) Keep.refl h
theorem Fin.own {σ : St} {H G : Hp} {s : S} {Qr : R → Prop} {Q : VK} (F : Fin c σ H G s Qr Q) (R : Rel c σ H G s) {vs : List V} {ds : List D} (q : Qr (.own ds)) (h : Dgs c.K G vs ds) {p : Addr} (n : H p = none) : Q (.ref p) (upd H p (.lst vs)) :=
  F _ _ _ G q (R.newL n) (Same.refl _) (Keep.upd n) (R.own_new n h)
theorem Fin.tup {σ : St} {H G : Hp} {s : S} {Qr : R → Prop} {Q : VK} (F : Fin c σ H G s Qr Q) (R : Rel c σ H G s) {vs : List V} {ds : List D} (q : Qr (.val (.tup ds))) (h : Dgs c.K G vs ds) {p : Addr} (n : H p = none) : Q (.ref p) (upd H p (.tup vs)) := by
  obtain ⟨R1, sm⟩ := R.newG (o := .tup vs) n
  exact F _ _ _ _ q R1 sm (Keep.upd n) (.tup (SqT.of upd_same) (h.mono sm))
theorem mBin_run {f : D → D → (R → Prop) → Prop} {r : R2} (ho : OpD c f r) {ta tb : TE} : ∀ σ H Q, tE c (mBin f m1 m2) σ H Q → tOp r (tE c m1) (tE c m2) σ H Q := by
  rintro σ H Q ⟨G, s, Q0, R, hm, hQ⟩
  refine ⟨G, s, _, R, hm, fun r1 s1 v1 H1 G1 q1 R1 S1 K1 O1 => ⟨G1, s1, _, R1, q1, fun r2 s2 v2 H2 G2 q2 R2 S2 K2 O2 => ?_⟩⟩
  refine ho R2 ((O1.peek R1).keep S2 K2) (O2.peek R2) q2 fun r v H' G' q R' S' K' O' => hQ r s2 v H' G' q R' ((S1.trans S2).trans S') ((K1.trans K2).trans K') O'
theorem de_bin {op : Operator} {f : D → D → (R → Prop) → Prop} {r : R2} (hr : OpR X (binaryOp op) r) (ho : OpD c f r) (ha : PE X a (tE c m1)) (hb : PE X b (tE c m2)) : PE X (.BinOp a op b pos) (tE c (mBin f m1 m2)) :=
  pe_imp (pe_op hr ha hb) (mBin_run ho (ta := tE c m1) (tb := tE c m2))
theorem opR_or {f : Value → Value → PySem.Sem Value} {r r' : R2} (h : OpR X f r) (h' : OpR X f r') : OpR X f (fun x y H Q => r x y H Q ∨ r' x y H Q) := fun pins s σ H x y v u Q I rx ry q => q.elim (h pins s σ H x y v u Q I rx ry) (h' pins s σ H x y v u Q I rx ry)
theorem lineEq : LINE = sizeLine := by rw [sizeLine_eq]
theorem len_sT (s : List Nat) : (sT s).length = s.length := by simp [Str.length]
theorem sT_append (s t : List Nat) : sT s ++ sT t = sT (s ++ t) := by
  show Str.append _ _ = _
  simp [Str.append]
theorem Peek.int {H G : Hp} {v : V} {i : Int} (h : Peek c H G v (.int i)) : v = .int i := by cases (show Dg c.K G v (.int i) from h); rfl
theorem Peek.bool {H G : Hp} {v : V} {i : Bool} (h : Peek c H G v (.bool i)) : v = .bl i := by cases (show Dg c.K G v (.bool i) from h); rfl
theorem Peek.str {H G : Hp} {v : V} {i : List Nat} (h : Peek c H G v (.str i)) : v = .str (sT i) := by cases (show Dg c.K G v (.str i) from h); rfl
theorem Peek.non {H G : Hp} {v : V} (h : Peek c H G v .none) : v = .non := by cases (show Dg c.K G v .none from h); rfl
theorem Peek.tup {H G : Hp} {v : V} {ds : List D} (h : Peek c H G v (.tup ds)) : ∃ a xs, v = .ref a ∧ SqT c.K G a xs ∧ Dgs c.K G xs ds := by
  cases (show Dg c.K G v (.tup ds) from h) with
  | tup h1 r1 => exact ⟨_, _, rfl, h1, r1⟩
theorem op_dAdd : OpR X (binaryOp .Add) (fun x y H Q => (∃ i j, x = .int i ∧ y = .int j ∧ Q (.int (i + j)) H) ∨ (∃ i j, x = .str i ∧ y = .str j ∧ i.length + j.length ≤ sizeLine ∧ Q (.str (i ++ j)) H) ∨ rCat x y H Q) := opR_or op_add (opR_or op_add_str op_cat)
theorem od_add : OpD c dAdd (fun x y H Q => (∃ i j, x = .int i ∧ y = .int j ∧ Q (.int (i + j)) H) ∨ (∃ i j, x = .str i ∧ y = .str j ∧ i.length + j.length ≤ sizeLine ∧ Q (.str (i ++ j)) H) ∨ rCat x y H Q) := by
  intro σ H G s x y v u Qr Q R hx hy h F
  unfold dAdd at h
  split at h
  · exact .inl ⟨_, _, hx.int, hy.int, F.val R h (.int _)⟩
  · obtain ⟨h1, h2⟩ := h
    refine .inr (.inl ⟨_, _, hx.str, hy.str, by rw [len_sT, len_sT, ← lineEq]; exact h1, ?_⟩)
    rw [sT_append]
    exact F.val R h2 (.str _)
  · obtain ⟨h1, h2⟩ := h
    obtain ⟨a, xs, e1, q1, q2, _⟩ := hx
    obtain ⟨b, ys, e2, q3, q4, _⟩ := hy
    exact .inr (.inr ⟨a, b, xs, ys, e1, e2, q1, q3, by rw [q2.length, q4.length, ← lineEq]; exact h1, fun p n => F.own R h2 (q2.append q4) n⟩)
  · exact h.elim
theorem de_add (ha : PE X a (tE c m1)) (hb : PE X b (tE c m2)) : PE X (.BinOp a .Add b pos) (tE c (mBin dAdd m1 m2)) := de_bin op_dAdd od_add ha hb
theorem de_sub (ha : PE X a (tE c m1)) (hb : PE X b (tE c m2)) : PE X (.BinOp a .Sub b pos) (tE c (mBin dSub m1 m2)) := de_bin op_sub (by
  intro σ H G s x y v u Qr Q R hx hy h F
  unfold dSub at h
  split at h
  · exact ⟨_, _, hx.int, hy.int, F.val R h (.int _)⟩
  · exact h.elim) ha hb
theorem rep_flat (l : List Nat) : ∀ (n : Nat) (acc : Array Nat), ((List.replicate n (sT l).cps).foldl (· ++ ·) acc).toList = acc.toList ++ (List.replicate n l).flatten
  | 0, acc => by simp
  | n + 1, acc => by
    rw [List.replicate_succ, List.foldl_cons, rep_flat l n, List.replicate_succ, List.flatten_cons]
    simp
theorem txt_mul (l : List Nat) (n : Int) : Txt.mul (sT l) n = sT (List.replicate n.toNat l).flatten := by
  unfold Txt.mul
  by_cases h1 : n < 1
  · rw [if_pos h1, show n.toNat = 0 by omega]
    rfl
  · rw [if_neg h1]
    by_cases h2 : (n == 1 || (sT l).length == 0) = true
    · rw [if_pos h2]
      rw [Bool.or_eq_true, beq_iff_eq, beq_iff_eq] at h2
      rcases h2 with h2 | h2
      · subst h2
        simp
      · rw [len_sT] at h2
        have : l = [] := List.eq_nil_of_length_eq_zero h2
        subst this
        simp
    · rw [if_neg h2]
      have := rep_flat l n.toNat #[]
      unfold sT
      congr 1
      rw [← Array.toList_inj, this]
      simp
theorem op_mul_str : OpR X (binaryOp .Mult) (fun x y H Q => ∃ (l : List Nat) (n : Int), x = .str (sT l) ∧ y = .int n ∧ -(2 ^ 63) ≤ n ∧ n < 2 ^ 63 ∧ l.length * n.toNat ≤ sizeLine ∧ Q (.str (sT (List.replicate n.toNat l).flatten)) H) := by
  intro pins s σ H x y v u Q I rx ry h
  obtain ⟨l, n, rfl, rfl, h1, h2, h3, q⟩ := h
  obtain ⟨t, rfl⟩ := rx
  obtain ⟨t', rfl⟩ := ry
  have line : sizeLine = 16777216 := by rw [sizeLine_eq]
  refine SB.mul (x := sT l) ⟨?_, fun n1 n2 => ?_, fun n1 n2 => ?_⟩ fun t' k => ⟨.str (sT (List.replicate n.toNat l).flatten), H, I.kept (t' := k) fun _ _ z => z, ⟨t', by rw [txt_mul]⟩, q⟩
  · rw [decide_eq_false (by omega), decide_eq_false (by omega)]; rfl
  · rw [len_sT]
    refine Int.not_lt.mpr (Int.le_ediv_of_mul_le (by omega) ?_)
    have e : (l.length : Int) * n = ((l.length * n.toNat : Nat) : Int) := by rw [Int.natCast_mul, Int.toNat_of_nonneg (by omega)]
    rw [e]
    omega
  · rw [len_sT]
    unfold Builtin.Str.tooLong
    exact decide_eq_false (by omega)
theorem de_mul (ha : PE X a (tE c m1)) (hb : PE X b (tE c m2)) : PE X (.BinOp a .Mult b pos) (tE c (mBin dMul m1 m2)) := de_bin (opR_or op_mulW (opR_or op_rep op_mul_str)) (by
  intro σ H G s x y v u Qr Q R hx hy h F
  unfold dMul at h
  split at h
  · exact Or.inl ⟨_, _, hx.int, hy.int, h.1, F.val R h.2 (.int _)⟩
  · obtain ⟨⟨h1, h2⟩, h3, h4⟩ := h
    obtain ⟨a, xs, e1, q1, q2, _⟩ := hx
    exact Or.inr (Or.inl ⟨a, _, xs, e1, hy.int, q1, h1, h2, by rw [q2.length, ← lineEq]; exact h3, fun p n => F.own R h4 (q2.rep _) n⟩)
  · obtain ⟨⟨h1, h2⟩, h3, h4⟩ := h
    exact Or.inr (Or.inr ⟨_, _, hx.str, hy.int, h1, h2, by rw [← lineEq]; exact h3, F.val R h4 (.str _)⟩)
  · exact h.elim) ha hb
theorem de_div (ha : PE X a (tE c m1)) (hb : PE X b (tE c m2)) : PE X (.BinOp a .FloorDiv b pos) (tE c (mBin dDiv m1 m2)) := de_bin op_fdivW (by
  intro σ H G s x y v u Qr Q R hx hy h F
  unfold dDiv at h
  split at h
  · exact ⟨_, _, hx.int, hy.int, ⟨h.1, h.2.1⟩, F.val R h.2.2 (.int _)⟩
  · exact h.elim) ha hb
theorem de_mod (ha : PE X a (tE c m1)) (hb : PE X b (tE c m2)) : PE X (.BinOp a .Mod b pos) (tE c (mBin dMod m1 m2)) := de_bin op_mod (by
  intro σ H G s x y v u Qr Q R hx hy h F
  unfold dMod at h
  split at h
  · exact ⟨_, _, hx.int, hy.int, h.1, F.val R h.2 (.int _)⟩
  · exact h.elim) ha hb
theorem de_pow (ha : PE X a (tE c m1)) (hb : PE X b (tE c m2)) : PE X (.BinOp a .Pow b pos) (tE c (mBin dPow m1 m2)) := de_bin op_pow (by
  intro σ H G s x y v u Qr Q R hx hy h F
  unfold dPow at h
  split at h
  · exact ⟨_, _, hx.int, hy.int, h.1, F.val R h.2 (.int _)⟩
  · exact h.elim) ha hb
/-! ### one place -/
def UnD (c : Ct) (f : D → (R → Prop) → Prop) (r : V → Hp → VK → Prop) : Prop := ∀ {σ : St} {H G : Hp} {s : S} {x : D} {v : V} {Qr : R → Prop} {Q : VK}, Rel c σ H G s → Peek c H G v x → f x Qr → Fin c σ H G s Qr Q → r v H Q
theorem mUn_run {f : D → (R → Prop) → Prop} {r : V → Hp → VK → Prop} (ho : UnD c f r) : ∀ σ H Q, tE c (mUn f m) σ H Q → tUn r (tE c m) σ H Q := by
  rintro σ H Q ⟨G, s, Q0, R, hm, hQ⟩
  refine ⟨G, s, _, R, hm, fun r1 s1 v1 H1 G1 q1 R1 S1 K1 O1 => ?_⟩
  exact ho R1 (O1.peek R1) q1 fun r v H' G' q R' S' K' O' => hQ r s1 v H' G' q R' (S1.trans S') (K1.trans K') O'
theorem de_neg (ha : PE X a (tE c m)) : PE X (.UnaryOp .USub a pos) (tE c (mUn dNeg m)) := pe_imp (pe_un un_neg ha) (mUn_run (by
  intro σ H G s x v Qr Q R hx h F
  unfold dNeg at h
  split at h
  · exact ⟨_, hx.int, F.val R h (.int _)⟩
  · exact h.elim))
/-! ### comparisons -/
theorem de_cmpR {op : CmpOp} {f : D → D → (R → Prop) → Prop} {r : R2} (hr : OpR X (compareOp op) r) (ho : OpD c f r) (ha : PE X a (tE c m1)) (hb : PE X b (tE c m2)) (hm : behindInMarks op b = false) : PE X (.Compare a [op] [b] pos) (tE c (mBin f m1 m2)) :=
  pe_imp (pe_cmpR hr ha hb hm) (mBin_run ho (ta := tE c m1) (tb := tE c m2))
theorem od_cmp {p : Int → Int → Bool} : OpD c (dCmp p) (rI0 fun i j => .bl (p i j)) := by
  intro σ H G s x y v u Qr Q R hx hy h F
  unfold dCmp at h
  split at h
  · exact ⟨_, _, hx.int, hy.int, F.val R h (.bl _)⟩
  · exact h.elim
theorem od_lt : OpD c dLt (fun x y H Q => (∃ i j, x = .int i ∧ y = .int j ∧ Q (.bl (decide (i < j))) H) ∨ (∃ i j, x = .str i ∧ y = .str j ∧ Q (.bl (decide (i.cps.toList < j.cps.toList))) H)) := by
  intro σ H G s x y v u Qr Q R hx hy h F
  unfold dLt at h
  split at h
  · exact .inl ⟨_, _, hx.int, hy.int, F.val R h (.bl _)⟩
  · exact .inr ⟨_, _, hx.str, hy.str, F.val R h (.bl _)⟩
  · exact h.elim
theorem de_lt (ha : PE X a (tE c m1)) (hb : PE X b (tE c m2)) : PE X (.Compare a [.Lt] [b] pos) (tE c (mBin dLt m1 m2)) := de_cmpR (opR_or op_lt op_lt_str) od_lt ha hb (nomark _)
theorem de_le (ha : PE X a (tE c m1)) (hb : PE X b (tE c m2)) : PE X (.Compare a [.LtE] [b] pos) (tE c (mBin dLe m1 m2)) := de_cmpR op_le od_cmp ha hb (nomark _)
theorem de_gt (ha : PE X a (tE c m1)) (hb : PE X b (tE c m2)) : PE X (.Compare a [.Gt] [b] pos) (tE c (mBin dGt m1 m2)) := de_cmpR op_gt od_cmp ha hb (nomark _)
theorem de_ge (ha : PE X a (tE c m1)) (hb : PE X b (tE c m2)) : PE X (.Compare a [.GtE] [b] pos) (tE c (mBin dGe m1 m2)) := de_cmpR op_ge od_cmp ha hb (nomark _)
end
end DL

/-! DLS3: equality, in, tests, displays, subscripts, calls. -/
namespace DL
open PySem PySem.Spec PyProof.Rows L2
mutual
def toP : D → PyData
  | .none => .none
  | .bool b => .bool b
  | .int i => .int i
  | .str s => .str (sT s)
  | .list ds => .list (toPs ds)
  | .tup ds => .tuple (toPs ds)
def toPs : List D → List PyData
  | [] => []
  | d :: ds => toP d :: toPs ds
end
theorem toPs_map : ∀ ds : List D, toPs ds = ds.map toP
  | [] => rfl
  | d :: ds => by rw [toPs, toPs_map ds]; rfl
theorem sT_beq (x y : List Nat) : (sT x == sT y) = (x == y) := by
  rw [Bool.eq_iff_iff]
  simp
mutual
theorem eqv_toP : ∀ d e : D, PyData.eqv (toP d) (toP e) = eqD d e
  | .none, e => by cases e <;> simp [toP, PyData.eqv, eqD]
  | .bool a, e => by cases e <;> simp [toP, PyData.eqv, eqD]
  | .int a, e => by cases e <;> simp [toP, PyData.eqv, eqD]
  | .str a, e => by
    cases e with
    | str b => simp only [toP, PyData.eqv, eqD]; exact sT_beq a b
    | _ => simp [toP, PyData.eqv, eqD]
  | .list xs, e => by
    cases e with
    | list ys => simp only [toP, PyData.eqv, eqD]; exact eqvs_toP xs ys
    | _ => simp [toP, PyData.eqv, eqD]
  | .tup xs, e => by
    cases e with
    | tup ys => simp only [toP, PyData.eqv, eqD]; exact eqvs_toP xs ys
    | _ => simp [toP, PyData.eqv, eqD]
theorem eqvs_toP : ∀ d e : List D, PyData.eqvAll (toPs d) (toPs e) = eqDs d e
  | [], [] => by simp [toPs, PyData.eqvAll, eqDs]
  | [], _ :: _ => by simp [toPs, PyData.eqvAll, eqDs]
  | _ :: _, [] => by simp [toPs, PyData.eqvAll, eqDs]
  | x :: xs, y :: ys => by
    simp only [toPs, PyData.eqvAll, eqDs]
    rw [eqv_toP x y, eqvs_toP xs ys]
end
theorem strOk_sT {s : List Nat} (h : (s.all fun c => decide (c < 1114112)) = true) : PyData.strOk (sT s) = true := by
  unfold PyData.strOk
  rw [← Array.all_toList]
  exact h
mutual
theorem okD_lay : ∀ (n : Nat) (d : D), okD n d = true → (toP d).canLay0 = true ∧ (toP d).depth ≤ n
  | n, .none, _ => by simp [toP, PyData.canLay0, PyData.depth]
  | n, .bool _, _ => by simp [toP, PyData.canLay0, PyData.depth]
  | n, .int _, _ => by simp [toP, PyData.canLay0, PyData.depth]
  | n, .str s, h => by
    have h' : (s.all fun c => decide (c < 1114112)) = true := by cases n <;> exact h
    refine ⟨?_, by simp [toP, PyData.depth]⟩
    simp only [toP, PyData.canLay0]
    exact strOk_sT h'
  | 0, .list _, h => by cases h
  | 0, .tup _, h => by cases h
  | n + 1, .list ds, h => by
    have q := okDs_lay n ds h
    simp only [toP, PyData.canLay0, PyData.depth]
    exact ⟨q.1, by omega⟩
  | n + 1, .tup ds, h => by
    have q := okDs_lay n ds h
    simp only [toP, PyData.canLay0, PyData.depth]
    exact ⟨q.1, by omega⟩
theorem okDs_lay : ∀ (n : Nat) (ds : List D), ds.all (okD n) = true → PyData.canLayAll0 (toPs ds) = true ∧ PyData.depthAll (toPs ds) ≤ n
  | n, [], _ => by simp [toPs, PyData.canLayAll0, PyData.depthAll]
  | n, d :: ds, h => by
    rw [List.all_cons, Bool.and_eq_true] at h
    have q1 := okD_lay n d h.1
    have q2 := okDs_lay n ds h.2
    simp only [toPs, PyData.canLayAll0, PyData.depthAll]
    exact ⟨by rw [q1.1, q2.1]; rfl, by omega⟩
end
theorem shaped_of {n : Nat} {d : D} (h : okD n d = true) (hn : n ≤ 64) : SeqAt.shaped (toP d) = true := by
  have q := okD_lay n d h
  unfold SeqAt.shaped
  rw [q.1, decide_eq_true (show (toP d).depth ≤ 64 by omega)]
  rfl
mutual
theorem Dg.dp {K : PySem.W.Frag} {G : Hp} : ∀ {v : V} {d : D}, Dg K G v d → Dp K G v (toP d)
  | _, _, .non => by simp only [toP]; exact .non
  | _, _, .bl b => by simp only [toP]; exact .bl b
  | _, _, .int b => by simp only [toP]; exact .int b
  | _, _, .str b => by simp only [toP]; exact .str _
  | _, _, .lst h r => by simp only [toP]; exact .lst (SqL.of h) (Dgs.dp r)
  | _, _, .tup h r => by simp only [toP]; exact .tup h (Dgs.dp r)
theorem Dgs.dp {K : PySem.W.Frag} {G : Hp} : ∀ {v : List V} {d : List D}, Dgs K G v d → DpAll K G v (toPs d)
  | _, _, .nil => by simp only [toPs]; exact .nil
  | _, _, .cons h r => by simp only [toPs]; exact .cons (Dg.dp h) (Dgs.dp r)
end
section
variable {X : Cx} {c : Ct} {a b e : Expr} {m m1 m2 m3 : M} {t t1 t2 : T} {pos : Pos} {σ : St} {H G : Hp} {s : S}
theorem Peek.dp (R : Rel c σ H G s) {v : V} {d : D} (h : Peek c H G v d) : Dp c.K H v (toP d) := by
  have go : ∀ {d : D}, Dg c.K G v d → Dp c.K H v (toP d) := fun h => (h.mono R.gH).dp
  cases d with
  | list ds =>
    obtain ⟨a, vs, e, h1, h2, _⟩ := h
    subst e
    exact (Dg.lst (ds := ds) h1 (h2.mono R.gH)).dp
  | _ => exact go h
theorem de_eq [o : Ok X c] (ha : PE X a (tE c m1)) (hb : PE X b (tE c m2)) : PE X (.Compare a [.Eq] [b] pos) (tE c (mBin dEq m1 m2)) := de_cmpR (op_eqD (X := X) (by have := o.hu; omega)) (by
  intro σ H G s x y v u Qr Q R hx hy h F
  obtain ⟨h1, h2, h3⟩ := h
  refine ⟨toP x, toP y, o.K ▸ hx.dp R, o.K ▸ hy.dp R, shaped_of h1 (by decide), shaped_of h2 (by decide), ?_⟩
  rw [eqv_toP]
  exact F.val R h3 (.bl _)) ha hb (nomark _)
theorem de_ne [o : Ok X c] (ha : PE X a (tE c m1)) (hb : PE X b (tE c m2)) : PE X (.Compare a [.NotEq] [b] pos) (tE c (mBin dNe m1 m2)) := de_cmpR (op_neD (X := X) (by have := o.hu; omega)) (by
  intro σ H G s x y v u Qr Q R hx hy h F
  obtain ⟨h1, h2, h3⟩ := h
  refine ⟨toP x, toP y, o.K ▸ hx.dp R, o.K ▸ hy.dp R, shaped_of h1 (by decide), shaped_of h2 (by decide), ?_⟩
  rw [eqv_toP]
  exact F.val R h3 (.bl _)) ha hb (nomark _)
theorem any_toP (x : D) : ∀ ds : List D, (toPs ds).any (fun z => PyData.eqv z (toP x)) = ds.any fun d => eqD d x
  | [] => rfl
  | d :: ds => by
    simp only [toPs, List.any_cons]
    rw [eqv_toP, any_toP x ds]
/-- x in (..), flat values -/
theorem flat_V {K : PySem.W.Frag} {v : V} {d : D} (h : Dg K G v d) (f : flatD d = true) : flatV v = true := by
  cases h with
  | lst _ _ => cases f
  | tup _ _ => cases f
  | _ => rfl
theorem flat_eq {K : PySem.W.Frag} {v u : V} {d e : D} (h : Dg K G v d) (h' : Dg K G u e) (f : flatD d = true) (f' : flatD e = true) : eqV v u = eqD d e := by
  cases h with
  | lst _ _ => cases f
  | tup _ _ => cases f
  | str x =>
    cases h' with
    | str y => simp only [eqV, eqD]; exact sT_beq _ _
    | lst _ _ => cases f'
    | tup _ _ => cases f'
    | _ => simp [eqV, eqD]
  | _ =>
    cases h' with
    | lst _ _ => cases f'
    | tup _ _ => cases f'
    | _ => simp [eqV, eqD]
theorem flat_Vs {K : PySem.W.Frag} : ∀ {v : List V} {d : List D}, Dgs K G v d → d.all flatD = true → v.all flatV = true
  | _, _, .nil, _ => rfl
  | _, _, .cons h r, f => by
    rw [List.all_cons, Bool.and_eq_true] at f
    rw [List.all_cons, flat_V h f.1, flat_Vs r f.2]
    rfl
theorem flat_in {K : PySem.W.Frag} {u : V} {x : D} (hu : Dg K G u x) (fx : flatD x = true) : ∀ {v : List V} {d : List D}, Dgs K G v d → d.all flatD = true → inV u v = d.any fun d => eqD d x
  | _, _, .nil, _ => rfl
  | _, _, .cons h r, f => by
    rw [List.all_cons, Bool.and_eq_true] at f
    unfold inV
    rw [List.any_cons, List.any_cons, flat_eq h hu f.1 fx]
    have ih := flat_in hu fx r f.2
    unfold inV at ih
    rw [ih]
theorem any_mem (c : Nat) (s : List Nat) : (s.any fun d => d == c) = decide (c ∈ s) := by
  rw [Bool.eq_iff_iff]
  simp
theorem Peek.dg {v : V} {d : D} (h : Peek c H G v d) (f : flatD d = true) : Dg c.K G v d := by
  cases d with
  | list _ => cases f
  | _ => exact h
theorem od_in [o : Ok X c] : OpD c (dIn false) (fun x y H Q => rInD X.K x y H Q ∨ rIn X.K false x y H Q ∨ ∃ (c : Nat) (z : Str), x = .str ⟨#[c]⟩ ∧ y = .str z ∧ Q (.bl (decide (c ∈ z.cps.toList))) H) := by
  intro σ H G s x y v u Qr Q R hx hy h F
  unfold dIn at h
  split at h
  · obtain ⟨h1, h2, h3⟩ := h
    rename_i ds
    refine .inl ⟨toP x, toPs ds, o.K ▸ hx.dp R, ?_, shaped_of h1 (by decide), shaped_of (n := 9) (d := .list ds) h2 (by decide), ?_⟩
    · have q := hy.dp R
      simp only [toP] at q
      exact o.K ▸ q
    · rw [any_toP]
      simpa using F.val R h3 (.bl _)
  · obtain ⟨h1, h2, h3⟩ := h
    obtain ⟨a, xs, e, q1, q2⟩ := hy.tup
    refine .inr (.inl ⟨a, xs, e, .inr (o.K ▸ same_seqT R.gH q1), flat_V (hx.dg h1) h1, flat_Vs q2 h2, ?_⟩)
    rw [if_neg Bool.false_ne_true, flat_in (hx.dg h1) h1 q2 h2]
    simpa using F.val R h3 (.bl _)
  · split at h
    · rename_i ch
      rename_i z _
      refine .inr (.inr ⟨ch, sT z, hx.str, hy.str, ?_⟩)
      rw [any_mem] at h
      simpa using F.val R h (.bl _)
    · exact h.elim
  · exact h.elim
theorem de_in [o : Ok X c] (ha : PE X a (tE c m1)) (hb : PE X b (tE c m2)) (hm : behindInMarks .In b = false := by with_unfolding_all rfl) : PE X (.Compare a [.In] [b] pos) (tE c (mBin (dIn false) m1 m2)) :=
  de_cmpR (opR_or (op_inD (X := X) (by have := o.hu; omega)) (opR_or op_in_seq op_in_sign)) od_in ha hb hm
theorem od_notIn [o : Ok X c] : OpD c (dIn true) (fun x y H Q => rNotInD X.K x y H Q ∨ rIn X.K true x y H Q ∨ ∃ (c : Nat) (z : Str), x = .str ⟨#[c]⟩ ∧ y = .str z ∧ Q (.bl (!decide (c ∈ z.cps.toList))) H) := by
  intro σ H G s x y v u Qr Q R hx hy h F
  unfold dIn at h
  split at h
  · obtain ⟨h1, h2, h3⟩ := h
    rename_i ds
    refine .inl ⟨toP x, toPs ds, o.K ▸ hx.dp R, ?_, shaped_of h1 (by decide), shaped_of (n := 9) (d := .list ds) h2 (by decide), ?_⟩
    · have q := hy.dp R
      simp only [toP] at q
      exact o.K ▸ q
    · rw [any_toP]
      simpa using F.val R h3 (.bl _)
  · obtain ⟨h1, h2, h3⟩ := h
    obtain ⟨a, xs, e, q1, q2⟩ := hy.tup
    refine .inr (.inl ⟨a, xs, e, .inr (o.K ▸ same_seqT R.gH q1), flat_V (hx.dg h1) h1, flat_Vs q2 h2, ?_⟩)
    rw [if_pos rfl, flat_in (hx.dg h1) h1 q2 h2]
    simpa using F.val R h3 (.bl _)
  · split at h
    · rename_i ch
      rename_i z _
      refine .inr (.inr ⟨ch, sT z, hx.str, hy.str, ?_⟩)
      rw [any_mem] at h
      simpa using F.val R h (.bl _)
    · exact h.elim
  · exact h.elim
theorem de_notIn [o : Ok X c] (ha : PE X a (tE c m1)) (hb : PE X b (tE c m2)) (hm : behindInMarks .NotIn b = false := by with_unfolding_all rfl) : PE X (.Compare a [.NotIn] [b] pos) (tE c (mBin (dIn true) m1 m2)) :=
  de_cmpR (opR_or (op_notInD (X := X) (by have := o.hu; omega)) (opR_or op_notIn_seq op_notIn_sign)) od_notIn ha hb hm
theorem Peek.nonIff {v : V} {d : D} (h : Peek c H G v d) : decide (v = V.non) = isN d := by
  cases d with
  | none => simp [h.non, isN]
  | bool b => simp [h.bool, isN]
  | int b => simp [h.int, isN]
  | str b => simp [h.str, isN]
  | list ds => obtain ⟨a, vs, e, _⟩ := h; simp [e, isN]
  | tup ds => obtain ⟨a, vs, e, _⟩ := h.tup; simp [e, isN]
theorem de_isN {j pos'} (ha : PE X a (tE c m)) : PE X (.Compare a [.Is] [.Constant .none j pos'] pos) (tE c (mUn dIsN m)) := by
  refine pe_imp (pe_cmp (pc_isN ha) (nobehind _ (by decide) (by decide))) ?_
  refine mUn_run (r := fun x H Q => Q (.bl (decide (x = .non))) H) ?_
  intro σ H G s x v Qr Q R hx h F
  rw [hx.nonIff]
  exact F.val R h (.bl _)
theorem de_isNotN {j pos'} (ha : PE X a (tE c m)) : PE X (.Compare a [.IsNot] [.Constant .none j pos'] pos) (tE c (mUn dIsNotN m)) := by
  refine pe_imp (pe_cmp (pc_notN ha) (nobehind _ (by decide) (by decide))) ?_
  refine mUn_run (r := fun x H Q => Q (.bl (!decide (x = .non))) H) ?_
  intro σ H G s x v Qr Q R hx h F
  rw [hx.nonIff]
  exact F.val R h (.bl _)
/-! ### tests -/
theorem Peek.truV (R : Rel c σ H G s) {v : V} {d : D} (h : Peek c H G v d) (hz : okT d) : TruV c.K v H (truth d) := by
  cases d with
  | none => rw [h.non]; rfl
  | bool b => rw [h.bool]; rfl
  | int b => rw [h.int]; rfl
  | str s =>
    rw [h.str]
    refine ⟨by rw [len_sT, ← lineEq]; exact hz, ?_⟩
    rw [len_sT]
    cases s with
    | nil => rfl
    | cons x r =>
      show true = (((r.length + 1 : Nat) : Int) != 0)
      symm
      rw [bne_iff_ne]
      omega
  | list ds =>
    obtain ⟨a, vs, e, h1, h2, _⟩ := h
    subst e
    refine .inl ⟨vs, SqL.of h1, ?_⟩
    cases h2 <;> rfl
  | tup ds =>
    obtain ⟨a, vs, e, h1, h2⟩ := h.tup
    subst e
    refine .inr (.inl ⟨vs, same_seqT R.gH h1, ?_⟩)
    cases h2 <;> rfl
end
end DL

/-! DLS4: tests, displays, subscripts, slices. -/
namespace DL
open PySem PySem.Spec PyProof.Rows L2
section
variable {X : Cx} {c : Ct} {a b e : Expr} {es : List Expr} {m m1 m2 m3 : M} {ms : Ms} {t t1 t2 : T} {pos : Pos} {σ : St} {H G : Hp} {s : S}
/-! ### tests -/
theorem pt_impX {X : Cx} {e : Expr} {t t' : TT} (h : PT X e t) (i : ∀ σ H Q, t' σ H Q → t σ H Q) : PT X e t' := pt_imp h i
theorem dt_val [o : Ok X c] (ha : PE X a (tE c m)) (he : ∀ whole, isTrue a X.env whole = (do let v ← whole; standAt a.pos; holding [v] (truthy v)) := by intro _; rfl) : PT X a (tT c (tV m)) := by
  refine pt_imp (pt_truth ha he) ?_
  rintro σ H Q ⟨G, s, Q0, R, hm, hQ⟩
  refine ⟨G, s, _, R, hm, fun r s' v H' G' q R' S' K' O' => ⟨truth r.d, o.K ▸ (O'.peek R').truV R' q.1, hQ _ s' H' G' q.2 R' S' K'⟩⟩
theorem tB_test : ∀ σ H Q, tT c (tB m) σ H Q → tTest (tE c m) σ H Q := by
  rintro σ H Q ⟨G, s, Q0, R, hm, hQ⟩
  refine ⟨G, s, _, R, hm, fun r s' v H' G' q R' S' K' O' => ?_⟩
  have p := O'.peek R'
  split at q
  · rename_i b e
    rw [e] at p
    exact ⟨b, p.bool, hQ _ s' H' G' q R' S' K'⟩
  · exact q.elim
theorem dt_cmpR {op : CmpOp} {f : D → D → (R → Prop) → Prop} {r : R2} (hr : OpR X (compareOp op) r) (ho : OpD c f r) (ha : PE X a (tE c m1)) (hb : PE X b (tE c m2)) (hm : behindInMarks op b = false) : PT X (.Compare a [op] [b] pos) (tT c (tB (mBin f m1 m2))) :=
  pt_imp (pt_cmpR hr ha hb hm) fun σ H Q h => mBin_run ho (ta := tE c m1) (tb := tE c m2) _ _ _ (tB_test _ _ _ h)
theorem dt_lt (ha : PE X a (tE c m1)) (hb : PE X b (tE c m2)) : PT X (.Compare a [.Lt] [b] pos) (tT c (tB (mBin dLt m1 m2))) := dt_cmpR (opR_or op_lt op_lt_str) od_lt ha hb (nomark _)
theorem dt_le (ha : PE X a (tE c m1)) (hb : PE X b (tE c m2)) : PT X (.Compare a [.LtE] [b] pos) (tT c (tB (mBin dLe m1 m2))) := dt_cmpR op_le od_cmp ha hb (nomark _)
theorem dt_gt (ha : PE X a (tE c m1)) (hb : PE X b (tE c m2)) : PT X (.Compare a [.Gt] [b] pos) (tT c (tB (mBin dGt m1 m2))) := dt_cmpR op_gt od_cmp ha hb (nomark _)
theorem dt_ge (ha : PE X a (tE c m1)) (hb : PE X b (tE c m2)) : PT X (.Compare a [.GtE] [b] pos) (tT c (tB (mBin dGe m1 m2))) := dt_cmpR op_ge od_cmp ha hb (nomark _)
theorem od_eq [o : Ok X c] : OpD c dEq (rEqD X.K) := by
  intro σ H G s x y v u Qr Q R hx hy h F
  obtain ⟨h1, h2, h3⟩ := h
  refine ⟨toP x, toP y, o.K ▸ hx.dp R, o.K ▸ hy.dp R, shaped_of h1 (by decide), shaped_of h2 (by decide), ?_⟩
  rw [eqv_toP]
  exact F.val R h3 (.bl _)
theorem od_ne [o : Ok X c] : OpD c dNe (rNeD X.K) := by
  intro σ H G s x y v u Qr Q R hx hy h F
  obtain ⟨h1, h2, h3⟩ := h
  refine ⟨toP x, toP y, o.K ▸ hx.dp R, o.K ▸ hy.dp R, shaped_of h1 (by decide), shaped_of h2 (by decide), ?_⟩
  rw [eqv_toP]
  exact F.val R h3 (.bl _)
theorem dt_eq [o : Ok X c] (ha : PE X a (tE c m1)) (hb : PE X b (tE c m2)) : PT X (.Compare a [.Eq] [b] pos) (tT c (tB (mBin dEq m1 m2))) := dt_cmpR (op_eqD (X := X) (by have := o.hu; omega)) od_eq ha hb (nomark _)
theorem dt_ne [o : Ok X c] (ha : PE X a (tE c m1)) (hb : PE X b (tE c m2)) : PT X (.Compare a [.NotEq] [b] pos) (tT c (tB (mBin dNe m1 m2))) := dt_cmpR (op_neD (X := X) (by have := o.hu; omega)) od_ne ha hb (nomark _)
theorem dt_in [o : Ok X c] (ha : PE X a (tE c m1)) (hb : PE X b (tE c m2)) (hm : behindInMarks .In b = false := by with_unfolding_all rfl) : PT X (.Compare a [.In] [b] pos) (tT c (tB (mBin (dIn false) m1 m2))) :=
  dt_cmpR (opR_or (op_inD (X := X) (by have := o.hu; omega)) (opR_or op_in_seq op_in_sign)) od_in ha hb hm
theorem dt_notIn [o : Ok X c] (ha : PE X a (tE c m1)) (hb : PE X b (tE c m2)) (hm : behindInMarks .NotIn b = false := by with_unfolding_all rfl) : PT X (.Compare a [.NotIn] [b] pos) (tT c (tB (mBin (dIn true) m1 m2))) :=
  dt_cmpR (opR_or (op_notInD (X := X) (by have := o.hu; omega)) (opR_or op_notIn_seq op_notIn_sign)) od_notIn ha hb hm
theorem dt_isN {j pos'} (ha : PE X a (tE c m)) : PT X (.Compare a [.Is] [.Constant .none j pos'] pos) (tT c (tB (mUn dIsN m))) := by
  refine pt_imp (pt_cmp (pc_isN ha) (nobehind _ (by decide) (by decide))) fun σ H Q h => ?_
  refine mUn_run (r := fun x H Q => Q (.bl (decide (x = .non))) H) ?_ _ _ _ (tB_test _ _ _ h)
  intro σ H G s x v Qr Q R hx h F
  rw [hx.nonIff]
  exact F.val R h (.bl _)
theorem dt_isNotN {j pos'} (ha : PE X a (tE c m)) : PT X (.Compare a [.IsNot] [.Constant .none j pos'] pos) (tT c (tB (mUn dIsNotN m))) := by
  refine pt_imp (pt_cmp (pc_notN ha) (nobehind _ (by decide) (by decide))) fun σ H Q h => ?_
  refine mUn_run (r := fun x H Q => Q (.bl (!decide (x = .non))) H) ?_ _ _ _ (tB_test _ _ _ h)
  intro σ H G s x v Qr Q R hx h F
  rw [hx.nonIff]
  exact F.val R h (.bl _)
variable {rest : List Expr}
theorem dw_and1 (ha : PT X a (tT c t)) : PW X (.BoolOp .And [a] pos) (tT c t) := pw_and1 ha
theorem dw_or1 (ha : PT X a (tT c t)) : PW X (.BoolOp .Or [a] pos) (tT c t) := pw_or1 ha
theorem dw_and (ha : PT X a (tT c t1)) (hb : PW X (.BoolOp .And (b :: rest) pos) (tT c t2)) : PW X (.BoolOp .And (a :: b :: rest) pos) (tT c (tAnd t1 t2)) := by
  refine pw_imp (pw_and ha hb) ?_
  rintro σ H Q ⟨G, s, Q0, R, hm, hQ⟩
  refine ⟨G, s, _, R, hm, fun k s1 H1 G1 q R1 S1 K1 => ?_⟩
  cases k with
  | true =>
    rw [if_pos rfl] at q ⊢
    exact ⟨G1, s1, Q0, R1, q, fun b s' H' G' q R' S' K' => hQ b s' H' G' q R' (S1.trans S') (K1.trans K')⟩
  | false =>
    rw [if_neg Bool.false_ne_true] at q ⊢
    exact hQ _ _ _ _ q R1 S1 K1
theorem dw_or (ha : PT X a (tT c t1)) (hb : PW X (.BoolOp .Or (b :: rest) pos) (tT c t2)) : PW X (.BoolOp .Or (a :: b :: rest) pos) (tT c (tOr t1 t2)) := by
  refine pw_imp (pw_or ha hb) ?_
  rintro σ H Q ⟨G, s, Q0, R, hm, hQ⟩
  refine ⟨G, s, _, R, hm, fun k s1 H1 G1 q R1 S1 K1 => ?_⟩
  cases k with
  | true =>
    rw [if_pos rfl] at q ⊢
    exact hQ _ _ _ _ q R1 S1 K1
  | false =>
    rw [if_neg Bool.false_ne_true] at q ⊢
    exact ⟨G1, s1, Q0, R1, q, fun b s' H' G' q R' S' K' => hQ b s' H' G' q R' (S1.trans S') (K1.trans K')⟩
theorem dt_not (ha : PT X a (tT c t)) : PT X (.UnaryOp .Not a pos) (tT c (tNot t)) := by
  refine pt_imp (pt_not ha) ?_
  rintro σ H Q ⟨G, s, Q0, R, hm, hQ⟩
  exact ⟨G, s, _, R, hm, fun k s1 H1 G1 q R1 S1 K1 => hQ _ _ _ _ q R1 S1 K1⟩
/-! ### and, or, not, if as values -/
theorem de_and (ha : PE X a (tE c m1)) (hb : PE X (.BoolOp .And (b :: rest) pos) (tE c m2)) : PE X (.BoolOp .And (a :: b :: rest) pos) (tE c (mAnd m1 m2)) := by
  refine pe_imp (pe_and ha hb) ?_
  rintro σ H Q ⟨G, s, Q0, R, hm, hQ⟩
  refine ⟨G, s, _, R, hm, fun r s1 v H1 G1 q R1 S1 K1 O1 => ?_⟩
  have p := O1.peek R1
  split at q
  · rename_i k e
    rw [e] at p
    refine ⟨k, p.bool, ?_⟩
    cases k with
    | true =>
      rw [if_pos rfl] at q ⊢
      exact ⟨G1, s1, Q0, R1, q, fun r s' v H' G' q R' S' K' O' => hQ r s' v H' G' q R' (S1.trans S') (K1.trans K') O'⟩
    | false =>
      rw [if_neg Bool.false_ne_true] at q ⊢
      exact hQ _ _ _ _ _ q R1 S1 K1 (.bl _)
  · exact q.elim
theorem de_or (ha : PE X a (tE c m1)) (hb : PE X (.BoolOp .Or (b :: rest) pos) (tE c m2)) : PE X (.BoolOp .Or (a :: b :: rest) pos) (tE c (mOr m1 m2)) := by
  refine pe_imp (pe_or ha hb) ?_
  rintro σ H Q ⟨G, s, Q0, R, hm, hQ⟩
  refine ⟨G, s, _, R, hm, fun r s1 v H1 G1 q R1 S1 K1 O1 => ?_⟩
  have p := O1.peek R1
  split at q
  · rename_i k e
    rw [e] at p
    refine ⟨k, p.bool, ?_⟩
    cases k with
    | true =>
      rw [if_pos rfl] at q ⊢
      exact hQ _ _ _ _ _ q R1 S1 K1 (.bl _)
    | false =>
      rw [if_neg Bool.false_ne_true] at q ⊢
      exact ⟨G1, s1, Q0, R1, q, fun r s' v H' G' q R' S' K' O' => hQ r s' v H' G' q R' (S1.trans S') (K1.trans K') O'⟩
  · exact q.elim
theorem de_one {op} (ha : PE X a (tE c m)) : PE X (.BoolOp op [a] pos) (tE c m) := pe_one ha
theorem de_not (ha : PE X a (tE c m)) : PE X (.UnaryOp .Not a pos) (tE c (mNot m)) := by
  refine pe_imp (pe_not ha) ?_
  rintro σ H Q ⟨G, s, Q0, R, hm, hQ⟩
  refine ⟨G, s, _, R, hm, fun r s1 v H1 G1 q R1 S1 K1 O1 => ?_⟩
  have p := O1.peek R1
  split at q
  · rename_i k e
    rw [e] at p
    exact ⟨k, p.bool, hQ _ _ _ _ _ q R1 S1 K1 (.bl _)⟩
  · exact q.elim
theorem de_if {d : Expr} (hc : PT X d (tT c t)) (ha : PE X a (tE c m1)) (hb : PE X b (tE c m2)) : PE X (.IfExp d a b pos) (tE c (mIf t m1 m2)) := by
  refine pe_imp (pe_ifExp hc ha hb) ?_
  rintro σ H Q ⟨G, s, Q0, R, hm, hQ⟩
  refine ⟨G, s, _, R, hm, fun k s1 H1 G1 q R1 S1 K1 => ?_⟩
  cases k with
  | true =>
    rw [if_pos rfl] at q ⊢
    exact ⟨G1, s1, Q0, R1, q, fun r s' v H' G' q R' S' K' O' => hQ r s' v H' G' q R' (S1.trans S') (K1.trans K') O'⟩
  | false =>
    rw [if_neg Bool.false_ne_true] at q ⊢
    exact ⟨G1, s1, Q0, R1, q, fun r s' v H' G' q R' S' K' O' => hQ r s' v H' G' q R' (S1.trans S') (K1.trans K') O'⟩
/-- a < b < c, by the operators' rules -/
theorem mChain_run {f g : D → D → (R → Prop) → Prop} {r r' : R2} (ho : OpD c f r) (ho' : OpD c g r') : ∀ σ H Q, tE c (mChain f g m1 m2 m3) σ H Q → tChain r r' (tE c m1) (tE c m2) (tE c m3) σ H Q := by
  rintro σ H Q ⟨G, s, Q0, R, hm, hQ⟩
  refine ⟨G, s, _, R, hm, fun r1 s1 v1 H1 G1 q1 R1 S1 K1 O1 => ⟨G1, s1, _, R1, q1, fun r2 s2 v2 H2 G2 q2 R2 S2 K2 O2 => ?_⟩⟩
  refine ho R2 ((O1.peek R1).keep S2 K2) (O2.peek R2) q2 fun r v H3 G3 q R3 S3 K3 O3 => ?_
  have p := O3.peek R3
  split at q
  · rename_i k e
    rw [e] at p
    refine ⟨k, p.bool, ?_⟩
    cases k with
    | true =>
      rw [if_pos rfl] at q ⊢
      refine ⟨G3, s2, _, R3, q, fun r4 s4 v4 H4 G4 q4 R4 S4 K4 O4 => ?_⟩
      refine ho' R4 (((O2.peek R2).keep S3 K3).keep S4 K4) (O4.peek R4) q4 fun r v H' G' q R' S' K' O' => hQ r s4 v H' G' q R' ((((S1.trans S2).trans S3).trans S4).trans S') ((((K1.trans K2).trans K3).trans K4).trans K') O'
    | false =>
      rw [if_neg Bool.false_ne_true] at q ⊢
      exact hQ _ _ _ _ _ q R3 ((S1.trans S2).trans S3) ((K1.trans K2).trans K3) (.bl _)
  · exact q.elim
theorem de_chainI {op op' : CmpOp} {p p' : Int → Int → Bool} {d : Expr} (h1 : OpR X (compareOp op) (rI0 fun i j => .bl (p i j))) (h2 : OpR X (compareOp op') (rI0 fun i j => .bl (p' i j))) (ha : PE X a (tE c m1)) (hb : PE X b (tE c m2)) (hd : PE X d (tE c m3))
    (hm : lastMarks [op, op'] [b, d] = false := by with_unfolding_all rfl) : PE X (.Compare a [op, op'] [b, d] pos) (tE c (mChain (dCmp p) (dCmp p') m1 m2 m3)) := pe_imp (pe_chain h1 h2 ha hb hd hm) (mChain_run od_cmp od_cmp)
theorem dt_chainI {op op' : CmpOp} {p p' : Int → Int → Bool} {d : Expr} (h1 : OpR X (compareOp op) (rI0 fun i j => .bl (p i j))) (h2 : OpR X (compareOp op') (rI0 fun i j => .bl (p' i j))) (ha : PE X a (tE c m1)) (hb : PE X b (tE c m2)) (hd : PE X d (tE c m3))
    (hm : lastMarks [op, op'] [b, d] = false := by with_unfolding_all rfl) : PT X (.Compare a [op, op'] [b, d] pos) (tT c (tB (mChain (dCmp p) (dCmp p') m1 m2 m3))) := pt_imp (pt_chain h1 h2 ha hb hd hm) fun σ H Q h => mChain_run od_cmp od_cmp _ _ _ (tB_test _ _ _ h)
/-! ### argument lists, displays -/
theorem da_nil : PA X [] (tAs c msN) := pa_imp pa_nil fun σ H Q ⟨G, s, Q0, R, hm, hQ⟩ => hQ _ _ _ _ _ hm R (Same.refl _) Keep.refl .nil
theorem da_cons (ha : PE X e (tE c m)) (hr : PA X es (tAs c ms)) (hs : starEach (e :: es) X.env = (false, eval e X.env) :: starEach es X.env := by rfl) : PA X (e :: es) (tAs c (msC m ms)) := by
  refine pa_imp (pa_cons ha hr hs) ?_
  rintro σ H Q ⟨G, s, Q0, R, hm, hQ⟩
  refine ⟨G, s, _, R, hm, fun r s1 v H1 G1 q R1 S1 K1 O1 => ?_⟩
  obtain ⟨d, G2, q, R2, S2, dg⟩ := O1.frz R1 q
  exact ⟨G2, s1, _, R2, q, fun ds s' vs H' G' q R' S' K' dgs => hQ _ _ _ _ _ q R' ((S1.trans S2).trans S') (K1.trans K') (.cons (dg.mono S') dgs)⟩
theorem de_list (h : PA X es (tAs c ms)) : PE X (.List es pos) (tE c (mList ms)) := by
  refine pe_imp (pe_lst h) ?_
  rintro σ H Q ⟨G, s, Q0, R, hm, hQ⟩
  refine ⟨G, s, _, R, hm, fun ds s1 vs H1 G1 q R1 S1 K1 dgs => ⟨by rw [dgs.length, ← lineEq]; exact q.1, fun p n => ?_⟩⟩
  exact hQ _ _ _ _ _ q.2 (R1.newL n) S1 (K1.trans (Keep.upd n)) (R1.own_new n dgs)
theorem de_tup {x1} (h : PA X es (tAs c ms)) : PE X (.Tuple es x1 pos) (tE c (mTup ms)) := by
  refine pe_imp (pe_tup h) ?_
  rintro σ H Q ⟨G, s, Q0, R, hm, hQ⟩
  refine ⟨G, s, _, R, hm, fun ds s1 vs H1 G1 q R1 S1 K1 dgs => ⟨by rw [dgs.length, ← lineEq]; exact q.1, fun p n => ?_⟩⟩
  obtain ⟨R2, sm⟩ := R1.newG (o := .tup vs) n
  exact hQ _ _ _ _ _ q.2 R2 (S1.trans sm) (K1.trans (Keep.upd n)) (.tup (SqT.of upd_same) (dgs.mono sm))
/-! ### subscripts -/
theorem at_dgs {K : PySem.W.Frag} {vs : List V} {ds : List D} {i : Int} {d : D} (h : Dgs K G vs ds) (e : atI ds i = some d) : ∃ v, L2.atI vs i = some v ∧ Dg K G v d := by
  unfold atI at e
  unfold L2.atI
  rw [show L2.ixN vs.length i = ixN ds.length i by rw [h.length]; rfl]
  cases q : ixN ds.length i with
  | none => rw [q] at e; cases e
  | some j =>
    rw [q] at e
    obtain ⟨v, h1, h2⟩ := h.get (i := j) e
    exact ⟨v, h1, h2⟩
theorem od_ix [o : Ok X c] : OpD c dIx (rIx X.K) := by
  intro σ H G s x y v u Qr Q R hx hy h F
  unfold dIx at h
  split at h
  · obtain ⟨d, e, q⟩ := h
    obtain ⟨a, vs, e1, h1, h2, _⟩ := hx
    obtain ⟨w, e2, dg⟩ := at_dgs h2 e
    exact .inl ⟨a, vs, _, w, e1, hy.int, SqL.of h1, e2, F.val R q dg⟩
  · obtain ⟨d, e, q⟩ := h
    obtain ⟨a, vs, e1, h1, h2⟩ := hx.tup
    obtain ⟨w, e2, dg⟩ := at_dgs h2 e
    exact .inr (.inl ⟨a, vs, _, w, e1, hy.int, o.K ▸ same_seqT R.gH h1, e2, F.val R q dg⟩)
  · obtain ⟨h0, ch, e, q⟩ := h
    exact .inr (.inr ⟨_, _, ch, hx.str, hy.int, by rw [len_sT, ← lineEq]; exact h0, e, F.val R q (.str [ch])⟩)
  · exact h.elim
theorem de_ix [o : Ok X c] (ha : PE X a (tE c m1)) (hb : PE X b (tE c m2)) (hs : PlainIx b := by intro _ _; rfl) : PE X (.Subscript a b pos) (tE c (mBin dIx m1 m2)) := pe_imp (pe_ix ix_seq ha hb hs) (mBin_run od_ix (ta := tE c m1) (tb := tE c m2))
/-- slices -/
def tO (c : Ct) (mo : MO) : TO := fun σ H Q => ∃ G s Q0, Rel c σ H G s ∧ mo s Q0 ∧ ∀ o s' H' G', Q0 o s' → Rel c σ H' G' s' → Same G G' → Keep c H H' → Q o H'
theorem po_imp {X : Cx} {e : Option Expr} {t t' : TO} (h : PO X e t) (i : ∀ σ H Q, t' σ H Q → t σ H Q) : PO X e t' := ⟨fun pins s σ H Q I q => h.run pins s σ H Q I (i σ H Q q)⟩
theorem do_none : PO X none (tO c oN) := po_imp po_none fun σ H Q ⟨G, s, Q0, R, hm, hQ⟩ => hQ _ _ _ _ hm R (Same.refl _) Keep.refl
theorem do_some (h : PE X e (tE c m)) : PO X (some e) (tO c (oS m)) := by
  refine po_imp (po_some h) ?_
  rintro σ H Q ⟨G, s, Q0, R, hm, hQ⟩
  refine ⟨G, s, _, R, hm, fun r s1 v H1 G1 q R1 S1 K1 O1 => ?_⟩
  have p := O1.peek R1
  split at q
  · rename_i i e
    rw [e] at p
    exact ⟨i, p.int, hQ _ _ _ _ q R1 S1 K1⟩
  · exact q.elim
variable {lo hi : Option Expr} {ol oh : MO} {p2 : Pos}
theorem Dgs.cut {K : PySem.W.Frag} {vs : List V} {ds : List D} (h : Dgs K G vs ds) (l u : Option Int) : Dgs K G (cutV vs l u) (DL.cut ds l u) := by
  unfold cutV DL.cut
  rw [h.length]
  exact (h.drop _).take _
theorem cutS_sT (z : List Nat) (l u : Option Int) : cutS (sT z) l u = sT (DL.cut z l u) := by
  unfold cutS DL.cut
  rw [len_sT]
  rfl
theorem de_slice [o : Ok X c] (he : PE X e (tE c m)) (hl : PO X lo (tO c ol)) (hu : PO X hi (tO c oh)) : PE X (.Subscript e (.Slice lo hi none p2) pos) (tE c (mSl m ol oh)) := by
  refine pe_imp (pe_slice (sl_list.or sl_str) he hl hu) ?_
  rintro σ H Q ⟨G, s, Q0, R, hm, hQ⟩
  refine ⟨G, s, _, R, hm, fun r s1 v H1 G1 q1 R1 S1 K1 O1 => ⟨G1, s1, _, R1, q1, fun l s2 H2 G2 q2 R2 S2 K2 => ⟨G2, s2, _, R2, q2, fun u s3 H3 G3 q R3 S3 K3 => ?_⟩⟩⟩
  have p := ((O1.peek R1).keep S2 K2).keep S3 K3
  have sm := (S1.trans S2).trans S3
  have kp := (K1.trans K2).trans K3
  split at q
  · rename_i ds e
    rw [e] at p
    obtain ⟨a, vs, e1, h1, h2, _⟩ := p
    refine .inl ⟨a, vs, e1, SqL.of h1, fun x n => ?_⟩
    exact hQ _ _ _ _ _ q (R3.newL n) sm (kp.trans (Keep.upd n)) (R3.own_new n (h2.cut l u))
  · rename_i z e
    rw [e] at p
    refine .inr ⟨_, p.str, by rw [len_sT, ← lineEq]; exact q.1, ?_⟩
    rw [cutS_sT]
    exact hQ _ _ _ _ _ q.2 R3 sm kp (.str _)
  · exact q.elim
end
end DL

/-! DLS5: [::-1], calls, built-in functions. -/
namespace DL
open PySem PySem.Spec PyProof.Rows L2
section
variable {X : Cx} {c : Ct} {a b e : Expr} {es : List Expr} {m m1 m2 m3 : M} {ms : Ms} {t t1 t2 : T} {pos : Pos} {σ : St} {H G : Hp} {s : S}
theorem slice_rev (x : Str) : ((Builtin.Str.strSliceIndices none none (-1) x.length).filterMap (x.cps[·]?)) = x.cps.toList.reverse := by
  have e : Builtin.Str.strSliceIndices none none (-1) x.length = (List.range x.length).reverse := by
    unfold Builtin.Str.strSliceIndices
    simp only [show ¬ ((-1 : Int) > 0) by decide, if_false]
    rw [PySem.W.krv_sliceRange, PySem.W.krv_range]
  rw [e, List.filterMap_reverse]
  show ((List.range x.cps.size).filterMap (x.cps[·]?)).reverse = _
  rw [PySem.W.krv_all]
def tRevS (K : PySem.W.Frag) (te : TE) : TE := fun σ H Q => te σ H fun x H1 => (∃ a xs, x = .ref a ∧ SqL K H1 a xs ∧ ∀ p, H1 p = none → Q (.ref p) (upd H1 p (.lst xs.reverse))) ∨
  ∃ z : List Nat, x = .str (sT z) ∧ z.length ≤ LINE ∧ Q (.str (sT z.reverse)) H1
theorem pe_revX {e : Expr} {te : TE} {k : Nat} {p1 p2 p3 pos : Pos} (he : PE X e te) : PE X (.Subscript e (.Slice none none (some (.UnaryOp .USub (.Constant (.int 1) k p1) p2)) p3) pos) (tRevS X.K te) := by
  refine ⟨fun pins s σ H Q I h => ?_⟩
  refine Subscript_ (thn (he.run pins s σ H _ I h) fun v s1 ⟨x, H1, I1, r1, q1⟩ => ?_)
  have hst : PO X (some (.UnaryOp .USub (.Constant (.int 1) k p1) p2)) (tPart (tUn (rU fun i => .int (-i)) (tC (.int 1)))) := po_some (pe_un un_neg pe_int)
  refine wpAny_Slice (thn (po_none.run pins s1 σ H1 (fun o H2 => o = none ∧ H2 = H1) I1 ⟨rfl, rfl⟩) fun vl s2 ⟨l, H2, I2, pl, el, e2⟩ => ?_)
  subst el e2
  refine thn (po_none.run pins s2 σ H2 (fun o H3 => o = none ∧ H3 = H2) I2 ⟨rfl, rfl⟩) fun vu s3 ⟨u, H3, I3, pu, eu, e3⟩ => ?_
  subst eu e3
  refine thn (hst.run pins s3 σ H3 (fun o H4 => o = some (-1) ∧ H4 = H3) I3 ⟨1, rfl, -1, rfl, rfl, rfl⟩) fun vs s4 ⟨o, H4, I4, ps, eo, e4⟩ => ?_
  subst eo e4
  have I5 : Inv X pins σ H4 { s4 with heap := s4.heap.push { cls := .type "slice", data := .fields #[vl, vu, vs] } } := I4.kept (t' := s4.toks) fun b ob q => Heap.get?_push_of_some _ q
  rcases q1 with ⟨a, xs, ex, hx, q⟩ | ⟨z, ex, hz, q⟩
  · subst ex
    cases r1
    obtain ⟨its, r, ht, hz⟩ := I5.list hx
    have hlen := r.length
    show wpAny (model X.prog X.w) X.A (subscriptTail e (.Slice none none (some (.UnaryOp .USub (.Constant (.int 1) k p1) p2)) p3) (.ref a) (.ref s4.heap.objs.size)) (EP X pins σ Q) X.xe { s4 with heap := s4.heap.push { cls := .type "slice", data := .fields #[vl, vu, vs] } }
    refine tail_any (ops := [.ref a, .ref s4.heap.objs.size]) ht.isList.typeIs (PySem.slot_list_getitem.lookup) ?_ (by with_unfolding_all rfl)
    refine wpAny_getItem_list_slice ht.isList (Heap.IsSliceOf.new _ vl vu vs) pl pu ps (by decide) ?_ (by rw [List.size_toArray]; omega)
    rw [PySem.W.krv_pick]
    refine ⟨.ref _, _, I5.laid (t' := s4.toks) (o := .lst xs.reverse) (fun b ob q => Heap.get?_push_of_some _ q) (Nat.le_refl _) ?_, rfl, q _ (I5.hok.fresh (Nat.le_refl _))⟩
    exact ⟨by rw [List.length_reverse]; exact hz, _, 0, r.reverse, Heap.get?_push_size _ rfl⟩
  · subst ex
    obtain ⟨tk, rfl⟩ := r1
    show wpAny (model X.prog X.w) X.A (subscriptTail e (.Slice none none (some (.UnaryOp .USub (.Constant (.int 1) k p1) p2)) p3) (.str (sT z) tk) (.ref s4.heap.objs.size)) (EP X pins σ Q) X.xe { s4 with heap := s4.heap.push { cls := .type "slice", data := .fields #[vl, vu, vs] } }
    refine tail_any (ops := [.str (sT z) tk, .ref s4.heap.objs.size]) (typeIs_str _ _ _) (F.slot_str_getitem.lookup) ?_ (by with_unfolding_all rfl)
    obtain ⟨l, rfl, el⟩ := IsPart.raw pl
    obtain ⟨u, rfl, eu⟩ := IsPart.raw pu
    obtain ⟨st, rfl, es⟩ := IsPart.raw ps
    have e1 : st.map (·.1) = some (-1) := es
    have e2 : l.map (·.1) = none := el
    have e3 : u.map (·.1) = none := eu
    refine wpAny_getItem_str_slice (l := l) (u := u) (st := st) (Heap.IsSliceOf.new _ _ _ _) (by rw [e1]; rfl) ?_
    unfold sliceMade slicePicked
    rw [e1, e2, e3]
    show Made.post (if ((-1 : Int) == 1 && _) = true then _ else _) _ _
    rw [if_neg (by intro z; rw [show ((-1 : Int) == 1) = false by decide, Bool.false_and] at z; cases z)]
    have er : ((Builtin.Str.strSliceIndices none none ((some (-1 : Int)).getD 1) (sT z).length).filterMap ((sT z).cps[·]?)) = z.reverse := slice_rev (sT z)
    rw [er]
    exact ⟨by show z.reverse.toArray.size ≤ sizeLine; rw [List.size_toArray, List.length_reverse, ← lineEq]; exact hz, .str _, H4, I5.tok _, ⟨_, rfl⟩, q⟩
theorem de_rev [o : Ok X c] {k : Nat} {p1 p2 p3 : Pos} (he : PE X e (tE c m)) : PE X (.Subscript e (.Slice none none (some (.UnaryOp .USub (.Constant (.int 1) k p1) p2)) p3) pos) (tE c (mRev m)) := by
  refine pe_imp (pe_revX he) ?_
  rintro σ H Q ⟨G, s, Q0, R, hm, hQ⟩
  refine ⟨G, s, _, R, hm, fun r s1 v H1 G1 q R1 S1 K1 O1 => ?_⟩
  have p := O1.peek R1
  split at q
  · rename_i ds e
    rw [e] at p
    obtain ⟨a, vs, e1, h1, h2, _⟩ := p
    exact .inl ⟨a, vs, e1, SqL.of h1, fun x n => hQ _ _ _ _ _ q (R1.newL n) S1 (K1.trans (Keep.upd n)) (R1.own_new n h2.reverse)⟩
  · rename_i z e
    rw [e] at p
    exact .inr ⟨z, p.str, q.1, hQ _ _ _ _ _ q.2 R1 S1 K1 (.str _)⟩
  · exact q.elim
/-! ### calls of defs -/
def ResR (K : PySem.W.Frag) (fa : Option Addr) (H H' G' : Hp) (v : V) : R → Prop
  | .val d => Dg K G' v d
  | .own ds => ∃ a vs, v = .ref a ∧ H' a = some (.lst vs) ∧ Dgs K G' vs ds ∧ G' a = none ∧ H a = none
  | .bor _ => False
structure Ret (K : PySem.W.Frag) (fa : Option Addr) (G0 H G' H' : Hp) (r : R) (v : V) : Prop where
  g0 : Same G0 G'
  gH : Same G' H'
  kH : ∀ b o, H b = some o → fa ≠ some b → H' b = some o
  gN : ∀ a o, G' a = some o → G0 a = some o ∨ H a = none
  res : ResR K fa H H' G' v r
/-- the promise of a def that has the meaning g -/
def spD (K : PySem.W.Frag) (g : Sem) : Sp := fun vs H Q _ => ∃ G0 ds w Qd, Same G0 H ∧ Dgs K G0 vs ds ∧ g ds w Qd ∧ ∀ r w' v H' G', Qd r w' → Ret K none G0 H G' H' r v → Q v H'
/-- .. whose first argument is the feed -/
def spF (K : PySem.W.Frag) (g : Sem) : Sp := fun vs H Q _ => ∃ fa us G0 ds w Qd, vs = .ref fa :: us ∧ Same G0 H ∧ FeedOk (some fa) H G0 w ∧ Dgs K G0 us ds ∧ g ds w Qd ∧
  ∀ r w' v H' G', Qd r w' → Ret K (some fa) G0 H G' H' r v → FeedOk (some fa) H' G' w' → Q v H'
/-- a def of the module that may be called here -/
structure Kn (X : Cx) (x : Str) (sp : Sp) : Prop where
  ex : ∃ (k : Nat) (f : Addr) (fd : FuncData) (ps : List Str), FnOk X.prog X.w X.K X.mg X.base CX0 k f fd ps sp ∧ Room k X.A ∧ X.mg x = some (.ref f) ∧ PySem.W.keepIn X.K (.ref f) = true ∧ Binds X.K fd ps []
theorem Rel.called (R : Rel c σ H G s) {r : DL.R} {v : V} {H' G' : Hp} (h : Ret c.K none G H G' H' r v) : Rel c σ H' G' s ∧ ResOk c σ H' G' s v r := by
  have R' : Rel c σ H' G' s := R.grow h.g0 h.gH (fun b o e _ => h.kH b o e (by simp)) h.gN fun a e => by
    obtain ⟨_, sa, q, _⟩ := R.fd a e
    rw [q]
    exact h.kH a _ q (by simp)
  refine ⟨R', ?_⟩
  have q := h.res
  cases r with
  | val d => exact q
  | own ds =>
    obtain ⟨a, vs, e, h1, h2, h3, h4⟩ := q
    obtain ⟨n1, n2, n3⟩ := R.h0 h4
    refine ⟨a, vs, e, h1, h2, h3, n1, n2, R.nrs h4, fun i hi ei => ?_⟩
    have z := R.sl i
    cases y : get s.v i with
    | own es =>
      rw [y] at z
      obtain ⟨b, us, e1, e2, _⟩ := z
      rw [ei] at e1
      cases e1
      rw [h4] at e2; cases e2
    | _ => rw [y] at hi; cases hi
  | bor ds => exact q.elim
theorem de_call {x : Str} {g : Sem} {p : Pos} [o : Ok X c] (F : Kn X x (spD X.K g)) (ha : PA X (e :: es) (tAs c ms)) (hg : Gl X x := by rfl) (hdb : (x == ("__debug__" : Str)) = false := by decide)
    (he : starEach (e :: es) X.env = (false, eval e X.env) :: starEach es X.env := by rfl) (hpl : (backTo pos (starEach es X.env)).any (·.1) = false := by rfl) : PE X (.Call (.Name x p) (e :: es) [] pos) (tE c (mCall g ms)) := by
  obtain ⟨k, f, fd, ps, F, hr, hm, hk, hb⟩ := F.ex
  refine pe_imp (pe_call F hr hg hm hk hb .nil pass0 ha hdb he hpl) ?_
  rintro σ H Q ⟨G, s, Q0, R, hm, hQ⟩
  refine ⟨G, s, _, R, hm, fun ds s1 vs H1 G1 q R1 S1 K1 dgs => ?_⟩
  show spD X.K g (vs ++ []) H1 Q _
  rw [List.append_nil]
  refine ⟨G1, ds, s1.w, _, R1.gH, o.K ▸ dgs, q, fun r w' v H' G' q2 h => ?_⟩
  have h' : Ret c.K none G1 H1 G' H' r v := o.K ▸ h
  obtain ⟨R', O'⟩ := R1.called h'
  have k2 : Keep c H1 H' := fun b o e _ => h.kH b o e (by simp)
  exact hQ _ _ _ _ _ q2 R' (S1.trans h.g0) (K1.trans k2) O'
theorem de_call0 {x : Str} {g : Sem} {p : Pos} [o : Ok X c] (F : Kn X x (spD X.K g)) (hg : Gl X x := by rfl) (hdb : (x == ("__debug__" : Str)) = false := by decide) : PE X (.Call (.Name x p) [] [] pos) (tE c (mCall g msN)) := by
  obtain ⟨k, f, fd, ps, F, hr, hm, hk, hb⟩ := F.ex
  refine pe_imp (pe_call0 F hr hg hm hk hb .nil pass0 hdb) ?_
  rintro σ H Q ⟨G, s, Q0, R, hm, hQ⟩
  refine ⟨G, [], s.w, _, R.gH, .nil, hm, fun r w' v H' G' q2 h => ?_⟩
  have h' : Ret c.K none G H G' H' r v := o.K ▸ h
  obtain ⟨R', O'⟩ := R.called h'
  have k2 : Keep c H H' := fun b o e _ => h.kH b o e (by simp)
  exact hQ _ _ _ _ _ q2 R' h.g0 k2 O'
/-- behind a call that has the feed -/
theorem Rel.calledF (R : Rel c σ H G s) {fa : Addr} (hfa : c.fa = some fa) {r : DL.R} {v : V} {w' : W} {H' G' : Hp} (h : Ret c.K (some fa) G H G' H' r v) (fd : FeedOk (some fa) H' G' w') : Rel c σ H' G' { s with w := w' } ∧ ResOk c σ H' G' { s with w := w' } v r := by
  have kp : Keep c H H' := fun b o e n => h.kH b o e (hfa ▸ n)
  have gnone : ∀ {a : Addr} {o : HO}, G a = none → H a = some o → G' a = none := fun {a o} n e => by
    cases q : G' a with
    | none => rfl
    | some u =>
      rcases h.gN a u q with z | z
      · rw [n] at z; cases z
      · rw [e] at z; cases z
  have R' : Rel c σ H' G' { s with w := w' } := by
    refine ⟨R.g0.trans h.g0, h.gH, fun b o e n => kp b o (R.kH b o e n) n, fun a o e => ?_, R.len, fun i => ?_, R.ap, hfa ▸ fd, fun a e => ?_⟩
    · rcases h.gN a o e with z | z
      · exact R.gN a o z
      · exact .inr (R.h0 z).1
    · have q := R.sl i
      show SlotOk c H' G' σ[i]? (get s.v i)
      cases e : get s.v i with
      | gone => trivial
      | val d =>
        rw [e] at q
        obtain ⟨v, h1, h2⟩ := q
        exact ⟨v, h1, h2.mono h.g0⟩
      | own ds =>
        rw [e] at q
        obtain ⟨a, vs, h1, h2, h3, h4, h5, h6, h7⟩ := q
        exact ⟨a, vs, h1, kp _ _ h2 h6, h3.mono h.g0, gnone h4 h2, h5, h6, h7⟩
      | feed => rw [e] at q; exact q
      | exn x =>
        rw [e] at q
        obtain ⟨a, cls, d, q1, q2, q3⟩ := q
        exact ⟨a, cls, d, q1, q2, q3.mono h.g0⟩
    · obtain ⟨q1, q2, o, q3⟩ := R.rs a e
      exact ⟨gnone q1 q3, q2, o, kp _ _ q3 q2⟩
  refine ⟨R', ?_⟩
  have q := h.res
  cases r with
  | val d => exact q
  | own ds =>
    obtain ⟨a, vs, e, h1, h2, h3, h4⟩ := q
    obtain ⟨n1, n2, n3⟩ := R.h0 h4
    refine ⟨a, vs, e, h1, h2, h3, n1, n2, R.nrs h4, fun i hi ei => ?_⟩
    have z := R.sl i
    have hi : (get s.v i).isOwn = true := hi
    cases y : get s.v i with
    | own es =>
      rw [y] at z
      obtain ⟨b, us, e1, e2, _⟩ := z
      rw [ei] at e1
      cases e1
      rw [h4] at e2; cases e2
    | _ => rw [y] at hi; cases hi
  | bor ds => exact q.elim
theorem de_callF {x y : Str} {g : Sem} {p p1 : Pos} (i : Nat) [o : Ok X c] (F : Kn X x (spF X.K g)) (ha : PA X es (tAs c ms)) (hN : X.N[i]? = some y := by rfl)
    (hv : Vis X.env.scope y := by first | exact Or.inl rfl | exact Or.inr (Or.inl rfl) | exact Or.inr (Or.inr rfl)) (hg : Gl X x := by rfl) (hdb : (x == ("__debug__" : Str)) = false := by decide) (hd : (y == ("__debug__" : Str)) = false := by decide)
    (hcd : (y == ("__classdict__" : Str)) = false := by decide) (he : starEach (Expr.Name y p1 :: es) X.env = (false, eval (Expr.Name y p1) X.env) :: starEach es X.env := by rfl) (hpl : (backTo pos (starEach es X.env)).any (·.1) = false := by rfl) :
    PE X (.Call (.Name x p) (.Name y p1 :: es) [] pos) (tE c (mCallF g i ms)) := by
  obtain ⟨k, f, fd, ps, F, hr, hm, hk, hb⟩ := F.ex
  refine pe_imp (pe_call F hr hg hm hk hb .nil pass0 (pa_cons (pe_var hN hv hd hcd) ha he) hdb he hpl) ?_
  rintro σ H Q ⟨G, s, Q0, R, hm, hQ⟩
  unfold mCallF at hm
  split at hm
  · rename_i ei
    obtain ⟨fa, e1, e2⟩ := R.at ei
    refine ⟨_, e1, G, s, _, R, hm, fun ds s1 vs H1 G1 q R1 S1 K1 dgs => ?_⟩
    show spF X.K g (.ref fa :: vs ++ []) H1 Q _
    rw [List.append_nil]
    refine ⟨fa, vs, G1, ds, s1.w, _, rfl, R1.gH, e2 ▸ R1.fd, o.K ▸ dgs, q, fun r w' v H' G' q2 h fd => ?_⟩
    have h' : Ret c.K (some fa) G1 H1 G' H' r v := o.K ▸ h
    obtain ⟨R', O'⟩ := R1.calledF e2 h' fd
    have k2 : Keep c H1 H' := fun b o e n => h.kH b o e (e2 ▸ n)
    exact hQ _ _ _ _ _ q2 R' (S1.trans h.g0) (K1.trans k2) O'
  · exact hm.elim
/-- feed[k] -/
theorem de_feed {y : Str} {p1 p2 : Pos} {j : Nat} (i k : Nat) [o : Ok X c] (hN : X.N[i]? = some y := by rfl)
    (hv : Vis X.env.scope y := by first | exact Or.inl rfl | exact Or.inr (Or.inl rfl) | exact Or.inr (Or.inr rfl)) (hd : (y == ("__debug__" : Str)) = false := by decide)
    (hcd : (y == ("__classdict__" : Str)) = false := by decide) : PE X (.Subscript (.Name y p1) (.Constant (.int k) j p2) pos) (tE c (mFeed i k)) := by
  refine pe_imp (pe_ix ix_list (pe_var hN hv hd hcd) pe_int (fun _ _ => rfl)) ?_
  rintro σ H Q ⟨G, s, Q0, R, hm, hQ⟩
  unfold mFeed at hm
  split at hm
  · rename_i ei
    obtain ⟨fa, e1, e2⟩ := R.at ei
    obtain ⟨h1, sa, h2, h3⟩ := R.fd fa e2
    refine ⟨_, e1, ?_⟩
    split at hm
    · exact ⟨fa, _, 0, .ref sa, rfl, rfl, SqL.of h2, rfl, hQ _ _ _ _ _ hm R (Same.refl _) Keep.refl (.lst h3 (Dgs.ofInts _))⟩
    · exact ⟨fa, _, 1, _, rfl, rfl, SqL.of h2, rfl, hQ _ _ _ _ _ hm R (Same.refl _) Keep.refl (.int _)⟩
    · exact ⟨fa, _, 2, _, rfl, rfl, SqL.of h2, rfl, hQ _ _ _ _ _ hm R (Same.refl _) Keep.refl (.int _)⟩
    · exact ⟨fa, _, 3, _, rfl, rfl, SqL.of h2, rfl, hQ _ _ _ _ _ hm R (Same.refl _) Keep.refl (.int _)⟩
    · exact hm.elim
  · exact hm.elim
end
end DL

/-! DLS6: built-in functions. -/
namespace DL
open PySem PySem.Spec PyProof.Rows L2
section
variable {X : Cx} {c : Ct} {a b e : Expr} {es : List Expr} {m m1 m2 m3 : M} {ms : Ms} {t t1 t2 : T} {pos p : Pos} {σ : St} {H G : Hp} {s : S} {x : Str} {id ty : String}
theorem mArg_run {f : D → (R → Prop) → Prop} {r : List V → Hp → VK → Prop} (ho : UnD c f (fun x H Q => r [x] H Q)) : ∀ σ H Q, tE c (mUn f m) σ H Q → tCB r (tCons (tE c m) tNil) σ H Q := by
  rintro σ H Q ⟨G, s, Q0, R, hm, hQ⟩
  refine ⟨G, s, _, R, hm, fun r1 s1 v1 H1 G1 q1 R1 S1 K1 O1 => ?_⟩
  exact ho R1 (O1.peek R1) q1 fun r v H' G' q R' S' K' O' => hQ r s1 v H' G' q R' (S1.trans S') (K1.trans K') O'
theorem mArg2_run {f : D → D → (R → Prop) → Prop} {r : List V → Hp → VK → Prop} (ho : OpD c f (fun x y H Q => r [x, y] H Q)) : ∀ σ H Q, tE c (mBin f m1 m2) σ H Q → tCB r (tCons (tE c m1) (tCons (tE c m2) tNil)) σ H Q := by
  rintro σ H Q ⟨G, s, Q0, R, hm, hQ⟩
  refine ⟨G, s, _, R, hm, fun r1 s1 v1 H1 G1 q1 R1 S1 K1 O1 => ⟨G1, s1, _, R1, q1, fun r2 s2 v2 H2 G2 q2 R2 S2 K2 O2 => ?_⟩⟩
  exact ho R2 ((O1.peek R1).keep S2 K2) (O2.peek R2) q2 fun r v H' G' q R' S' K' O' => hQ r s2 v H' G' q R' ((S1.trans S2).trans S') ((K1.trans K2).trans K') O'
theorem de_b1 {f : D → (R → Prop) → Prop} {r : List V → Hp → VK → Prop} [o : Ok X c] (hc : CallR X (.builtin id) r) (ho : UnD c f (fun x H Q => r [x] H Q)) (hb : x ∈ bltNames) (hv : bootBuiltins x = some (.builtin id)) (hn : x ≠ "__name__") (hdb : (x == ("__debug__" : Str)) = false)
    (ha : PE X a (tE c m)) (hg : Gl X x) (he : starEach [a] X.env = (false, eval a X.env) :: starEach [] X.env) : PE X (.Call (.Name x p) [a] [] pos) (tE c (mUn f m)) :=
  pe_imp (pe_callB hc hg (o.blt x hb) hv (pa_cons ha pa_nil he) hn hdb he rfl) (mArg_run ho)
theorem de_b2 {f : D → D → (R → Prop) → Prop} {r : List V → Hp → VK → Prop} [o : Ok X c] (hc : CallR X (.builtin id) r) (ho : OpD c f (fun x y H Q => r [x, y] H Q)) (hb : x ∈ bltNames) (hv : bootBuiltins x = some (.builtin id)) (hn : x ≠ "__name__") (hdb : (x == ("__debug__" : Str)) = false)
    (ha : PE X a (tE c m1)) (h2 : PE X b (tE c m2)) (hg : Gl X x) (he : starEach [a, b] X.env = (false, eval a X.env) :: starEach [b] X.env) (he2 : starEach [b] X.env = (false, eval b X.env) :: starEach [] X.env) (hpl : (backTo pos (starEach [b] X.env)).any (·.1) = false) :
    PE X (.Call (.Name x p) [a, b] [] pos) (tE c (mBin f m1 m2)) :=
  pe_imp (pe_callB hc hg (o.blt x hb) hv (pa_cons ha (pa_cons h2 pa_nil he2) he) hn hdb he hpl) (mArg2_run ho)
theorem de_t1 {f : D → (R → Prop) → Prop} {r : List V → Hp → VK → Prop} [o : Ok X c] (hc : CallR X (.type ty) r) (ho : UnD c f (fun x H Q => r [x] H Q)) (hb : x ∈ bltNames) (hv : bootBuiltins x = some (.type ty)) (hn : x ≠ "__name__") (hdb : (x == ("__debug__" : Str)) = false)
    (ha : PE X a (tE c m)) (hg : Gl X x) (he : starEach [a] X.env = (false, eval a X.env) :: starEach [] X.env) : PE X (.Call (.Name x p) [a] [] pos) (tE c (mUn f m)) :=
  pe_imp (pe_callTy hc hg (o.blt x hb) hv (pa_cons ha pa_nil he) hn hdb he rfl) (mArg_run ho)
theorem Peek.list {v : V} {ds : List D} (h : Peek c H G v (.list ds)) : ∃ a vs, v = .ref a ∧ H a = some (.lst vs) ∧ Dgs c.K G vs ds := by
  obtain ⟨a, vs, e, h1, h2, _⟩ := h
  exact ⟨a, vs, e, h1, h2⟩
theorem de_len [o : Ok X c] (ha : PE X a (tE c m)) (hg : Gl X "len" := by rfl) (he : starEach [a] X.env = (false, eval a X.env) :: starEach [] X.env := by rfl) : PE X (.Call (.Name "len" p) [a] [] pos) (tE c (mUn dLen m)) :=
  de_b1 call_len (by
    intro σ H G s x v Qr Q R hx h F
    unfold dLen at h
    split at h
    · obtain ⟨a, vs, e, h1, h2⟩ := hx.list
      exact ⟨v, _, rfl, by subst e; exact .inl ⟨vs, SqL.of h1, h2.length.symm⟩, F.val R h (.int _)⟩
    · obtain ⟨a, vs, e, h1, h2⟩ := hx.tup
      exact ⟨v, _, rfl, by subst e; exact .inr ⟨vs, o.K ▸ same_seqT R.gH h1, h2.length.symm⟩, F.val R h (.int _)⟩
    · exact ⟨v, _, rfl, by rw [hx.str]; exact ⟨by rw [len_sT, ← lineEq]; exact h.1, (len_sT _).symm⟩, F.val R h.2 (.int _)⟩
    · exact h.elim) (by decide +kernel) (by decide +kernel) (by decide +kernel) (by decide +kernel) ha hg he
theorem de_abs [o : Ok X c] (ha : PE X a (tE c m)) (hg : Gl X "abs" := by rfl) (he : starEach [a] X.env = (false, eval a X.env) :: starEach [] X.env := by rfl) : PE X (.Call (.Name "abs" p) [a] [] pos) (tE c (mUn dAbs m)) :=
  de_b1 call_abs (by
    intro σ H G s x v Qr Q R hx h F
    unfold dAbs at h
    split at h
    · exact ⟨_, by rw [hx.int], F.val R h (.int _)⟩
    · exact h.elim) (by decide +kernel) (by decide +kernel) (by decide +kernel) (by decide +kernel) ha hg he
theorem de_toInt [o : Ok X c] (ha : PE X a (tE c m)) (hg : Gl X "int" := by rfl) (he : starEach [a] X.env = (false, eval a X.env) :: starEach [] X.env := by rfl) : PE X (.Call (.Name "int" p) [a] [] pos) (tE c (mUn dInt m)) :=
  de_t1 call_int1 (by
    intro σ H G s x v Qr Q R hx h F
    unfold dInt at h
    split at h
    · exact .inl ⟨_, by rw [hx.int], F.val R h (.int _)⟩
    · exact .inr ⟨_, by rw [hx.bool], F.val R h (.int _)⟩
    · exact h.elim) (by decide +kernel) (by decide +kernel) (by decide +kernel) (by decide +kernel) ha hg he
theorem de_min2 [o : Ok X c] [cm : Calm X] (ha : PE X a (tE c m1)) (h2 : PE X b (tE c m2)) (hg : Gl X "min" := by rfl) (he : starEach [a, b] X.env = (false, eval a X.env) :: starEach [b] X.env := by rfl) (he2 : starEach [b] X.env = (false, eval b X.env) :: starEach [] X.env := by rfl)
    (hpl : (backTo pos (starEach [b] X.env)).any (·.1) = false := by rfl) : PE X (.Call (.Name "min" p) [a, b] [] pos) (tE c (mBin dMin2 m1 m2)) :=
  de_b2 (call_min2 cm.calm) (by
    intro σ H G s x y v u Qr Q R hx hy h F
    unfold dMin2 at h
    split at h
    · exact ⟨_, _, by rw [hx.int, hy.int], F.val R h (.int _)⟩
    · exact h.elim) (by decide +kernel) (by decide +kernel) (by decide +kernel) (by decide +kernel) ha h2 hg he he2 hpl
theorem de_max2 [o : Ok X c] [cm : Calm X] (ha : PE X a (tE c m1)) (h2 : PE X b (tE c m2)) (hg : Gl X "max" := by rfl) (he : starEach [a, b] X.env = (false, eval a X.env) :: starEach [b] X.env := by rfl) (he2 : starEach [b] X.env = (false, eval b X.env) :: starEach [] X.env := by rfl)
    (hpl : (backTo pos (starEach [b] X.env)).any (·.1) = false := by rfl) : PE X (.Call (.Name "max" p) [a, b] [] pos) (tE c (mBin dMax2 m1 m2)) :=
  de_b2 (call_max2 cm.calm) (by
    intro σ H G s x y v u Qr Q R hx hy h F
    unfold dMax2 at h
    split at h
    · exact ⟨_, _, by rw [hx.int, hy.int], F.val R h (.int _)⟩
    · exact h.elim) (by decide +kernel) (by decide +kernel) (by decide +kernel) (by decide +kernel) ha h2 hg he he2 hpl
theorem de_toList [o : Ok X c] (ha : PE X a (tE c m)) (hg : Gl X "list" := by rfl) (he : starEach [a] X.env = (false, eval a X.env) :: starEach [] X.env := by rfl) : PE X (.Call (.Name "list" p) [a] [] pos) (tE c (mUn dList m)) :=
  de_t1 call_list_of (by
    intro σ H G s x v Qr Q R hx h F
    unfold dList at h
    split at h
    · obtain ⟨a, vs, e, h1, h2⟩ := hx.list
      exact ⟨a, vs, by rw [e], .inl (SqL.of h1), fun p n => F.own R h h2 n⟩
    · obtain ⟨a, vs, e, h1, h2⟩ := hx.tup
      exact ⟨a, vs, by rw [e], .inr (o.K ▸ same_seqT R.gH h1), fun p n => F.own R h h2 n⟩
    · exact h.elim) (by decide +kernel) (by decide +kernel) (by decide +kernel) (by decide +kernel) ha hg he
theorem de_toTup [o : Ok X c] (ha : PE X a (tE c m)) (hg : Gl X "tuple" := by rfl) (he : starEach [a] X.env = (false, eval a X.env) :: starEach [] X.env := by rfl) : PE X (.Call (.Name "tuple" p) [a] [] pos) (tE c (mUn dTup m)) :=
  de_t1 call_tuple_of (by
    intro σ H G s x v Qr Q R hx h F
    unfold dTup at h
    split at h
    · obtain ⟨a, vs, e, h1, h2⟩ := hx.list
      exact ⟨a, vs, by rw [e], .inl ⟨SqL.of h1, fun p n => F.tup R h h2 n⟩⟩
    · have hx' := hx
      obtain ⟨a, vs, e, h1, h2⟩ := hx.tup
      exact ⟨a, vs, by rw [e], .inr ⟨o.K ▸ same_seqT R.gH h1, by subst e; exact F.val R h hx'⟩⟩
    · exact h.elim) (by decide +kernel) (by decide +kernel) (by decide +kernel) (by decide +kernel) ha hg he
theorem de_sum [o : Ok X c] [cm : Calm X] (ha : PE X a (tE c m)) (hg : Gl X "sum" := by rfl) (he : starEach [a] X.env = (false, eval a X.env) :: starEach [] X.env := by rfl) : PE X (.Call (.Name "sum" p) [a] [] pos) (tE c (mUn dSum m)) :=
  de_b1 (cr_sum cm.calm) (by
    intro σ H G s x v Qr Q R hx h F
    unfold dSum at h
    split at h
    · obtain ⟨ns, e0, q⟩ := h
      subst e0
      obtain ⟨a, vs, e, h1, h2⟩ := hx.list
      rw [h2.ints] at h1
      exact ⟨a, ns, by rw [e], SqL.of h1, F.val R q (.int _)⟩
    · exact h.elim) (by decide +kernel) (by decide +kernel) (by decide +kernel) (by decide +kernel) ha hg he
theorem de_min [o : Ok X c] [cm : Calm X] (ha : PE X a (tE c m)) (hg : Gl X "min" := by rfl) (he : starEach [a] X.env = (false, eval a X.env) :: starEach [] X.env := by rfl) : PE X (.Call (.Name "min" p) [a] [] pos) (tE c (mUn dMin m)) :=
  de_b1 (cr_min cm.calm) (by
    intro σ H G s x v Qr Q R hx h F
    unfold dMin at h
    split at h
    · obtain ⟨ns, e0, hl, q⟩ := h
      subst e0
      obtain ⟨a, vs, e, h1, h2⟩ := hx.list
      rw [h2.ints] at h1
      exact ⟨a, ns, by rw [e], SqL.of h1, hl, fun m h3 h4 => F.val R (q m h3 h4) (.int _)⟩
    · exact h.elim) (by decide +kernel) (by decide +kernel) (by decide +kernel) (by decide +kernel) ha hg he
theorem de_max [o : Ok X c] [cm : Calm X] (ha : PE X a (tE c m)) (hg : Gl X "max" := by rfl) (he : starEach [a] X.env = (false, eval a X.env) :: starEach [] X.env := by rfl) : PE X (.Call (.Name "max" p) [a] [] pos) (tE c (mUn dMax m)) :=
  de_b1 (cr_max cm.calm) (by
    intro σ H G s x v Qr Q R hx h F
    unfold dMax at h
    split at h
    · obtain ⟨ns, e0, hl, q⟩ := h
      subst e0
      obtain ⟨a, vs, e, h1, h2⟩ := hx.list
      rw [h2.ints] at h1
      exact ⟨a, ns, by rw [e], SqL.of h1, hl, fun m h3 h4 => F.val R (q m h3 h4) (.int _)⟩
    · exact h.elim) (by decide +kernel) (by decide +kernel) (by decide +kernel) (by decide +kernel) ha hg he
theorem de_all [o : Ok X c] [cm : Calm X] (ha : PE X a (tE c m)) (hg : Gl X "all" := by rfl) (he : starEach [a] X.env = (false, eval a X.env) :: starEach [] X.env := by rfl) : PE X (.Call (.Name "all" p) [a] [] pos) (tE c (mUn dAll m)) :=
  de_b1 (cr_all cm.calm) (by
    intro σ H G s x v Qr Q R hx h F
    unfold dAll at h
    split at h
    · obtain ⟨ns, e0, q⟩ := h
      subst e0
      obtain ⟨a, vs, e, h1, h2⟩ := hx.list
      rw [h2.bools] at h1
      exact ⟨a, ns, by rw [e], SqL.of h1, F.val R q (.bl _)⟩
    · exact h.elim) (by decide +kernel) (by decide +kernel) (by decide +kernel) (by decide +kernel) ha hg he
/-! ### isinstance -/
def tyN : D → String
  | .none => "NoneType"
  | .bool _ => "bool"
  | .int _ => "int"
  | .str _ => "str"
  | .list _ => "list"
  | .tup _ => "tuple"
def Ty.name : Ty → String
  | .int => "int"
  | .bool => "bool"
  | .str => "str"
  | .list => "list"
  | .tuple => "tuple"
theorem Peek.tyX [o : Ok X c] (R : Rel c σ H G s) {v : V} {d : D} (h : Peek c H G v d) : TyX X.K H v (.type (tyN d)) := by
  cases d with
  | none => rw [h.non]; exact .base .non
  | bool b => rw [h.bool]; exact .base (.bl b)
  | int b => rw [h.int]; exact .base (.int b)
  | str b => rw [h.str]; exact .base (.str _)
  | list ds =>
    obtain ⟨a, vs, e, h1, _⟩ := h
    rw [e]
    exact .base (.lst h1)
  | tup ds =>
    obtain ⟨a, vs, e, h1, _⟩ := h.tup
    rw [e]
    rcases same_seqT R.gH h1 with (z | ⟨ob, z⟩) | ⟨ob, its, n, z, z2, _⟩
    · exact .base (.tup z)
    · exact .fTuple z
    · exact .kTuple (o.K.symm ▸ z) z2
theorem kit_isTy {K : PySem.W.Frag} (d : D) (t : Ty) : PySem.W.kitOne K (.type (tyN d)) (.type t.name) = some (isTy d t) := by
  have tab : ∀ n ∈ (["NoneType", "bool", "int", "str", "list", "tuple"] : List String), ∀ t ∈ (["int", "bool", "str", "list", "tuple"] : List String), kitB n t = some (n == t || (n == "bool" && t == "int")) := by decide +kernel
  have h1 : tyN d ∈ (["NoneType", "bool", "int", "str", "list", "tuple"] : List String) := by cases d <;> simp [tyN]
  have h2 : t.name ∈ (["int", "bool", "str", "list", "tuple"] : List String) := by cases t <;> simp [Ty.name]
  have h3 : isTy d t = (tyN d == t.name || (tyN d == "bool" && t.name == "int")) := by
    cases d <;> cases t <;> (simp only [isTy, tyN, Ty.name]; decide +kernel)
  rw [h3]
  exact kit_ty (tab _ h1 _ h2)
theorem de_isI {y : Str} {p2 : Pos} (t : Ty) [o : Ok X c] (ha : PE X a (tE c m)) (hy : bootBuiltins y = some (.type t.name)) (hyb : y ∈ bltNames := by decide +kernel) (hg : Gl X "isinstance" := by rfl) (hgy : Gl X y := by rfl) (hn : y ≠ "__name__" := by decide +kernel) (hdb : (y == ("__debug__" : Str)) = false := by decide +kernel)
    (he : starEach [a, .Name y p2] X.env = (false, eval a X.env) :: starEach [.Name y p2] X.env := by rfl) (he2 : starEach [Expr.Name y p2] X.env = (false, eval (.Name y p2) X.env) :: starEach [] X.env := by rfl) (hpl : (backTo pos (starEach [Expr.Name y p2] X.env)).any (·.1) = false := by rfl) :
    PE X (.Call (.Name "isinstance" p) [a, .Name y p2] [] pos) (tE c (mIsI m t)) := by
  refine pe_imp (pe_callB call_isi hg (o.blt _ (by decide +kernel)) (by decide +kernel) (pa_cons ha (pa_cons (pe_bltn (v := .ty t.name) hgy (o.blt y hyb) hy rfl hn hdb) pa_nil he2) he) (by decide +kernel) (by decide +kernel) he hpl) ?_
  rintro σ H Q ⟨G, s, Q0, R, hm, hQ⟩
  refine ⟨G, s, _, R, hm, fun r1 s1 v1 H1 G1 q1 R1 S1 K1 O1 => ?_⟩
  have tx : TyX X.K H1 v1 (.type (tyN r1.d)) := (O1.peek R1).tyX R1
  exact ⟨v1, .ty t.name, _, _, _, rfl, .ty _, tx, kit_isTy _ _, hQ _ _ _ _ _ q1 R1 S1 K1 (.bl _)⟩
end
end DL

/-! DLS7: targets, what is walked, comprehensions. -/
namespace DL
open PySem PySem.Spec PyProof.Rows L2
/-! ### slots -/
theorem puts_length : ∀ (v : List Slot) (vs : List Nat) (y : Slot), (puts v vs y).length = v.length
  | _, [], _ => rfl
  | v, i :: r, y => by
    show (put (puts v r y) i y).length = _
    rw [put_length, puts_length]
theorem get_put_gone (v : List Slot) (i j : Nat) : get (put v i .gone) j = if j = i then .gone else get v j := by
  by_cases h : i < v.length
  · exact get_put v i j _ h
  · rw [put_out _ _ _ h]
    by_cases e : j = i
    · subst e; rw [if_pos rfl, get_out _ _ h]
    · rw [if_neg e]
theorem get_puts : ∀ (v : List Slot) (vs : List Nat) (j : Nat), get (puts v vs .gone) j = if j ∈ vs then .gone else get v j
  | _, [], j => by simp [puts]
  | v, i :: r, j => by
    show get (put (puts v r .gone) i .gone) j = _
    rw [get_put_gone, get_puts v r j]
    by_cases e : j = i
    · subst e; simp
    · by_cases h : j ∈ r
      · rw [if_neg e, if_pos h, if_pos (List.mem_cons_of_mem _ h)]
      · rw [if_neg e, if_neg h, if_neg (by simp [e, h])]
def keepV (x : Slot) : Slot := match x with
  | .val d => .val d
  | _ => .gone
theorem back_length (v0 : List Slot) : ∀ (v : List Slot) (vs : List Nat), (back v0 v vs).length = v.length
  | _, [] => rfl
  | v, i :: r => by
    show (put (back v0 v r) i _).length = _
    rw [put_length, back_length v0 v r]
theorem get_back (v0 : List Slot) : ∀ (v : List Slot) (vs : List Nat) (j : Nat), v.length = v0.length → get (back v0 v vs) j = if j ∈ vs then keepV (get v0 j) else get v j
  | _, [], j, _ => by simp [back]
  | v, i :: r, j, hl => by
    show get (put (back v0 v r) i (keepV (get v0 i))) j = _
    have ih := get_back v0 v r j hl
    by_cases hi : i < v.length
    · rw [get_put _ _ _ _ (by rw [back_length]; exact hi), ih]
      by_cases e : j = i
      · subst e; simp
      · by_cases h : j ∈ r
        · rw [if_neg e, if_pos h, if_pos (List.mem_cons_of_mem _ h)]
        · rw [if_neg e, if_neg h, if_neg (by simp [e, h])]
    · rw [put_out _ _ _ (by rw [back_length]; exact hi), ih]
      by_cases e : j = i
      · subst e
        rw [if_pos List.mem_cons_self]
        by_cases h : j ∈ r
        · rw [if_pos h]
        · rw [if_neg h, get_out _ _ hi, get_out _ _ (by rw [← hl]; exact hi)]
          rfl
      · by_cases h : j ∈ r
        · rw [if_pos h, if_pos (List.mem_cons_of_mem _ h)]
        · rw [if_neg h, if_neg (by simp [e, h])]
/-- the slots is alone may have changed -/
def Chg (is : List Nat) (σ σ' : St) : Prop := σ'.length = σ.length ∧ ∀ i, i ∉ is → σ'[i]? = σ[i]?
theorem Chg.refl {is : List Nat} {σ : St} : Chg is σ σ := ⟨rfl, fun _ _ => rfl⟩
theorem Chg.trans {is js : List Nat} {σ σ1 σ2 : St} (a : Chg is σ σ1) (b : Chg js σ1 σ2) : Chg (is ++ js) σ σ2 := ⟨b.1.trans a.1, fun i h => by
  rw [List.mem_append] at h
  exact (b.2 i fun z => h (.inr z)).trans (a.2 i fun z => h (.inl z))⟩
theorem Chg.set {i : Nat} {σ : St} {v : Option V} : Chg [i] σ (σ.set i v) := ⟨List.length_set, fun j h => List.getElem?_set_ne fun e => h (by simp [e])⟩
theorem wipe_at (σ : St) : ∀ (vs : List Nat) (i : Nat), (wipe σ vs)[i]? = if i ∈ vs then (if i < σ.length then some none else none) else σ[i]?
  | [], i => by simp [wipe]
  | v :: vs, i => by
    show ((wipe σ vs).set v none)[i]? = _
    have ih := wipe_at σ vs i
    by_cases e : v = i
    · subst e
      rw [if_pos List.mem_cons_self]
      by_cases h : v < σ.length
      · rw [if_pos h, List.getElem?_set_self (by rw [wipe_length]; exact h)]
      · rw [if_neg h, List.getElem?_eq_none (by rw [List.length_set, wipe_length]; omega)]
    · rw [List.getElem?_set_ne e, ih]
      by_cases h : i ∈ vs
      · rw [if_pos h, if_pos (List.mem_cons_of_mem _ h)]
      · rw [if_neg h, if_neg (by simp [Ne.symm e, h])]
theorem wipe_chg {σ σ' : St} {vs is : List Nat} (h : Chg is σ σ') (hs : ∀ i ∈ is, i ∈ vs) : wipe σ' vs = wipe σ vs := by
  apply List.ext_getElem?
  intro i
  rw [wipe_at, wipe_at, h.1]
  by_cases e : i ∈ vs
  · rw [if_pos e, if_pos e]
  · rw [if_neg e, if_neg e, h.2 i fun z => e (hs i z)]
theorem wipe_wipe (σ : St) (vs : List Nat) : wipe (wipe σ vs) vs = wipe σ vs := wipe_chg (is := vs) ⟨wipe_length _ _, fun i h => by rw [wipe_at, if_neg h]⟩ fun _ h => h
section
variable {X : Cx} {c : Ct} {a b e : Expr} {es : List Expr} {m m1 m2 m3 : M} {ms : Ms} {t t1 t2 : T} {pos p : Pos} {σ σ1 σ2 : St} {H G : Hp} {s : S} {x : Str} {id ty : String}
theorem Rel.slots (R : Rel c σ2 H G s) {v' : List Slot} (hl : v'.length = σ1.length) (sl : ∀ i, SlotOk c H G σ1[i]? (get v' i)) (ow : ∀ i, (get v' i).isOwn = true → (get s.v i).isOwn = true ∧ σ1[i]? = σ2[i]?) : Rel c σ1 H G { s with v := v' } :=
  ⟨R.g0, R.gH, R.kH, R.gN, hl, sl, fun i j a hij h1 h2 e1 e2 => by
    obtain ⟨o1, q1⟩ := ow i h1
    obtain ⟨o2, q2⟩ := ow j h2
    rw [q1] at e1
    rw [q2] at e2
    exact R.ap i j a hij o1 o2 e1 e2, R.fd, R.rs⟩
theorem Rel.forget (R : Rel c σ2 H G s) {vs : List Nat} (h : Chg vs σ2 σ1) : Rel c σ1 H G { s with v := puts s.v vs .gone } := by
  refine R.slots (by rw [puts_length, R.len, h.1]) (fun i => ?_) fun i hi => ?_
  · rw [get_puts]
    by_cases e : i ∈ vs
    · rw [if_pos e]; trivial
    · rw [if_neg e, h.2 i e]; exact R.sl i
  · rw [get_puts] at hi
    by_cases e : i ∈ vs
    · rw [if_pos e] at hi; cases hi
    · rw [if_neg e] at hi; exact ⟨hi, h.2 i e⟩
theorem Rel.backed {v0 : List Slot} (R : Rel c σ2 H G s) {vs : List Nat} (h : Chg vs σ2 σ1) (hl : v0.length = σ1.length) (h0 : ∀ i, SlotOk c H G σ1[i]? (keepV (get v0 i))) : Rel c σ1 H G { s with v := back v0 s.v vs } := by
  have e0 : s.v.length = v0.length := by rw [R.len, hl, h.1]
  refine R.slots (by rw [back_length, R.len, h.1]) (fun i => ?_) fun i hi => ?_
  · rw [get_back _ _ _ _ e0]
    by_cases e : i ∈ vs
    · rw [if_pos e]; exact h0 i
    · rw [if_neg e, h.2 i e]; exact R.sl i
  · rw [get_back _ _ _ _ e0] at hi
    by_cases e : i ∈ vs
    · rw [if_pos e] at hi
      cases q : get v0 i <;> rw [q] at hi <;> cases hi
    · rw [if_neg e] at hi; exact ⟨hi, h.2 i e⟩
/-- a list that a comprehension makes -/
abbrev Ct.with (c : Ct) (D : Addr) : Ct := { c with rs := fun a => c.rs a ∨ a = D }
instance [o : Ok X c] {D : Addr} : Ok X (c.with D) := ⟨o.K, o.blt, o.hu, o.nd, o.mg, o.xe⟩
theorem Rel.make (R : Rel c σ H G s) {D : Addr} (n : H D = none) : Rel (c.with D) σ (upd H D (.lst [])) G s := by
  have R1 : Rel c σ (upd H D (.lst [])) G s := R.newL n
  obtain ⟨h1, h2, h3⟩ := R.h0 n
  refine ⟨R1.g0, R1.gH, R1.kH, R1.gN, R1.len, fun i => ?_, R1.ap, R1.fd, fun a e => ?_⟩
  · have q := R1.sl i
    have q0 := R.sl i
    cases e : get s.v i with
    | own ds =>
      rw [e] at q q0
      obtain ⟨a, vs, e1, e2, e3, e4, e5, e6, e7⟩ := q
      obtain ⟨a', vs', e1', e2', _⟩ := q0
      rw [e1] at e1'
      cases e1'
      exact ⟨a, vs, e1, e2, e3, e4, e5, e6, fun z => z.elim e7 fun z => by rw [z, n] at e2'; cases e2'⟩
    | gone => trivial
    | val d => rw [e] at q; exact q
    | feed => rw [e] at q; exact q
    | exn x => rw [e] at q; exact q
  · rcases e with e | e
    · exact R1.rs a e
    · subst e
      exact ⟨h3, h2, _, upd_same⟩
theorem Rel.made {D : Addr} (R : Rel (c.with D) σ H G s) : Rel c σ H G s :=
  ⟨R.g0, R.gH, R.kH, R.gN, R.len, fun i => by
    have q := R.sl i
    cases e : get s.v i with
    | own ds =>
      rw [e] at q
      obtain ⟨a, vs, e1, e2, e3, e4, e5, e6, e7⟩ := q
      exact ⟨a, vs, e1, e2, e3, e4, e5, e6, fun z => e7 (.inl z)⟩
    | gone => trivial
    | val d => rw [e] at q; exact q
    | feed => rw [e] at q; exact q
    | exn x => rw [e] at q; exact q, R.ap, R.fd, fun a e => R.rs a (.inl e)⟩
theorem Rel.more {D : Addr} (R : Rel (c.with D) σ H G s) (hD : c.H0 D = none) (o : HO) : Rel (c.with D) σ (upd H D o) G s := by
  obtain ⟨h1, h2, h3⟩ := R.rs D (.inr rfl)
  refine ⟨R.g0, fun b x e => ?_, fun b x e n => ?_, R.gN, R.len, fun i => ?_, R.ap, fun a e => ?_, fun a e => ?_⟩
  · rw [upd_ne (fun z : b = D => by rw [z, h1] at e; cases e)]; exact R.gH b x e
  · rw [upd_ne (fun z : b = D => by
      have e' : c.H0 b = some x := e
      rw [z, hD] at e'; cases e')]
    exact R.kH b x e n
  · have q := R.sl i
    cases e : get s.v i with
    | own ds =>
      rw [e] at q
      obtain ⟨a, vs, e1, e2, e3, e4, e5, e6, e7⟩ := q
      exact ⟨a, vs, e1, by rw [upd_ne (fun z : a = D => e7 (.inr z))]; exact e2, e3, e4, e5, e6, e7⟩
    | gone => trivial
    | val d => rw [e] at q; exact q
    | feed => rw [e] at q; exact q
    | exn x => rw [e] at q; exact q
  · obtain ⟨q1, sa, q2, q3⟩ := R.fd a e
    exact ⟨q1, sa, by rw [upd_ne (fun z : a = D => h2 (z ▸ e))]; exact q2, q3⟩
  · obtain ⟨q1, q2, o', q3⟩ := R.rs a e
    refine ⟨q1, q2, ?_⟩
    by_cases z : a = D
    · subst z; exact ⟨_, upd_same⟩
    · exact ⟨o', by rw [upd_ne z]; exact q3⟩
/-! ### targets -/
def tG (c : Ct) (is : List Nat) (g : Gt) : TG := fun v σ H Q => ∃ G s d Q0, Rel c σ H G s ∧ Dg c.K G v d ∧ g d s Q0 ∧ ∀ s' σ' H' G', Q0 s' → Rel c σ' H' G' s' → Chg is σ σ' → Same G G' → Keep c H H' → Q σ' H'
def tGs (c : Ct) (is : List Nat) (g : Gts) : TGs := fun vs σ H Q => ∃ G s ds Q0, Rel c σ H G s ∧ Dgs c.K G vs ds ∧ g ds s Q0 ∧ ∀ s' σ' H' G', Q0 s' → Rel c σ' H' G' s' → Chg is σ σ' → Same G G' → Keep c H H' → Q σ' H'
theorem pg_imp {X : Cx} {e : Expr} {t t' : TG} (h : PG X e t) (i : ∀ v σ H Q, t' v σ H Q → t v σ H Q) : PG X e t' := ⟨fun pins s σ H v u Q I r q => h.run pins s σ H v u Q I r (i v σ H Q q)⟩
theorem pgs_imp {X : Cx} {e : List Expr} {t t' : TGs} (h : PGs X e t) (i : ∀ v σ H Q, t' v σ H Q → t v σ H Q) : PGs X e t' := ⟨fun pins s σ H v u Q I r q => h.run pins s σ H v u Q I r (i v σ H Q q)⟩
theorem dg_name (i : Nat) [o : Ok X c] (hi : X.N[i]? = some x := by rfl) (hx : Loc X.env.scope x := by first | exact Or.inl rfl | exact Or.inr rfl) (hf : X.fn x = true ∨ X.env.scope.names.lookup x = some .local := by first | exact .inl rfl | exact .inr rfl) : PG X (.Name x pos) (tG c [i] (gV i)) := by
  refine pg_imp (pg_name o.nd hi hx hf) ?_
  rintro v σ H Q ⟨G, s, d, Q0, R, dg, hm, hQ⟩
  exact hQ _ _ H G hm (R.put_val dg) Chg.set (Same.refl _) Keep.refl
theorem dgs_nil : PGs X [] (tGs c [] gsN) := by
  refine pgs_imp pgs_nil ?_
  rintro v σ H Q ⟨G, s, d, Q0, R, dg, hm, hQ⟩
  unfold gsN at hm
  split at hm
  · cases dg
    exact ⟨rfl, hQ _ _ H G hm R Chg.refl (Same.refl _) Keep.refl⟩
  · exact hm.elim
theorem dgs_cons {g : Gt} {gs : Gts} {is js : List Nat} (h1 : PG X e (tG c is g)) (h2 : PGs X es (tGs c js gs)) (hs : (assignEach (e :: es) X.env).map (·.2) = assign e X.env :: (assignEach es X.env).map (·.2) := by rfl) : PGs X (e :: es) (tGs c (is ++ js) (gsC g gs)) := by
  refine pgs_imp (pgs_cons h1 h2 hs) ?_
  rintro v σ H Q ⟨G, s, d, Q0, R, dg, hm, hQ⟩
  unfold gsC at hm
  split at hm
  · cases dg with
    | cons d1 d2 =>
      refine ⟨_, _, rfl, G, s, _, _, R, d1, hm, fun s1 σ1 H1 G1 q R1 C1 S1 K1 => ⟨G1, s1, _, _, R1, d2.mono S1, q, fun s' σ' H' G' q R' C' S' K' => ?_⟩⟩
      exact hQ _ _ _ _ q R' (C1.trans C') (S1.trans S') (K1.trans K')
  · exact hm.elim
theorem dg_tup {gs : Gts} {is : List Nat} {n k : Nat} [o : Ok X c] [cm : Calm X] (h : PGs X es (tGs c is gs)) (hn : (assignEach es X.env).length = n := by rfl) (hst : (assignEach es X.env).findIdx? (·.1) = none := by rfl) : PG X (.Tuple es k pos) (tG c is (gT n gs)) := by
  refine pg_imp (pg_tup cm.calm h hn hst) ?_
  rintro v σ H Q ⟨G, s, d, Q0, R, dg, hm, hQ⟩
  unfold gT at hm
  split at hm
  · cases dg with
    | tup d1 d2 => exact ⟨_, _, rfl, o.K ▸ same_seqT R.gH d1, by rw [d2.length]; exact hm.1, G, s, _, Q0, R, d2, hm.2, hQ⟩
  · exact hm.elim
/-! ### what is walked -/
/-- the iterator J gives the data ds, one after the other -/
structure Walks (c : Ct) (G : Hp) (J : It) (ds : List D) : Prop where
  go : ∀ (i : Nat) (H G1 : Hp), i < ds.length → Same G G1 → Same G1 H → J.go i H
  stop : ∀ (H G1 : Hp), Same G G1 → Same G1 H → J.stop ds.length H
  yld : ∀ (c' : Ct) (σ : St) (i : Nat) (H G1 H' : Hp) (s : S) (v : V) (d : D), c'.K = c.K → Rel c' σ H G1 s → Same G G1 → ds[i]? = some d → J.yld i H v H' → ∃ G2, Rel c' σ H' G2 s ∧ Same G1 G2 ∧ Keep c' H H' ∧ Dg c.K G2 v d
def tI (c : Ct) (src : Src) : TI := fun σ H Q => ∃ G s Q0, Rel c σ H G s ∧ src s Q0 ∧ ∀ ds s' J H' G', Q0 ds s' → Rel c σ H' G' s' → Same G G' → Keep c H H' → Walks c G' J ds → Q J H'
theorem pi_imp {X : Cx} {tg e : Expr} {t t' : TI} (h : PI X tg e t) (i : ∀ σ H Q, t' σ H Q → t σ H Q) : PI X tg e t' := ⟨fun pins s σ H R I q => h.run pins s σ H R I (i σ H R q)⟩
/-- a list, a tuple, a text: which, the value tells -/
def iAny (K : PySem.W.Frag) (tl : TE) : TI := fun σ H R => tl σ H fun x H1 => (∃ a, x = .ref a ∧ (∃ xs, SqL K H1 a xs) ∧ R (Itl K a) H1) ∨ (∃ a, x = .ref a ∧ (∃ xs, SqT K H1 a xs) ∧ R (Itt K a) H1) ∨ ∃ z, x = .str z ∧ R (Its z) H1
theorem pi_any {tg l : Expr} {tl : TE} (hl : PE X l tl) : PI X tg l (iAny X.K tl) := by
  refine ⟨fun pins s σ H R I h => ?_⟩
  refine thn (hl.run pins s σ H _ I h) fun v s1 ⟨x, H1, I1, r1, q1⟩ => ?_
  rcases q1 with ⟨a, e, ⟨xs, hq⟩, q⟩ | ⟨a, e, ⟨xs, hq⟩, q⟩ | ⟨z, e, q⟩
  · subst e
    cases r1
    obtain ⟨its, rv, p, hz⟩ := I1.list hq
    exact wpAny_pyIter_list p.isList (pi_one (tk := s1.toks) I1 _ (turn_list a _) ⟨_, Heap.get?_push_size _ rfl, rfl, rfl⟩ q)
  · subst e
    cases r1
    obtain ⟨its, rv, p, hz⟩ := I1.tuple hq
    exact wpAny_pyIter_tuple (show s1.heap.IsTuple a its.toArray from p) (pi_one (tk := s1.toks) I1 _ (turn_tuple a _) ⟨_, Heap.get?_push_size _ rfl, rfl, rfl⟩ q)
  · subst e
    obtain ⟨t, rfl⟩ := r1
    cases ha : z.cps.all (· < 128)
    · exact wpAny_pyIter_wide ha (pi_one (tk := s1.toks) I1 _ (turn_str _ z t "str_iterator" (.inr rfl)) ⟨_, Heap.get?_push_size _ rfl, rfl, rfl⟩ q)
    · exact wpAny_pyIter_ascii ha (pi_one (tk := s1.toks) I1 _ (turn_str _ z t "str_ascii_iterator" (.inl rfl)) ⟨_, Heap.get?_push_size _ rfl, rfl, rfl⟩ q)
theorem walks_list {K : PySem.W.Frag} (hK : K = c.K) {a : Addr} {vs : List V} {ds : List D} (h : G a = some (.lst vs)) (dg : Dgs c.K G vs ds) : Walks c G (Itl K a) ds where
  go := fun i H G1 hi s1 s2 => by
    have hl := dg.length
    exact ⟨vs, vs[i]'(by omega), SqL.of (s2 _ _ (s1 _ _ h)), by simp⟩
  stop := fun H G1 s1 s2 => ⟨vs, SqL.of (s2 _ _ (s1 _ _ h)), by rw [dg.length]; exact Nat.le_refl _⟩
  yld := fun c' σ i H G1 H' s v d hK R s1 e y => by
    obtain ⟨e1, q⟩ := y
    subst e1
    obtain ⟨u, h1, h2⟩ := dg.get e
    have q2 := q vs (SqL.of (R.gH _ _ (s1 _ _ h)))
    rw [h1] at q2
    cases q2
    exact ⟨G1, R, Same.refl _, Keep.refl, h2.mono s1⟩
theorem walks_tup {K : PySem.W.Frag} (hK : K = c.K) {a : Addr} {vs : List V} {ds : List D} (h : SqT c.K G a vs) (dg : Dgs c.K G vs ds) : Walks c G (Itt K a) ds where
  go := fun i H G1 hi s1 s2 => by
    have hl := dg.length
    subst hK
    exact ⟨vs, vs[i]'(by omega), same_seqT s2 (same_seqT s1 h), by simp⟩
  stop := fun H G1 s1 s2 => by
    subst hK
    exact ⟨vs, same_seqT s2 (same_seqT s1 h), by rw [dg.length]; exact Nat.le_refl _⟩
  yld := fun c' σ i H G1 H' s v d hK' R s1 e y => by
    obtain ⟨e1, q⟩ := y
    subst e1 hK
    obtain ⟨u, h1, h2⟩ := dg.get e
    have q2 := q vs (same_seqT R.gH (same_seqT s1 h))
    rw [h1] at q2
    cases q2
    exact ⟨G1, R, Same.refl _, Keep.refl, h2.mono s1⟩
theorem walks_str (z : List Nat) : Walks c G (Its (sT z)) (z.map fun c => D.str [c]) where
  go := fun i H G1 hi s1 s2 => by
    show i < z.toArray.size
    simpa using hi
  stop := fun H G1 s1 s2 => by
    show z.toArray.size ≤ _
    simp
  yld := fun c' σ i H G1 H' s v d hK' R s1 e y => by
    obtain ⟨e1, ch, q1, q2⟩ := y
    subst e1 q2
    have q1' : z[i]? = some ch := by simpa using q1
    rw [List.getElem?_map, q1'] at e
    cases e
    exact ⟨G1, R, Same.refl _, Keep.refl, .str [ch]⟩
theorem walks_ran (lo : Int) (n : Nat) : Walks c G (Itr lo n) (ran lo n) where
  go := fun i H G1 hi s1 s2 => by
    show i < n
    simpa [ran] using hi
  stop := fun H G1 s1 s2 => by
    show n ≤ _
    simp [ran]
  yld := fun c' σ i H G1 H' s v d hK' R s1 e y => by
    obtain ⟨e1, q2⟩ := y
    subst e1 q2
    have hi : i < n := by
      have := (List.getElem?_eq_some_iff.mp e).1
      simpa [ran] using this
    have e2 : (ran lo n)[i]? = some (.int (lo + i)) := by simp [ran, hi]
    rw [e2] at e
    cases e
    exact ⟨G1, R, Same.refl _, Keep.refl, .int _⟩
theorem ds_val {tg : Expr} [o : Ok X c] (h : PE X e (tE c m)) : PI X tg e (tI c (srcV m)) := by
  refine pi_imp (pi_any h) ?_
  rintro σ H Q ⟨G, s, Q0, R, hm, hQ⟩
  refine ⟨G, s, _, R, hm, fun r s1 v H1 G1 q R1 S1 K1 O1 => ?_⟩
  split at q
  · cases (show Dg c.K G1 v (.list _) from O1) with
    | lst h1 h2 => exact .inl ⟨_, rfl, ⟨_, SqL.of (R1.gH _ _ h1)⟩, hQ _ _ _ _ _ q R1 S1 K1 (walks_list o.K h1 h2)⟩
  · cases (show Dg c.K G1 v (.tup _) from O1) with
    | tup h1 h2 => exact .inr (.inl ⟨_, rfl, ⟨_, o.K ▸ same_seqT R1.gH h1⟩, hQ _ _ _ _ _ q R1 S1 K1 (walks_tup o.K h1 h2)⟩)
  · cases (show Dg c.K G1 v (.str _) from O1) with
    | str _ => exact .inr (.inr ⟨_, rfl, hQ _ _ _ _ _ q R1 S1 K1 (walks_str _)⟩)
  · obtain ⟨a, vs, e, h1, h2, h3, h4, h5, h7, h6⟩ := (show ResOk c σ H1 G1 s1 v (.own _) from O1)
    obtain ⟨R2, sm⟩ := R1.freeze h1 h3 h4 h5 h7 h6
    exact .inl ⟨a, e, ⟨_, SqL.of h1⟩, hQ _ _ _ _ _ q R2 (S1.trans sm) K1 (walks_list o.K upd_same (h2.mono sm))⟩
  · exact q.elim
theorem ds_range1 {tg : Expr} [o : Ok X c] (ha : PE X a (tE c m)) (hg : Gl X "range" := by rfl) (hs : starEach [a] X.env = [(false, eval a X.env)] := by rfl) (he : starEach [a] X.env = (false, eval a X.env) :: starEach [] X.env := by rfl) : PI X tg (.Call (.Name "range" p) [a] [] pos) (tI c (srcR1 m)) := by
  refine pi_imp (pi_range1 hg (o.blt _ (by decide +kernel)) (pa_cons ha pa_nil he) hs) ?_
  rintro σ H Q ⟨G, s, Q0, R, hm, hQ⟩
  refine ⟨G, s, _, R, hm, fun r s1 v H1 G1 q R1 S1 K1 O1 => ?_⟩
  have p := O1.peek R1
  split at q
  · rename_i j e
    rw [e] at p
    exact ⟨j, by rw [p.int], q.1.1, q.1.2, hQ _ _ _ _ _ q.2 R1 S1 K1 (walks_ran 0 _)⟩
  · exact q.elim
theorem ds_range2 {tg : Expr} [o : Ok X c] (ha : PE X a (tE c m1)) (hb : PE X b (tE c m2)) (hg : Gl X "range" := by rfl) (hs : starEach [a, b] X.env = [(false, eval a X.env), (false, eval b X.env)] := by rfl) (hs2 : starEach [b] X.env = [(false, eval b X.env)] := by rfl)
    (he : starEach [a, b] X.env = (false, eval a X.env) :: starEach [b] X.env := by rfl) (he2 : starEach [b] X.env = (false, eval b X.env) :: starEach [] X.env := by rfl) : PI X tg (.Call (.Name "range" p) [a, b] [] pos) (tI c (srcR2 m1 m2)) := by
  refine pi_imp (pi_range2 hg (o.blt _ (by decide +kernel)) (pa_cons ha (pa_cons hb pa_nil he2) he) hs hs2) ?_
  rintro σ H Q ⟨G, s, Q0, R, hm, hQ⟩
  refine ⟨G, s, _, R, hm, fun r s1 v H1 G1 q R1 S1 K1 O1 => ⟨G1, s1, _, R1, q, fun r2 s2 v2 H2 G2 q R2 S2 K2 O2 => ?_⟩⟩
  have p1 := (O1.peek R1).keep S2 K2
  have p2 := O2.peek R2
  split at q
  · rename_i i j e1 e2
    rw [e1] at p1
    rw [e2] at p2
    exact ⟨i, j, by rw [p1.int, p2.int], q.1, hQ _ _ _ _ _ q.2 R2 (S1.trans S2) (K1.trans K2) (walks_ran i _)⟩
  · exact q.elim
/-! ### comprehensions -/
def tYesT (c : Ct) : PTs X [] (tT c tYes) := ⟨fun pins s σ H Q I h => pts_nil.run pins s σ H Q I (by
  obtain ⟨G, s, Q0, R, hm, hQ⟩ := h
  exact hQ _ _ _ _ hm R (Same.refl _) Keep.refl)⟩
theorem dts_one (h : PT X e (tT c t)) : PTs X [e] (tT c t) := pts_one h
theorem comp_run {src : Src} {g : Gt} {is vs0 : List Nat} (his : ∀ i ∈ is, i ∈ vs0) : ∀ σ H Q, tE c (mComp vs0 src g t m) σ H Q → tLc (tI c src) (fun v σ H Q => ∃ D, tG (c.with D) is g v σ H Q) (fun σ H Q => ∃ D, tT (c.with D) t σ H Q) (fun σ H Q => ∃ D, tE (c.with D) m σ H Q) vs0 σ H Q := by
  rintro σ H Q ⟨G, s, Q0, R, hm, hQ⟩
  refine ⟨G, s, _, R, hm, fun ds s1 J H1 G1 q1 R1 S1 K1 Wk D nD => ?_⟩
  obtain ⟨n1, n2, n3⟩ := R1.h0 nD
  have nrs := R1.nrs nD
  have RD := R1.make nD
  -- behind i turns
  refine ⟨fun i k H => ∃ G s acc vs, i + k = ds.length ∧ Rel (c.with D) (wipe σ vs0) H G { s with v := puts s.v vs0 .gone } ∧ Same G1 G ∧ Keep c H1 H ∧ H D = some (.lst vs) ∧ Dgs c.K G vs acc ∧
      (∃ σ2, Chg vs0 σ2 σ ∧ Rel (c.with D) σ2 H G s) ∧ compL vs0 g t m (ds.drop i) acc s (fun acc s2 => Q0 (.own acc) { s2 with v := back s1.v s2.v vs0 }), ⟨ds.length, G1, s1, [], [], by omega, ?_, Same.refl _, Keep.upd nD, upd_same, .nil, ⟨σ, Chg.refl, RD⟩, q1⟩, ?_⟩
  · exact RD.forget ⟨wipe_length _ _, fun i h => by rw [wipe_at, if_neg h]⟩
  rintro i k H2 ⟨G2, s2, acc, vs, ei, Rw, S2, K2, hD, dacc, ⟨σ2, ch2, R2⟩, q⟩
  by_cases hi' : i < ds.length
  · right
    refine ⟨Wk.go i H2 G2 hi' S2 R2.gH, fun H' => ∃ G s acc vs, i + 1 + (k - 1) = ds.length ∧ Rel (c.with D) (wipe σ vs0) H' G { s with v := puts s.v vs0 .gone } ∧ Same G1 G ∧ Keep c H1 H' ∧ H' D = some (.lst vs) ∧ Dgs c.K G vs acc ∧
      (∃ σ2, Chg vs0 σ2 σ ∧ Rel (c.with D) σ2 H' G s) ∧ compL vs0 g t m (ds.drop (i + 1)) acc s (fun acc s2 => Q0 (.own acc) { s2 with v := back s1.v s2.v vs0 }), fun H' h => ⟨k - 1, by omega, h⟩, fun x H3 y => ?_⟩
    obtain ⟨G3, R3, S3, K3, dx⟩ := Wk.yld (c.with D) _ i H2 G2 H3 _ x (ds[i]) rfl Rw S2 (by simp) y
    have ed : ds.drop i = ds[i] :: ds.drop (i + 1) := by rw [← List.drop_eq_getElem_cons hi']
    rw [ed] at q
    refine ⟨D, G3, _, _, _, R3, dx, q, fun s4 σ4 H4 G4 q4 R4 C4 S4 K4 => ?_⟩
    refine ⟨by rw [wipe_chg C4 his, wipe_wipe], D, G4, s4, _, R4, q4, fun b s5 H5 G5 q5 R5 S5 K5 => ?_⟩
    have hch : Chg vs0 σ4 σ := ⟨by rw [C4.1, wipe_length], fun j hj => by rw [C4.2 j fun z => hj (his j z), wipe_at, if_neg hj]⟩
    have hw : Chg vs0 σ4 (wipe σ vs0) := ⟨C4.1.symm, fun j hj => (C4.2 j fun z => hj (his j z)).symm⟩
    have kk : Keep c H1 H5 := ((K2.trans K3).trans K4).trans K5
    have ss : Same G1 G5 := ((S2.trans S3).trans S4).trans S5
    have hD5 : H5 D = some (.lst vs) := K5 _ _ (K4 _ _ (K3 _ _ hD n2) n2) n2
    have da5 : Dgs c.K G5 vs acc := dacc.mono ((S3.trans S4).trans S5)
    cases b with
    | true =>
      rw [if_pos rfl] at q5
      refine iteT ⟨D, G5, s5, _, R5, q5, fun r s6 v6 H6 G6 q6 R6 S6 K6 O6 => ?_⟩
      obtain ⟨d, G7, q7, R7, S7, dg7⟩ := O6.frz R6 q6
      have hD6 : H6 D = some (.lst vs) := K6 _ _ hD5 n2
      refine ⟨vs, hD6, by rw [(dacc.length), ← lineEq]; exact q7.1, ?_⟩
      have R8 := R7.more n1 (.lst (vs ++ [v6]))
      refine ⟨G7, s6, acc ++ [d], vs ++ [v6], by omega, R8.forget hw, ((ss.trans S6).trans S7), fun b o e n => ?_, upd_same, (da5.mono (S6.trans S7)).append (.cons dg7 .nil), ⟨σ4, hch, R8⟩, q7.2⟩
      rw [upd_ne (ne_of_none e nD)]
      exact (kk.trans K6) b o e n
    | false =>
      rw [if_neg Bool.false_ne_true] at q5
      exact iteF ⟨G5, s5, acc, vs, by omega, R5.forget hw, ss, kk, hD5, da5, ⟨σ4, hch, R5⟩, q5⟩
  · left
    have e0 : i = ds.length := by omega
    subst e0
    refine ⟨Wk.stop H2 G2 S2 R2.gH, ?_⟩
    rw [List.drop_length] at q
    have RF : Rel c σ H2 G2 { s2 with v := back s1.v s2.v vs0 } := R2.made.backed ch2 R1.len fun j => by
      have z := R1.sl j
      cases e : get s1.v j with
      | val d =>
        rw [e] at z
        obtain ⟨v, z1, z2⟩ := z
        exact ⟨v, z1, z2.mono S2⟩
      | _ => trivial
    refine hQ _ _ _ _ _ q RF (S1.trans S2) (K1.trans K2) ?_
    obtain ⟨m1, m2, _⟩ := R2.rs D (.inr rfl)
    refine ⟨D, vs, rfl, hD, dacc, m1, n1, n2, nrs, fun j hj ej => ?_⟩
    have e0 : s2.v.length = s1.v.length := by rw [R2.len, R1.len, ch2.1]
    have hj : (get (back s1.v s2.v vs0) j).isOwn = true := hj
    rw [get_back _ _ _ _ e0] at hj
    by_cases z : j ∈ vs0
    · rw [if_pos z] at hj
      cases y : get s1.v j <;> rw [y] at hj <;> cases hj
    · rw [if_neg z] at hj
      have sl := R2.sl j
      cases y : get s2.v j with
      | own es =>
        rw [y] at sl
        obtain ⟨a, us, e1, e2, e3, e4, e5, e6, e7⟩ := sl
        rw [← ch2.2 j z, ej] at e1
        cases e1
        exact e7 (.inr rfl)
      | _ => rw [y] at hj; cases hj
theorem de_comp {elt tg iter : Expr} {ifs : List Expr} {scope : Scope} {src : Src} {g : Gt} {is : List Nat} (own : List (Str × Nat)) [o : Ok X c] [cm : Calm X] (hi : PI X tg iter (tI c src)) (ok : blkC X.N X.env.scope scope own = true)
    (hg : ∀ (c : Ct) [Ok X c] (s : Shared) (H : Hp) (C : Addr) (cl : List (Str × Addr)) (fp : List Addr), PG (X.blk s H scope (compEnvC scope cl C X.env) fp) tg (tG c is g))
    (ht : ∀ (c : Ct) [Ok X c] (s : Shared) (H : Hp) (C : Addr) (cl : List (Str × Addr)) (fp : List Addr), PTs (X.blk s H scope (compEnvC scope cl C X.env) fp) ifs (tT c t))
    (he : ∀ (c : Ct) [Ok X c] (s : Shared) (H : Hp) (C : Addr) (cl : List (Str × Addr)) (fp : List Addr), PE (X.blk s H scope (compEnvC scope cl C X.env) fp) elt (tE c m)) (his : ∀ i ∈ is, i ∈ own.map (·.2) := by decide)
    (hs : ∀ x, foldedSetIterable iter X.env x = pure x := by intro _; rfl) : PE X (.ListComp elt [⟨tg, iter, ifs, 0⟩] scope pos) (tE c (mComp (own.map (·.2)) src g t m)) :=
  pe_imp (pe_lc cm.calm o.nd hi (blkOk_by ok) (fun s H C cl fp => ⟨fun pins s' σ H v u Q I r ⟨D, q⟩ => (hg (c.with D) s _ C cl fp).run pins s' σ H v u Q I r q⟩)
      (fun s H C cl fp => ⟨fun pins s' σ H Q I ⟨D, q⟩ => (ht (c.with D) s _ C cl fp).run pins s' σ H Q I q⟩) (fun s H C cl fp => ⟨fun pins s' σ H Q I ⟨D, q⟩ => (he (c.with D) s _ C cl fp).run pins s' σ H Q I q⟩) hs) (comp_run his)
end
end DL

/-! DLS8: statements. -/
namespace DL
open PySem PySem.Spec PyProof.Rows L2
def RetR (c : Ct) (H G : Hp) (v : V) : R → Prop
  | .val d => Dg c.K G v d
  | .own ds => ∃ a vs, v = .ref a ∧ H a = some (.lst vs) ∧ Dgs c.K G vs ds ∧ G a = none ∧ c.H0 a = none
  | .bor _ => False
structure OutsOk (c : Ct) (G : Hp) (O : Outs) (D : Ends) : Prop where
  nx : ∀ s' σ' H' G', O.nx s' → Rel c σ' H' G' s' → Same G G' → D.nx σ' H'
  bk : ∀ s' σ' H' G', O.bk s' → Rel c σ' H' G' s' → Same G G' → D.bk σ' H'
  ct : ∀ s' σ' H' G', O.ct s' → Rel c σ' H' G' s' → Same G G' → D.ct σ' H'
  rt : ∀ r s' v σ' H' G', O.rt r s'.w → Rel c σ' H' G' s' → Same G G' → RetR c H' G' v r → D.rt v H'
theorem OutsOk.mono {c : Ct} {G G1 : Hp} {O : Outs} {D : Ends} (h : OutsOk c G O D) (sm : Same G G1) : OutsOk c G1 O D :=
  ⟨fun s' σ' H' G' q R S => h.nx s' σ' H' G' q R (sm.trans S), fun s' σ' H' G' q R S => h.bk s' σ' H' G' q R (sm.trans S), fun s' σ' H' G' q R S => h.ct s' σ' H' G' q R (sm.trans S), fun r s' v σ' H' G' q R S => h.rt r s' v σ' H' G' q R (sm.trans S)⟩
def tS (c : Ct) (ms : MS) : TS := fun D σ H => ∃ G s O, Rel c σ H G s ∧ ms s O ∧ OutsOk c G O D
theorem ps_imp {X : Cx} {st : Stmt} {t t' : TS} (h : PS X st t) (i : ∀ D σ H, t' D σ H → t D σ H) : PS X st t' := ⟨fun pins s σ H D I q => h.run pins s σ H D I (i D σ H q)⟩
theorem pss_imp {X : Cx} {st : List Stmt} {t t' : TS} (h : PSs X st t) (i : ∀ D σ H, t' D σ H → t D σ H) : PSs X st t' := ⟨fun pins s σ H D I q => h.run pins s σ H D I (i D σ H q)⟩
section
variable {X : Cx} {c : Ct} {a b e : Expr} {es : List Expr} {st : Stmt} {sts sts' : List Stmt} {m m1 m2 m3 : M} {ms : Ms} {t t1 t2 : T} {u u1 u2 : MS} {pos p : Pos} {σ σ1 σ2 : St} {H G : Hp} {s : S} {x : Str} {id ty : String}
/-! ### slots -/
theorem Rel.put_own (R : Rel c σ H G s) {i : Nat} {v : V} {ds : List D} (h : ResOk c σ H G s v (.own ds)) : Rel c (σ.set i (some v)) H G { s with v := put s.v i (.own ds) } := by
  by_cases hi : i < s.v.length
  · have hi2 : i < σ.length := by rw [← R.len]; exact hi
    obtain ⟨a, vs, e, h1, h2, h3, h4, h5, h7, h6⟩ := h
    have gt : ∀ j, get (put s.v i (.own ds)) j = if j = i then .own ds else get s.v j := fun j => get_put _ _ _ _ hi
    refine ⟨R.g0, R.gH, R.kH, R.gN, by rw [List.length_set]; show (put s.v i _).length = _; rw [put_length]; exact R.len, fun j => ?_, fun j k b hjk o1 o2 e1 e2 => ?_, R.fd, R.rs⟩
    · show SlotOk c H G (σ.set i (some v))[j]? (get (put s.v i (.own ds)) j)
      rw [gt]
      by_cases hj : j = i
      · subst hj
        rw [if_pos rfl, List.getElem?_set_self hi2, e]
        exact ⟨a, vs, rfl, h1, h2, h3, h4, h5, h7⟩
      · rw [if_neg hj, List.getElem?_set_ne (Ne.symm hj)]
        exact R.sl j
    · have o1 : (get (put s.v i (.own ds)) j).isOwn = true := o1
      have o2 : (get (put s.v i (.own ds)) k).isOwn = true := o2
      rw [gt] at o1 o2
      by_cases hj : j = i
      · subst hj
        have hk : k ≠ j := Ne.symm hjk
        rw [if_neg hk] at o2
        rw [List.getElem?_set_self hi2, e] at e1
        rw [List.getElem?_set_ne (Ne.symm hk)] at e2
        cases e1
        exact h6 k o2 e2
      · rw [if_neg hj] at o1
        rw [List.getElem?_set_ne (Ne.symm hj)] at e1
        by_cases hk : k = i
        · subst hk
          rw [List.getElem?_set_self hi2, e] at e2
          cases e2
          exact h6 j (by rw [gt, if_neg hj] at o1; exact o1) e1
        · rw [if_neg hk] at o2
          rw [List.getElem?_set_ne (Ne.symm hk)] at e2
          exact R.ap j k b hjk o1 o2 e1 e2
  · rw [put_out _ _ _ hi, List.set_eq_of_length_le (by rw [← R.len]; omega)]
    exact R
/-- the own list at slot i is changed -/
theorem Rel.change (R : Rel c σ H G s) {i : Nat} {ds ds' : List D} {a : Addr} {vs' : List V} (e : get s.v i = .own ds) (ea : σ[i]? = some (some (.ref a))) (h : Dgs c.K G vs' ds') : Rel c σ (upd H a (.lst vs')) G { s with v := put s.v i (.own ds') } := by
  obtain ⟨a', vs, h1, h2, h3, h4, h5, h6, h7⟩ := R.at e
  rw [ea] at h1
  cases h1
  have hi : i < s.v.length := get_lt (by rw [e]; intro z; cases z)
  have gt : ∀ j, get (put s.v i (.own ds')) j = if j = i then .own ds' else get s.v j := fun j => get_put _ _ _ _ hi
  refine ⟨R.g0, fun b o q => ?_, fun b o q n => ?_, R.gN, by show (put s.v i _).length = _; rw [put_length]; exact R.len, fun j => ?_, fun j k b hjk o1 o2 e1 e2 => ?_, fun b q => ?_, fun b q => ?_⟩
  · rw [upd_ne (fun z : b = a => by rw [z, h4] at q; cases q)]; exact R.gH b o q
  · rw [upd_ne (fun z : b = a => by rw [z, h5] at q; cases q)]; exact R.kH b o q n
  · show SlotOk c (upd H a (.lst vs')) G σ[j]? (get (put s.v i (.own ds')) j)
    rw [gt]
    by_cases hj : j = i
    · subst hj
      rw [if_pos rfl, ea]
      exact ⟨a, vs', rfl, upd_same, h, h4, h5, h6, h7⟩
    · rw [if_neg hj]
      have q := R.sl j
      cases y : get s.v j with
      | own es =>
        rw [y] at q
        obtain ⟨b, us, q1, q2, q3, q4, q5, q6, q7⟩ := q
        have hb : b ≠ a := fun z => R.ap j i a hj (by rw [y]; rfl) (by rw [e]; rfl) (z ▸ q1) ea
        exact ⟨b, us, q1, by rw [upd_ne hb]; exact q2, q3, q4, q5, q6, q7⟩
      | gone => trivial
      | val d => rw [y] at q; exact q
      | feed => rw [y] at q; exact q
      | exn x => rw [y] at q; exact q
  · have o1 : (get (put s.v i (.own ds')) j).isOwn = true := o1
    have o2 : (get (put s.v i (.own ds')) k).isOwn = true := o2
    rw [gt] at o1 o2
    have f : ∀ j, (if j = i then Slot.own ds' else get s.v j).isOwn = true → (get s.v j).isOwn = true := fun j h => by
      by_cases z : j = i
      · subst z; rw [e]; rfl
      · rw [if_neg z] at h; exact h
    exact R.ap j k b hjk (f j o1) (f k o2) e1 e2
  · obtain ⟨q1, sa, q2, q3⟩ := R.fd b q
    exact ⟨q1, sa, by rw [upd_ne (fun z : b = a => h6 (z ▸ q))]; exact q2, q3⟩
  · obtain ⟨q1, q2, o, q3⟩ := R.rs b q
    exact ⟨q1, q2, o, by rw [upd_ne (fun z : b = a => h7 (z ▸ q))]; exact q3⟩
theorem Rel.feed (R : Rel c σ H G s) {fa sa : Addr} {w' : W} (e : c.fa = some fa) (h1 : G sa = some (.lst (s.w.sc.map V.int))) (hw : w'.sc = s.w.sc) : Rel c σ (upd H fa (.lst [.ref sa, .int w'.ix, .int w'.big, .int w'.seed])) G { s with w := w' } := by
  obtain ⟨q1, _⟩ := R.fd fa e
  refine ⟨R.g0, fun b o q => ?_, fun b o q n => ?_, R.gN, R.len, fun j => ?_, R.ap, fun b q => ?_, fun b q => ?_⟩
  · rw [upd_ne (fun z : b = fa => by rw [z, q1] at q; cases q)]; exact R.gH b o q
  · rw [upd_ne (fun z : b = fa => n (z ▸ e))]; exact R.kH b o q n
  · have q := R.sl j
    cases y : get s.v j with
    | own es =>
      rw [y] at q
      obtain ⟨b, us, q1, q2, q3, q4, q5, q6, q7⟩ := q
      exact ⟨b, us, q1, by rw [upd_ne (fun z : b = fa => q6 (z ▸ e))]; exact q2, q3, q4, q5, q6, q7⟩
    | gone => trivial
    | val d => rw [y] at q; exact q
    | feed => rw [y] at q; exact q
    | exn x => rw [y] at q; exact q
  · rw [e] at q
    cases q
    exact ⟨q1, sa, upd_same, by rw [hw]; exact h1⟩
  · obtain ⟨z1, z2, o, z3⟩ := R.rs b q
    exact ⟨z1, z2, o, by rw [upd_ne (fun z : b = fa => z2 (z ▸ e))]; exact z3⟩
/-! ### blocks -/
theorem dss_nil : PSs X [] (tS c sNil) := pss_imp pss_nil fun D σ H ⟨G, s, O, R, h, k⟩ => k.nx _ _ _ _ h R (Same.refl _)
theorem dss_cons (h1 : PS X st (tS c u1)) (h2 : PSs X sts (tS c u2)) : PSs X (st :: sts) (tS c (sSeq u1 u2)) := by
  refine pss_imp (pss_cons h1 h2) ?_
  rintro D σ H ⟨G, s, O, R, h, k⟩
  exact ⟨G, s, _, R, h, ⟨fun s' σ' H' G' q R' S' => ⟨G', s', O, R', q, k.mono S'⟩, k.bk, k.ct, k.rt⟩⟩
theorem dss_one (h1 : PS X st (tS c u)) : PSs X [st] (tS c u) := pss_one h1
theorem ds_pass : PS X (.Pass pos) (tS c sPass) := ps_imp ps_pass fun D σ H ⟨G, s, O, R, h, k⟩ => k.nx _ _ _ _ h R (Same.refl _)
theorem ds_break : PS X (.Break pos) (tS c sBrk) := ps_imp ps_break fun D σ H ⟨G, s, O, R, h, k⟩ => k.bk _ _ _ _ h R (Same.refl _)
theorem ds_continue : PS X (.Continue pos) (tS c sCont) := ps_imp ps_continue fun D σ H ⟨G, s, O, R, h, k⟩ => k.ct _ _ _ _ h R (Same.refl _)
theorem ds_never : PS X st (tS c sNever) := ps_imp ps_never fun D σ H ⟨G, s, O, R, h, k⟩ => h.elim
theorem dss_never : PSs X sts (tS c sNever) := pss_imp pss_never fun D σ H ⟨G, s, O, R, h, k⟩ => h.elim
theorem ds_expr (he : PE X e (tE c m)) (hs : swapsWith e none pos.line X.env = pure false := by rfl) : PS X (.Expr e pos) (tS c (sExpr m)) := by
  refine ps_imp (ps_expr he hs) ?_
  rintro D σ H ⟨G, s, O, R, h, k⟩
  exact ⟨G, s, _, R, h, fun r s' v H' G' q R' S' K' O' => k.nx _ _ _ _ q R' S'⟩
theorem ds_if {d : Expr} (hd : PT X d (tT c t)) (ha : PSs X sts (tS c u1)) (hb : PSs X sts' (tS c u2)) : PS X (.If d sts sts' pos) (tS c (sIf t u1 u2)) := by
  refine ps_imp (ps_if hd ha hb) ?_
  rintro D σ H ⟨G, s, O, R, h, k⟩
  refine ⟨G, s, _, R, h, fun b s1 H1 G1 q R1 S1 K1 => ?_⟩
  cases b with
  | true =>
    rw [if_pos rfl] at q
    exact iteT ⟨G1, s1, O, R1, q, k.mono S1⟩
  | false =>
    rw [if_neg Bool.false_ne_true] at q
    exact iteF ⟨G1, s1, O, R1, q, k.mono S1⟩
/-! ### return -/
theorem RetR.of (R : Rel c σ H G s) {v : V} {r : DL.R} (h : ResOk c σ H G s v r) {rt : DL.R → W → Prop} {w : W} (q : retK r rt w) : ∃ r', rt r' w ∧ RetR c H G v r' := by
  cases r with
  | val d => exact ⟨_, q, h⟩
  | own ds =>
    obtain ⟨a, vs, e, h1, h2, h3, h4, _⟩ := h
    exact ⟨_, q, a, vs, e, h1, h2, h3, h4⟩
  | bor ds =>
    obtain ⟨a, vs, e, h1, h2, h3, h4, _⟩ := h
    exact ⟨_, q, a, vs, e, h1, h2, h3, h4⟩
theorem ds_ret (he : PE X e (tE c m)) : PS X (.Return (some e) pos) (tS c (sRet m)) := by
  refine ps_imp (ps_ret he) ?_
  rintro D σ H ⟨G, s, O, R, h, k⟩
  refine ⟨G, s, _, R, h, fun r s' v H' G' q R' S' K' O' => ?_⟩
  obtain ⟨r', q', hr⟩ := RetR.of R' O' q
  exact k.rt r' s' v _ _ _ q' R' S' hr
theorem ds_retN : PS X (.Return none pos) (tS c sRetN) := by
  refine ps_imp ps_retN ?_
  rintro D σ H ⟨G, s, O, R, h, k⟩
  exact k.rt _ s .non _ _ _ h R (Same.refl _) .non
/-! ### assignments -/
theorem set_run (i : Nat) {D : Ends} : ∀ {σ : St} {H : Hp}, tS c (sSet i m) D σ H → tE c m σ H fun x H1 => gName i x σ H1 D.nx := by
  rintro σ H ⟨G, s, O, R, h, k⟩
  refine ⟨G, s, _, R, h, fun r s' v H' G' q R' S' K' O' => ?_⟩
  cases r with
  | val d => exact k.nx _ _ _ _ q (R'.put_val O') S'
  | own ds => exact k.nx _ _ _ _ q (R'.put_own O') S'
  | bor ds => exact q.elim
theorem ds_set (i : Nat) {pos' : Pos} [o : Ok X c] (he : PE X e (tE c m)) (hi : X.N[i]? = some x := by rfl) (hx : Loc X.env.scope x := by first | exact Or.inl rfl | exact Or.inr rfl) (hs : swapsWith e (some (.Name x pos')) pos.line X.env = pure false := by rfl)
    (hf : X.fn x = true ∨ X.env.scope.names.lookup x = some .local := by first | exact .inl rfl | exact .inr rfl) : PS X (.Assign [.Name x pos'] e pos) (tS c (sSet i m)) :=
  ps_imp (ps_set o.nd hi hx he hs hf) fun D σ H h => set_run i h
theorem ds_setLc (i : Nat) {py : Pos} {elt tg iter : Expr} {ifs : List Expr} {scope : Scope} {src : Src} {g : Gt} {is : List Nat} {spos : Pos} (own : List (Str × Nat)) [o : Ok X c] [cm : Calm X] (hi : PI X tg iter (tI c src)) (ok : blkC X.N X.env.scope scope own = true)
    (hg : ∀ (c : Ct) [Ok X c] (s : Shared) (H : Hp) (C : Addr) (cl : List (Str × Addr)) (fp : List Addr), PG (X.blk s H scope (compEnvC scope cl C X.env) fp) tg (tG c is g))
    (ht : ∀ (c : Ct) [Ok X c] (s : Shared) (H : Hp) (C : Addr) (cl : List (Str × Addr)) (fp : List Addr), PTs (X.blk s H scope (compEnvC scope cl C X.env) fp) ifs (tT c t))
    (he : ∀ (c : Ct) [Ok X c] (s : Shared) (H : Hp) (C : Addr) (cl : List (Str × Addr)) (fp : List Addr), PE (X.blk s H scope (compEnvC scope cl C X.env) fp) elt (tE c m)) (his : ∀ i ∈ is, i ∈ own.map (·.2) := by decide)
    (hy : X.N[i]? = some x := by rfl) (hyl : X.env.scope.names.lookup x = some .local := by rfl) (hsw : swapsWith (.ListComp elt [⟨tg, iter, ifs, 0⟩] scope pos) (some (.Name x py)) spos.line X.env = pure true := by exact sw_true rfl rfl rfl (by decide +kernel))
    (hs : ∀ x, foldedSetIterable iter X.env x = pure x := by intro _; rfl) : PS X (.Assign [.Name x py] (.ListComp elt [⟨tg, iter, ifs, 0⟩] scope pos) spos) (tS c (sSet i (mComp (own.map (·.2)) src g t m))) :=
  ps_imp (ps_setLc cm.calm o.nd hy hyl hsw hi (blkOk_by ok) (fun s H C cl fp => ⟨fun pins s' σ H v u Q I r ⟨D, q⟩ => (hg (c.with D) s _ C cl fp).run pins s' σ H v u Q I r q⟩)
      (fun s H C cl fp => ⟨fun pins s' σ H Q I ⟨D, q⟩ => (ht (c.with D) s _ C cl fp).run pins s' σ H Q I q⟩) (fun s H C cl fp => ⟨fun pins s' σ H Q I ⟨D, q⟩ => (he (c.with D) s _ C cl fp).run pins s' σ H Q I q⟩) hs) fun D σ H h => comp_run his _ _ _ (set_run i h)
theorem ds_asg {tg : Expr} {g : Gt} {is : List Nat} (he : PE X e (tE c m)) (hg : PG X tg (tG c is g)) (hs : swapsWithSole [tg] e pos.line X.env = pure false := by rfl) (hw : swappedStores [tg] e X.env = pure none := by rfl)
    (h1 : (assignEach [tg] X.env).map (·.2) = [assign tg X.env] := by rfl) : PS X (.Assign [tg] e pos) (tS c (sAsg g m)) := by
  refine ps_imp (ps_asg he hg hs hw h1) ?_
  rintro D σ H ⟨G, s, O, R, h, k⟩
  refine ⟨G, s, _, R, h, fun r s' v H' G' q R' S' K' O' => ?_⟩
  obtain ⟨d, G2, q2, R2, S2, dg⟩ := O'.frz R' q
  exact ⟨G2, s', d, _, R2, dg, q2, fun s3 σ3 H3 G3 q3 R3 C3 S3 K3 => k.nx _ _ _ _ q3 R3 ((S'.trans S2).trans S3)⟩
theorem ds_par (i j : Nat) {y : Str} {px py pt : Pos} {kt k2 pt2} [o : Ok X c] [cm : Calm X] (ha : PE X a (tE c m1)) (hb : PE X b (tE c m2)) (hi : X.N[i]? = some x := by rfl) (hj : X.N[j]? = some y := by rfl) (hij : i ≠ j := by decide)
    (hx : X.env.scope.names.lookup x = some .local := by rfl) (hy : X.env.scope.names.lookup y = some .local := by rfl)
    (hw : swappedStores [.Tuple [.Name x px, .Name y py] kt pt] (.Tuple [a, b] k2 pt2) X.env = pure (some [x, y]) := by rfl)
    (hs : swapsWithSole [.Tuple [.Name x px, .Name y py] kt pt] (.Tuple [a, b] k2 pt2) pos.line X.env = pure false := by rfl)
    (he : starEach [a, b] X.env = (false, eval a X.env) :: starEach [b] X.env := by rfl) (he2 : starEach [b] X.env = (false, eval b X.env) :: starEach [] X.env := by rfl) :
    PS X (.Assign [.Tuple [.Name x px, .Name y py] kt pt] (.Tuple [a, b] k2 pt2) pos) (tS c (sPar i j m1 m2)) := by
  refine ps_imp (ps_par cm.calm o.nd hi hj hij hx hy (pa_cons ha (pa_cons hb pa_nil he2) he) hw hs) ?_
  rintro D σ H ⟨G, s, O, R, h, k⟩
  refine ⟨G, s, _, R, h, fun r s1 v H1 G1 q R1 S1 K1 O1 => ?_⟩
  obtain ⟨d, G2, q2, R2, S2, dg⟩ := O1.frz R1 q
  refine ⟨G2, s1, _, R2, q2, fun r2 s3 v2 H3 G3 q3 R3 S3 K3 O3 => ?_⟩
  obtain ⟨d2, G4, q4, R4, S4, dg2⟩ := O3.frz R3 q3
  refine ⟨v, v2, rfl, k.nx _ _ _ _ q4 ?_ (((S1.trans S2).trans S3).trans S4)⟩
  exact (R4.put_val (dg.mono (S3.trans S4))).put_val dg2
theorem ds_aug {op : Operator} {f : Int → Int → Int} (i : Nat) {pos' : Pos} [o : Ok X c] (ho : PIp X op (ipI f)) (he : PE X e (tE c m)) (hi : X.N[i]? = some x := by rfl) (hx : Loc X.env.scope x := by first | exact Or.inl rfl | exact Or.inr rfl)
    (hf : X.fn x = true ∨ X.env.scope.names.lookup x = some .local := by first | exact .inl rfl | exact .inr rfl) : PS X (.AugAssign (.Name x pos') op e pos) (tS c (sAug i f m)) := by
  refine ps_imp (ps_aug o.nd hi hx he ho hf) ?_
  rintro D σ H ⟨G, s, O, R, h, k⟩
  unfold sAug at h
  split at h
  · rename_i n e1
    obtain ⟨v, e2, dg⟩ := R.at e1
    cases dg
    refine ⟨_, e2, G, s, _, R, h, fun r s1 v H1 G1 q R1 S1 K1 O1 => ?_⟩
    have pk := O1.peek R1
    split at q
    · rename_i n2 e3
      rw [e3] at pk
      exact ⟨_, _, rfl, pk.int, k.nx _ _ _ _ q (R1.put_val (.int _)) S1⟩
    · exact q.elim
  · exact h.elim
/-! ### lists that change -/
theorem ownAt_of {i : Nat} {k : List D → Prop} (h : ownAt s i k) : ∃ ds, get s.v i = .own ds ∧ k ds := by
  unfold ownAt at h
  split at h
  · exact ⟨_, by assumption, h⟩
  · exact h.elim
theorem feedAt_of {i : Nat} {k : Prop} (h : feedAt s i k) : get s.v i = .feed ∧ k := by
  unfold feedAt at h
  split at h
  · exact ⟨by assumption, h⟩
  · exact h.elim
theorem intD_of {d : D} {k : Int → Prop} (h : intD d k) : ∃ n, d = .int n ∧ k n := by
  unfold intD at h
  split at h
  · exact ⟨_, rfl, h⟩
  · exact h.elim
theorem ds_app (i : Nat) {y : Pos} {apos cpos : Pos} [o : Ok X c] (he : PE X e (tE c m)) (hN : X.N[i]? = some x := by rfl) (hv : Vis X.env.scope x := by first | exact Or.inl rfl | exact Or.inr (Or.inl rfl) | exact Or.inr (Or.inr rfl))
    (hd : (x == ("__debug__" : Str)) = false := by decide) (hcd : (x == ("__classdict__" : Str)) = false := by decide) (hs0 : starEach [e] X.env = (false, eval e X.env) :: starEach [] X.env := by rfl)
    (hfew : ((backTo cpos (starEach (e :: []) X.env)).all (fun x => !x.1) && (backToKw cpos (keywordEach [] X.env)).all (fun x => x.1.isSome)
      && decide ((e :: []).length + ([] : List Keyword).length + (if ([] : List Keyword).isEmpty then 0 else 1) < 30)) = true := by rfl)
    (hbase : attributeBase (.Name x y) "append" X.env (eval (.Name x y) X.env) = eval (.Name x y) X.env := by rfl) (hline : (apos.endLine == cpos.line) = true := by rfl) (hpl : (backTo cpos (starEach [] X.env)).any (·.1) = false := by rfl)
    (hs : swapsWith (.Call (.Attribute (.Name x y) "append" apos) [e] [] cpos) none pos.line X.env = pure false := by rfl) : PS X (.Expr (.Call (.Attribute (.Name x y) "append" apos) [e] [] cpos) pos) (tS c (sApp i m)) := by
  refine ps_imp (ps_expr (pe_bm PySem.F.plainAttrs_list PySem.F.slot_list_append PySem.F.type_list_append mt_append (pe_var hN hv hd hcd) (pa_cons he pa_nil hs0) hbase hfew hline hs0 hpl) hs) ?_
  rintro D σ H ⟨G, s, O, R, h, k⟩
  obtain ⟨ds0, e0, h⟩ := ownAt_of h
  obtain ⟨a, vs0, e1, e2, _⟩ := R.at e0
  refine ⟨.ref a, e1, .inl ⟨rfl, vs0, SqL.of e2⟩, G, s, _, R, h, fun r s1 v H1 G1 q R1 S1 K1 O1 => ?_⟩
  obtain ⟨d, G2, q2, R2, S2, dg⟩ := O1.frz R1 q
  obtain ⟨ds, e3, hl, q3⟩ := ownAt_of q2
  obtain ⟨a', vs, e4, e5, e6, _⟩ := R2.at e3
  rw [e1] at e4
  cases e4
  exact ⟨a, vs, v, rfl, rfl, e5, by rw [e6.length, ← lineEq]; exact hl, k.nx _ _ _ _ q3 (R2.change e3 e1 (e6.append (.cons dg .nil))) (S1.trans S2)⟩
theorem ds_ext (i : Nat) {y : Pos} {apos cpos : Pos} [o : Ok X c] (he : PE X e (tE c m)) (hN : X.N[i]? = some x := by rfl) (hv : Vis X.env.scope x := by first | exact Or.inl rfl | exact Or.inr (Or.inl rfl) | exact Or.inr (Or.inr rfl))
    (hd : (x == ("__debug__" : Str)) = false := by decide) (hcd : (x == ("__classdict__" : Str)) = false := by decide) (hs0 : starEach [e] X.env = (false, eval e X.env) :: starEach [] X.env := by rfl)
    (hfew : ((backTo cpos (starEach (e :: []) X.env)).all (fun x => !x.1) && (backToKw cpos (keywordEach [] X.env)).all (fun x => x.1.isSome)
      && decide ((e :: []).length + ([] : List Keyword).length + (if ([] : List Keyword).isEmpty then 0 else 1) < 30)) = true := by rfl)
    (hbase : attributeBase (.Name x y) "extend" X.env (eval (.Name x y) X.env) = eval (.Name x y) X.env := by rfl) (hline : (apos.endLine == cpos.line) = true := by rfl) (hpl : (backTo cpos (starEach [] X.env)).any (·.1) = false := by rfl)
    (hs : swapsWith (.Call (.Attribute (.Name x y) "extend" apos) [e] [] cpos) none pos.line X.env = pure false := by rfl) : PS X (.Expr (.Call (.Attribute (.Name x y) "extend" apos) [e] [] cpos) pos) (tS c (sExt i m)) := by
  refine ps_imp (ps_expr (pe_bm PySem.F.plainAttrs_list PySem.F.slot_list_extend PySem.F.type_list_extend mt_extend (pe_var hN hv hd hcd) (pa_cons he pa_nil hs0) hbase hfew hline hs0 hpl) hs) ?_
  rintro D σ H ⟨G, s, O, R, h, k⟩
  obtain ⟨ds0, e0, h⟩ := ownAt_of h
  obtain ⟨a, vs0, e1, e2, _⟩ := R.at e0
  refine ⟨.ref a, e1, .inl ⟨rfl, vs0, SqL.of e2⟩, G, s, _, R, h, fun r s1 v H1 G1 q R1 S1 K1 O1 => ?_⟩
  obtain ⟨ds, e3, q3⟩ := ownAt_of q
  obtain ⟨a', vs, e4, e5, e6, _⟩ := R1.at e3
  rw [e1] at e4
  cases e4
  have pk := O1.peek R1
  split at q3
  · rename_i es e7
    rw [e7] at pk
    obtain ⟨b, us, e8, e9, e10⟩ := pk.list
    subst e8
    exact ⟨a, b, vs, us, rfl, rfl, e5, e9, by rw [e6.length, e10.length, ← lineEq]; exact q3.1, k.nx _ _ _ _ q3.2 (R1.change e3 e1 (e6.append e10)) S1⟩
  · exact q3.elim
theorem ds_setI (i : Nat) {y : Pos} {kx : Expr} {tpos : Pos} [o : Ok X c] (he : PE X e (tE c m)) (hk : PE X kx (tE c m1)) (hN : X.N[i]? = some x := by rfl) (hv : Vis X.env.scope x := by first | exact Or.inl rfl | exact Or.inr (Or.inl rfl) | exact Or.inr (Or.inr rfl))
    (hd : (x == ("__debug__" : Str)) = false := by decide) (hcd : (x == ("__classdict__" : Str)) = false := by decide)
    (ha : ∀ v, assign (.Subscript (.Name x y) kx tpos) X.env v = (do
      let ov ← holding [v] (eval (.Name x y) X.env)
      let iv ← holding [v, ov] (eval kx X.env)
      standAt tpos
      holding [v, ov, iv] (setItem ov iv v)
      release [v, ov, iv] []) := by intro _; rfl)
    (hs : swapsWithSole [.Subscript (.Name x y) kx tpos] e pos.line X.env = pure false := by rfl) (hw : swappedStores [.Subscript (.Name x y) kx tpos] e X.env = pure none := by rfl)
    (h1 : (assignEach [.Subscript (.Name x y) kx tpos] X.env).map (·.2) = [assign (.Subscript (.Name x y) kx tpos) X.env] := by rfl) : PS X (.Assign [.Subscript (.Name x y) kx tpos] e pos) (tS c (sSetI i m1 m)) := by
  refine ps_imp (ps_asg he (pg_sub (pe_var hN hv hd hcd) hk set_list ha) hs hw h1) ?_
  rintro D σ H ⟨G, s, O, R, h, k⟩
  refine ⟨G, s, _, R, h, fun r s1 v H1 G1 q R1 S1 K1 O1 => ?_⟩
  obtain ⟨d, G2, q2, R2, S2, dg⟩ := O1.frz R1 q
  obtain ⟨ds0, e0, q3⟩ := ownAt_of q2
  obtain ⟨a, vs0, e1, e2, _⟩ := R2.at e0
  refine ⟨.ref a, e1, G2, s1, _, R2, q3, fun r2 s2 v2 H3 G3 q4 R3 S3 K3 O3 => ?_⟩
  obtain ⟨ds, e3, q5⟩ := ownAt_of q4
  obtain ⟨n, e4, j, e5, q6⟩ := intD_of q5
  obtain ⟨a', vs, e6, e7, e8, _⟩ := R3.at e3
  rw [e1] at e6
  cases e6
  have pk := O3.peek R3
  rw [e4] at pk
  refine ⟨a, vs, n, j, rfl, pk.int, e7, by rw [e8.length]; exact e5, ?_⟩
  exact k.nx _ _ _ _ q6 (R3.change e3 e1 (e8.set j (dg.mono S3))) ((S1.trans S2).trans S3)
/-- xs[i], by values -/
theorem pget_list : PGet X (rIxL X.K) := by
  intro pins s σ H o i ov iv Q I ro ri h
  obtain ⟨p, xs, k, z, rfl, rfl, hq, he, q⟩ := h
  cases ro
  obtain ⟨t, rfl⟩ := ri
  obtain ⟨its, r, pl, hz⟩ := I.list hq
  obtain ⟨j, h1, h2, h3, h4, h5⟩ := atI_get he
  obtain ⟨w, ew, rw'⟩ := r.get h2
  have hl := r.length
  have hn := line63
  have fin : EP X pins σ Q w s := ⟨z, H, I, rw', q⟩
  have hz' : its.length ≤ sizeLine := by rw [← hl]; exact hz
  by_cases h0 : 0 ≤ k
  · have hj : k.toNat = j := by
      rw [seqIndex_of h0 h5] at h1
      exact Option.some.inj h1
    exact wpAny_getItem_list pl.isList h0 (by omega) (by rw [hj]; simpa using ew) fin
  · have hj : (k + its.length).toNat = j := by
      have := h1
      unfold seqIndex? at this
      rw [← hl]
      simp only [if_neg h0] at this
      first
        | (split at this <;> first | (simp at this; omega) | cases this)
        | (simp at this; omega)
    exact wpAny_getItem_list_neg pl.isList (by omega) (by rw [List.size_toArray]; omega) (by omega) (by rw [List.size_toArray, hj]; simpa using ew) fin
end
end DL

/-! DLS9: statements, further; loops; defs. -/
namespace DL
open PySem PySem.Spec PyProof.Rows L2
section
variable {X : Cx} {c : Ct} {a b e : Expr} {es : List Expr} {st : Stmt} {sts sts' : List Stmt} {m m1 m2 m3 : M} {ms : Ms} {t t1 t2 : T} {u u1 u2 : MS} {pos p : Pos} {σ σ1 σ2 : St} {H G : Hp} {s : S} {x : Str} {id ty : String}
theorem ds_augI {op : Operator} {f : Int → Int → Int} (i : Nat) {y : Pos} {kx : Expr} {tpos : Pos} [o : Ok X c] (ho : PIp X op (ipI f)) (hk : PE X kx (tE c m1)) (he : PE X e (tE c m)) (hN : X.N[i]? = some x := by rfl) (hv : Vis X.env.scope x := by first | exact Or.inl rfl | exact Or.inr (Or.inl rfl) | exact Or.inr (Or.inr rfl))
    (hd : (x == ("__debug__" : Str)) = false := by decide) (hcd : (x == ("__classdict__" : Str)) = false := by decide)
    (ha : ∀ ov iv new, augStore kx ov iv new = (do holding [new, ov, iv] (setItem ov iv new); release [new, ov, iv] []; pure .next) := by intros; rfl) : PS X (.AugAssign (.Subscript (.Name x y) kx tpos) op e pos) (tS c (sAugI i f m1 m)) := by
  refine ps_imp (ps_augS (pe_var hN hv hd hcd) hk pget_list he ho set_list ha) ?_
  rintro D σ H ⟨G, s, O, R, h, k⟩
  obtain ⟨ds0, e0, h⟩ := ownAt_of h
  obtain ⟨a, vs0, e1, e2, _⟩ := R.at e0
  refine ⟨.ref a, e1, G, s, _, R, h, fun r1 s1 v1 H1 G1 q1 R1 S1 K1 O1 => ?_⟩
  obtain ⟨ds, e3, q2⟩ := ownAt_of q1
  obtain ⟨n, e4, j, z, e5, e6, q3⟩ := intD_of q2
  obtain ⟨a', vs, e7, e8, e9, _⟩ := R1.at e3
  rw [e1] at e7
  cases e7
  have pk := O1.peek R1
  rw [e4] at pk
  obtain ⟨vz, g1, g2⟩ := e9.get e6
  cases g2
  refine ⟨a, vs, n, .int z, rfl, pk.int, SqL.of e8, ?_, G1, s1, _, R1, q3, fun r2 s2 v2 H2 G2 q4 R2 S2 K2 O2 => ?_⟩
  · unfold L2.atI
    rw [show L2.ixN vs.length n = ixN ds.length n by rw [e9.length]; rfl, e5]
    exact g1
  obtain ⟨ds2, e10, q5⟩ := ownAt_of q4
  obtain ⟨y, e11, hl, q6⟩ := intD_of q5
  have pk2 := O2.peek R2
  rw [e11] at pk2
  obtain ⟨a', vs2, e12, e13, e14, _⟩ := R2.at e10
  rw [e1] at e12
  cases e12
  refine ⟨_, _, rfl, pk2.int, a, vs2, n, j, rfl, pk.int, e13, by rw [e14.length, hl]; exact e5, ?_⟩
  exact k.nx _ _ _ _ q6 (R2.change e10 e1 (e14.set j (.int _))) (S1.trans S2)
theorem feed_set {fa sa : Addr} {w : W} {kk : Nat} (h1 : 1 ≤ kk) (h3 : kk ≤ 3) (n : Int) : ([V.ref sa, V.int w.ix, V.int w.big, V.int w.seed] : List V).set kk (.int n) = [V.ref sa, V.int (w.set kk n).ix, V.int (w.set kk n).big, V.int (w.set kk n).seed] ∧ (w.set kk n).sc = w.sc := by
  have : kk = 1 ∨ kk = 2 ∨ kk = 3 := by omega
  rcases this with rfl | rfl | rfl <;> exact ⟨rfl, rfl⟩
theorem ixN4 {kk : Nat} (h1 : 1 ≤ kk) (h3 : kk ≤ 3) (l : List V) (hl : l.length = 4) : L2.ixN l.length (kk : Int) = some kk := by
  unfold L2.ixN
  rw [hl, if_pos (by omega), if_pos (by omega)]
  simp
theorem ds_feed (i kk : Nat) {y : Pos} {jj : Nat} {kp tpos : Pos} [o : Ok X c] (he : PE X e (tE c m)) (hN : X.N[i]? = some x := by rfl) (hv : Vis X.env.scope x := by first | exact Or.inl rfl | exact Or.inr (Or.inl rfl) | exact Or.inr (Or.inr rfl))
    (hd : (x == ("__debug__" : Str)) = false := by decide) (hcd : (x == ("__classdict__" : Str)) = false := by decide)
    (hs : swapsWithSole [.Subscript (.Name x y) (.Constant (.int kk) jj kp) tpos] e pos.line X.env = pure false := by rfl) (hw : swappedStores [.Subscript (.Name x y) (.Constant (.int kk) jj kp) tpos] e X.env = pure none := by rfl) :
    PS X (.Assign [.Subscript (.Name x y) (.Constant (.int kk) jj kp) tpos] e pos) (tS c (sFeed i kk m)) := by
  refine ps_imp (ps_asg he (pg_sub (pe_var hN hv hd hcd) pe_int set_list) hs hw) ?_
  rintro D σ H ⟨G, s, O, R, h, k⟩
  obtain ⟨⟨h1, h3⟩, h⟩ := h
  refine ⟨G, s, _, R, h, fun r s1 v H1 G1 q R1 S1 K1 O1 => ?_⟩
  obtain ⟨e0, q2⟩ := feedAt_of q
  obtain ⟨n, e4, q3⟩ := intD_of q2
  obtain ⟨fa, e1, e2⟩ := R1.at e0
  obtain ⟨z1, sa, z2, z3⟩ := R1.fd fa e2
  have pk := O1.peek R1
  rw [e4] at pk
  refine ⟨.ref fa, e1, fa, _, kk, kk, rfl, rfl, z2, ixN4 h1 h3 _ rfl, ?_⟩
  obtain ⟨f1, f2⟩ := feed_set (fa := fa) (sa := sa) (w := s1.w) h1 h3 n
  rw [pk.int, f1]
  exact k.nx _ _ _ _ q3 (R1.feed e2 z3 f2) S1
theorem ds_feedA (i kk : Nat) {n : Int} {y : Pos} {jj jn : Nat} {kp np tpos : Pos} [o : Ok X c] (hN : X.N[i]? = some x := by rfl) (hv : Vis X.env.scope x := by first | exact Or.inl rfl | exact Or.inr (Or.inl rfl) | exact Or.inr (Or.inr rfl))
    (hd : (x == ("__debug__" : Str)) = false := by decide) (hcd : (x == ("__classdict__" : Str)) = false := by decide) :
    PS X (.AugAssign (.Subscript (.Name x y) (.Constant (.int kk) jj kp) tpos) .Add (.Constant (.int n) jn np) pos) (tS c (sFeedA i kk n)) := by
  refine ps_imp (ps_augS (pe_var hN hv hd hcd) pe_int pget_list pe_int ip_add set_list) ?_
  rintro D σ H ⟨G, s, O, R, h, k⟩
  obtain ⟨⟨h1, h3⟩, h⟩ := h
  obtain ⟨e0, q3⟩ := feedAt_of h
  obtain ⟨fa, e1, e2⟩ := R.at e0
  obtain ⟨z1, sa, z2, z3⟩ := R.fd fa e2
  refine ⟨.ref fa, e1, fa, _, kk, .int (s.w.at kk), rfl, rfl, SqL.of z2, ?_, s.w.at kk, n, rfl, rfl, fa, _, kk, kk, rfl, rfl, z2, ixN4 h1 h3 _ rfl, ?_⟩
  · unfold L2.atI
    rw [ixN4 h1 h3 _ rfl]
    have : kk = 1 ∨ kk = 2 ∨ kk = 3 := by omega
    rcases this with rfl | rfl | rfl <;> rfl
  · obtain ⟨f1, f2⟩ := feed_set (fa := fa) (sa := sa) (w := s.w) h1 h3 (s.w.at kk + n)
    rw [f1]
    exact k.nx _ _ _ _ q3 (R.feed e2 z3 f2) (Same.refl _)
/-- xs.pop(k) -/
theorem pop_run {i : Nat} {kx : Expr} {Qd : D → S → Prop} [o : Ok X c] (R : Rel c σ H G s) (h : popD i m s Qd) {Q : VK} (hQ : ∀ d s' v H' G', Qd d s' → Rel c σ H' G' s' → Same G G' → Dg c.K G' v d → Q v H') :
    tBM X.K "list" rPopAt (tVar i) (tCons (tE c m) tNil) σ H Q := by
  unfold popD at h
  obtain ⟨ds0, e0, h⟩ := ownAt_of h
  obtain ⟨a, vs0, e1, e2, _⟩ := R.at e0
  refine ⟨.ref a, e1, .inl ⟨rfl, vs0, SqL.of e2⟩, G, s, _, R, h, fun r s1 v H1 G1 q R1 S1 K1 O1 => ?_⟩
  obtain ⟨ds, e3, q2⟩ := ownAt_of q
  obtain ⟨n, e4, j, d, e5, e6, ⟨b1, b2⟩, q3⟩ := intD_of q2
  obtain ⟨a', vs, e7, e8, e9, _⟩ := R1.at e3
  rw [e1] at e7
  cases e7
  have pk := O1.peek R1
  rw [e4] at pk
  obtain ⟨u, g1, g2⟩ := e9.get e6
  have hj : seqIndex? n vs.length = some j := (ixN_seq (show L2.ixN vs.length n = some j by rw [e9.length]; exact e5)).1
  exact ⟨a, vs, n, j, u, rfl, by rw [pk.int], e8, b1, b2, hj, g1, hQ _ _ _ _ _ q3 (R1.change e3 e1 (e9.eraseIdx j)) S1 g2⟩
theorem ds_pop (i : Nat) {y : Pos} {kx : Expr} {apos cpos : Pos} [o : Ok X c] (hk : PE X kx (tE c m)) (hN : X.N[i]? = some x := by rfl) (hv : Vis X.env.scope x := by first | exact Or.inl rfl | exact Or.inr (Or.inl rfl) | exact Or.inr (Or.inr rfl))
    (hd : (x == ("__debug__" : Str)) = false := by decide) (hcd : (x == ("__classdict__" : Str)) = false := by decide) (hs0 : starEach [kx] X.env = (false, eval kx X.env) :: starEach [] X.env := by rfl)
    (hfew : ((backTo cpos (starEach (kx :: []) X.env)).all (fun x => !x.1) && (backToKw cpos (keywordEach [] X.env)).all (fun x => x.1.isSome)
      && decide ((kx :: []).length + ([] : List Keyword).length + (if ([] : List Keyword).isEmpty then 0 else 1) < 30)) = true := by rfl)
    (hbase : attributeBase (.Name x y) "pop" X.env (eval (.Name x y) X.env) = eval (.Name x y) X.env := by rfl) (hline : (apos.endLine == cpos.line) = true := by rfl) (hpl : (backTo cpos (starEach [] X.env)).any (·.1) = false := by rfl)
    (hs : swapsWith (.Call (.Attribute (.Name x y) "pop" apos) [kx] [] cpos) none pos.line X.env = pure false := by rfl) : PS X (.Expr (.Call (.Attribute (.Name x y) "pop" apos) [kx] [] cpos) pos) (tS c (sPop i m)) := by
  refine ps_imp (ps_expr (pe_bm PySem.F.plainAttrs_list PySem.F.slot_list_pop PySem.F.type_list_pop mt_popAt (pe_var hN hv hd hcd) (pa_cons hk pa_nil hs0) hbase hfew hline hs0 hpl) hs) ?_
  rintro D σ H ⟨G, s, O, R, h, k⟩
  exact pop_run (kx := kx) R h fun d s' v H' G' q R' S' dg => k.nx _ _ _ _ q R' S'
theorem ds_addPop (j i : Nat) {z : Str} {py pz y : Pos} {kx : Expr} {apos cpos bpos : Pos} [o : Ok X c] (hk : PE X kx (tE c m)) (hz : X.N[j]? = some z := by rfl) (hN : X.N[i]? = some x := by rfl)
    (hvz : Vis X.env.scope z := by first | exact Or.inl rfl | exact Or.inr (Or.inl rfl) | exact Or.inr (Or.inr rfl)) (hlz : Loc X.env.scope z := by first | exact Or.inl rfl | exact Or.inr rfl) (hv : Vis X.env.scope x := by first | exact Or.inl rfl | exact Or.inr (Or.inl rfl) | exact Or.inr (Or.inr rfl))
    (hdz : (z == ("__debug__" : Str)) = false := by decide) (hcdz : (z == ("__classdict__" : Str)) = false := by decide)
    (hd : (x == ("__debug__" : Str)) = false := by decide) (hcd : (x == ("__classdict__" : Str)) = false := by decide) (hs0 : starEach [kx] X.env = (false, eval kx X.env) :: starEach [] X.env := by rfl)
    (hfew : ((backTo cpos (starEach (kx :: []) X.env)).all (fun x => !x.1) && (backToKw cpos (keywordEach [] X.env)).all (fun x => x.1.isSome)
      && decide ((kx :: []).length + ([] : List Keyword).length + (if ([] : List Keyword).isEmpty then 0 else 1) < 30)) = true := by rfl)
    (hbase : attributeBase (.Name x y) "pop" X.env (eval (.Name x y) X.env) = eval (.Name x y) X.env := by rfl) (hline : (apos.endLine == cpos.line) = true := by rfl) (hpl : (backTo cpos (starEach [] X.env)).any (·.1) = false := by rfl)
    (hs : swapsWith (.BinOp (.Name z pz) .Add (.Call (.Attribute (.Name x y) "pop" apos) [kx] [] cpos) bpos) (some (.Name z py)) pos.line X.env = pure false := by rfl)
    (hf : X.fn z = true ∨ X.env.scope.names.lookup z = some .local := by first | exact .inl rfl | exact .inr rfl) :
    PS X (.Assign [.Name z py] (.BinOp (.Name z pz) .Add (.Call (.Attribute (.Name x y) "pop" apos) [kx] [] cpos) bpos) pos) (tS c (sAddPop j i m)) := by
  refine ps_imp (ps_set o.nd hz hlz (pe_op op_add_str (pe_var hz hvz hdz hcdz) (pe_bm PySem.F.plainAttrs_list PySem.F.slot_list_pop PySem.F.type_list_pop mt_popAt (pe_var hN hv hd hcd) (pa_cons hk pa_nil hs0) hbase hfew hline hs0 hpl)) hs hf) ?_
  rintro D σ H ⟨G, s, O, R, h, k⟩
  unfold sAddPop at h
  split at h
  · rename_i l e1
    obtain ⟨v, e2, dg⟩ := R.at e1
    cases dg
    refine ⟨_, e2, pop_run (kx := kx) R h fun d s' v H' G' q R' S' dg => ?_⟩
    split at q
    · cases dg
      refine ⟨_, _, rfl, rfl, by rw [len_sT, len_sT, ← lineEq]; exact q.1, ?_⟩
      rw [sT_append]
      exact k.nx _ _ _ _ q.2 (R'.put_val (.str _)) S'
    · exact q.elim
  · exact h.elim
/-! ### loops -/
theorem ds_for {tg iter : Expr} {body : List Stmt} {src : Src} {g : Gt} {is : List Nat} [o : Ok X c] [cm : Calm X] (hp : PassesOwn (model X.prog X.w) X.A X.env X.xe) (hi : PI X tg iter (tI c src)) (hg : PG X tg (tG c is g)) (hb : PSs X body (tS c u))
    (hs : ∀ x, foldedSetIterable iter X.env x = pure x := by intro _; rfl) : PS X (.For tg iter body [] pos) (tS c (sFor src g u)) := by
  refine ps_imp (ps_for hp cm.calm hi hg hb hs) ?_
  rintro D σ H ⟨G, s, O, R, h, k⟩
  refine ⟨G, s, _, R, h, fun ds s1 J H1 G1 q R1 S1 K1 Wk => ?_⟩
  refine ⟨fun i n σ H => ∃ G s, i + n = ds.length ∧ Rel c σ H G s ∧ Same G1 G ∧ forL g u (ds.drop i) s O, ⟨ds.length, G1, s1, by omega, R1, Same.refl _, q⟩, ?_⟩
  rintro i n σ2 H2 ⟨G2, s2, ei, R2, S2, q2⟩
  by_cases hi' : i < ds.length
  · right
    refine ⟨Wk.go i H2 G2 hi' S2 R2.gH, fun σ' H' => ∃ G s, i + 1 + (n - 1) = ds.length ∧ Rel c σ' H' G s ∧ Same G1 G ∧ forL g u (ds.drop (i + 1)) s O, fun σ' H' h => ⟨n - 1, by omega, h⟩, fun x H3 y => ?_⟩
    obtain ⟨G3, R3, S3, K3, dx⟩ := Wk.yld c _ i H2 G2 H3 _ x (ds[i]) rfl R2 S2 (by simp) y
    have ed : ds.drop i = ds[i] :: ds.drop (i + 1) := by rw [← List.drop_eq_getElem_cons hi']
    rw [ed] at q2
    refine ⟨G3, s2, _, _, R3, dx, q2, fun s4 σ4 H4 G4 q4 R4 C4 S4 K4 => ⟨G4, s4, _, R4, q4, ?_⟩⟩
    have ss : Same G1 G4 := (S2.trans S3).trans S4
    refine ⟨fun s' σ' H' G' q R' S' => ⟨G', s', by omega, R', ss.trans S', q⟩, fun s' σ' H' G' q R' S' => k.nx _ _ _ _ q R' ((S1.trans ss).trans S'), fun s' σ' H' G' q R' S' => ⟨G', s', by omega, R', ss.trans S', q⟩, fun r s' v σ' H' G' q R' S' => k.rt _ _ _ _ _ _ q R' ((S1.trans ss).trans S')⟩
  · left
    have e0 : i = ds.length := by omega
    subst e0
    rw [List.drop_length] at q2
    exact ⟨Wk.stop H2 G2 S2 R2.gH, k.nx _ _ _ _ q2 R2 (S1.trans S2)⟩
theorem ds_while {d : Expr} {body : List Stmt} (hp : PassesOwn (model X.prog X.w) X.A X.env X.xe) (hd : PT X d (tT c t)) (hb : PSs X body (tS c u)) : PS X (.While d body [] pos) (tS c (sWhile t u)) := by
  refine ps_imp (ps_while hp hd hb) ?_
  rintro D σ H ⟨G, s, O, R, ⟨I, ⟨m0, i0⟩, turn⟩, k⟩
  refine ⟨fun n σ H => ∃ G1 s, Rel c σ H G1 s ∧ Same G G1 ∧ I n s, ⟨m0, G, s, R, Same.refl _, i0⟩, ?_⟩
  rintro n σ1 H1 ⟨G1, s1, R1, S1, i1⟩
  refine ⟨G1, s1, _, R1, turn n s1 i1, fun b s2 H2 G2 q R2 S2 K2 => ?_⟩
  cases b with
  | true =>
    rw [if_pos rfl] at q
    refine iteT ⟨fun σ' H' => ∃ m', m' < n ∧ ∃ G1 s, Rel c σ' H' G1 s ∧ Same G G1 ∧ I m' s, fun σ' H' h => h, G2, s2, _, R2, q, ?_⟩
    have ss := S1.trans S2
    refine ⟨fun s' σ' H' G' ⟨m', hm, q⟩ R' S' => ⟨m', hm, G', s', R', ss.trans S', q⟩, fun s' σ' H' G' q R' S' => k.nx _ _ _ _ q R' (ss.trans S'), fun s' σ' H' G' ⟨m', hm, q⟩ R' S' => ⟨m', hm, G', s', R', ss.trans S', q⟩, fun r s' v σ' H' G' q R' S' => k.rt _ _ _ _ _ _ q R' (ss.trans S')⟩
  | false =>
    rw [if_neg Bool.false_ne_true] at q
    exact iteF (k.nx _ _ _ _ q R2 (S1.trans S2))
end
end DL

/-! DLS10: defs. -/
namespace DL
open PySem PySem.Spec PyProof.Rows L2
/-! ### defs -/
section
variable {P : Program} {w : World} {K : PySem.W.Frag} {mg : Str → Option Value} {base : Heap}
theorem start_get {N : List Str} {vs : List V} {i : Nat} {v : V} (h : vs[i]? = some v) : (L2.start N vs)[i]? = some (some v) := by
  unfold L2.start
  have hi : i < vs.length := (List.getElem?_eq_some_iff.mp h).1
  rw [List.getElem?_append_left (by simpa using hi), List.getElem?_map, h]
  rfl
theorem get_vals : ∀ (ds : List D) (n i : Nat), get (ds.map Slot.val ++ List.replicate n .gone) i = match ds[i]? with
    | some d => .val d
    | none => .gone
  | [], 0, i => rfl
  | [], n + 1, 0 => rfl
  | [], n + 1, i + 1 => by
    have := get_vals [] n i
    simpa [List.replicate_succ, get] using this
  | d :: ds, n, 0 => rfl
  | d :: ds, n, i + 1 => by
    have := get_vals ds n i
    simpa [get] using this
theorem start_length {N : List Str} {vs : List V} (h : vs.length ≤ N.length) : (L2.start N vs).length = N.length := by
  unfold L2.start
  rw [List.length_append, List.length_map, List.length_replicate]
  omega
/-- at a def's entry: arguments alone -/
theorem rel_start {N : List Str} {vs : List V} {ds : List D} {G0 H : Hp} {w : W} (gH : Same G0 H) (h : Dgs K G0 vs ds) (hl : vs.length ≤ N.length) : Rel ⟨K, G0, H, none, fun _ => False, mg, none⟩ (L2.start N vs) H G0 ⟨ds.map Slot.val ++ List.replicate (N.length - ds.length) .gone, w⟩ := by
  have sl : ∀ i, SlotOk ⟨K, G0, H, none, fun _ => False, mg, none⟩ H G0 (L2.start N vs)[i]? (get (ds.map Slot.val ++ List.replicate (N.length - ds.length) .gone) i) ∧ (get (ds.map Slot.val ++ List.replicate (N.length - ds.length) .gone) i).isOwn = false := fun i => by
    rw [get_vals]
    cases e : ds[i]? with
    | none => exact ⟨trivial, rfl⟩
    | some d =>
      obtain ⟨v, h1, h2⟩ := h.get e
      exact ⟨⟨v, start_get h1, h2⟩, rfl⟩
  refine ⟨Same.refl _, gH, fun b o e _ => e, fun a o e => .inl e, ?_, fun i => (sl i).1, fun i j a hij h1 _ _ _ => ?_, fun a e => (nomatch e), fun a e => e.elim⟩
  · show (ds.map Slot.val ++ List.replicate (N.length - ds.length) Slot.gone).length = _
    rw [start_length hl, List.length_append, List.length_map, List.length_replicate]
    have := h.length
    omega
  · have h1 : (get (ds.map Slot.val ++ List.replicate (N.length - ds.length) .gone) i).isOwn = true := h1
    rw [(sl i).2] at h1
    cases h1
theorem rel_startF {N : List Str} {fa : Addr} {vs : List V} {ds : List D} {G0 H : Hp} {w : W} (gH : Same G0 H) (fd : FeedOk (some fa) H G0 w) (h : Dgs K G0 vs ds) (hl : vs.length + 1 ≤ N.length) :
    Rel ⟨K, G0, H, some fa, fun _ => False, mg, none⟩ (L2.start N (.ref fa :: vs)) H G0 ⟨.feed :: ds.map Slot.val ++ List.replicate (N.length - 1 - ds.length) .gone, w⟩ := by
  have gv : ∀ i, get (Slot.feed :: ds.map Slot.val ++ List.replicate (N.length - 1 - ds.length) .gone) (i + 1) = match ds[i]? with
    | some d => .val d
    | none => .gone := fun i => get_vals ds (N.length - 1 - ds.length) i
  have sl : ∀ i, SlotOk ⟨K, G0, H, some fa, fun _ => False, mg, none⟩ H G0 (L2.start N (.ref fa :: vs))[i]? (get (Slot.feed :: ds.map Slot.val ++ List.replicate (N.length - 1 - ds.length) .gone) i) ∧ (get (Slot.feed :: ds.map Slot.val ++ List.replicate (N.length - 1 - ds.length) .gone) i).isOwn = false := fun i => by
    cases i with
    | zero => exact ⟨⟨fa, start_get rfl, rfl⟩, rfl⟩
    | succ i =>
      rw [gv]
      cases e : ds[i]? with
      | none => exact ⟨trivial, rfl⟩
      | some d =>
        obtain ⟨v, h1, h2⟩ := h.get e
        exact ⟨⟨v, start_get (by simpa using h1), h2⟩, rfl⟩
  refine ⟨Same.refl _, gH, fun b o e _ => e, fun a o e => .inl e, ?_, fun i => (sl i).1, fun i j a hij h1 _ _ _ => ?_, fd, fun a e => e.elim⟩
  · show (Slot.feed :: ds.map Slot.val ++ List.replicate (N.length - 1 - ds.length) Slot.gone).length = _
    rw [start_length (by simpa using hl), List.length_append, List.length_cons, List.length_map, List.length_replicate]
    have := h.length
    omega
  · have h1 : (get (Slot.feed :: ds.map Slot.val ++ List.replicate (N.length - 1 - ds.length) .gone) i).isOwn = true := h1
    rw [(sl i).2] at h1
    cases h1
/-- the context of a def's body -/
abbrev bodyCx (P : Program) (w : World) (K : PySem.W.Frag) (mg : Str → Option Value) (base : Heap) (N : List Str) (qual : Str) (scope : Scope) (f : Addr) (cdv : Value) (A : Around) (outer : List PySem.Env) (s : Shared) (H : Hp) (E : XK) : Cx := (cxOf CX0 P w K mg base N qual scope f cdv A outer s H E).nox
theorem ok_body {N : List Str} {qual : Str} {scope : Scope} {f : Addr} {cdv : Value} {A : Around} {outer : List PySem.Env} {s : Shared} {H : Hp} {E : XK} {k : Nat} {c : Ct} (hr : Room k (A.deeper (envOfC qual scope s.heap.objs.size f cdv))) (nd : N.Nodup) (blt : ∀ x ∈ bltNames, mg x = none) (hK : c.K = K) (hM : c.mg = mg) (hX : c.xe = none) :
    Ok (bodyCx P w K mg base N qual scope f cdv A outer s H E) c := ⟨hK.symm, blt, by have := hr.un; show (A.deeper (envOfC qual scope s.heap.objs.size f cdv)).units + 66 < _; omega, nd, hM.symm, fun _ => hX⟩
/-- a def by its body's meaning -/
theorem fn_ok {x qual : Str} {st : Stmt} {f : Addr} {fd : FuncData} {N ps : List Str} {k : Nat} {body : MS} {spec : Sem} (F : Fun K x qual st f fd) (Sc : FnScope N ps (defScope st)) (len : ∀ ds w Q, spec ds w Q → ds.length = ps.length) (blt : ∀ x ∈ bltNames, mg x = none)
    (hbody : ∀ (cdv : Value) (A : Around) (outer : List PySem.Env) (s : Shared) (H : Hp) (E : XK) (c : Ct), Room k (A.deeper (envOfC qual (defScope st) s.heap.objs.size f cdv)) → Ok (bodyCx P w K mg base N qual (defScope st) f cdv A outer s H E) c → PSs (bodyCx P w K mg base N qual (defScope st) f cdv A outer s H E) (defBody st) (tS c body))
    (vc : ∀ ds w Q, spec ds w Q → run N.length body ds w Q) : FnOk P w K mg base CX0 (k + 1) f fd ps (spD K spec) := by
  refine F.ok Sc (fun vs H Q E h => ?_) (fun cdv A outer s H vs Q E hr h => ?_)
  · obtain ⟨G0, ds, w, Qd, _, h2, h3, _⟩ := h
    rw [h2.length]
    exact len _ _ _ h3
  · obtain ⟨G0, ds, w', Qd, h1, h2, h3, h4⟩ := h
    have hpl : ps.length ≤ N.length := by have := congrArg List.length Sc.pre; rw [List.length_take] at this; omega
    have hl := len _ _ _ h3
    have hl2 := h2.length
    have fin : ∀ {r : DL.R} {s' : S} {v : V} {σ' : St} {H' G' : Hp}, Qd r s'.w → Rel ⟨K, G0, H, none, fun _ => False, mg, none⟩ σ' H' G' s' → RetR ⟨K, G0, H, none, fun _ => False, mg, none⟩ H' G' v r → Q v H' := fun {r s' v σ' H' G'} q R h => by
      refine h4 _ _ _ _ _ q ⟨R.g0, R.gH, R.kH, R.gN, ?_⟩
      cases r with
      | val d => exact h
      | own ds => exact h
      | bor ds => exact h
    refine ⟨_, hbody cdv A outer s H E ⟨K, G0, H, none, fun _ => False, mg, none⟩ hr (ok_body hr Sc.nd blt rfl rfl rfl), G0, _, _, rel_start (w := w') h1 h2 (by omega), vc _ _ _ h3, ?_⟩
    exact ⟨fun s' σ' H' G' q R S => fin q R .non, fun s' σ' H' G' q R S => q.elim, fun s' σ' H' G' q R S => q.elim, fun r s' v σ' H' G' q R S h => fin q R h⟩
theorem fn_okF {x qual : Str} {st : Stmt} {f : Addr} {fd : FuncData} {N ps : List Str} {k : Nat} {body : MS} {spec : Sem} (F : Fun K x qual st f fd) (Sc : FnScope N ps (defScope st)) (len : ∀ ds w Q, spec ds w Q → ds.length + 1 = ps.length) (blt : ∀ x ∈ bltNames, mg x = none)
    (hbody : ∀ (cdv : Value) (A : Around) (outer : List PySem.Env) (s : Shared) (H : Hp) (E : XK) (c : Ct), Room k (A.deeper (envOfC qual (defScope st) s.heap.objs.size f cdv)) → Ok (bodyCx P w K mg base N qual (defScope st) f cdv A outer s H E) c → PSs (bodyCx P w K mg base N qual (defScope st) f cdv A outer s H E) (defBody st) (tS c body))
    (vc : ∀ ds w Q, spec ds w Q → runF N.length body ds w Q) : FnOk P w K mg base CX0 (k + 1) f fd ps (spF K spec) := by
  refine F.ok Sc (fun vs H Q E h => ?_) (fun cdv A outer s H vs Q E hr h => ?_)
  · obtain ⟨fa, us, G0, ds, w, Qd, e, _, _, h2, h3, _⟩ := h
    rw [e, List.length_cons, h2.length]
    exact len _ _ _ h3
  · obtain ⟨fa, us, G0, ds, w', Qd, e, h1, hfd, h2, h3, h4⟩ := h
    subst e
    have hpl : ps.length ≤ N.length := by have := congrArg List.length Sc.pre; rw [List.length_take] at this; omega
    have hl := len _ _ _ h3
    have hl2 := h2.length
    have fin : ∀ {r : DL.R} {s' : S} {v : V} {σ' : St} {H' G' : Hp}, Qd r s'.w → Rel ⟨K, G0, H, some fa, fun _ => False, mg, none⟩ σ' H' G' s' → RetR ⟨K, G0, H, some fa, fun _ => False, mg, none⟩ H' G' v r → Q v H' := fun {r s' v σ' H' G'} q R h => by
      refine h4 _ _ _ _ _ q ⟨R.g0, R.gH, R.kH, R.gN, ?_⟩ R.fd
      cases r with
      | val d => exact h
      | own ds => exact h
      | bor ds => exact h
    refine ⟨_, hbody cdv A outer s H E ⟨K, G0, H, some fa, fun _ => False, mg, none⟩ hr (ok_body hr Sc.nd blt rfl rfl rfl), G0, _, _, rel_startF (w := w') h1 hfd h2 (by omega), vc _ _ _ h3, ?_⟩
    exact ⟨fun s' σ' H' G' q R S => fin q R .non, fun s' σ' H' G' q R S => q.elim, fun s' σ' H' G' q R S => q.elim, fun r s' v σ' H' G' q R S h => fin q R h⟩
end
end DL

/-! DLS11: module constants, defs that are known, methods of texts. -/
namespace DL
open PySem PySem.Spec PyProof.Rows L2
/-- a module's constant -/
def KC (K : PySem.W.Frag) (mg : Str → Option Value) (x : Str) (d : D) : Prop := ∃ u v, mg x = some u ∧ RelV v u ∧ ∀ G, Dg K G v d
/-- a def of the module keeps sp, by at most k levels -/
structure FK (P : Program) (w : World) (K : PySem.W.Frag) (mg : Str → Option Value) (base : Heap) (x : Str) (k : Nat) (sp : Sp) : Prop where
  ex : ∃ (f : Addr) (fd : FuncData) (ps : List Str), FnOk P w K mg base CX0 k f fd ps sp ∧ mg x = some (.ref f) ∧ PySem.W.keepIn K (.ref f) = true ∧ Binds K fd ps []
section
variable {P : Program} {w : World} {K : PySem.W.Frag} {mg : Str → Option Value} {base : Heap}
theorem FK.kn {N : List Str} {qual : Str} {scope : Scope} {f : Addr} {cdv : Value} {A : Around} {outer : List PySem.Env} {s : Shared} {H : Hp} {E : XK} {j k : Nat} {x : Str} {sp : Sp} (F : FK P w K mg base x k sp) (hr : Room j (A.deeper (envOfC qual scope s.heap.objs.size f cdv))) (h : k ≤ j) :
    Kn (bodyCx P w K mg base N qual scope f cdv A outer s H E) x sp := by
  obtain ⟨f', fd, ps, h1, h2, h3, h4⟩ := F.ex
  exact ⟨⟨k, f', fd, ps, h1, hr.mono h, h2, h3, h4⟩⟩
end
section
variable {X : Cx} {c : Ct} {a b e : Expr} {es : List Expr} {m m1 m2 m3 : M} {ms : Ms} {t t1 t2 : T} {pos p : Pos} {σ : St} {H G : Hp} {s : S} {x : Str} {id ty : String}
theorem de_globK {d : D} (h : KC X.K X.mg x d) [o : Ok X c] (hg : Gl X x := by rfl) (hd : (x == ("__debug__" : Str)) = false := by decide) : PE X (.Name x pos) (tE c (mC d)) := by
  obtain ⟨u, v, h1, h2, h3⟩ := h
  exact de_glob hg h1 h2 (fun G => o.K ▸ h3 G) hd
/-! ### methods of texts -/
theorem sT_tl (l : List Nat) : TL.tl (sT l) = l := rfl
theorem one_len (ch : Nat) : (sT [ch]).length = 1 := rfl
theorem fst_lt {ch : Nat} : ∀ {l : List Nat}, ch ∈ l → fstIx ch l < l.length
  | [], h => by simp at h
  | x :: r, h => by
    unfold fstIx
    by_cases e : x = ch
    · rw [if_pos e]; simp
    · rw [if_neg e]
      have := fst_lt (l := r) (ch := ch) (by rcases List.mem_cons.mp h with z | z; exact absurd z.symm e; exact z)
      simp only [List.length_cons]
      omega
theorem fst_at {ch : Nat} : ∀ {l : List Nat}, ch ∈ l → l[fstIx ch l]? = some ch ∧ ∀ k, k < fstIx ch l → l[k]? ≠ some ch
  | [], h => by simp at h
  | x :: r, h => by
    unfold fstIx
    by_cases e : x = ch
    · subst e
      rw [if_pos rfl]
      exact ⟨rfl, fun k hk => absurd hk (Nat.not_lt_zero _)⟩
    · rw [if_neg e]
      obtain ⟨h1, h2⟩ := fst_at (l := r) (ch := ch) (by rcases List.mem_cons.mp h with z | z; exact absurd z.symm e; exact z)
      refine ⟨by simpa using h1, fun k hk => ?_⟩
      cases k with
      | zero => simpa using e
      | succ k => simpa using h2 k (by omega)
theorem at_one {ch : Nat} {l : List Nat} {i : Nat} : PySem.StrLaws.At (sT l) (sT [ch]) (sT l).length i ↔ l[i]? = some ch := by
  have := PySem.StrLaws.subAt_one (sT l) ch i
  simpa [PySem.StrLaws.At] using this
theorem occ_fst {ch : Nat} {l : List Nat} (h : ch ∈ l) : ∃ rest, Builtin.Str.occurrences (sT l) (sT [ch]) 0 (sT l).length 1 = fstIx ch l :: rest := by
  obtain ⟨h1, h2⟩ := fst_at h
  rcases PySem.StrLaws.occ_head (sT l) (sT [ch]) 1 (Nat.le_refl 1) with ⟨_, hn⟩ | ⟨i, r, e, ha, hn⟩
  · exact absurd (at_one.mpr h1) (hn _)
  · have hi : i = fstIx ch l := by
      rcases Nat.lt_trichotomy i (fstIx ch l) with z | z | z
      · exact absurd (at_one.mp ha) (h2 i z)
      · exact z
      · exact absurd (at_one.mpr h1) (hn _ z)
    exact ⟨r, by rw [e, hi]⟩
theorem spl_split {ch : Nat} : ∀ (l acc : List Nat), TL.spl [ch] 0 acc l = match splitC ch l with
    | [] => []
    | p :: ps => (acc ++ p) :: ps
  | [], acc => by simp [TL.spl_nil, splitC]
  | x :: r, acc => by
    unfold splitC
    by_cases e : x = ch
    · subst e
      rw [if_pos rfl, TL.spl_hit (by simp [TL.pre])]
      have ih := spl_split (ch := x) r []
      simp only [List.length_singleton, Nat.sub_self]
      rw [ih]
      cases splitC x r <;> simp
    · rw [if_neg e, TL.spl_miss (by simp [TL.pre, e]), spl_split r (acc ++ [x])]
      cases q : splitC ch r with
      | nil =>
        exfalso
        cases r with
        | nil => simp [splitC] at q
        | cons y r =>
          unfold splitC at q
          split at q
          · cases q
          · split at q <;> cases q
      | cons p ps => simp
theorem split_eq {ch : Nat} (l : List Nat) (hc : ch < 256) : (Txt.split (sT l) (sT [ch])).map TL.tl = splitC ch l := by
  rw [TL.split_spl _ _ (by simp [TL.tl]) (TL.kind_ok (by simpa using hc)), sT_tl, sT_tl, spl_split]
  cases splitC ch l <;> simp
theorem splitC_ne {ch : Nat} : ∀ l : List Nat, splitC ch l ≠ []
  | [] => by simp [splitC]
  | x :: r => by
    unfold splitC
    by_cases e : x = ch
    · rw [if_pos e]; simp
    · rw [if_neg e]
      cases splitC ch r <;> simp
theorem count_eq {ch : Nat} (l : List Nat) (hc : ch < 256) : Txt.count (sT l) (sT [ch]) = (((splitC ch l).length - 1 : Nat) : Int) := by
  have h := congrArg List.length (split_eq l hc)
  rw [List.length_map] at h
  unfold Txt.count
  rw [← h]
  unfold Txt.split
  have hk : decide (Builtin.Str.strKind (sT l) < Builtin.Str.strKind (sT [ch])) = false := decide_eq_false (TL.kind_ok (by simpa using hc))
  rw [hk, Bool.or_false]
  by_cases hl : (sT l).length < (sT [ch]).length
  · rw [if_pos (decide_eq_true hl)]
    rcases PySem.StrLaws.occ_head (sT l) (sT [ch]) ((sT l).length + 1) (by omega) with ⟨e, _⟩ | ⟨i, r, e, ha, _⟩
    · rw [e]; rfl
    · have := ha.1; omega
  · rw [if_neg (by rw [decide_eq_false hl]; exact Bool.false_ne_true)]
    cases e : Builtin.Str.occurrences (sT l) (sT [ch]) 0 (sT l).length ((sT l).length + 1) with
    | nil => rfl
    | cons i r =>
      rw [if_neg (by simp), PySem.length_partsBetween]
      rfl
theorem isS_of {d : D} {k : Prop} (h : isS d k) : (∃ l, d = .str l) ∧ k := by
  unfold isS at h
  split at h
  · exact ⟨⟨_, rfl⟩, h⟩
  · exact h.elim
theorem isL_of {d : D} {k : Prop} (h : isL d k) : (∃ l, d = .list l) ∧ k := by
  unfold isL at h
  split at h
  · exact ⟨⟨_, rfl⟩, h⟩
  · exact h.elim
theorem mMS_run {f : D → D → (R → Prop) → Prop} {r : V → List V → Hp → VK → Prop} (ho : OpD c f (fun x y H Q => r x [y] H Q)) : ∀ σ H Q, tE c (mMS f m1 m2) σ H Q → tM1 r (tE c m1) (tE c m2) σ H Q := by
  rintro σ H Q ⟨G, s, Q0, R, hm, hQ⟩
  refine ⟨G, s, _, R, hm, fun r1 s1 v1 H1 G1 q1 R1 S1 K1 O1 => ?_⟩
  obtain ⟨⟨l, e⟩, q1⟩ := isS_of q1
  have p1 := O1.peek R1
  refine ⟨⟨sT l, by rw [e] at p1; exact p1.str⟩, G1, s1, _, R1, q1, fun r2 s2 v2 H2 G2 q2 R2 S2 K2 O2 => ?_⟩
  exact ho R2 (p1.keep S2 K2) (O2.peek R2) q2 fun r v H' G' q R' S' K' O' => hQ r s2 v H' G' q R' ((S1.trans S2).trans S') ((K1.trans K2).trans K') O'
theorem mML_run {f : D → D → (R → Prop) → Prop} {r : V → List V → Hp → VK → Prop} {K : PySem.W.Frag} (hK : K = c.K) (ho : OpD c f (fun x y H Q => r x [y] H Q)) : ∀ σ H Q, tE c (mML f m1 m2) σ H Q → tBM K "list" r (tE c m1) (tCons (tE c m2) tNil) σ H Q := by
  rintro σ H Q ⟨G, s, Q0, R, hm, hQ⟩
  refine ⟨G, s, _, R, hm, fun r1 s1 v1 H1 G1 q1 R1 S1 K1 O1 => ?_⟩
  obtain ⟨⟨l, e⟩, q1⟩ := isL_of q1
  have p1 := O1.peek R1
  have p1' := p1
  rw [e] at p1'
  obtain ⟨a, vs, e1, h1, h2⟩ := p1'.list
  subst e1
  refine ⟨.inl ⟨rfl, vs, SqL.of h1⟩, G1, s1, _, R1, q1, fun r2 s2 v2 H2 G2 q2 R2 S2 K2 O2 => ?_⟩
  exact ho R2 (p1.keep S2 K2) (O2.peek R2) q2 fun r v H' G' q R' S' K' O' => hQ r s2 v H' G' q R' ((S1.trans S2).trans S') ((K1.trans K2).trans K') O'
theorem de_indexS {apos : Pos} (ha : PE X a (tE c m1)) (hb : PE X b (tE c m2)) (hs : starEach [b] X.env = [(false, eval b X.env)] := by rfl) (hbase : attributeBase a "index" X.env (eval a X.env) = eval a X.env := by rfl) (hline : (apos.endLine == pos.line) = true := by rfl) :
    PE X (.Call (.Attribute a "index" apos) [b] [] pos) (tE c (mMS dIndexS m1 m2)) :=
  pe_imp (pe_m1 F.slot_str_index F.type_str_index mt_sindex ha hb hs hbase hline) (mMS_run (by
    intro σ H G s x y v u Qr Q R hx hy h F
    unfold dIndexS at h
    split at h
    · obtain ⟨rest, e⟩ := occ_fst h.1
      exact ⟨_, _, _, rest, hx.str, by rw [hy.str], e, F.val R h.2 (.int _)⟩
    · exact h.elim))
theorem de_indexL [o : Ok X c] {apos : Pos} (ha : PE X a (tE c m1)) (hb : PE X b (tE c m2)) (hs : starEach [b] X.env = (false, eval b X.env) :: starEach [] X.env := by rfl) (hbase : attributeBase a "index" X.env (eval a X.env) = eval a X.env := by rfl) (hline : (apos.endLine == pos.line) = true := by rfl)
    (hfew : ((backTo pos (starEach (b :: []) X.env)).all (fun x => !x.1) && (backToKw pos (keywordEach [] X.env)).all (fun x => x.1.isSome)
      && decide ((b :: []).length + ([] : List Keyword).length + (if ([] : List Keyword).isEmpty then 0 else 1) < 30)) = true := by rfl) (hpl : (backTo pos (starEach [] X.env)).any (·.1) = false := by rfl) :
    PE X (.Call (.Attribute a "index" apos) [b] [] pos) (tE c (mML dIndexL m1 m2)) :=
  pe_imp (pe_bm PySem.F.plainAttrs_list PySem.F.slot_list_index PySem.F.type_list_index (mt_indexD (by have := o.hu; omega)) ha (pa_cons hb pa_nil hs) hbase hfew hline hs hpl) (mML_run o.K (by
    intro σ H G s x y v u Qr Q R hx hy h F
    unfold dIndexL at h
    split at h
    · obtain ⟨h1, h2, j, z, h3, h4, h5, h6⟩ := h
      rename_i ds
      obtain ⟨a, vs, e, g1, g2⟩ := hx.list
      have hd := hx.dp R
      simp only [toP] at hd
      refine ⟨a, u, toP y, toPs ds, j, toP z, e, rfl, o.K ▸ (e ▸ hd), o.K ▸ hy.dp R, ?_, shaped_of h1 (by decide), ?_, by rw [eqv_toP]; exact h4, fun i w hi hw => ?_, F.val R h6 (.int _)⟩
      · exact shaped_of (n := 9) (d := .list ds) h2 (by decide)
      · rw [toPs_map, List.getElem?_map, h3]; rfl
      · rw [toPs_map, List.getElem?_map] at hw
        cases q : ds[i]? with
        | none => rw [q] at hw; cases hw
        | some w' =>
          rw [q] at hw
          cases hw
          rw [eqv_toP]
          exact h5 i w' hi q
    · exact h.elim))
theorem de_count {apos : Pos} (ha : PE X a (tE c m1)) (hb : PE X b (tE c m2)) (hs : starEach [b] X.env = [(false, eval b X.env)] := by rfl) (hbase : attributeBase a "count" X.env (eval a X.env) = eval a X.env := by rfl) (hline : (apos.endLine == pos.line) = true := by rfl) :
    PE X (.Call (.Attribute a "count" apos) [b] [] pos) (tE c (mMS dCount m1 m2)) :=
  pe_imp (pe_m1 F.slot_str_count F.type_str_count mt_count ha hb hs hbase hline) (mMS_run (by
    intro σ H G s x y v u Qr Q R hx hy h F
    unfold dCount at h
    split at h
    · refine ⟨_, _, hx.str, by rw [hy.str], ?_⟩
      rw [count_eq _ h.2.1]
      exact F.val R h.2.2 (.int _)
    · exact h.elim))
theorem map_tl {ls : List (List Nat)} {ys : List Str} (h : ys.map TL.tl = ls) : ys = ls.map sT := by
  apply TL.map_tl_inj
  rw [h, List.map_map]
  symm
  calc ls.map (TL.tl ∘ sT) = ls.map id := List.map_congr_left fun _ _ => rfl
    _ = ls := List.map_id _
theorem Dgs.strs (ls : List (List Nat)) {K : PySem.W.Frag} {G : Hp} : Dgs K G ((ls.map sT).map V.str) (ls.map D.str) := by
  induction ls with
  | nil => exact .nil
  | cons l r ih => exact .cons (.str l) ih
theorem de_split {apos : Pos} (ha : PE X a (tE c m1)) (hb : PE X b (tE c m2)) (hs : starEach [b] X.env = [(false, eval b X.env)] := by rfl) (hbase : attributeBase a "split" X.env (eval a X.env) = eval a X.env := by rfl) (hline : (apos.endLine == pos.line) = true := by rfl) :
    PE X (.Call (.Attribute a "split" apos) [b] [] pos) (tE c (mMS dSplit m1 m2)) :=
  pe_imp (pe_m1 F.slot_str_split F.type_str_split mt_split ha hb hs hbase hline) (mMS_run (by
    intro σ H G s x y v u Qr Q R hx hy h F
    unfold dSplit at h
    split at h
    · refine ⟨_, _, hx.str, by rw [hy.str], rfl, by rw [len_sT, ← lineEq]; exact h.1, fun p n => ?_⟩
      rw [map_tl (split_eq _ h.2.1)]
      exact F.own R h.2.2 (Dgs.strs _) n
    · exact h.elim))
theorem joinL_S (sep : List Nat) : ∀ ls : List (List Nat), TL.joinL sep ls = joinS sep ls
  | [] => rfl
  | [_] => rfl
  | p :: q :: r => by
    show p ++ (sep ++ TL.joinL sep (q :: r)) = p ++ (sep ++ joinS sep (q :: r))
    rw [joinL_S sep (q :: r)]
theorem join_sT (sep : List Nat) (ls : List (List Nat)) : Txt.join (sT sep) (ls.map sT) = sT (joinS sep ls) := by
  apply TL.ext_tl
  rw [TL.join_eq, TL.tl_join, List.map_map, sT_tl, sT_tl, ← joinL_S]
  congr 1
  calc ls.map (TL.tl ∘ sT) = ls.map id := List.map_congr_left fun _ _ => rfl
    _ = ls := List.map_id _
theorem Dgs.toStrs {K : PySem.W.Frag} {G : Hp} : ∀ {ls : List (List Nat)} {vs : List V}, Dgs K G vs (ls.map D.str) → vs = (ls.map sT).map V.str
  | [], _, .nil => rfl
  | l :: r, _, h => by
    rw [List.map_cons] at h
    cases h with
    | cons h t => cases h; rw [Dgs.toStrs t]; rfl
theorem de_join [o : Ok X c] {apos : Pos} (ha : PE X a (tE c m1)) (hb : PE X b (tE c m2)) (hs : starEach [b] X.env = [(false, eval b X.env)] := by rfl) (hbase : attributeBase a "join" X.env (eval a X.env) = eval a X.env := by rfl) (hline : (apos.endLine == pos.line) = true := by rfl) :
    PE X (.Call (.Attribute a "join" apos) [b] [] pos) (tE c (mMS dJoin m1 m2)) :=
  pe_imp (pe_m1 F.slot_str_join F.type_str_join mt_join ha hb hs hbase hline) (mMS_run (by
    intro σ H G s x y v u Qr Q R hx hy h F
    unfold dJoin at h
    split at h
    · obtain ⟨ls, e, hz, q⟩ := h
      subst e
      obtain ⟨p, vs, e1, h1, h2⟩ := hy.list
      have e2 := h2.toStrs
      subst e2
      refine ⟨_, p, ls.map sT, hx.str, by rw [e1], .inl (SqL.of h1), ?_, ?_⟩
      · rw [List.map_map, List.length_map, len_sT]
        have : ls.map ((fun x => x.length) ∘ sT) = ls.map List.length := List.map_congr_left fun l _ => len_sT l
        rw [this]
        exact hz
      · rw [join_sT]
        exact F.val R q (.str _)
    · exact h.elim))
end
end DL

/-! DLS12: further expressions. -/
namespace DL
open PySem PySem.Spec PyProof.Rows L2
section
variable {X : Cx} {c : Ct} {a b e : Expr} {es : List Expr} {m m1 m2 m3 : M} {ms : Ms} {t t1 t2 : T} {pos p : Pos} {σ : St} {H G : Hp} {s : S} {x : Str} {id ty : String}
theorem fm_of {α β : Type} {f : α → Option β} {l : List α} {ys : List β} (h : l.map f = ys.map some) : l.filterMap f = ys := by
  have e : l.filterMap f = (l.map f).filterMap id := by rw [List.filterMap_map]; rfl
  rw [e, h, List.filterMap_map]
  simp
/-- xs[:k:-1] -/
theorem pick_revTo (items : Array Value) (k : Nat) (h : k < items.size) : slicePick items none (some (k : Int)) (some (-1)) = ((items.toList.drop (k + 1)).reverse).toArray := by
  unfold slicePick
  have hb : sliceBounds none (some (k : Int)) (some (-1)) items.size = ((items.size : Int) - 1, (k : Int), -1) := by
    unfold sliceBounds
    simp only [Option.getD_some, show ¬ ((-1 : Int) > 0) by decide, if_false]
    rw [if_neg (by omega)]
    refine Prod.ext rfl (Prod.ext ?_ rfl)
    show max (-1 : Int) (min (k : Int) ((items.size : Int) - 1)) = k
    omega
  rw [hb]
  have hr : sliceRange ((items.size : Int) - 1) (k : Int) (-1) = (List.range (items.size - 1 - k)).map fun j => items.size - 1 - j := by
    unfold sliceRange
    simp only [show ¬ ((-1 : Int) > 0) by decide, if_false]
    by_cases h2 : (items.size : Int) - 1 > k
    · rw [if_pos h2, show (- -1 : Int) = 1 by decide, Int.ediv_one]
      have e : ((items.size : Int) - 1 - k - -1 - 1).toNat = items.size - 1 - k := by omega
      rw [e]
      apply List.map_congr_left
      intro j hj
      have := List.mem_range.mp hj
      omega
    · rw [if_neg h2]
      have e : items.size - 1 - k = 0 := by omega
      rw [e]
      rfl
  show ((sliceRange ((items.size : Int) - 1) (k : Int) (-1)).filterMap (items[·]?)).toArray = _
  rw [hr]
  congr 1
  rw [List.filterMap_map]
  refine fm_of ?_
  apply List.ext_getElem
  · simp; omega
  · intro i h1 h2
    simp only [List.length_map, List.length_range] at h1
    simp only [List.getElem_map, List.getElem_range, Function.comp]
    rw [Array.getElem?_eq_getElem (by omega)]
    congr 1
    rw [List.getElem_reverse]
    simp
    congr 1
    omega
def tRevTo (K : PySem.W.Frag) (k : Nat) (te : TE) : TE := fun σ H Q => te σ H fun x H1 => ∃ a xs, x = .ref a ∧ SqL K H1 a xs ∧ k < xs.length ∧ ∀ p, H1 p = none → Q (.ref p) (upd H1 p (.lst (xs.drop (k + 1)).reverse))
theorem pe_revTo {e : Expr} {te : TE} {k : Nat} {jk k1 : Nat} {p0 p1 p2 p3 pos : Pos} (he : PE X e te) : PE X (.Subscript e (.Slice none (some (.Constant (.int (k : Int)) jk p0)) (some (.UnaryOp .USub (.Constant (.int 1) k1 p1) p2)) p3) pos) (tRevTo X.K k te) := by
  refine ⟨fun pins s σ H Q I h => ?_⟩
  refine Subscript_ (thn (he.run pins s σ H _ I h) fun v s1 ⟨x, H1, I1, r1, q1⟩ => ?_)
  have hst : PO X (some (.UnaryOp .USub (.Constant (.int 1) k1 p1) p2)) (tPart (tUn (rU fun i => .int (-i)) (tC (.int 1)))) := po_some (pe_un un_neg pe_int)
  have hup : PO X (some (.Constant (.int (k : Int)) jk p0)) (tPart (tC (.int (k : Int)))) := po_some pe_int
  refine wpAny_Slice (thn (po_none.run pins s1 σ H1 (fun o H2 => o = none ∧ H2 = H1) I1 ⟨rfl, rfl⟩) fun vl s2 ⟨l, H2, I2, pl, el, e2⟩ => ?_)
  subst el e2
  refine thn (hup.run pins s2 σ H2 (fun o H3 => o = some (k : Int) ∧ H3 = H2) I2 ⟨_, rfl, rfl, rfl⟩) fun vu s3 ⟨u, H3, I3, pu, eu, e3⟩ => ?_
  subst eu e3
  refine thn (hst.run pins s3 σ H3 (fun o H4 => o = some (-1) ∧ H4 = H3) I3 ⟨1, rfl, -1, rfl, rfl, rfl⟩) fun vs s4 ⟨o, H4, I4, ps, eo, e4⟩ => ?_
  subst eo e4
  have I5 : Inv X pins σ H4 { s4 with heap := s4.heap.push { cls := .type "slice", data := .fields #[vl, vu, vs] } } := I4.kept (t' := s4.toks) fun b ob q => Heap.get?_push_of_some _ q
  obtain ⟨a, xs, ex, hx, hk, q⟩ := q1
  subst ex
  cases r1
  obtain ⟨its, r, ht, hz⟩ := I5.list hx
  have hlen := r.length
  show wpAny (model X.prog X.w) X.A (subscriptTail e (.Slice none (some (.Constant (.int (k : Int)) jk p0)) (some (.UnaryOp .USub (.Constant (.int 1) k1 p1) p2)) p3) (.ref a) (.ref s4.heap.objs.size)) (EP X pins σ Q) X.xe { s4 with heap := s4.heap.push { cls := .type "slice", data := .fields #[vl, vu, vs] } }
  refine tail_any (ops := [.ref a, .ref s4.heap.objs.size]) ht.isList.typeIs (PySem.slot_list_getitem.lookup) ?_ (by with_unfolding_all rfl)
  refine wpAny_getItem_list_slice ht.isList (Heap.IsSliceOf.new _ vl vu vs) pl pu ps (by decide) ?_ (by rw [List.size_toArray]; omega)
  rw [pick_revTo _ _ (by rw [List.size_toArray]; omega)]
  refine ⟨.ref _, _, I5.laid (t' := s4.toks) (o := .lst (xs.drop (k + 1)).reverse) (fun b ob q => Heap.get?_push_of_some _ q) (Nat.le_refl _) ?_, rfl, q _ (I5.hok.fresh (Nat.le_refl _))⟩
  exact ⟨by rw [List.length_reverse, List.length_drop]; omega, _, 0, (r.drop (k + 1)).reverse, Heap.get?_push_size _ rfl⟩
theorem de_revTo (k : Nat) [o : Ok X c] {jk k1 : Nat} {p0 p1 p2 p3 : Pos} (he : PE X e (tE c m)) : PE X (.Subscript e (.Slice none (some (.Constant (.int (k : Int)) jk p0)) (some (.UnaryOp .USub (.Constant (.int 1) k1 p1) p2)) p3) pos) (tE c (mRevTo m k)) := by
  refine pe_imp (pe_revTo he) ?_
  rintro σ H Q ⟨G, s, Q0, R, hm, hQ⟩
  refine ⟨G, s, _, R, hm, fun r s1 v H1 G1 q R1 S1 K1 O1 => ?_⟩
  have p := O1.peek R1
  split at q
  · rename_i ds e
    rw [e] at p
    obtain ⟨a, vs, e1, h1, h2, _⟩ := p
    exact ⟨a, vs, e1, SqL.of h1, by rw [h2.length]; exact q.1, fun x n => hQ _ _ _ _ _ q.2 (R1.newL n) S1 (K1.trans (Keep.upd n)) (R1.own_new n (h2.drop _).reverse)⟩
  · exact q.elim
end
end DL

/-! DLS13: the law's own def, what the top has written. -/
namespace DL
open PySem PySem.Spec PyProof.Rows L2
/-- a def of the module, as it stands -/
structure FnAt (K : PySem.W.Frag) (x : Str) (st : Stmt) : Prop where
  ex : ∃ (f : Addr) (fd : FuncData), PySem.W.nsIn K mainGlobals x = some (some (.ref f)) ∧ Fun K x x st f fd
theorem FnAt.mk' {K : PySem.W.Frag} {x : Str} {st : Stmt} {f : Addr} {oc kV doc pm cdv ct : Value} {od an : Option Addr} {osl : Array (Option Value)} (a : PySem.W.nsIn K mainGlobals x = some (some (.ref f)))
    (l : K.lookup f = some ⟨oc, od, .func (PySem.W.fnOf x x (defArgs st) (defBody st) (defScope st) .none kV doc pm an cdv ct), osl⟩) (c : PySem.W.codeIn K cdv x = true) (k : PySem.W.keepIn K (.ref f) = true) : FnAt K x st :=
  ⟨f, _, a, fun_mk l c k⟩
section
variable {P : Program} {w : World} {K : PySem.W.Frag} {mg : Str → Option Value} {base hp : Heap}
theorem FnAt.fk {x : Str} {st : Stmt} {ps : List Str} {sp : Sp} {k : Nat} (h : FnAt K x st) (X : K.In hp) (G : hp.Ns mainGlobals mg) (hb : ∀ f fd, Fun K x x st f fd → FnOk P w K mg base CX0 k f fd ps sp)
    (bind : ∀ (kV doc pm : Value) (an : Option Addr) (cdv ct : Value) (us : List Value), us.length = ps.length → bindArgs (PySem.W.fnOf x x (defArgs st) (defBody st) (defScope st) .none kV doc pm an cdv ct) ⟨us, []⟩ = pure (ps.zip us)) : FK P w K mg base x k sp := by
  obtain ⟨f, fd, a, F⟩ := h.ex
  exact ⟨f, fd, ps, hb f fd F, PySem.W.mg_of X G a, F.kp, F.binds bind⟩
/-! ### constants of the module -/
theorem KC.int {x : Str} {i : Int} {t : Tok} (X : K.In hp) (G : hp.Ns mainGlobals mg) (a : PySem.W.nsIn K mainGlobals x = some (some (.int i t))) : KC K mg x (.int i) := ⟨_, .int i, PySem.W.mg_of X G a, ⟨t, rfl⟩, fun _ => .int i⟩
theorem KC.str {x y : Str} {l : List Nat} {t : Tok} (X : K.In hp) (G : hp.Ns mainGlobals mg) (a : PySem.W.nsIn K mainGlobals x = some (some (.str y t))) (h : y.cps.toList = l) : KC K mg x (.str l) := by
  have e : y = sT l := by subst h; cases y; rfl
  subst e
  exact ⟨_, .str _, PySem.W.mg_of X G a, ⟨t, rfl⟩, fun _ => .str l⟩
/-- values of the module's own tuples -/
inductive DK : Value → V → D → Prop
  | int (i : Int) (t : Tok) : DK (.int i t) (.int i) (.int i)
  | str (l : List Nat) (t : Tok) : DK (.str (sT l) t) (.str (sT l)) (.str l)
inductive DKs : List Value → List V → List D → Prop
  | nil : DKs [] [] []
  | cons {u : Value} {v : V} {d : D} {us : List Value} {vs : List V} {ds : List D} : DK u v d → DKs us vs ds → DKs (u :: us) (v :: vs) (d :: ds)
theorem DKs.vals : ∀ {us : List Value} {vs : List V} {ds : List D}, DKs us vs ds → Vals vs us
  | _, _, _, .nil => .nil
  | _, _, _, .cons (.int i t) r => .cons ⟨t, rfl⟩ r.vals
  | _, _, _, .cons (.str i t) r => .cons ⟨t, rfl⟩ r.vals
theorem DKs.dgs : ∀ {us : List Value} {vs : List V} {ds : List D} {G : Hp}, DKs us vs ds → Dgs K G vs ds
  | _, _, _, _, .nil => .nil
  | _, _, _, _, .cons (.int i t) r => .cons (.int i) r.dgs
  | _, _, _, _, .cons (.str i t) r => .cons (.str i) r.dgs
theorem KC.tup {x : Str} {a : Addr} {dd : Option Addr} {its : Array Value} {n : Nat} {sl : Array (Option Value)} {vs : List V} {ds : List D} (X : K.In hp) (G : hp.Ns mainGlobals mg) (h1 : PySem.W.nsIn K mainGlobals x = some (some (.ref a)))
    (h2 : K.lookup a = some ⟨.type "tuple", dd, .seq its n, sl⟩) (h3 : DKs its.toList vs ds) (h4 : its.size ≤ 1000) : KC K mg x (.tup ds) :=
  ⟨_, .ref a, PySem.W.mg_of X G h1, rfl, fun G => .tup (.inr ⟨_, its, n, h2, rfl, rfl, Nat.le_of_lt (small1000 h4), h3.vals⟩) h3.dgs⟩
theorem blt_of (X : K.In hp) (G : hp.Ns mainGlobals mg) (b0 : PySem.W.nsIn K mainGlobals "len" = some none) (b1 : PySem.W.nsIn K mainGlobals "abs" = some none) (b2 : PySem.W.nsIn K mainGlobals "int" = some none) (b3 : PySem.W.nsIn K mainGlobals "min" = some none) (b4 : PySem.W.nsIn K mainGlobals "max" = some none) (b5 : PySem.W.nsIn K mainGlobals "list" = some none) (b6 : PySem.W.nsIn K mainGlobals "tuple" = some none) (b7 : PySem.W.nsIn K mainGlobals "sum" = some none) (b8 : PySem.W.nsIn K mainGlobals "all" = some none) (b9 : PySem.W.nsIn K mainGlobals "range" = some none) (b10 : PySem.W.nsIn K mainGlobals "enumerate" = some none) (b11 : PySem.W.nsIn K mainGlobals "reversed" = some none) (b12 : PySem.W.nsIn K mainGlobals "isinstance" = some none) (b13 : PySem.W.nsIn K mainGlobals "sorted" = some none) (b14 : PySem.W.nsIn K mainGlobals "zip" = some none) (b15 : PySem.W.nsIn K mainGlobals "str" = some none) (b16 : PySem.W.nsIn K mainGlobals "bool" = some none) : ∀ x ∈ bltNames, mg x = none := by
  intro x hx
  unfold bltNames at hx
  simp only [List.mem_cons, List.not_mem_nil, or_false] at hx
  rcases hx with rfl | rfl | rfl | rfl | rfl | rfl | rfl | rfl | rfl | rfl | rfl | rfl | rfl | rfl | rfl | rfl | rfl
  · exact PySem.W.mg_none_of X G b0
  · exact PySem.W.mg_none_of X G b1
  · exact PySem.W.mg_none_of X G b2
  · exact PySem.W.mg_none_of X G b3
  · exact PySem.W.mg_none_of X G b4
  · exact PySem.W.mg_none_of X G b5
  · exact PySem.W.mg_none_of X G b6
  · exact PySem.W.mg_none_of X G b7
  · exact PySem.W.mg_none_of X G b8
  · exact PySem.W.mg_none_of X G b9
  · exact PySem.W.mg_none_of X G b10
  · exact PySem.W.mg_none_of X G b11
  · exact PySem.W.mg_none_of X G b12
  · exact PySem.W.mg_none_of X G b13
  · exact PySem.W.mg_none_of X G b14
  · exact PySem.W.mg_none_of X G b15
  · exact PySem.W.mg_none_of X G b16
/-! ### _law_feed and law -/
/-- a new feed -/
def spFeed (K : PySem.W.Frag) : Sp := fun vs H Q _ => ∃ (a : Addr) (ns : List Int), vs = [.ref a] ∧ SqL K H a (ns.map V.int) ∧ ∀ p q, H p = none → H q = none → p ≠ q → Q (.ref q) (upd (upd H p (.lst (ns.map V.int))) q (.lst [.ref p, .int 0, .int 0, .int 1]))
theorem feed_fn {st : Stmt} {f : Addr} {fd : FuncData} {p1 p2 p3 p4 p5 p6 p7 p8 : Pos} {j1 j2 j3 : Nat} (F : Fun K "_law_feed" "_law_feed" st f fd) (Sc : FnScope ["script"] ["script"] (defScope st)) (ml : mg "list" = none)
    (hv : (defScope st).names.lookup ("script" : Str) = some NameKind.local) (hg : ∀ (qual : Str) (L f : Addr) (cd : Value), (envOfC qual (defScope st) L f cd).kindOf ("list" : Str) = some NameKind.globalImplicit)
    (hb : defBody st = [.Return (some (.List [.Call (.Name "list" p1) [.Name "script" p2] [] p3, .Constant (.int 0) j1 p4, .Constant (.int 0) j2 p5, .Constant (.int 1) j3 p6] p7)) p8]) : FnOk P w K mg base CX0 1 f fd ["script"] (spFeed K) := by
  refine F.ok Sc (fun vs H Q E h => ?_) (fun cdv A outer s H vs Q E hr h => ?_)
  · obtain ⟨a, ns, rfl, _⟩ := h
    rfl
  · obtain ⟨a, ns, rfl, hS, kq⟩ := h
    rw [hb]
    refine ⟨_, pss_one (ps_ret (pe_lst (pa_cons (pe_callTy call_list_of (hg _ _ _ _) ml (by decide +kernel) (pa_cons (pe_var (i := 0) rfl (Or.inl hv)) pa_nil)) (pa_cons pe_int (pa_cons pe_int (pa_cons pe_int pa_nil)))))), ?_⟩
    refine ⟨_, rfl, a, _, rfl, .inl hS, fun p np => ⟨by show 4 ≤ sizeLine; decide, fun q nq => ?_⟩⟩
    have hpq : p ≠ q := fun e => by rw [e, upd_same] at nq; cases nq
    rw [upd_ne hpq.symm] at nq
    exact kq p q np nq hpq
def spLaw (K : PySem.W.Frag) : Sp := fun vs H Q _ => ∃ (a : Addr) (ns : List Int), vs = [.ref a] ∧ SqL K H a (ns.map V.int) ∧ ns.length ≤ 63 ∧ ∀ H', Q (.bl true) H'
/-- the law answers True -/
theorem get_rep : ∀ (n i : Nat), get (List.replicate n Slot.gone) i = .gone
  | 0, _ => rfl
  | n + 1, 0 => rfl
  | n + 1, i + 1 => get_rep n i
theorem law_fn {st : Stmt} {f : Addr} {fd : FuncData} {N : List Str} {k : Nat} {rest : List Stmt} {body : MS} {p1 p2 p3 p4 p5 : Pos} (F : Fun K "law" "law" st f fd) (Sc : FnScope N ["script"] (defScope st)) (blt : ∀ x ∈ bltNames, mg x = none) (FF : FK P w K mg base "_law_feed" 1 (spFeed K)) (hk : 1 ≤ k)
    (hb : defBody st = .Assign [.Name "feed" p1] (.Call (.Name "_law_feed" p2) [.Name "script" p3] [] p4) p5 :: rest) (h0 : N[0]? = some ("script" : Str)) (h1 : N[1]? = some ("feed" : Str)) (hv : (defScope st).names.lookup ("script" : Str) = some NameKind.local)
    (hl : (defScope st).names.lookup ("feed" : Str) = some NameKind.local ∨ (defScope st).names.lookup ("feed" : Str) = some NameKind.cell) (hg : ∀ (qual : Str) (L f : Addr) (cd : Value), (envOfC qual (defScope st) L f cd).kindOf ("_law_feed" : Str) = some NameKind.globalImplicit)
    (hbody : ∀ (cdv : Value) (A : Around) (outer : List PySem.Env) (s : Shared) (H : Hp) (E : XK) (c : Ct), Room k (A.deeper (envOfC "law" (defScope st) s.heap.objs.size f cdv)) → Ok (bodyCx P w K mg base N "law" (defScope st) f cdv A outer s H E) c → PSs (bodyCx P w K mg base N "law" (defScope st) f cdv A outer s H E) rest (tS c body))
    (vc : ∀ ns : List Int, ns.length ≤ 63 → lawTrue N.length body ns) : FnOk P w K mg base CX0 (k + 1) f fd ["script"] (spLaw K) := by
  refine F.ok Sc (fun vs H Q E h => ?_) (fun cdv A outer s H vs Q E hr h => ?_)
  · obtain ⟨a, ns, rfl, _⟩ := h
    rfl
  · obtain ⟨a, ns, rfl, hS, hlen, kq⟩ := h
    obtain ⟨ff, fdf, ps, hF, hm, hkp, hbd⟩ := FF.ex
    rw [hb]
    have hN : 2 ≤ N.length := (List.getElem?_eq_some_iff.mp h1).1
    have key : ∀ c, c.K = K → c.mg = mg → c.xe = none → PSs (bodyCx P w K mg base N "law" (defScope st) f cdv A outer s H E) rest (tS c body) := fun c hc hM hX => hbody cdv A outer s H E c hr (ok_body hr Sc.nd blt hc hM hX)
    refine ⟨_, pss_cons (ps_set (i := 1) Sc.nd h1 hl (pe_call hF (hr.mono hk) (hg _ _ _ _) hm hkp hbd .nil pass0 (pa_cons (pe_var (i := 0) h0 (Or.inl hv)) pa_nil)) (hf := .inl rfl))
      (⟨fun pins s' σ' H' D I ⟨c, hc, hM, hX, q⟩ => (key c hc hM hX).run pins s' σ' H' D I q⟩ : PSs _ rest (fun D σ H => ∃ c : Ct, c.K = K ∧ c.mg = mg ∧ c.xe = none ∧ tS c body D σ H)), ?_⟩
    refine ⟨_, start_get rfl, a, ns, rfl, hS, fun p q np nq hpq => ?_⟩
    refine ⟨⟨K, fun b => if b = p then some (.lst (ns.map V.int)) else none, upd (upd H p (.lst (ns.map V.int))) q (.lst [.ref p, .int 0, .int 0, .int 1]), some q, fun _ => False, mg, none⟩, rfl, rfl, rfl, fun b => if b = p then some (.lst (ns.map V.int)) else none, _, _, ?_, vc ns hlen, ?_⟩
    · have hl2 : (L2.start N [V.ref a]).length = N.length := start_length (by simpa using (by omega : 1 ≤ N.length))
      have sl : ∀ i, get (Slot.gone :: Slot.feed :: List.replicate (N.length - 2) .gone) i = if i = 1 then .feed else .gone := fun i => match i with
        | 0 => rfl
        | 1 => rfl
        | i + 2 => by
          rw [if_neg (by omega)]
          exact get_rep _ i
      refine ⟨Same.refl _, fun b o e => ?_, fun b o e _ => e, fun b o e => .inl e, ?_, fun i => ?_, fun i j b hij o1 => ?_, fun b e => ?_, fun b e => e.elim⟩
      · by_cases hb : b = p
        · subst hb
          rw [if_pos rfl] at e
          cases e
          rw [upd_ne hpq, upd_same]
        · rw [if_neg hb] at e; cases e
      · rw [List.length_set, hl2]
        show (Slot.gone :: Slot.feed :: List.replicate (N.length - 2) Slot.gone).length = _
        simp only [List.length_cons, List.length_replicate]
        omega
      · show SlotOk _ _ _ ((L2.start N [V.ref a]).set 1 (some (V.ref q)))[i]? (get (Slot.gone :: Slot.feed :: List.replicate (N.length - 2) .gone) i)
        rw [sl]
        by_cases hi : i = 1
        · subst hi
          rw [if_pos rfl, List.getElem?_set_self (by rw [hl2]; omega)]
          exact ⟨q, rfl, rfl⟩
        · rw [if_neg hi]; trivial
      · have o1 : (get (Slot.gone :: Slot.feed :: List.replicate (N.length - 2) .gone) i).isOwn = true := o1
        rw [sl] at o1
        by_cases hi : i = 1
        · rw [if_pos hi] at o1; cases o1
        · rw [if_neg hi] at o1; cases o1
      · cases e
        refine ⟨by show (if q = p then _ else _) = _; rw [if_neg hpq.symm], p, upd_same, by show (if p = p then _ else _) = _; rw [if_pos rfl]⟩
    · exact ⟨fun s' σ' H' G' q R S => q.elim, fun s' σ' H' G' q R S => q.elim, fun s' σ' H' G' q R S => q.elim, fun r s' v σ' H' G' q R S h => by
        subst q
        cases (show Dg _ _ v (.bool true) from h)
        exact kq _⟩
end
end DL

/-! DLS14: enumerate and reversed. -/
namespace DL
open PySem PySem.Spec PyProof.Rows L2
section
variable {X : Cx} {c : Ct} {a b e : Expr} {es : List Expr} {m m1 m2 m3 : M} {ms : Ms} {t t1 t2 : T} {pos p : Pos} {σ : St} {H G : Hp} {s : S} {x : Str} {id ty : String}
/-! ### enumerate(text) -/
def Ites (x : Str) : It := ⟨fun i _ => i < x.cps.size, fun i H v H' => ∃ T ch, v = .ref T ∧ H T = none ∧ x.cps[i]? = some ch ∧ H' = upd H T (.tup [.int (i : Nat), .str ⟨#[ch]⟩]), fun i _ => x.cps.size ≤ i⟩
theorem turn_enumS {P : Program} {w : World} {K : PySem.W.Frag} {elts : List Expr} {kk : Nat} {tpos : Pos} (x : Str) (t : Tok) (e it : Addr) :
    Turn P w K (.Tuple elts kk tpos) (Ites x) [e, it] e (fun i h => (∃ old, IsEnum h e it ((i : Nat) : Int) old) ∧ h.IsStrIter it (strIterType x) x t i ∧ e ≠ it ∧ i ≤ x.cps.size) where
  mem := by simp
  obj := fun i h st b hb => by
    obtain ⟨⟨old, he⟩, ⟨o, ho, hc, hd⟩, _, _⟩ := st
    have e' : b = e ∨ b = it := by simpa using hb
    rcases e' with z | z
    · rw [z]; exact ⟨_, he, fun v q => nomatch q⟩
    · rw [z]; exact ⟨o, ho, fun v q => by rw [hd] at q; cases q⟩
  keep := fun i h h' st k => let ⟨⟨old, he⟩, ⟨o, ho, r⟩, hne, hle⟩ := st; ⟨⟨old, k e (by simp) _ he⟩, ⟨o, k it (by simp) o ho, r⟩, hne, hle⟩
  item := by
    intro X hP hw hK hc i pins s σ H E I hf st hg
    subst hP hw hK
    obtain ⟨⟨old, he⟩, hit, hne, hle⟩ := st
    have hel : e < s.heap.objs.size := Heap.lt_size he
    have hil : it < s.heap.objs.size := by obtain ⟨_, q, _⟩ := hit; exact Heap.lt_size q
    have DT := Draws.text (prog := X.prog) (w := X.w) (A := X.A.in1) (I.ok.hd hc) it x t
    refine wpAny_pyNext_enum_itemD DT he hit hg hne (by simpa using hne) fun v h' tk hv ho hit' hT hsz hk => ?_
    obtain ⟨ch, u, hcx, rfl⟩ := hv
    refine ⟨_, rfl, wpAny_letOwnedTupleGo_enum (s := { s with heap := h', toks := tk + 1 }) ho fun h'' he' sb => ?_⟩
    have hT2 : h''.get? s.heap.objs.size = some { cls := .type "tuple", data := .seq #[.int i tk, .str ⟨#[ch]⟩ u] } := (sb.2 _ (Nat.ne_of_gt hel)).trans hT
    have new : ObjOk X.prog X.w (upd H s.heap.objs.size (.tup [.int (i : Nat), .str ⟨#[ch]⟩])) h'' s.heap.objs.size (.tup [.int (i : Nat), .str ⟨#[ch]⟩]) :=
      ⟨by show 2 ≤ sizeLine; decide, [.int i tk, .str ⟨#[ch]⟩ u], .cons ⟨_, rfl⟩ (.cons ⟨_, rfl⟩ .nil), ⟨_, hT2, rfl, _, rfl⟩⟩
    have I1 : Inv X pins σ (upd H s.heap.objs.size (.tup [.int (i : Nat), .str ⟨#[ch]⟩])) { s with heap := h'', toks := tk + 1 } :=
      I.turnedNew (ch := [e, it]) (fun b ob hb q => (sb.2 b (fun z => hb (by simp [z]))).trans (hk b ob (fun z => hb (by simp [z])) (fun z => hb (by simp [z])) q)) hf (Nat.le_refl _) new
    refine ⟨.ref s.heap.objs.size, _, I1, rfl, ⟨_, ch, rfl, I.hok.fresh (Nat.le_refl _), hcx, rfl⟩, ⟨⟨.str ⟨#[ch]⟩ u, ?_⟩, ?_, hne, hg⟩, fun b hb => ?_⟩
    · have e1 : ((i + 1 : Nat) : Int) = (i : Int) + 1 := by omega
      rw [e1]; exact he'
    · obtain ⟨o, q, r⟩ := hit'
      exact ⟨o, (sb.2 it (Ne.symm hne)).trans q, r⟩
    · have hb' : b < s.heap.objs.size := by
        have e' : b = e ∨ b = it := by simpa using hb
        rcases e' with z | z
        · rw [z]; exact hel
        · rw [z]; exact hil
      rw [upd_ne (Nat.ne_of_lt hb')]
      exact (hf b hb).1
  done := by
    intro X hP hw hK hc i pins s σ H E I hf st hg
    subst hP hw hK
    obtain ⟨⟨old, he⟩, hit, hne, hle⟩ := st
    obtain ⟨f0, f1, f2, f3, f4, f5⟩ := hf it (by simp)
    have DT := Draws.text (prog := X.prog) (w := X.w) (A := X.A.in1) (I.ok.hd hc) it x t
    have hn : i = x.cps.size := Nat.le_antisymm hle hg
    exact wpAny_pyNext_enum_endD DT he (by rw [← hn]; exact hit) fun h' eb => ⟨rfl, I.turned (t' := s.toks) (fun b o hb q => eb b o hb q) f0 f1 f3 f4 f5⟩
  self := fun A i s Q E st h => let ⟨⟨_, he⟩, _⟩ := st; wpAny_pyIter_enum he h
/-- enumerate(x): x a list or a text -/
def iEnumA (K : PySem.W.Frag) (ta : TA) : TI := fun σ H R => ta σ H fun vs H1 => (∃ a xs, vs = [.ref a] ∧ SqL K H1 a xs ∧ R (Ite K a) H1) ∨ ∃ z, vs = [.str z] ∧ R (Ites z) H1
theorem pi_enumA {ta : TA} {tpos : Pos} {elts : List Expr} {kk : Nat} (hg : Gl X "enumerate") (hm : X.mg "enumerate" = none) (ha : PA X [e] ta) (hs : starEach [e] X.env = [(false, eval e X.env)] := by rfl) :
    PI X (.Tuple elts kk tpos) (.Call (.Name "enumerate" p) [e] [] pos) (iEnumA X.K ta) := by
  refine ⟨fun pins s σ H R I h => ?_⟩
  refine Call_ (ld_blt I hg hm boot_enumerate (PyProof.Rows.callWith_type1 (thn (ha.run pos pins s σ H _ I h) fun us s1 ⟨vs, H1, I1, r1, q1⟩ => ?_) hs rfl))
  rcases q1 with ⟨a, xs, ex, hq, q⟩ | ⟨z, ex, q⟩
  · subst ex
    cases r1 with
    | cons r rr =>
      cases rr
      cases r
      obtain ⟨its, rv, p', hz⟩ := I1.list hq
      refine call_enumerate_list p'.isList fun h' he hit hsz hk => wpAny_pyIter_enum he ?_
      have I2 : Inv X pins σ H1 { s1 with heap := h' } := I1.kept (t' := s1.toks) hk
      refine ⟨s1.heap.objs.size + 1, [s1.heap.objs.size + 1, s1.heap.objs.size], _, _, H1, rfl, I2, turn_enum a (s1.heap.objs.size + 1) s1.heap.objs.size, ⟨⟨.none, he⟩, hit, Nat.succ_ne_self _⟩, fun b hb => ?_, q⟩
      have e' : b = s1.heap.objs.size + 1 ∨ b = s1.heap.objs.size := by simpa using hb
      have hle : s1.heap.objs.size ≤ b := by
        rcases e' with z | z
        · rw [z]; exact Nat.le_add_right _ _
        · rw [z]; exact Nat.le_refl _
      exact I1.fpOk hle (I1.hok.fresh hle)
  · subst ex
    cases r1 with
    | cons r rr =>
      cases rr
      obtain ⟨t, rfl⟩ := r
      refine call_enumerate_str fun h' he hit hsz hk => wpAny_pyIter_enum he ?_
      have I2 : Inv X pins σ H1 { s1 with heap := h' } := I1.kept (t' := s1.toks) hk
      refine ⟨s1.heap.objs.size + 1, [s1.heap.objs.size + 1, s1.heap.objs.size], _, _, H1, rfl, I2, turn_enumS z t (s1.heap.objs.size + 1) s1.heap.objs.size, ⟨⟨.none, he⟩, hit, Nat.succ_ne_self _, Nat.zero_le _⟩, fun b hb => ?_, q⟩
      have e' : b = s1.heap.objs.size + 1 ∨ b = s1.heap.objs.size := by simpa using hb
      have hle : s1.heap.objs.size ≤ b := by
        rcases e' with z | z
        · rw [z]; exact Nat.le_add_right _ _
        · rw [z]; exact Nat.le_refl _
      exact I1.fpOk hle (I1.hok.fresh hle)
theorem walks_enum {K : PySem.W.Frag} (hK : K = c.K) {a : Addr} {vs : List V} {ds : List D} (h : G a = some (.lst vs)) (dg : Dgs c.K G vs ds) : Walks c G (Ite K a) (enumFrom 0 ds) where
  go := fun i H G1 hi s1 s2 => by
    have hl := dg.length
    rw [enum_len] at hi
    exact ⟨vs, vs[i]'(by omega), SqL.of (s2 _ _ (s1 _ _ h)), by simp⟩
  stop := fun H G1 s1 s2 => ⟨vs, SqL.of (s2 _ _ (s1 _ _ h)), by rw [dg.length, enum_len]; exact Nat.le_refl _⟩
  yld := fun c' σ i H G1 H' s v d hK' R s1 e y => by
    obtain ⟨T, x, rfl, nT, rfl, q⟩ := y
    obtain ⟨z, hz, rfl⟩ := enum_get 0 ds i d e
    obtain ⟨u, h1, h2⟩ := dg.get hz
    have q2 := q vs (SqL.of (R.gH _ _ (s1 _ _ h)))
    rw [h1] at q2
    cases q2
    obtain ⟨R', sm⟩ := R.newG (o := .tup [.int (i : Nat), x]) nT
    refine ⟨_, R', sm, Keep.upd nT, .tup (.inl (.inl upd_same)) (.cons ?_ (.cons (h2.mono (s1.trans sm)) .nil))⟩
    rw [Nat.zero_add]
    exact .int _
theorem walks_enumS (z : List Nat) : Walks c G (Ites (sT z)) (enumFrom 0 (z.map fun c => D.str [c])) where
  go := fun i H G1 hi s1 s2 => by
    rw [enum_len] at hi
    show i < z.toArray.size
    simpa using hi
  stop := fun H G1 s1 s2 => by
    rw [enum_len]
    show z.toArray.size ≤ _
    simp
  yld := fun c' σ i H G1 H' s v d hK' R s1 e y => by
    obtain ⟨T, ch, rfl, nT, hc, rfl⟩ := y
    obtain ⟨y, hy, rfl⟩ := enum_get 0 _ i d e
    have hc' : z[i]? = some ch := by simpa using hc
    rw [List.getElem?_map, hc'] at hy
    cases hy
    obtain ⟨R', sm⟩ := R.newG (o := .tup [.int (i : Nat), .str ⟨#[ch]⟩]) nT
    refine ⟨_, R', sm, Keep.upd nT, .tup (.inl (.inl upd_same)) (.cons ?_ (.cons (.str [ch]) .nil))⟩
    rw [Nat.zero_add]
    exact .int _
theorem ds_enum {tpos : Pos} {elts : List Expr} {kk : Nat} [o : Ok X c] (ha : PE X e (tE c m)) (hg : Gl X "enumerate" := by rfl) (hs : starEach [e] X.env = [(false, eval e X.env)] := by rfl) (he : starEach [e] X.env = (false, eval e X.env) :: starEach [] X.env := by rfl) :
    PI X (.Tuple elts kk tpos) (.Call (.Name "enumerate" p) [e] [] pos) (tI c (srcEnum m)) := by
  refine pi_imp (pi_enumA hg (o.blt _ (by decide +kernel)) (pa_cons ha pa_nil he) hs) ?_
  rintro σ H Q ⟨G, s, Q0, R, hm, hQ⟩
  refine ⟨G, s, _, R, hm, fun r s1 v H1 G1 q R1 S1 K1 O1 => ?_⟩
  split at q
  · cases (show Dg c.K G1 v (.list _) from O1) with
    | lst h1 h2 => exact .inl ⟨_, _, rfl, SqL.of (R1.gH _ _ h1), hQ _ _ _ _ _ q R1 S1 K1 (walks_enum o.K h1 h2)⟩
  · cases (show Dg c.K G1 v (.str _) from O1) with
    | str _ => exact .inr ⟨_, rfl, hQ _ _ _ _ _ q R1 S1 K1 (walks_enumS _)⟩
  · obtain ⟨a, vs, e, h1, h2, h3, h4, h5, h7, h6⟩ := (show ResOk c σ H1 G1 s1 v (.own _) from O1)
    obtain ⟨R2, sm⟩ := R1.freeze h1 h3 h4 h5 h7 h6
    subst e
    exact .inl ⟨a, _, rfl, SqL.of h1, hQ _ _ _ _ _ q R2 (S1.trans sm) K1 (walks_enum o.K upd_same (h2.mono sm))⟩
  · exact q.elim
/-! ### reversed(list) -/
theorem walks_rev {K : PySem.W.Frag} (hK : K = c.K) {a : Addr} {vs : List V} {ds : List D} (h : G a = some (.lst vs)) (dg : Dgs c.K G vs ds) : Walks c G (Itv K a vs.length) ds.reverse where
  go := fun i H G1 hi s1 s2 => by
    have hl := dg.length
    rw [List.length_reverse] at hi
    exact ⟨by omega, vs, vs[vs.length - 1 - i]'(by omega), SqL.of (s2 _ _ (s1 _ _ h)), by simp⟩
  stop := fun H G1 s1 s2 => by
    show vs.length ≤ _
    rw [List.length_reverse, dg.length]
    exact Nat.le_refl _
  yld := fun c' σ i H G1 H' s v d hK' R s1 e y => by
    obtain ⟨rfl, q⟩ := y
    have hl := dg.length
    have hi : i < ds.length := by
      have := (List.getElem?_eq_some_iff.mp e).1
      rwa [List.length_reverse] at this
    rw [List.getElem?_reverse hi, ← hl] at e
    obtain ⟨u, h1, h2⟩ := dg.get e
    have q2 := q vs (SqL.of (R.gH _ _ (s1 _ _ h)))
    rw [h1] at q2
    cases q2
    exact ⟨G1, R, Same.refl _, Keep.refl, h2.mono s1⟩
theorem ds_rev {tg : Expr} [o : Ok X c] (ha : PE X e (tE c m)) (hg : Gl X "reversed" := by rfl) (hs : starEach [e] X.env = [(false, eval e X.env)] := by rfl) (he : starEach [e] X.env = (false, eval e X.env) :: starEach [] X.env := by rfl) :
    PI X tg (.Call (.Name "reversed" p) [e] [] pos) (tI c (srcRev m)) := by
  refine pi_imp (pi_reversed hg (o.blt _ (by decide +kernel)) (pa_cons ha pa_nil he) hs) ?_
  rintro σ H Q ⟨G, s, Q0, R, hm, hQ⟩
  refine ⟨G, s, _, R, hm, fun r s1 v H1 G1 q R1 S1 K1 O1 => ?_⟩
  split at q
  · cases (show Dg c.K G1 v (.list _) from O1) with
    | lst h1 h2 => exact ⟨_, _, rfl, SqL.of (R1.gH _ _ h1), hQ _ _ _ _ _ q R1 S1 K1 (walks_rev o.K h1 h2)⟩
  · obtain ⟨a, vs, e, h1, h2, h3, h4, h5, h7, h6⟩ := (show ResOk c σ H1 G1 s1 v (.own _) from O1)
    obtain ⟨R2, sm⟩ := R1.freeze h1 h3 h4 h5 h7 h6
    subst e
    exact ⟨a, _, rfl, SqL.of h1, hQ _ _ _ _ _ q R2 (S1.trans sm) K1 (walks_rev o.K upd_same (h2.mono sm))⟩
  · exact q.elim
end
end DL

/-! DLS15: min and max of data of one make. -/
namespace DL
open PySem PySem.Spec PyProof.Rows L2
mutual
theorem like_toP : ∀ d e : D, likeD d e = true → PySem.W.alike (toP d) (toP e) = true
  | .int _, e, h => by cases e <;> simp_all [likeD, toP, PySem.W.alike]
  | .str _, e, h => by cases e <;> simp_all [likeD, toP, PySem.W.alike]
  | .none, e, h => by cases e <;> simp_all [likeD]
  | .bool _, e, h => by cases e <;> simp_all [likeD]
  | .list xs, e, h => by
    cases e with
    | list ys =>
      simp only [likeD] at h
      simp only [toP, PySem.W.alike]
      exact likes_toP xs ys h
    | _ => simp [likeD] at h
  | .tup xs, e, h => by
    cases e with
    | tup ys =>
      simp only [likeD] at h
      simp only [toP, PySem.W.alike]
      exact likes_toP xs ys h
    | _ => simp [likeD] at h
theorem likes_toP : ∀ d e : List D, likeDs d e = true → PySem.W.alikeAll (toPs d) (toPs e) = true
  | [], e, _ => by simp [toPs, PySem.W.alikeAll]
  | _ :: _, [], _ => by simp [toPs, PySem.W.alikeAll]
  | x :: xs, y :: ys, h => by
    simp only [likeDs, Bool.and_eq_true] at h
    simp only [toPs, PySem.W.alikeAll, Bool.and_eq_true]
    exact ⟨like_toP x y h.1, likes_toP xs ys h.2⟩
end
mutual
theorem lt_toP : ∀ d e : D, likeD d e = true → PySem.W.dataLt (toP d) (toP e) = ltD d e
  | .int a, e, h => by
    cases e with
    | int b => simp only [toP, ltD]; exact PySem.W.dataLt_int a b
    | _ => simp [likeD] at h
  | .str a, e, h => by
    cases e with
    | str b => simp only [toP, ltD]; exact PySem.W.dataLt_str (sT a) (sT b)
    | _ => simp [likeD] at h
  | .none, e, h => by simp [likeD] at h
  | .bool _, e, h => by simp [likeD] at h
  | .list xs, e, h => by
    cases e with
    | list ys =>
      simp only [likeD] at h
      simp only [toP, ltD]
      rw [PySem.W.dataLt_list]
      exact lts_toP xs ys h
    | _ => simp [likeD] at h
  | .tup xs, e, h => by
    cases e with
    | tup ys =>
      simp only [likeD] at h
      simp only [toP, ltD]
      rw [PySem.W.dataLt_tuple]
      exact lts_toP xs ys h
    | _ => simp [likeD] at h
theorem lts_toP : ∀ d e : List D, likeDs d e = true → PyProof.Rows.lexLt itemOrd (PySem.W.keyToksAll (toPs d)) (PySem.W.keyToksAll (toPs e)) = ltDs d e
  | [], [], _ => by simp only [toPs, ltDs]; exact lex_irrefl _
  | x :: xs, [], _ => by
    simp only [toPs, ltDs, PySem.W.keyToksAll]
    rfl
  | [], y :: ys, _ => by
    simp only [toPs, ltDs, PySem.W.keyToksAll]
    rfl
  | x :: xs, y :: ys, h => by
    simp only [likeDs, Bool.and_eq_true] at h
    simp only [toPs, ltDs]
    have ha := like_toP x y h.1
    cases e : eqD x y with
    | true =>
      rw [PySem.W.dataLt_all_yes ha (by rw [eqv_toP]; exact e), lts_toP xs ys h.2]
      rfl
    | false =>
      rw [PySem.W.dataLt_all_no ha (by rw [eqv_toP]; exact e), lt_toP x y h.1]
      rfl
end
section
open PySem.W
theorem min_fold : ∀ (xs : List PyData) (x : PyData), xs.foldl (fun a y => if dataLt y a then y else a) x ∈ x :: xs ∧ ∀ y, y ∈ x :: xs → dataLt y (xs.foldl (fun a y => if dataLt y a then y else a) x) = false
  | [], x => ⟨List.mem_cons_self, fun y hy => by
    rw [List.mem_singleton.mp hy]
    exact dataLt_self x⟩
  | z :: r, x => by
    rw [List.foldl_cons]
    obtain ⟨h1, h2⟩ := min_fold r (if dataLt z x then z else x)
    generalize hm : r.foldl (fun a y => if dataLt y a then y else a) (if dataLt z x then z else x) = m at h1 h2
    refine ⟨?_, fun y hy => ?_⟩
    · rcases List.mem_cons.mp h1 with e | e
      · rw [e]
        split
        · exact List.mem_cons_of_mem _ List.mem_cons_self
        · exact List.mem_cons_self
      · exact List.mem_cons_of_mem _ (List.mem_cons_of_mem _ e)
    · have h3 := h2 _ List.mem_cons_self
      have hxz : dataLt x m = false ∧ dataLt z m = false := by
        by_cases c : dataLt z x = true
        · rw [if_pos c] at h3
          refine ⟨?_, h3⟩
          cases q : dataLt x m with
          | false => rfl
          | true => rw [show dataLt z m = true from lex_trans _ _ _ c q] at h3; cases h3
        · rw [if_neg c] at h3
          refine ⟨h3, ?_⟩
          cases q : dataLt z m with
          | false => rfl
          | true =>
            rcases lex_negTrans _ (keyToks x) _ q with k | k
            · exact absurd k c
            · rw [show dataLt x m = true from k] at h3; cases h3
      rcases List.mem_cons.mp hy with e | e
      · rw [e]; exact hxz.1
      · rcases List.mem_cons.mp e with e | e
        · rw [e]; exact hxz.2
        · exact h2 _ (List.mem_cons_of_mem _ e)
end
section
variable {X : Cx} {c : Ct} {a b e : Expr} {m : M} {pos p : Pos} {σ : St} {H G : Hp}
open PySem.W
/-- min(xs) of data of one make -/
def rMinD (K : PySem.W.Frag) : List V → Hp → VK → Prop := fun vs H Q => ∃ (a : Addr) (xs : List V) (ds : List PyData), vs = [V.ref a] ∧ SqL K H a xs ∧ DpAll K H xs ds ∧ AlikeAll ds ∧ PyData.depthAll ds ≤ 60 ∧ 0 < ds.length ∧
  ∀ (i : Nat) (x : V) (d : PyData), xs[i]? = some x → ds[i]? = some d → (∀ y, y ∈ ds → dataLt y d = false) → Q x H
theorem cr_minD (hc : X.calm = true) (hu : X.A.units + 65 < cLine) : CallR X (.builtin "min") (rMinD X.K) := by
  intro pins s σ H vs us Q I r h
  obtain ⟨a, xs, ds, rfl, hs, hd, ha, hdep, hne, q⟩ := h
  obtain ⟨its, rv, hl, _⟩ := I.list hs
  rw [Vals.ref1 r]
  obtain ⟨as, hr⟩ := Dp.readsAll I ds xs its hd rv
  cases ds with
  | nil => cases hne
  | cons d0 r0 =>
    refine min_list_data (I.ok.hd hc) hl.isList (by simpa using hr) ha (by omega) fun i v h' tk bs hv hrd hk => ?_
    obtain ⟨hm1, hm2⟩ := min_fold r0 d0
    obtain ⟨bs', hr1, hi, hmem, _⟩ := readsAll_atA (vs := its.toArray) (by simpa using hr) i v hv
    have hx : i < xs.length := by
      have := (Array.getElem?_eq_some_iff.mp hv).1
      rw [rv.length]
      simpa using this
    obtain ⟨u, hu1, ru⟩ := rv.get (List.getElem?_eq_getElem hx)
    have hvu : u = v := by
      have : its[i]? = some v := by simpa using hv
      rw [hu1] at this
      exact Option.some.inj this
    subst hvu
    have hdi : (d0 :: r0)[i]? = some ((d0 :: r0).getD i .none) := by
      rw [List.getD_eq_getElem?_getD, List.getElem?_eq_getElem hi]
      rfl
    have he := alike_unique _ _ _ _ _ (ha.1 _ hmem _ hm1) (reads_keeps hk hr1) hrd
    refine ⟨_, H, I.kept hk, ru, q i _ _ (List.getElem?_eq_getElem hx) hdi fun y hy => ?_⟩
    rw [he]
    exact hm2 y hy
theorem max_fold : ∀ (xs : List PyData) (x : PyData), xs.foldl (fun a y => if dataLt a y then y else a) x ∈ x :: xs ∧ ∀ y, y ∈ x :: xs → dataLt (xs.foldl (fun a y => if dataLt a y then y else a) x) y = false
  | [], x => ⟨List.mem_cons_self, fun y hy => by
    rw [List.mem_singleton.mp hy]
    exact dataLt_self x⟩
  | z :: r, x => by
    rw [List.foldl_cons]
    obtain ⟨h1, h2⟩ := max_fold r (if dataLt x z then z else x)
    generalize hm : r.foldl (fun a y => if dataLt a y then y else a) (if dataLt x z then z else x) = m at h1 h2
    refine ⟨?_, fun y hy => ?_⟩
    · rcases List.mem_cons.mp h1 with e | e
      · rw [e]
        split
        · exact List.mem_cons_of_mem _ List.mem_cons_self
        · exact List.mem_cons_self
      · exact List.mem_cons_of_mem _ (List.mem_cons_of_mem _ e)
    · have h3 := h2 _ List.mem_cons_self
      have hxz : dataLt m x = false ∧ dataLt m z = false := by
        by_cases c : dataLt x z = true
        · rw [if_pos c] at h3
          refine ⟨?_, h3⟩
          cases q : dataLt m x with
          | false => rfl
          | true => rw [show dataLt m z = true from lex_trans _ _ _ q c] at h3; cases h3
        · rw [if_neg c] at h3
          refine ⟨h3, ?_⟩
          cases q : dataLt m z with
          | false => rfl
          | true =>
            rcases lex_negTrans _ (keyToks x) _ q with k | k
            · rw [show dataLt m x = true from k] at h3; cases h3
            · exact absurd k c
      rcases List.mem_cons.mp hy with e | e
      · rw [e]; exact hxz.1
      · rcases List.mem_cons.mp e with e | e
        · rw [e]; exact hxz.2
        · exact h2 _ (List.mem_cons_of_mem _ e)
/-- max(xs) of data of one make -/
def rMaxD (K : PySem.W.Frag) : List V → Hp → VK → Prop := fun vs H Q => ∃ (a : Addr) (xs : List V) (ds : List PyData), vs = [V.ref a] ∧ SqL K H a xs ∧ DpAll K H xs ds ∧ AlikeAll ds ∧ PyData.depthAll ds ≤ 60 ∧ 0 < ds.length ∧
  ∀ (i : Nat) (x : V) (d : PyData), xs[i]? = some x → ds[i]? = some d → (∀ y, y ∈ ds → dataLt d y = false) → Q x H
theorem cr_maxD (hc : X.calm = true) (hu : X.A.units + 65 < cLine) : CallR X (.builtin "max") (rMaxD X.K) := by
  intro pins s σ H vs us Q I r h
  obtain ⟨a, xs, ds, rfl, hs, hd, ha, hdep, hne, q⟩ := h
  obtain ⟨its, rv, hl, _⟩ := I.list hs
  rw [Vals.ref1 r]
  obtain ⟨as, hr⟩ := Dp.readsAll I ds xs its hd rv
  cases ds with
  | nil => cases hne
  | cons d0 r0 =>
    refine max_list_data (I.ok.hd hc) hl.isList (by simpa using hr) ha (by omega) fun i v h' tk bs hv hrd hk => ?_
    obtain ⟨hm1, hm2⟩ := max_fold r0 d0
    obtain ⟨bs', hr1, hi, hmem, _⟩ := readsAll_atA (vs := its.toArray) (by simpa using hr) i v hv
    have hx : i < xs.length := by
      have := (Array.getElem?_eq_some_iff.mp hv).1
      rw [rv.length]
      simpa using this
    obtain ⟨u, hu1, ru⟩ := rv.get (List.getElem?_eq_getElem hx)
    have hvu : u = v := by
      have : its[i]? = some v := by simpa using hv
      rw [hu1] at this
      exact Option.some.inj this
    subst hvu
    have hdi : (d0 :: r0)[i]? = some ((d0 :: r0).getD i .none) := by
      rw [List.getD_eq_getElem?_getD, List.getElem?_eq_getElem hi]
      rfl
    have he := alike_unique _ _ _ _ _ (ha.1 _ hmem _ hm1) (reads_keeps hk hr1) hrd
    refine ⟨_, H, I.kept hk, ru, q i _ _ (List.getElem?_eq_getElem hx) hdi fun y hy => ?_⟩
    rw [he]
    exact hm2 y hy
theorem like_all {ds : List D} (h : ∀ x, x ∈ ds → ∀ y, y ∈ ds → likeD x y = true) : AlikeAll (toPs ds) := by
  rw [toPs_map]
  refine ⟨fun x hx y hy => ?_, fun x hx => ?_⟩
  · obtain ⟨a, ha, rfl⟩ := List.mem_map.mp hx
    obtain ⟨b, hb, rfl⟩ := List.mem_map.mp hy
    exact like_toP _ _ (h a ha b hb)
  · obtain ⟨a, ha, rfl⟩ := List.mem_map.mp hx
    have := h a ha a ha
    cases a <;> simp_all [likeD, toP]
theorem de_minG [o : Ok X c] [cm : Calm X] (ha : PE X a (tE c m)) (hg : Gl X "min" := by rfl) (he : starEach [a] X.env = (false, eval a X.env) :: starEach [] X.env := by rfl) : PE X (.Call (.Name "min" p) [a] [] pos) (tE c (mUn dMinG m)) :=
  de_b1 (cr_minD cm.calm (by have := o.hu; omega)) (by
    intro σ H G s x v Qr Q R hx h F
    unfold dMinG at h
    split at h
    · rename_i ds
      obtain ⟨hlk, hok, hl, q⟩ := h
      obtain ⟨a, vs, e, h1, h2⟩ := hx.list
      have hdp := (okDs_lay 8 ds hok).2
      refine ⟨a, vs, toPs ds, by rw [e], SqL.of h1, o.K ▸ (h2.mono R.gH).dp, like_all hlk, by omega, by rw [toPs_map, List.length_map]; exact hl, fun i x d hxi hdi hmin => ?_⟩
      rw [toPs_map, List.getElem?_map] at hdi
      cases hd : ds[i]? with
      | none => rw [hd] at hdi; cases hdi
      | some d0 =>
        rw [hd] at hdi
        cases hdi
        have hm0 := List.mem_of_getElem? hd
        obtain ⟨u, hu1, hu2⟩ := h2.get hd
        rw [hxi] at hu1
        cases hu1
        refine F.val R (q d0 hm0 fun y hy => ?_) hu2
        have := hmin (toP y) (by rw [toPs_map]; exact List.mem_map_of_mem hy)
        rwa [lt_toP _ _ (hlk _ hy _ hm0)] at this
    · exact h.elim) (by decide +kernel) (by decide +kernel) (by decide +kernel) (by decide +kernel) ha hg he
theorem de_maxG [o : Ok X c] [cm : Calm X] (ha : PE X a (tE c m)) (hg : Gl X "max" := by rfl) (he : starEach [a] X.env = (false, eval a X.env) :: starEach [] X.env := by rfl) : PE X (.Call (.Name "max" p) [a] [] pos) (tE c (mUn dMaxG m)) :=
  de_b1 (cr_maxD cm.calm (by have := o.hu; omega)) (by
    intro σ H G s x v Qr Q R hx h F
    unfold dMaxG at h
    split at h
    · rename_i ds
      obtain ⟨hlk, hok, hl, q⟩ := h
      obtain ⟨a, vs, e, h1, h2⟩ := hx.list
      have hdp := (okDs_lay 8 ds hok).2
      refine ⟨a, vs, toPs ds, by rw [e], SqL.of h1, o.K ▸ (h2.mono R.gH).dp, like_all hlk, by omega, by rw [toPs_map, List.length_map]; exact hl, fun i x d hxi hdi hmin => ?_⟩
      rw [toPs_map, List.getElem?_map] at hdi
      cases hd : ds[i]? with
      | none => rw [hd] at hdi; cases hdi
      | some d0 =>
        rw [hd] at hdi
        cases hdi
        have hm0 := List.mem_of_getElem? hd
        obtain ⟨u, hu1, hu2⟩ := h2.get hd
        rw [hxi] at hu1
        cases hu1
        refine F.val R (q d0 hm0 fun y hy => ?_) hu2
        have := hmin (toP y) (by rw [toPs_map]; exact List.mem_map_of_mem hy)
        rwa [lt_toP _ _ (hlk _ hm0 _ hy)] at this
    · exact h.elim) (by decide +kernel) (by decide +kernel) (by decide +kernel) (by decide +kernel) ha hg he
end
end DL

/-! DLS16: s.index(c, i). -/
namespace DL
open PySem PySem.Spec PyProof.Rows L2
theorem split_from {lo n a : Nat} {pre post : List Nat} (h : List.range' lo n = pre ++ a :: post) : lo ≤ a ∧ ∀ k, lo ≤ k → k < a → k ∈ pre := by
  have hL : n = pre.length + (post.length + 1) := by
    have := congrArg List.length h
    simpa using this
  have hlen : lo + pre.length = a := by
    have h1 : (List.range' lo n)[pre.length]? = some a := by rw [h]; simp
    rw [List.getElem?_range' (by omega)] at h1
    simpa using h1
  refine ⟨by omega, fun k hk1 hk => ?_⟩
  have h2 : (List.range' lo n)[k - lo]? = pre[k - lo]? := by rw [h, List.getElem?_append_left (by omega)]
  rw [List.getElem?_range' (by omega)] at h2
  have h3 : pre[k - lo]? = some k := by rw [← h2]; simp; omega
  exact List.mem_of_getElem? h3
theorem occ_from (x y : Str) (lo : Nat) : (Builtin.Str.occurrences x y lo x.length 1 = [] ∧ ∀ i, lo ≤ i → ¬ PySem.StrLaws.At x y x.length i) ∨
    ∃ i r, Builtin.Str.occurrences x y lo x.length 1 = i :: r ∧ lo ≤ i ∧ PySem.StrLaws.At x y x.length i ∧ ∀ k, lo ≤ k → k < i → ¬ PySem.StrLaws.At x y x.length k := by
  rw [PySem.StrLaws.occ_eq]
  rcases PySem.StrLaws.occ_first x y x.length 1 (Nat.le_refl 1) (List.range' lo (x.length + 1 - lo)) lo (fun i hi => by simp [List.mem_range'] at hi; omega) with ⟨h0, hn⟩ | ⟨pre, a, post, e, h0, ha, hn⟩
  · refine .inl ⟨by rw [h0], fun i hlo hi => ?_⟩
    exact hn i (by have := hi.1; rw [List.mem_range'_1]; omega) hi
  · obtain ⟨s1, s2⟩ := split_from e
    refine .inr ⟨a, ((forIn (List.range' lo (x.length + 1 - lo)) ((#[] : Array Nat), lo) (PySem.StrLaws.occBody x y x.length 1)).run.fst.toList).tail, ?_, s1, ha, fun k hk1 hk => hn k (s2 k hk1 hk)⟩
    generalize (forIn (List.range' lo (x.length + 1 - lo)) ((#[] : Array Nat), lo) (PySem.StrLaws.occBody x y x.length 1)).run.fst = arr at h0
    have h1 : arr.toList[0]? = some a := by simpa using h0
    cases hL : arr.toList with
    | nil => rw [hL] at h1; cases h1
    | cons b t => rw [hL] at h1; simp at h1; rw [h1]; rfl
section
variable {X : Cx} {c : Ct} {a b e : Expr} {m m1 m2 m3 : M} {pos p : Pos} {σ : St} {H G : Hp}
theorem mt_sindex2 : MtR X "str.index" (fun x xs H Q => ∃ (a b : Str) (i : Int) (k : Nat) (rest : List Nat), x = .str a ∧ xs = [.str b, .int i] ∧ Builtin.Str.occurrences a b (PySem.fromIndex a.length i) a.length 1 = k :: rest ∧ Q (.int (k : Nat)) H) := by
  intro pins s σ H x xs v us Q I rx rs h
  obtain ⟨a, b, i, k, rest, rfl, rfl, ho, q⟩ := h
  obtain ⟨t, rfl⟩ := rx
  cases rs with
  | cons r1 rs =>
    cases rs with
    | cons r2 rs =>
      cases rs
      obtain ⟨u, rfl⟩ := r1
      obtain ⟨z, rfl⟩ := r2
      exact call_gives PySem.F.slot_str_index (typeIs_str _ _ _) PySem.F.entry_str_index (PySem.F.args_str_index_3 _ _ _) (gives_str_index_from a b i t u z k rest ho) ⟨.int (k : Nat), H, I.tok _, ⟨_, rfl⟩, q⟩
theorem de_indexFrom [o : Ok X c] {apos : Pos} (ha : PE X a (tE c m1)) (hb : PE X b (tE c m2)) (h3 : PE X e (tE c m3)) (hs : starEach [b, e] X.env = (false, eval b X.env) :: starEach [e] X.env := by rfl) (hs2 : starEach [e] X.env = (false, eval e X.env) :: starEach [] X.env := by rfl) (hbase : attributeBase a "index" X.env (eval a X.env) = eval a X.env := by rfl) (hline : (apos.endLine == pos.line) = true := by rfl)
    (hfew : ((backTo pos (starEach (b :: [e]) X.env)).all (fun x => !x.1) && (backToKw pos (keywordEach [] X.env)).all (fun x => x.1.isSome)
      && decide ((b :: [e]).length + ([] : List Keyword).length + (if ([] : List Keyword).isEmpty then 0 else 1) < 30)) = true := by rfl) (hpl : (backTo pos (starEach [e] X.env)).any (·.1) = false := by rfl) :
    PE X (.Call (.Attribute a "index" apos) [b, e] [] pos) (tE c (mMS2 dIndexFrom m1 m2 m3)) := by
  refine pe_imp (pe_bm (T := "str") PySem.F.plainAttrs_str PySem.F.slot_str_index PySem.F.type_str_index mt_sindex2 ha (pa_cons hb (pa_cons h3 pa_nil hs2) hs) hbase hfew hline hs hpl) ?_
  rintro σ H Q ⟨G, s, Q0, R, hm, hQ⟩
  refine ⟨G, s, _, R, hm, fun r1 s1 v1 H1 G1 q1 R1 S1 K1 O1 => ?_⟩
  obtain ⟨⟨l, el⟩, q1⟩ := isS_of q1
  have p1 := O1.peek R1
  have p1' := p1
  rw [el] at p1'
  refine ⟨by rw [p1'.str]; rfl, G1, s1, _, R1, q1, fun r2 s2 v2 H2 G2 q2 R2 S2 K2 O2 => ⟨G2, s2, _, R2, q2, fun r3 s3 v3 H3 G3 q3 R3 S3 K3 O3 => ?_⟩⟩
  have p2 := (O2.peek R2).keep S3 K3
  have p3 := O3.peek R3
  have p1k := (p1.keep S2 K2).keep S3 K3
  unfold dIndexFrom at q3
  split at q3
  · rename_i sl ch i e1 e2 e3
    obtain ⟨h0, j, hj1, hj2, hj3, q⟩ := q3
    rw [e1] at p1k
    rw [e2] at p2
    rw [e3] at p3
    have hf : PySem.fromIndex (sT sl).length i = i.toNat := by
      unfold PySem.fromIndex
      rw [if_neg (by omega)]
      omega
    rcases occ_from (sT sl) (sT [ch]) i.toNat with ⟨_, hn⟩ | ⟨k, rest, eo, hk1, hk2, hk3⟩
    · exact absurd (at_one.mpr hj2) (hn j (by omega))
    · have hkj : k = j := by
        rcases Nat.lt_trichotomy k j with z | z | z
        · exact absurd (at_one.mp hk2) (hj3 k (by omega) z)
        · exact z
        · exact absurd (at_one.mpr hj2) (hk3 j (by omega) z)
      subst hkj
      refine ⟨sT sl, sT [ch], i, k, rest, p1k.str, by rw [p2.str, p3.int], by rw [hf]; exact eo, hQ _ s3 _ _ _ q R3 ((S1.trans S2).trans S3) ((K1.trans K2).trans K3) ?_⟩
      exact .int _
  · exact q3.elim
end
end DL

/-! DLS17: calls that only look at their arguments. -/
namespace DL
open PySem PySem.Spec PyProof.Rows L2
theorem flat_dg {K : PySem.W.Frag} {G G' : Hp} {v : V} {d : D} (h : Dg K G v d) (f : flatD d = true) : Dg K G' v d := by
  cases h with
  | non => exact .non
  | bl b => exact .bl b
  | int i => exact .int i
  | str l => exact .str l
  | lst h r => cases f
  | tup h r => cases f
/-- what has been looked at: a name's value; a value for good -/
inductive EvOk (c : Ct) (σ : St) (G : Hp) (s : S) : List Ar → List V → List D → Prop
  | nil : EvOk c σ G s [] [] []
  | nm {i : Nat} {v : V} {d : D} {r : List Ar} {vs : List V} {ds : List D} : σ[i]? = some (some v) → peekA s.v i = some d → EvOk c σ G s r vs ds → EvOk c σ G s (.nm i :: r) (v :: vs) (d :: ds)
  | ex {m : M} {v : V} {d : D} {r : List Ar} {vs : List V} {ds : List D} : Dg c.K G v d → EvOk c σ G s r vs ds → EvOk c σ G s (.ex m :: r) (v :: vs) (d :: ds)
section
variable {X : Cx} {c : Ct} {e : Expr} {es : List Expr} {σ : St} {H G : Hp} {s : S} {p pos : Pos} {m : M}
theorem peek_put {v : List Slot} {i : Nat} {ds : List D} (h : get v i = .own ds) (j : Nat) : peekA (put v i (.val (.list ds))) j = peekA v j := by
  have hi : i < v.length := get_lt (by rw [h]; intro z; cases z)
  unfold peekA
  rw [get_put _ _ _ _ hi]
  by_cases e : j = i
  · subst e
    rw [if_pos rfl, h]
  · rw [if_neg e]
theorem EvOk.mono {as : List Ar} {vs : List V} {ds : List D} {G' : Hp} (sm : Same G G') (h : EvOk c σ G s as vs ds) : EvOk c σ G' s as vs ds := by
  induction h with
  | nil => exact .nil
  | nm h1 h2 _ ih => exact .nm h1 h2 ih
  | ex h1 _ ih => exact .ex (h1.mono sm) ih
theorem EvOk.put {as : List Ar} {vs : List V} {ds : List D} {i : Nat} {es : List D} (e : get s.v i = .own es) (h : EvOk c σ G s as vs ds) : EvOk c σ G { s with v := DL.put s.v i (.val (.list es)) } as vs ds := by
  induction h with
  | nil => exact .nil
  | nm h1 h2 _ ih => exact .nm h1 ((peek_put e _).trans h2) ih
  | ex h1 _ ih => exact .ex h1 ih
/-- all that was looked at is made good -/
theorem EvOk.frz {as : List Ar} {vs : List V} {ds : List D} (R : Rel c σ H G s) (h : EvOk c σ G s as vs ds) : ∃ G1 s1, Rel c σ H G1 s1 ∧ Same G G1 ∧ Dgs c.K G1 vs ds := by
  suffices h : ∀ (as : List Ar) (vs : List V) (ds : List D) (G : Hp) (s : S), Rel c σ H G s → EvOk c σ G s as vs ds → ∃ G1 s1, Rel c σ H G1 s1 ∧ Same G G1 ∧ Dgs c.K G1 vs ds from h as vs ds G s R ‹_›
  intro as
  induction as with
  | nil =>
    intro vs ds G s R h
    cases h
    exact ⟨G, s, R, Same.refl _, .nil⟩
  | cons a as ih =>
    intro vs ds G s R h
    cases h with
    | ex h1 hr =>
      obtain ⟨G1, s1, R1, sm, dg⟩ := ih _ _ _ _ R hr
      exact ⟨G1, s1, R1, sm, .cons (h1.mono sm) dg⟩
    | @nm i v d _ vs ds h1 h2 hr =>
      unfold peekA at h2
      cases q : get s.v i with
      | val d0 =>
        rw [q] at h2
        cases h2
        obtain ⟨v', q1, q2⟩ := R.at q
        rw [h1] at q1
        cases q1
        obtain ⟨G1, s1, R1, sm, dg⟩ := ih _ _ _ _ R hr
        exact ⟨G1, s1, R1, sm, .cons (q2.mono sm) dg⟩
      | own ds0 =>
        rw [q] at h2
        cases h2
        obtain ⟨a, us, q1, R1, sm1, dg0⟩ := R.freezeAt q
        rw [h1] at q1
        cases q1
        obtain ⟨G1, s1, R2, sm, dg⟩ := ih _ _ _ _ R1 ((hr.mono sm1).put q)
        exact ⟨G1, s1, R2, sm1.trans sm, .cons (dg0.mono sm) dg⟩
      | gone => rw [q] at h2; cases h2
      | feed => rw [q] at h2; cases h2
      | exn x => rw [q] at h2; cases h2
/-- the reading of such arguments -/
def tEv (c : Ct) (as : List Ar) : TA := fun σ H Q => ∃ G s P, Rel c σ H G s ∧ evAs as s P ∧ ∀ ds vs H' G', P ds → Rel c σ H' G' s → Same G G' → Keep c H H' → EvOk c σ G' s as vs ds → Q vs H'
theorem dk_nil : PA X [] (tEv c []) := pa_imp pa_nil fun σ H Q ⟨G, s, P, R, h, k⟩ => k _ _ _ _ h R (Same.refl _) Keep.refl .nil
theorem dk_nm (i : Nat) {x : Str} {as : List Ar} (hr : PA X es (tEv c as)) (hN : X.N[i]? = some x := by rfl) (hv : Vis X.env.scope x := by first | exact Or.inl rfl | exact Or.inr (Or.inl rfl) | exact Or.inr (Or.inr rfl)) (hd : (x == ("__debug__" : Str)) = false := by decide)
    (hcd : (x == ("__classdict__" : Str)) = false := by decide) (hs : starEach (.Name x pos :: es) X.env = (false, eval (.Name x pos) X.env) :: starEach es X.env := by rfl) : PA X (.Name x pos :: es) (tEv c (.nm i :: as)) := by
  refine pa_imp (pa_cons (pe_var (i := i) hN hv hd hcd) hr hs) ?_
  rintro σ H Q ⟨G, s, P, R, ⟨d, h1, h2⟩, k⟩
  have hv : ∃ v, σ[i]? = some (some v) := by
    unfold peekA at h1
    cases q : get s.v i with
    | val d0 =>
      obtain ⟨v, q1, _⟩ := R.at q
      exact ⟨v, q1⟩
    | own ds0 =>
      obtain ⟨a, _, q1, _⟩ := R.at q
      exact ⟨_, q1⟩
    | gone => rw [q] at h1; cases h1
    | feed => rw [q] at h1; cases h1
    | exn x => rw [q] at h1; cases h1
  obtain ⟨v, hv⟩ := hv
  exact ⟨v, hv, G, s, _, R, h2, fun ds vs H' G' q R' S' K' ev => k _ _ _ _ q R' S' K' (.nm hv h1 ev)⟩
theorem dk_ex {as : List Ar} (he : PE X e (tE c m)) (hr : PA X es (tEv c as)) (hs : starEach (e :: es) X.env = (false, eval e X.env) :: starEach es X.env := by rfl) : PA X (e :: es) (tEv c (.ex m :: as)) := by
  refine pa_imp (pa_cons he hr hs) ?_
  rintro σ H Q ⟨G, s, P, R, h, k⟩
  refine ⟨G, s, _, R, h, fun r s1 v H1 G1 q R1 S1 K1 O1 => ?_⟩
  obtain ⟨rfl, q⟩ := q
  obtain ⟨d, G2, q, R2, S2, dg⟩ := O1.frz R1 q
  exact ⟨G2, s1, _, R2, q, fun ds vs H' G' q R' S' K' ev => k _ _ _ _ q R' ((S1.trans S2).trans S') (K1.trans K') (.ex (dg.mono S') ev)⟩
theorem de_callB {x : Str} {g : Sem} {as : List Ar} [o : Ok X c] (F : Kn X x (spD X.K g)) (ha : PA X (e :: es) (tEv c as)) (hg : Gl X x := by rfl) (hdb : (x == ("__debug__" : Str)) = false := by decide)
    (he : starEach (e :: es) X.env = (false, eval e X.env) :: starEach es X.env := by rfl) (hpl : (backTo pos (starEach es X.env)).any (·.1) = false := by rfl) : PE X (.Call (.Name x p) (e :: es) [] pos) (tE c (mCallB g as)) := by
  obtain ⟨k, f, fd, ps, F, hr, hm, hk', hb⟩ := F.ex
  refine pe_imp (pe_call F hr hg hm hk' hb .nil pass0 ha hdb he hpl) ?_
  rintro σ H Q ⟨G, s, Q0, R, h, hQ⟩
  refine ⟨G, s, _, R, h, fun ds vs H1 G1 q R1 S1 K1 ev => ?_⟩
  obtain ⟨G2, s2, R2, sm, dgs⟩ := ev.frz R1
  show spD X.K g (vs ++ []) H1 Q _
  rw [List.append_nil]
  refine ⟨G2, ds, s.w, _, R2.gH, o.K ▸ dgs, q, fun r w' v H' G' q2 h => ?_⟩
  obtain ⟨d, rfl, fl, q3⟩ : ∃ d, r = .val d ∧ flatD d = true ∧ Q0 (.val d) s := by
    cases r with
    | val d => exact ⟨d, rfl, q2.1, q2.2⟩
    | own ds => exact q2.elim
    | bor ds => exact q2.elim
  have kh : ∀ b o, H1 b = some o → H' b = some o := fun b o e => h.kH b o e (by simp)
  have k2 : Keep c H1 H' := fun b o e _ => kh b o e
  have R' : Rel c σ H' G1 s := R1.grow (Same.refl _) (fun b o e => kh b o (R1.gH b o e)) k2 (fun _ _ e => .inl e) fun a e => by
    obtain ⟨_, sa, q, _⟩ := R1.fd a e
    rw [q]
    exact kh a _ q
  have res : Dg X.K G' v d := h.res
  have res' : Dg c.K G1 v d := by
    rw [o.K] at res
    exact flat_dg res fl
  exact hQ _ _ _ _ _ q3 R' S1 (K1.trans k2) res'
end
end DL

/-! DLX1: errors: several except clauses with names; how the relation goes through them. -/
namespace DL
open PySem PySem.Spec PyProof.Rows L2
/-- an except clause: the class, the slot of its name, its suite's reading -/
abbrev Cl := Value × Option Nat × (Addr → Value → Option Addr → TS)
def σAs (io : Option Nat) (a : Addr) (σ : St) : St := match io with
  | some i => σ.set i (some (.ref a))
  | none => σ
def σOff (io : Option Nat) (σ : St) : St := match io with
  | some i => σ.set i none
  | none => σ
def dOff (io : Option Nat) (D : Ends) : Ends := { nx := fun σ H => D.nx (σOff io σ) H, rt := D.rt, bk := fun σ H => D.bk (σOff io σ) H, ct := fun σ H => D.ct (σOff io σ) H }
/-- what the clauses wish of an error of the body -/
def wCls (K : PySem.W.Frag) (Wout : WX) (D : Ends) : List Cl → WX
  | [] => Wout
  | (c, io, ts) :: r => fun cls d σ H => ∃ b, PySem.W.exmOne K cls c = some b ∧ (b = true → ∀ a, ts a cls d (dOff io D) (σAs io a σ) H) ∧ (b = false → wCls K Wout D r cls d σ H)
/-- the text of the clauses -/
inductive ClsOk (X : Cx) : List ExceptHandler → List Cl → Prop
  | nil : ClsOk X [] []
  | named {x n : Str} {i : Nat} {c : Value} {ts : Addr → Value → Option Addr → TS} {b₀ : Stmt} {su : List Stmt} {p1 p2 : Pos} {hds : List ExceptHandler} {l : List Cl} (hc : Names X x c) (hi : X.N[i]? = some n) (hn : X.env.kindOf n = some .local)
      (hs : ∀ (a : Addr) (oe : Obj) (cls : Value) (d : Option Addr) (pn : List (Addr × Obj)), L2N.Zn cls d oe → (∃ vs, oe.data = .fields vs) → PSs (X.suite a ((a, oe) :: pn)) (b₀ :: su) (ts a cls d)) (r : ClsOk X hds l) :
      ClsOk X (.ExceptHandler (some (.Name x p1)) (some n) (b₀ :: su) p2 :: hds) ((c, some i, ts) :: l)
  | plain {x : Str} {c : Value} {ts : Addr → Value → Option Addr → TS} {b₀ : Stmt} {su : List Stmt} {p1 p2 : Pos} {hds : List ExceptHandler} {l : List Cl} (hc : Names X x c)
      (hs : ∀ (a : Addr) (oe : Obj) (cls : Value) (d : Option Addr) (pn : List (Addr × Obj)), L2N.Zn cls d oe → (∃ vs, oe.data = .fields vs) → PSs (X.suite a ((a, oe) :: pn)) (b₀ :: su) (ts a cls d)) (r : ClsOk X hds l) :
      ClsOk X (.ExceptHandler (some (.Name x p1)) none (b₀ :: su) p2 :: hds) ((c, none, ts) :: l)
section
variable {X : Cx} {pins : List (Addr × Obj)} {D : Ends} {Wout : WX}
/-- an error on the ground: where it stands, and the state without it -/
structure Down (X : Cx) (pins : List (Addr × Obj)) (a : Addr) (cls : Value) (d : Option Addr) (B : Heap) (σ : St) (H : Hp) (sI s : Shared) : Prop where
  inv : Inv X pins σ H sI
  nb : ∀ b o, sI.heap.get? b = some o → b ∉ frs X.stack → B.get? b = some o
  up : sI.heap.UpToSlots s.heap
  fl : HandSPX.FlyingZ B (X.env :: X.outer) a (L2N.Zn cls d) s.heap
  na : H a = none
  os : s.os = sI.os
  ag : AllBare s.gens
variable {a : Addr} {cls : Value} {d : Option Addr} {B : Heap} {σ : St} {H : Hp} {sI s : Shared}
theorem Down.state (w : Down X pins a cls d B σ H sI s) : Inv X pins σ H s :=
  w.inv.landed (s' := s) w.nb w.fl.1 w.up w.os w.ag
/-- .. with what is handled pinned -/
theorem Down.held (w : Down X pins a cls d B σ H sI s) (hf : X.env.frame = some X.env.locals) : ∃ oe vs, s.heap.get? a = some oe ∧ L2N.Zn cls d oe ∧ oe.data = .fields vs ∧ Inv (X.suite a ((a, oe) :: (X.pn ++ pins))) [] σ H s := by
  obtain ⟨oe, vs, h1, h2, h3⟩ := w.fl.there
  have out : a ∉ frs (X.env :: X.outer) := fun hm => by
    obtain ⟨_, o', e', hnf⟩ := w.fl.2.2.1.mem hm
    rw [h1] at e'
    cases e'
    exact hnf _ h3
  refine ⟨oe, vs, h1, h2, h3, w.state.suite h1 h3 w.na (fun z => out ?_) fun hm => out ?_⟩
  · exact List.mem_filterMap.mpr ⟨X.env, List.mem_cons_self, by rw [hf, z]⟩
  · obtain ⟨e, he, q⟩ := List.mem_filterMap.mp hm
    exact List.mem_filterMap.mpr ⟨e, List.mem_cons_of_mem _ he, q⟩
theorem Down.move (w : Down X pins a cls d B σ H sI s) {h : Heap} (fl : HandSPX.FlyingZ B (X.env :: X.outer) a (L2N.Zn cls d) h) (up : s.heap.UpToSlots h) : Down X pins a cls d B σ H sI { s with heap := h } :=
  ⟨w.inv, w.nb, w.up.trans up, fl, w.na, w.os, w.ag⟩
/-- the class that a clause names, looked at -/
theorem Down.test (w : Down X pins a cls d B σ H sI s) (hf : X.env.frame = some X.env.locals) {x : Str} {c : Value} {p : Pos} {b : Bool} (hc : Names X x c) (hb : PySem.W.exmOne X.K cls c = some b) {Q : Bool → Shared → Prop} {E1 E2 : Value → Shared → Prop} (q : Q b s) :
    wpAny (model X.prog X.w) (X.A.mark (some (.ref a))) (eval (.Name x p) X.env) (fun c' s₁ => wpAny (model X.prog X.w) (X.A.mark (some (.ref a))) (excMatches (.ref a) c') Q E1 s₁) E2 s := by
  obtain ⟨oe, vs, h1, h2, h3, I⟩ := w.held hf
  have ty : PySem.W.Looks (model X.prog X.w) s.heap (typeOf (.ref a)) cls := fun A Q E s' k q => wpAny_typeOf_ref (k _ _ h1) (by rw [h2.1]; exact q)
  have tell := PySem.W.exm_one (M := model X.prog X.w) w.state.kIn ty hb
  obtain ⟨hg, hd, hm | ⟨hm, hv, hn⟩⟩ := hc
  · exact ld_glob (X := X.suite a ((a, oe) :: (X.pn ++ pins))) I hg hm (tell.here q) hd
  · exact ld_blt (X := X.suite a ((a, oe) :: (X.pn ++ pins))) I hg hm hv (tell.here q) hn hd
/-- no clause is left -/
theorem Down.on (w : Down X pins a cls d B σ H sI s) (hs : X.stack = X.env :: X.outer) (hf : X.env.frame = some X.env.locals) (tk : L2N.Takes X Wout) (q : Wout cls d σ H) : wpAny (model X.prog X.w) X.A (handleBy (.ref a) X.env []) (SP X pins D) X.xe s := by
  refine wpAny_handleBy_nil ?_
  obtain ⟨k1, k2, k3, oe, vs, T, oT, ts', he, hz, hd, h1, hr⟩ := id w.fl
  have last : wpAny (model X.prog X.w) X.A (setFlight (.ref a) X.env.frame) (fun _ s4 => wpAny (model X.prog X.w) X.A (throw (.ref a) : PySem.Sem Flow) (SP X pins D) X.xe s4) X.xe s := by
    rw [hf]
    refine HandSPX.setFlight_upZ w.fl fun h4 hh4 up4 => wpAny_throw (tk _ _ ?_)
    have st : HandSPX.HeldZ B X.stack a (L2N.Zn cls d) X.env.locals h4 := by rw [hs]; exact hh4
    exact ⟨a, B, sI, pins, σ, H, cls, d, rfl, w.inv, w.nb, w.up.trans up4, .inr (.inr st), w.na, w.os, w.ag, q⟩
  unfold PySem.passOn
  refine wpAny_bind (wpAny_field he hd h1 ?_)
  rw [if_neg (show ¬ ((Value.ref T == Value.none) = true) from by simp)]
  first | exact wpAny_bind last | exact wpAny_bind (wpAny_pure (wpAny_bind last))
/-- one clause after the other -/
theorem Down.clauses (hs : X.stack = X.env :: X.outer) (hf : X.env.frame = some X.env.locals) (hN : X.N.Nodup) (tk : L2N.Takes X Wout) (ok : X.Ok) : ∀ {hds : List ExceptHandler} {l : List Cl}, ClsOk X hds l → Down X pins a cls d B σ H sI s → wCls X.K Wout D l cls d σ H →
    wpAny (model X.prog X.w) X.A (handleBy (.ref a) X.env hds) (SP X pins D) X.xe s := by
  intro hds l hk
  induction hk with
  | nil => exact fun w q => w.on hs hf tk q
  | @named x n i c ts b₀ su p1 p2 hds l hc hi hn hsu r ih =>
    rintro w ⟨b, hb, yes, no⟩
    refine wpAny_handleBy_cons (codeAny_handlers_test (w.test hf hc hb ?_)) (by intro q; cases q)
    cases b with
    | false => exact ih w (no rfl)
    | true =>
      refine codeAny_handlers_suite_as (HandSPX.lands_againZ w.fl fun h4 fl4 up4 => ?_)
      have w4 := w.move fl4 up4
      obtain ⟨oe, vs, h1, h2, h3, I⟩ := w4.held hf
      refine store_ok (X := X.suite a ((a, oe) :: (X.pn ++ pins))) (v := .ref a) I hN hi (.inl hn) rfl (fun s5 I5 => ?_) (.inr hn)
      refine wpAny_mono ((hsu a oe cls d (X.pn ++ pins) h2 ⟨_, h3⟩).run [] s5 _ H _ I5 (yes rfl a)) (fun f s6 z => ?_) (fun _ _ z => False.elim z)
      have off : ∀ {σ6 : St} {H6 : Hp} {Q : Shared → Prop}, Inv (X.suite a ((a, oe) :: (X.pn ++ pins))) [] σ6 H6 s6 → (∀ s7, Inv X pins (σ6.set i none) H6 s7 → Q s7) →
          wpAny (model X.prog X.w) X.A (do bindName X.env n .none; unbindBehindTheSuite X.env n p2) (fun _ s7 => Q s7) X.xe s6 := fun I6 hq => gone_ok (I6.unsuite ok) hN hi hn hq
      cases f with
      | ret u =>
        obtain ⟨v6, σ6, H6, I6, r6, q6⟩ := z
        exact off I6 fun s7 J => ⟨_, _, _, J, r6, q6⟩
      | next =>
        obtain ⟨σ6, H6, I6, q6⟩ := z
        exact off I6 fun s7 J => ⟨_, _, J, q6⟩
      | brk =>
        obtain ⟨σ6, H6, I6, q6⟩ := z
        exact off I6 fun s7 J => ⟨_, _, J, q6⟩
      | cont =>
        obtain ⟨σ6, H6, I6, q6⟩ := z
        exact off I6 fun s7 J => ⟨_, _, J, q6⟩
  | @plain x c ts b₀ su p1 p2 hds l hc hsu r ih =>
    rintro w ⟨b, hb, yes, no⟩
    refine wpAny_handleBy_cons (codeAny_handlers_test (w.test hf hc hb ?_)) (by intro q; cases q)
    cases b with
    | false => exact ih w (no rfl)
    | true =>
      refine codeAny_handlers_suite (HandSPX.lands_againZ w.fl fun h4 fl4 up4 => ?_)
      have w4 := w.move fl4 up4
      obtain ⟨oe, vs, h1, h2, h3, I⟩ := w4.held hf
      refine wpAny_mono ((hsu a oe cls d (X.pn ++ pins) h2 ⟨_, h3⟩).run [] _ _ H _ I (yes rfl a)) (fun f s6 z => ?_) (fun _ _ z => False.elim z)
      cases f with
      | ret u =>
        obtain ⟨v6, σ6, H6, I6, r6, q6⟩ := z
        exact ⟨_, _, _, I6.unsuite ok, r6, q6⟩
      | next =>
        obtain ⟨σ6, H6, I6, q6⟩ := z
        exact ⟨_, _, I6.unsuite ok, q6⟩
      | brk =>
        obtain ⟨σ6, H6, I6, q6⟩ := z
        exact ⟨_, _, I6.unsuite ok, q6⟩
      | cont =>
        obtain ⟨σ6, H6, I6, q6⟩ := z
        exact ⟨_, _, I6.unsuite ok, q6⟩
end
section
variable {X : Cx} {body : List Stmt} {h₀ : ExceptHandler} {hds : List ExceptHandler} {l : List Cl} {pos : Pos} {tb : WX → TS} {Wout : WX}
/-- try: .. except ..: .. -/
theorem ps_tries (hs : X.stack = X.env :: X.outer) (hf : X.env.frame = some X.env.locals) (hN : X.N.Nodup) (tk : L2N.Takes X Wout)
    (hb : ∀ (W : WX) (pn : List (Addr × Obj)) (xe : Value → Shared → Prop), L2N.Takes (X.tr pn xe) W → PSs (X.tr pn xe) body (tb W)) (hk : ClsOk X (h₀ :: hds) l) :
    PS X (.Try body (h₀ :: hds) [] [] pos) (fun D σ H => tb (wCls X.K Wout D l) D σ H) := by
  refine ⟨fun pins s σ H D I h => wpAny_Try_except ?_⟩
  have fr : X.A.frames = some (X.env :: X.outer) := by rw [I.ok.frames, hs]
  let look : Value → Shared → Prop := fun e s₁ => wpAny (model X.prog X.w) X.A (noteFrame e X.env) (fun _ s₂ => wpAny (model X.prog X.w) X.A (setFlight e none) (fun _ s₃ => wpAny (model X.prog X.w) X.A (handleBy e X.env (h₀ :: hds)) (SP X pins D) X.xe s₃) X.xe s₂) X.xe s₁
  have takes : L2N.Takes (X.tr (X.pn ++ pins) look) (wCls X.K Wout D l) := by
    rintro u s' ⟨a, B, sI, pins', σ', H', cls, d, rfl, J', nb, up, sky, na, os, ag, w⟩
    have sky' : Sky B (X.env :: X.outer) a (L2N.Zn cls d) X.env.locals s'.heap := by rw [← hs]; exact sky
    refine L2N.Sky.land L2N.Zn.steady fr hf sky' fun h3 fl3 up3 => ?_
    exact Down.clauses (s := { s' with heap := h3 }) hs hf hN tk I.ok hk ⟨J'.ofTry I.ok, nb, up.trans up3, fl3, na, os, ag⟩ w
  refine wpAny_mono ((hb _ (X.pn ++ pins) look takes).run [] s σ H D (I.toTry _) h) (fun f s1 z => ?_) fun e s1 he => he
  have ok := I.ok
  cases f with
  | next =>
    obtain ⟨σ', H', J, q⟩ := z
    exact wpAny_execs_nil ⟨σ', H', J.ofTry ok, q⟩
  | ret u =>
    obtain ⟨v, σ', H', J, r, q⟩ := z
    exact ⟨v, σ', H', J.ofTry ok, r, q⟩
  | brk =>
    obtain ⟨σ', H', J, q⟩ := z
    exact ⟨σ', H', J.ofTry ok, q⟩
  | cont =>
    obtain ⟨σ', H', J, q⟩ := z
    exact ⟨σ', H', J.ofTry ok, q⟩
end
end DL

/-! DLX2: errors: the meanings hold. -/
namespace DL
open PySem PySem.Spec PyProof.Rows L2
/-- the errors that x takes are those that W takes -/
def XOk (c : Ct) (x : Exn → S → Prop) (W : WX) : Prop := ∀ e s σ H G cls d, x e s → Rel c σ H G s → ExcK c.K c.mg G cls d e → W cls d σ H
theorem xok_none {c : Ct} {W : WX} : XOk c (fun _ _ => False) W := fun _ _ _ _ _ _ _ h => h.elim
instance {X : Cx} [o : Calm X] {pn : List (Addr × Obj)} {xe : Value → Shared → Prop} : Calm (X.tr pn xe) := ⟨o.calm⟩
theorem Ok.tr {X : Cx} {c : Ct} (o : Ok X c) {pn : List (Addr × Obj)} {xe : Value → Shared → Prop} : Ok (X.tr pn xe) c := ⟨o.K, o.blt, o.hu, o.nd, o.mg, o.xe⟩
theorem Ok.suite {X : Cx} {c : Ct} (o : Ok X c) {a : Addr} {pn : List (Addr × Obj)} {x : Option (Addr × Value × Option Addr)} {G0 : Hp} : Ok (X.suite a pn) { c with G0 := G0, xe := x } := ⟨o.K, o.blt, o.hu, o.nd, o.mg, fun z => Bool.noConfusion (show false = true from z)⟩
theorem Ok.base {X : Cx} {c : Ct} (o : Ok X c) {G0 : Hp} : Ok X { c with G0 := G0 } := ⟨o.K, o.blt, o.hu, o.nd, o.mg, o.xe⟩
section
variable {c : Ct} {σ : St} {H G G0 : Hp} {s : S}
/-- from here on -/
theorem Rel.rebase (R : Rel c σ H G s) : Rel { c with G0 := G } σ H G s := ⟨Same.refl _, R.gH, R.kH, fun a o e => .inl e, R.len, R.sl, R.ap, R.fd, R.rs⟩
theorem Rel.unbase {σ' : St} {H' G' : Hp} {s' : S} (R : Rel c σ H G s) (R' : Rel { c with G0 := G } σ' H' G' s') : Rel c σ' H' G' s' := ⟨R.g0.trans R'.g0, R'.gH, R'.kH, fun a o e => by
  rcases R'.gN a o e with h | h
  · exact R.gN a o h
  · exact .inr h, R'.len, R'.sl, R'.ap, R'.fd, R'.rs⟩
/-- the error's name -/
theorem Rel.hold (R : Rel c σ H G s) (hx : c.xe = none) {a : Addr} {cls : Value} {d : Option Addr} {e : Exn} {i : Nat} (h : ExcK c.K c.mg G cls d e) : Rel { c with xe := some (a, cls, d) } (σ.set i (some (.ref a))) H G { s with v := put s.v i (.exn e) } := by
  by_cases hi : i < s.v.length
  · have hi2 : i < σ.length := by rw [← R.len]; exact hi
    have gt : ∀ j, get (put s.v i (.exn e)) j = if j = i then .exn e else get s.v j := fun j => get_put _ _ _ _ hi
    have no : ∀ j, (get (put s.v i (.exn e)) j).isOwn = true → j ≠ i ∧ (get s.v j).isOwn = true := fun j z => by
      rw [gt] at z
      by_cases hj : j = i
      · rw [if_pos hj] at z; cases z
      · rw [if_neg hj] at z; exact ⟨hj, z⟩
    refine ⟨R.g0, R.gH, R.kH, R.gN, ?_, fun j => ?_, fun j k b hjk o1 o2 e1 e2 => ?_, R.fd, R.rs⟩
    · rw [List.length_set]
      show (put s.v i _).length = _
      rw [put_length]
      exact R.len
    · show SlotOk _ H G (σ.set i (some (.ref a)))[j]? (get (put s.v i (.exn e)) j)
      rw [gt]
      by_cases hj : j = i
      · subst hj
        rw [if_pos rfl, List.getElem?_set_self hi2]
        exact ⟨a, cls, d, rfl, rfl, h⟩
      · rw [if_neg hj, List.getElem?_set_ne (Ne.symm hj)]
        have q := R.sl j
        cases z : get s.v j with
        | exn x =>
          rw [z] at q
          obtain ⟨_, _, _, q1, _⟩ := q
          rw [hx] at q1
          cases q1
        | gone => trivial
        | val d => rw [z] at q; exact q
        | own ds => rw [z] at q; exact q
        | feed => rw [z] at q; exact q
    · obtain ⟨n1, o1⟩ := no j o1
      obtain ⟨n2, o2⟩ := no k o2
      rw [List.getElem?_set_ne (Ne.symm n1)] at e1
      rw [List.getElem?_set_ne (Ne.symm n2)] at e2
      exact R.ap j k b hjk o1 o2 e1 e2
  · rw [List.set_eq_of_length_le (by rw [← R.len]; omega)]
    refine ⟨R.g0, R.gH, R.kH, R.gN, ?_, fun j => ?_, ?_, R.fd, R.rs⟩
    · show (put s.v i _).length = _
      rw [put_length]
      exact R.len
    · show SlotOk _ H G σ[j]? (get (put s.v i (.exn e)) j)
      rw [put_out _ _ _ hi]
      have q := R.sl j
      cases z : get s.v j with
      | exn x =>
        rw [z] at q
        obtain ⟨_, _, _, q1, _⟩ := q
        rw [hx] at q1
        cases q1
      | gone => trivial
      | val d => rw [z] at q; exact q
      | own ds => rw [z] at q; exact q
      | feed => rw [z] at q; exact q
    · intro j k b hjk o1 o2 e1 e2
      have o1 : (get (put s.v i (.exn e)) j).isOwn = true := o1
      have o2 : (get (put s.v i (.exn e)) k).isOwn = true := o2
      rw [put_out _ _ _ hi] at o1 o2
      exact R.ap j k b hjk o1 o2 e1 e2
/-- behind a clause without a name nothing is held -/
theorem Rel.other (R : Rel c σ H G s) (hx : c.xe = none) {x : Option (Addr × Value × Option Addr)} : Rel { c with xe := x } σ H G s := ⟨R.g0, R.gH, R.kH, R.gN, R.len, fun j => by
  have q := R.sl j
  cases z : get s.v j with
  | exn x =>
    rw [z] at q
    obtain ⟨_, _, _, q1, _⟩ := q
    rw [hx] at q1
    cases q1
  | gone => trivial
  | val d => rw [z] at q; exact q
  | own ds => rw [z] at q; exact q
  | feed => rw [z] at q; exact q, R.ap, R.fd, R.rs⟩
theorem all_get {v : List Slot} (h : v.all (fun x => !x.isExn) = true) (j : Nat) : (get v j).isExn = false := by
  induction v generalizing j with
  | nil => rfl
  | cons x r ih =>
    rw [List.all_cons, Bool.and_eq_true] at h
    cases j with
    | zero =>
      show x.isExn = false
      simpa using h.1
    | succ j => exact ih h.2 j
theorem Rel.none {x : Option (Addr × Value × Option Addr)} (hx : c.xe = none) (R : Rel { c with xe := x } σ H G s) (h : s.v.all (fun x => !x.isExn) = true) : Rel c σ H G s := ⟨R.g0, R.gH, R.kH, R.gN, R.len, fun j => by
  have q := R.sl j
  cases z : get s.v j with
  | exn x =>
    have := all_get h j
    rw [z] at this
    cases this
  | gone => trivial
  | val d => rw [z] at q; exact q
  | own ds => rw [z] at q; exact q
  | feed => rw [z] at q; exact q, R.ap, R.fd, R.rs⟩
theorem Rel.letgo (R : Rel c σ H G s) {i : Nat} {o : Option V} : Rel c (σ.set i o) H G { s with v := put s.v i .gone } := by
  by_cases hi : i < s.v.length
  · have hi2 : i < σ.length := by rw [← R.len]; exact hi
    have gt : ∀ j, get (put s.v i .gone) j = if j = i then .gone else get s.v j := fun j => get_put _ _ _ _ hi
    have no : ∀ j, (get (put s.v i .gone) j).isOwn = true → j ≠ i ∧ (get s.v j).isOwn = true := fun j z => by
      rw [gt] at z
      by_cases hj : j = i
      · rw [if_pos hj] at z; cases z
      · rw [if_neg hj] at z; exact ⟨hj, z⟩
    refine ⟨R.g0, R.gH, R.kH, R.gN, ?_, fun j => ?_, fun j k b hjk o1 o2 e1 e2 => ?_, R.fd, R.rs⟩
    · rw [List.length_set]
      show (put s.v i _).length = _
      rw [put_length]
      exact R.len
    · show SlotOk _ H G (σ.set i o)[j]? (get (put s.v i .gone) j)
      rw [gt]
      by_cases hj : j = i
      · rw [if_pos hj]; trivial
      · rw [if_neg hj, List.getElem?_set_ne (Ne.symm hj)]
        exact R.sl j
    · obtain ⟨n1, o1⟩ := no j o1
      obtain ⟨n2, o2⟩ := no k o2
      rw [List.getElem?_set_ne (Ne.symm n1)] at e1
      rw [List.getElem?_set_ne (Ne.symm n2)] at e2
      exact R.ap j k b hjk o1 o2 e1 e2
  · rw [List.set_eq_of_length_le (by rw [← R.len]; omega), put_out _ _ _ hi]
    exact R
/-- no name at all -/
theorem get_gone : ∀ (n j : Nat), get (List.replicate n Slot.gone) j = .gone
  | 0, _ => rfl
  | _ + 1, 0 => rfl
  | n + 1, j + 1 => get_gone n j
theorem Rel.drop (R : Rel c σ H G s) : Rel c σ H G { s with v := List.replicate s.v.length .gone } := by
  refine ⟨R.g0, R.gH, R.kH, R.gN, ?_, fun j => ?_, fun j k b hjk o1 o2 e1 e2 => ?_, R.fd, R.rs⟩
  · rw [List.length_replicate]; exact R.len
  · show SlotOk _ _ _ _ (get (List.replicate _ _) _)
    rw [get_gone]; trivial
  · have o1 : (get (List.replicate s.v.length Slot.gone) j).isOwn = true := o1
    rw [get_gone] at o1
    cases o1
end
/-! ### raise -/
/-- C(e): the reading of what makes the error -/
def tMk1 (C : Addr) (f : Str) (ta : TA) : St → Hp → XK → Prop := fun σ H Q => ta σ H fun vs H1 => ∃ v, vs = [v] ∧ ∀ d, H1 d = none → Q (.ref C) (some d) (upd H1 d (.xd [(f, v)]))
section
variable {X : Cx} {c : Ct} {a b e : Expr} {es : List Expr} {st : Stmt} {sts sts' : List Stmt} {m m1 m2 m3 : M} {ms : Ms} {pos p : Pos} {x : Exn → S → Prop} {W : WX} {cl f : String}
theorem ds_raise1 [o : Ok X c] [cm : Calm X] (tk : L2N.Takes X W) (xo : XOk c x W) {C : Addr} (hC : X.mg (Str.ofString cl) = some (.ref C)) (mk : L2N.PMk X e (tMk1 C (Str.ofString f) (tAs c (msC m msN)))) : PS X (.Raise (some e) none pos) (tS c (sRaise1 x cl f m)) := by
  refine ps_imp (L2N.ps_raise cm.calm tk mk) ?_
  rintro D σ H ⟨G, s, O, R, h, k⟩
  refine ⟨G, s, fun ds s1 => ∃ d, ds = [d] ∧ x ⟨cl, some (f, d)⟩ s1, R, ?_, fun ds s1 vs H1 G1 q R1 S1 K1 dg => ?_⟩
  · have mono : ∀ {r : DL.R} {k k' : DL.D → Prop}, frz r k → (∀ d, k d → k' d) → frz r k' := fun {r k k'} h i => by
      cases r with
      | val d => exact i _ h
      | own ds => exact i _ h
      | bor ds => exact h
    show m s fun r s1 => frz r fun d => msN s1 fun ds s2 => ∃ d', d :: ds = [d'] ∧ x ⟨cl, some (f, d')⟩ s2
    have e : (fun r s1 => frz r fun d => msN s1 fun ds s2 => ∃ d', d :: ds = [d'] ∧ x ⟨cl, some (f, d')⟩ s2) = (fun (r : DL.R) s1 => frz r fun d => x ⟨cl, some (f, d)⟩ s1) := by
      funext r s1
      apply propext
      constructor
      · intro z
        exact mono z fun d ⟨d', e1, e2⟩ => by cases e1; exact e2
      · intro z
        exact mono z fun d e2 => ⟨d, rfl, e2⟩
    rw [e]
    exact h
  · obtain ⟨d, rfl, q⟩ := q
    cases dg with
    | cons dg r =>
      cases r
      refine ⟨_, rfl, fun dd n => ?_⟩
      obtain ⟨R2, sm⟩ := R1.newG (o := .xd [(Str.ofString f, _)]) n
      exact xo _ _ _ _ _ _ _ q R2 ⟨C, o.mg ▸ hC, rfl, dd, _, rfl, upd_same, dg.mono sm⟩
theorem ds_raise0 [o : Ok X c] [cm : Calm X] (tk : L2N.Takes X W) (xo : XOk c x W) {C : Addr} (hC : X.mg (Str.ofString cl) = some (.ref C)) (mk : L2N.PMk X e (fun _ H Q => Q (.ref C) none H)) : PS X (.Raise (some e) none pos) (tS c (sRaise0 x cl)) := by
  refine ps_imp (L2N.ps_raise cm.calm tk mk) ?_
  rintro D σ H ⟨G, s, O, R, h, k⟩
  exact xo _ _ _ _ _ _ _ h R ⟨C, o.mg ▸ hC, rfl, rfl⟩
end
/-! ### calls of defs that may raise -/
structure RetX (K : PySem.W.Frag) (mg : Str → Option Value) (G0 H G' H' : Hp) (e : Exn) (cls : Value) (d : Option Addr) : Prop where
  g0 : Same G0 G'
  gH : Same G' H'
  kH : ∀ b o, H b = some o → H' b = some o
  gN : ∀ a o, G' a = some o → G0 a = some o ∨ H a = none
  ex : ExcK K mg G' cls d e
def spX (K : PySem.W.Frag) (mg : Str → Option Value) (g : SemX) : Sp := fun vs H Q E => ∃ G0 ds w Qd Ed, Same G0 H ∧ Dgs K G0 vs ds ∧ g ds w Qd Ed ∧ (∀ r w' v H' G', Qd r w' → Ret K none G0 H G' H' r v → Q v H') ∧
  ∀ e w' cls d H' G', Ed e w' → RetX K mg G0 H G' H' e cls d → E cls d H'
structure KnX (X : Cx) (x : Str) (sp : Sp) : Prop where
  ex : ∃ (k : Nat) (f : Addr) (fd : FuncData) (ps : List Str), FnOk X.prog X.w X.K X.mg X.base (L2N.CX X.prog X.w) k f fd ps sp ∧ Room k X.A ∧ X.mg x = some (.ref f) ∧ PySem.W.keepIn X.K (.ref f) = true ∧ Binds X.K fd ps []
section
variable {X : Cx} {c : Ct} {a b e : Expr} {es : List Expr} {m m1 m2 m3 : M} {ms : Ms} {pos p : Pos} {xx : Exn → S → Prop} {W : WX}
theorem de_callX {x : Str} {g : SemX} [o : Ok X c] (F : KnX X x (spX X.K X.mg g)) (tk : L2N.Takes X W) (xo : XOk c xx W) (ha : PA X (e :: es) (tAs c ms)) (hg : Gl X x := by rfl) (hdb : (x == ("__debug__" : Str)) = false := by decide)
    (he : starEach (e :: es) X.env = (false, eval e X.env) :: starEach es X.env := by rfl) (hpl : (backTo pos (starEach es X.env)).any (·.1) = false := by rfl) : PE X (.Call (.Name x p) (e :: es) [] pos) (tE c (mCallX g xx ms)) := by
  obtain ⟨k, f, fd, ps, F, hr, hm, hk, hb⟩ := F.ex
  refine pe_imp (pe_callS F hr hg hm hk hb (fun σ => L2N.passAt tk σ) ha hdb he hpl) ?_
  rintro σ H Q ⟨G, s, Q0, R, hm, hQ⟩
  refine ⟨G, s, _, R, hm, fun ds s1 vs H1 G1 q R1 S1 K1 dgs => ?_⟩
  refine ⟨G1, ds, s1.w, _, _, R1.gH, o.K ▸ dgs, q, fun r w' v H' G' q2 h => ?_, fun ee w' cls d H' G' q2 h => ?_⟩
  · have h' : Ret c.K none G1 H1 G' H' r v := o.K ▸ h
    obtain ⟨R', O'⟩ := R1.called h'
    have k2 : Keep c H1 H' := fun b o e _ => h.kH b o e (by simp)
    exact hQ _ _ _ _ _ q2 R' (S1.trans h.g0) (K1.trans k2) O'
  · have R' : Rel c σ H' G' s1 := R1.grow h.g0 h.gH (fun b o e _ => h.kH b o e) h.gN fun a e => by
      obtain ⟨_, sa, q, _⟩ := R1.fd a e
      rw [q]
      exact h.kH a _ q
    exact xo _ _ _ _ _ _ _ q2 R' (o.K ▸ o.mg ▸ h.ex)
/-! ### try -/
theorem takes0N {X : Cx} : L2N.Takes X (fun _ _ _ _ => False) := fun _ _ h => by
  obtain ⟨_, _, _, _, _, _, _, _, _, _, _, _, _, _, _, _, z⟩ := h
  exact z.elim
/-- what a class's name in a clause says of the errors that are known: which of them it catches -/
def Catches (K : PySem.W.Frag) (mg : Str → Option Value) (all yes : List String) (D : Addr) : Prop := ∀ x C, all.contains x = true ∨ yes.contains x = true → mg (Str.ofString x) = some (.ref C) → PySem.W.exmOne K (.ref C) (.ref D) = some (yes.contains x)
/-- the suites' text and meanings -/
inductive HdsOk (X : Cx) (c : Ct) (all : List String) : List ExceptHandler → List Hd → Prop
  | nil : HdsOk X c all [] []
  | named {x n : Str} {i : Nat} {D : Addr} {u : MS} {yes : List String} {b₀ : Stmt} {su : List Stmt} {p1 p2 : Pos} {hds : List ExceptHandler} {l : List Hd} (hc : Names X x (.ref D)) (hi : X.N[i]? = some n) (hn : X.env.kindOf n = some .local) (hy : Catches X.K X.mg all yes D)
      (hs : ∀ (a : Addr) (oe : Obj) (cls : Value) (d : Option Addr) (pn : List (Addr × Obj)) (c' : Ct), L2N.Zn cls d oe → (∃ vs, oe.data = .fields vs) → c'.xe = some (a, cls, d) → Ok (X.suite a ((a, oe) :: pn)) c' → PSs (X.suite a ((a, oe) :: pn)) (b₀ :: su) (tS c' u)) (r : HdsOk X c all hds l) :
      HdsOk X c all (.ExceptHandler (some (.Name x p1)) (some n) (b₀ :: su) p2 :: hds) (⟨yes, i, true, u⟩ :: l)
  | plain {x : Str} {i : Nat} {D : Addr} {u : MS} {yes : List String} {b₀ : Stmt} {su : List Stmt} {p1 p2 : Pos} {hds : List ExceptHandler} {l : List Hd} (hc : Names X x (.ref D)) (hy : Catches X.K X.mg all yes D)
      (hs : ∀ (a : Addr) (oe : Obj) (cls : Value) (d : Option Addr) (pn : List (Addr × Obj)) (c' : Ct), L2N.Zn cls d oe → (∃ vs, oe.data = .fields vs) → c'.xe = some (a, cls, d) → Ok (X.suite a ((a, oe) :: pn)) c' → PSs (X.suite a ((a, oe) :: pn)) (b₀ :: su) (tS c' u)) (r : HdsOk X c all hds l) :
      HdsOk X c all (.ExceptHandler (some (.Name x p1)) none (b₀ :: su) p2 :: hds) (⟨yes, i, false, u⟩ :: l)
/-- a suite's reading, any relation around -/
def tSu (c : Ct) (u : MS) (a : Addr) (cls : Value) (d : Option Addr) : TS := fun D σ H => ∃ G0 : Hp, tS { c with G0 := G0, xe := some (a, cls, d) } u D σ H
def clsOf : List Cl → List Hd → Prop := fun _ _ => True
theorem HdsOk.cls {all : List String} {hds : List ExceptHandler} {l : List Hd} [o : Ok X c] [cm : Calm X] (h : HdsOk X c all hds l) : ∃ cs : List Cl, ClsOk X hds cs ∧ ∀ (G : Hp) (D : Ends) (O : Outs) (e : Exn) (s : S) (σ : St) (H : Hp) (cls : Value) (d : Option Addr) (G' : Hp), OutsOk { c with G0 := G } G O D →
    caught all l e s O → Rel { c with G0 := G } σ H G' s → Same G G' → ExcK c.K c.mg G' cls d e → wCls X.K (fun _ _ _ _ => False) D cs cls d σ H := by
  have hx := o.xe cm.calm
  induction h with
  | nil => exact ⟨[], .nil, fun G D O e s σ H cls d G' k q _ _ _ => q⟩
  | @named x n i D' u yes b₀ su p1 p2 hds l hc hi hn hy hs r ih =>
    obtain ⟨cs, h1, h2⟩ := ih
    refine ⟨(.ref D', some i, tSu c u) :: cs, .named hc hi hn (fun a oe cls d pn hz hf => ⟨fun pins s σ H D I ⟨G0, q⟩ => (hs a oe cls d pn { c with G0 := G0, xe := some (a, cls, d) } hz hf rfl o.suite).run pins s σ H D I q⟩) h1, fun G D O e s σ H cls d G' k q R S E => ?_⟩
    obtain ⟨C, e1, e2, e3⟩ := id E
    subst e2
    unfold caught at q
    by_cases hyes : yes.contains e.cls = true
    · rw [if_pos hyes] at q
      refine ⟨true, by rw [← hyes]; exact hy _ _ (.inr hyes) (o.mg.symm ▸ e1), fun _ a => ⟨G, ?_⟩, fun z => Bool.noConfusion z⟩
      refine ⟨G', _, _, R.hold (a := a) (i := i) (e := e) hx E, q, ?_⟩
      have back : ∀ {K : DL.S → Prop} {D3 : St → Hp → Prop}, (∀ s' σ' H' G', K s' → Rel { c with G0 := G } σ' H' G' s' → Same G G' → D3 σ' H') → ∀ s' σ' H' G2, unheld ⟨yes, i, true, u⟩ K s' → Rel { c with G0 := G, xe := some (a, .ref C, d) } σ' H' G2 s' → Same G' G2 → D3 (σ'.set i Option.none) H' := fun {K D3} kk s' σ' H' G2 q R2 S2 => by
        unfold unheld at q
        rw [if_pos rfl] at q
        exact kk _ _ _ _ q.2 ((R2.letgo (i := i) (o := Option.none)).none hx q.1) (S.trans S2)
      exact ⟨back k.nx, back k.bk, back k.ct, fun r s' v σ' H' G2 q R2 S2 hr => k.rt r { s' with v := List.replicate s'.v.length .gone } v σ' H' G2 q (R2.drop.none hx (List.all_eq_true.mpr fun y hy => by rw [List.eq_of_mem_replicate hy]; rfl)) (S.trans S2) (by cases r <;> exact hr)⟩
    · rw [if_neg hyes] at q
      have hno : yes.contains e.cls = false := by simpa using hyes
      exact ⟨false, by rw [← hno]; exact hy _ _ (.inl q.1) (o.mg.symm ▸ e1), fun z => Bool.noConfusion z, fun _ => h2 G D O e s σ H _ d G' k q.2 R S E⟩
  | @plain x i D' u yes b₀ su p1 p2 hds l hc hy hs r ih =>
    obtain ⟨cs, h1, h2⟩ := ih
    refine ⟨(.ref D', Option.none, tSu c u) :: cs, .plain hc (fun a oe cls d pn hz hf => ⟨fun pins s σ H D I ⟨G0, q⟩ => (hs a oe cls d pn { c with G0 := G0, xe := some (a, cls, d) } hz hf rfl o.suite).run pins s σ H D I q⟩) h1, fun G D O e s σ H cls d G' k q R S E => ?_⟩
    obtain ⟨C, e1, e2, e3⟩ := id E
    subst e2
    unfold caught at q
    by_cases hyes : yes.contains e.cls = true
    · rw [if_pos hyes] at q
      refine ⟨true, by rw [← hyes]; exact hy _ _ (.inr hyes) (o.mg.symm ▸ e1), fun _ a => ⟨G, ?_⟩, fun z => Bool.noConfusion z⟩
      have q : u s (unslot ⟨yes, i, false, u⟩ O) := q
      refine ⟨G', _, _, R.other (x := some (a, .ref C, d)) hx, q, ?_⟩
      have back : ∀ {K : DL.S → Prop} {D3 : St → Hp → Prop}, (∀ s' σ' H' G', K s' → Rel { c with G0 := G } σ' H' G' s' → Same G G' → D3 σ' H') → ∀ s' σ' H' G2, unheld ⟨yes, i, false, u⟩ K s' → Rel { c with G0 := G, xe := some (a, .ref C, d) } σ' H' G2 s' → Same G' G2 → D3 σ' H' := fun {K D3} kk s' σ' H' G2 q R2 S2 => by
        unfold unheld at q
        rw [if_neg Bool.false_ne_true] at q
        exact kk _ _ _ _ q.2 (R2.none hx q.1) (S.trans S2)
      exact ⟨back k.nx, back k.bk, back k.ct, fun r s' v σ' H' G2 q R2 S2 hr => k.rt r { s' with v := List.replicate s'.v.length .gone } v σ' H' G2 q (R2.drop.none hx (List.all_eq_true.mpr fun y hy => by rw [List.eq_of_mem_replicate hy]; rfl)) (S.trans S2) (by cases r <;> exact hr)⟩
    · rw [if_neg hyes] at q
      have hno : yes.contains e.cls = false := by simpa using hyes
      exact ⟨false, by rw [← hno]; exact hy _ _ (.inl q.1) (o.mg.symm ▸ e1), fun z => Bool.noConfusion z, fun _ => h2 G D O e s σ H _ d G' k q.2 R S E⟩
theorem ds_try {all : List String} {body : List Stmt} {bm : (Exn → S → Prop) → MS} {h₀ : ExceptHandler} {hds : List ExceptHandler} {l : List Hd} [o : Ok X c] [cm : Calm X] (hb : ∀ (W : WX) (pn : List (Addr × Obj)) (xe : Value → Shared → Prop) (c' : Ct) (x : Exn → S → Prop), L2N.Takes (X.tr pn xe) W → XOk c' x W → Ok (X.tr pn xe) c' → PSs (X.tr pn xe) body (tS c' (bm x)))
    (hh : HdsOk X c all (h₀ :: hds) l) (hs : X.stack = X.env :: X.outer := by rfl) (hf : X.env.frame = some X.env.locals := by rfl) : PS X (.Try body (h₀ :: hds) [] [] pos) (tS c (sTry all bm l)) := by
  obtain ⟨cs, h1, h2⟩ := hh.cls
  refine ps_imp (ps_tries (tb := fun W D σ H => ∃ (G : Hp) (x : Exn → S → Prop), XOk { c with G0 := G } x W ∧ tS { c with G0 := G } (bm x) D σ H) hs hf o.nd takes0N (fun W pn xe tk => ⟨fun pins s σ H D I ⟨G, x, xo, q⟩ => (hb W pn xe { c with G0 := G } x tk xo o.base.tr).run pins s σ H D I q⟩) h1) ?_
  rintro D σ H ⟨G, s, O, R, h, k⟩
  have k' : OutsOk { c with G0 := G } G O D := ⟨fun s' σ' H' G' q R' S' => k.nx s' σ' H' G' q (R.unbase R') S', fun s' σ' H' G' q R' S' => k.bk s' σ' H' G' q (R.unbase R') S', fun s' σ' H' G' q R' S' => k.ct s' σ' H' G' q (R.unbase R') S',
    fun r s' v σ' H' G' q R' S' hr => k.rt r s' v σ' H' G' q (R.unbase R') S' (by cases r <;> exact hr)⟩
  exact ⟨G, _, fun e s' σ' H' G' cls d q R' E => h2 G D O e s' σ' H' cls d G' k' q R' R'.g0 E, G, s, O, R.rebase, h, k'⟩
end
end DL

/-! DLX3: errors: defs that may raise; what a suite asks of its error; calls in a suite. -/
namespace DL
open PySem PySem.Spec PyProof.Rows L2
/-- what an error's class must say -/
structure XCls (K : PySem.W.Frag) (C : Addr) : Prop where
  cl : (PySem.W.clsIn K C).isSome = true
  ga : PySem.W.findIn K (.ref C) "__getattribute__" = some (some (.builtin "BaseException.__getattribute__"))
  gg : PySem.W.findIn K (.ref C) "__getattr__" = some none
  exC : PySem.W.subIn K (.ref C) (.type "BaseException") = some true
  hdC : PySem.W.hasDictIn K C = true
  ty : PySem.W.typeIn K (.ref C) = some (.type "type")
  ha : PySem.W.findIn K (.ref C) "__class__" = some (some (.builtin "object.__class__"))
  hn : PySem.W.specialIn K (.builtin "object.__class__") "__get__" = some (some (.builtin "getset_descriptor.__get__"))
  ht : PySem.W.takesIn K (.builtin "object.__class__") = some true
  hm : PySem.W.mroIn K C (.type "object") = some true
theorem XCls.kit {K : PySem.W.Frag} {C D : Addr} {b : Bool} (h : XCls K D) (s : PySem.W.subIn K (.ref C) (.ref D) = some b) (hs : C = D → b = true) : PySem.W.kitOne K (.ref C) (.ref D) = some b := by
  unfold PySem.W.kitOne
  by_cases e : C = D
  · rw [if_pos (by rw [e]; exact beq_self_eq_true _), hs e]
  · rw [if_neg (by simpa using e)]
    show (if ((PySem.W.clsIn K D).isSome && PySem.W.typeIn K (.ref D) == some (.type "type")) = true then PySem.W.subIn K (.ref C) (.ref D) else none) = some b
    rw [h.cl, h.ty]
    exact s
theorem XCls.exm {K : PySem.W.Frag} {C D : Addr} {b : Bool} (h : XCls K D) (s : PySem.W.subIn K (.ref C) (.ref D) = some b) : PySem.W.exmOne K (.ref C) (.ref D) = some b := by
  have e1 : (PySem.W.subIn K (.ref D) (.type "BaseException") == some true) = true := by rw [h.exC] <;> rfl
  have e2 : ((PySem.W.clsIn K D).isSome && PySem.W.typeIn K (.ref D) == some (.type "type")) = true := by rw [h.cl, h.ty] <;> rfl
  show (if (PySem.W.subIn K (.ref D) (.type "BaseException") == some true) = true then (if ((PySem.W.clsIn K D).isSome && PySem.W.typeIn K (.ref D) == some (.type "type")) = true then PySem.W.subIn K (.ref C) (.ref D) else none) else none) = some b
  rw [if_pos e1, if_pos e2]
  exact s
/-- isinstance(e, ..), e the error that is held -/
def rIsX (K : PySem.W.Frag) (cls : Value) (a : Addr) (d : Option Addr) : List V → Hp → VK → Prop := fun xs H Q => ∃ (c : V) (cv : Value) (b : Bool), xs = [.ref a, c] ∧ (∀ u, RelV c u → u = cv) ∧ PySem.W.kitOne K cls cv = some b ∧ (∀ dd, d = some dd → ∃ fs, H dd = some (.xd fs)) ∧ Q (.bl b) H
theorem call_isX {X : Cx} {a C : Addr} {oe : Obj} {d : Option Addr} {pn : List (Addr × Obj)} (k : XCls X.K C) (hz : L2N.Zn (.ref C) d oe) (hf : ∃ vs, oe.data = .fields vs) : CallR (X.suite a ((a, oe) :: pn)) (.builtin "isinstance") (rIsX X.K (.ref C) a d) := by
  intro pins s σ H xs us Q I r h
  obtain ⟨c, cv, b, rfl, hcv, e, hd, q⟩ := h
  cases r with
  | cons rx rr =>
    cases rr with
    | cons rt rr =>
      cases rr
      cases rx
      have ec := hcv _ rt
      subst ec
      obtain ⟨hget, _⟩ := I.pin (a, oe) (List.mem_append.mpr (.inl List.mem_cons_self))
      obtain ⟨vs, hv⟩ := hf
      have fin : ∀ {od : Option Obj}, PySem.W.InstAt s.heap a oe C od → wpAny (model X.prog X.w) (X.A.mark (some (.ref a))) (call (.builtin "isinstance") [.ref a, _]) (EP (X.suite a ((a, oe) :: pn)) pins σ Q) (fun _ _ => False) s := fun {od} J =>
        PySem.W.kia_one (PySem.W.kitx_exc k.cl k.ga k.gg k.exC k.ha k.hn k.ht k.hm) I.kIn J e (fun z => nomatch z) fun tk => ⟨.bl b, H, I.kept (t' := tk) fun _ _ z => z, rfl, q⟩
      cases d with
      | none => exact fin (od := none) ⟨hget, hz.1, by unfold PySem.W.notCls; rw [hv] <;> rfl, by rw [hz.2.1]; trivial⟩
      | some dd =>
        obtain ⟨fs, hfs⟩ := hd dd rfl
        have hx : ObjOk X.prog X.w H s.heap dd (.xd fs) := I.hok dd _ hfs
        obtain ⟨mA, hns, _⟩ := hx
        obtain ⟨od, ho, _⟩ := lookIn_ns hns
        exact fin (od := some od) ⟨hget, hz.1, by unfold PySem.W.notCls; rw [hv] <;> rfl, by rw [hz.2.1]; exact ho⟩
section
variable {X : Cx} {c : Ct} {a : Addr} {oe : Obj} {cls : Value} {d : Option Addr} {pn : List (Addr × Obj)} {y : Str} {p p2 pos : Pos} {f : String}
theorem de_xarg (i : Nat) (all : List String) (f : String) (hz : L2N.Zn cls d oe) (hf : ∃ vs, oe.data = .fields vs) (hx : c.xe = some (a, cls, d)) (hk : ∀ x C, all.contains x = true → X.mg (Str.ofString x) = some (.ref C) → XCls X.K C ∧ PySem.W.findIn X.K (.ref C) (Str.ofString f) = some none) [o : Ok (X.suite a ((a, oe) :: pn)) c]
    (hN : X.N[i]? = some y := by rfl) (hv : Vis X.env.scope y := by first | exact Or.inl rfl | exact Or.inr (Or.inl rfl) | exact Or.inr (Or.inr rfl)) (hd : (y == ("__debug__" : Str)) = false := by decide) (hcd : (y == ("__classdict__" : Str)) = false := by decide)
    (hb : attributeBase (.Name y p) (Str.ofString f) X.env (eval (.Name y p) X.env) = eval (.Name y p) X.env := by rfl) : PE (X.suite a ((a, oe) :: pn)) (.Attribute (.Name y p) (Str.ofString f) pos) (tE c (mXArg i all f)) := by
  refine ⟨fun pins s σ H Q I ⟨G, s1, Q0, R, hm, hQ⟩ => ?_⟩
  unfold mXArg at hm
  split at hm
  · rename_i e he
    obtain ⟨ha, x, hx2, q⟩ := hm
    have sl := R.sl i
    rw [he] at sl
    obtain ⟨a', cls', d', e1, e2, C, e3, e4, e5⟩ := sl
    rw [hx] at e1
    cases e1
    rw [hx2] at e5
    obtain ⟨dd, v, e6, e7, e8⟩ := e5
    have e3' : X.mg (Str.ofString e.cls) = some (.ref C) := by
      have := o.mg
      rw [← this] at e3
      exact e3
    obtain ⟨k1, k2⟩ := hk _ _ ha e3'
    have run := (pe_xf (X := X) (a := a) (oe := oe) (cls := cls) (d := d) (pn := pn) (te := tVar i) (pos := pos) (n := Str.ofString f) (C := C) ⟨k1.ga, k1.gg, k1.exC, k1.hdC⟩ k2 hz.zc hf (pe_var hN hv hd hcd) hb).run pins s σ H Q I
    exact run ⟨_, e2, rfl, e4, dd, _, v, e6, R.gH _ _ e7, by simp [List.lookup], hQ _ _ _ _ _ q R (Same.refl _) Keep.refl e8⟩
  · exact hm.elim
theorem de_xis (i : Nat) (all yes : List String) {D : Addr} {z : Str} (hz : L2N.Zn cls d oe) (hf : ∃ vs, oe.data = .fields vs) (hx : c.xe = some (a, cls, d)) (hD : X.mg z = some (.ref D)) (hk : ∀ x C, all.contains x = true → X.mg (Str.ofString x) = some (.ref C) → XCls X.K C ∧ PySem.W.kitOne X.K (.ref C) (.ref D) = some (yes.contains x)) [o : Ok (X.suite a ((a, oe) :: pn)) c]
    (hg : Gl X "isinstance" := by rfl) (hgz : Gl X z := by rfl) (hdz : (z == ("__debug__" : Str)) = false := by decide) {p3 : Pos} (hN : X.N[i]? = some y := by rfl) (hv : Vis X.env.scope y := by first | exact Or.inl rfl | exact Or.inr (Or.inl rfl) | exact Or.inr (Or.inr rfl)) (hd : (y == ("__debug__" : Str)) = false := by decide) (hcd : (y == ("__classdict__" : Str)) = false := by decide)
    (he : starEach [Expr.Name y p3, .Name z p2] X.env = (false, eval (.Name y p3) X.env) :: starEach [.Name z p2] X.env := by rfl) (he2 : starEach [Expr.Name z p2] X.env = (false, eval (.Name z p2) X.env) :: starEach [] X.env := by rfl) (hpl : (backTo pos (starEach [Expr.Name z p2] X.env)).any (·.1) = false := by rfl) :
    PE (X.suite a ((a, oe) :: pn)) (.Call (.Name "isinstance" p) [.Name y p3, .Name z p2] [] pos) (tE c (mXIs i all yes)) := by
  refine ⟨fun pins s σ H Q I ⟨G, s1, Q0, R, hm, hQ⟩ => ?_⟩
  unfold mXIs at hm
  split at hm
  · rename_i e ee
    obtain ⟨ha, q⟩ := hm
    have sl := R.sl i
    rw [ee] at sl
    obtain ⟨a', cls', d', e1, e2, C, e3, e4, e5⟩ := sl
    rw [hx] at e1
    cases e1
    have e3' : X.mg (Str.ofString e.cls) = some (.ref C) := by
      have := o.mg
      rw [← this] at e3
      exact e3
    obtain ⟨k1, k2⟩ := hk _ _ ha e3'
    subst e4
    have run := (pe_callB (X := X.suite a ((a, oe) :: pn)) (x := "isinstance") (p := p) (pos := pos) (call_isX k1 hz hf) hg (o.blt _ (by decide +kernel)) (by decide +kernel) (pa_cons (pe_var (i := i) (pos := p3) hN hv hd hcd) (pa_cons (pe_glob (v := .ref D) (pos := p2) hgz hD rfl hdz) pa_nil he2) he) (by decide +kernel) (by decide +kernel) he hpl).run pins s σ H Q I
    refine run ⟨_, e2, .ref D, .ref D, _, rfl, fun u r => r, k2, fun dd z => ?_, hQ _ _ _ _ _ q R (Same.refl _) Keep.refl (.bl _)⟩
    cases q2 : e.arg with
    | none =>
      rw [q2] at e5
      rw [e5] at z
      cases z
    | some p =>
      obtain ⟨f, x⟩ := p
      rw [q2] at e5
      obtain ⟨d2, v, e6, e7, _⟩ := e5
      rw [z] at e6
      cases e6
      exact ⟨_, R.gH _ _ e7⟩
  · exact hm.elim
end
/-! ### defs that may raise -/
structure FKX (P : Program) (w : World) (K : PySem.W.Frag) (mg : Str → Option Value) (base : Heap) (x : Str) (k : Nat) (sp : Sp) : Prop where
  ex : ∃ (f : Addr) (fd : FuncData) (ps : List Str), FnOk P w K mg base (L2N.CX P w) k f fd ps sp ∧ mg x = some (.ref f) ∧ PySem.W.keepIn K (.ref f) = true ∧ Binds K fd ps []
/-- defs that are called while an error is held -/
structure FKH (P : Program) (w : World) (K : PySem.W.Frag) (mg : Str → Option Value) (base : Heap) (x : Str) (k : Nat) (sp : Sp) : Prop where
  ex : ∃ (f : Addr) (fd : FuncData) (ps : List Str), L2H.FnH P w K mg base CX0 k f fd ps sp ∧ mg x = some (.ref f) ∧ PySem.W.keepIn K (.ref f) = true ∧ Binds K fd ps []
/-- the context of a body that may raise -/
abbrev bodyCxX (P : Program) (w : World) (K : PySem.W.Frag) (mg : Str → Option Value) (base : Heap) (N : List Str) (qual : Str) (scope : Scope) (f : Addr) (cdv : Value) (A : Around) (outer : List PySem.Env) (s : Shared) (H : Hp) (E : XK) : Cx := cxOf (L2N.CX P w) P w K mg base N qual scope f cdv A outer s H E
/-- .. of a body that runs while an error is held -/
abbrev bodyCxH (P : Program) (w : World) (K : PySem.W.Frag) (mg : Str → Option Value) (base : Heap) (N : List Str) (qual : Str) (scope : Scope) (f : Addr) (cdv : Value) (A : Around) (outer : List PySem.Env) (s : Shared) (H : Hp) (E : XK) (p : Addr × Obj) : Cx := (L2H.cxH CX0 P w K mg base N qual scope f cdv A outer s H E p).nox
section
variable {P : Program} {w : World} {K : PySem.W.Frag} {mg : Str → Option Value} {base hp : Heap}
theorem FK.knX {N : List Str} {qual : Str} {scope : Scope} {f : Addr} {cdv : Value} {A : Around} {outer : List PySem.Env} {s : Shared} {H : Hp} {E : XK} {j k : Nat} {x : Str} {sp : Sp} (F : FK P w K mg base x k sp) (hr : Room j (A.deeper (envOfC qual scope s.heap.objs.size f cdv))) (h : k ≤ j) :
    Kn (bodyCxX P w K mg base N qual scope f cdv A outer s H E) x sp := by
  obtain ⟨f', fd, ps, h1, h2, h3, h4⟩ := F.ex
  exact ⟨⟨k, f', fd, ps, h1, hr.mono h, h2, h3, h4⟩⟩
theorem FKX.knX {N : List Str} {qual : Str} {scope : Scope} {f : Addr} {cdv : Value} {A : Around} {outer : List PySem.Env} {s : Shared} {H : Hp} {E : XK} {j k : Nat} {x : Str} {sp : Sp} (F : FKX P w K mg base x k sp) (hr : Room j (A.deeper (envOfC qual scope s.heap.objs.size f cdv))) (h : k ≤ j) :
    KnX (bodyCxX P w K mg base N qual scope f cdv A outer s H E) x sp := by
  obtain ⟨f', fd, ps, h1, h2, h3, h4⟩ := F.ex
  exact ⟨⟨k, f', fd, ps, h1, hr.mono h, h2, h3, h4⟩⟩
theorem FKX.kn {N : List Str} {qual : Str} {scope : Scope} {f : Addr} {cdv : Value} {A : Around} {outer : List PySem.Env} {s : Shared} {H : Hp} {E : XK} {j k : Nat} {x : Str} {sp : Sp} (F : FKX P w K mg base x k sp) (hr : Room j (A.deeper (envOfC qual scope s.heap.objs.size f cdv))) (h : k ≤ j) :
    KnX (bodyCx P w K mg base N qual scope f cdv A outer s H E) x sp := by
  obtain ⟨f', fd, ps, h1, h2, h3, h4⟩ := F.ex
  exact ⟨⟨k, f', fd, ps, h1, hr.mono h, h2, h3, h4⟩⟩
/-- a def that may be called in a suite -/
structure KnH (X : Cx) (x : Str) (sp : Sp) : Prop where
  ex : ∃ (k : Nat) (f : Addr) (fd : FuncData) (ps : List Str), L2H.FnH X.prog X.w X.K X.mg X.base CX0 k f fd ps sp ∧ L2H.RoomH k X.A ∧ X.mg x = some (.ref f) ∧ PySem.W.keepIn X.K (.ref f) = true ∧ Binds X.K fd ps []
theorem FKH.kn {N : List Str} {qual : Str} {scope : Scope} {f : Addr} {cdv : Value} {A : Around} {outer : List PySem.Env} {s : Shared} {H : Hp} {E : XK} {j k : Nat} {x : Str} {sp : Sp} (F : FKH P w K mg base x k sp) (hr : Room j (A.deeper (envOfC qual scope s.heap.objs.size f cdv))) (h : k ≤ j) :
    KnH (bodyCx P w K mg base N qual scope f cdv A outer s H E) x sp := by
  obtain ⟨f', fd, ps, h1, h2, h3, h4⟩ := F.ex
  exact ⟨⟨k, f', fd, ps, h1, L2H.roomH_of (hr.mono h), h2, h3, h4⟩⟩
theorem FKH.knH {N : List Str} {qual : Str} {scope : Scope} {f : Addr} {cdv : Value} {A : Around} {outer : List PySem.Env} {s : Shared} {H : Hp} {E : XK} {q : Addr × Obj} {j k : Nat} {x : Str} {sp : Sp} (F : FKH P w K mg base x k sp) (hr : L2H.RoomH j (A.deeper (envOfC qual scope s.heap.objs.size f cdv))) (h : k ≤ j) :
    KnH (bodyCxH P w K mg base N qual scope f cdv A outer s H E q) x sp := by
  obtain ⟨f', fd, ps, h1, h2, h3, h4⟩ := F.ex
  exact ⟨⟨k, f', fd, ps, h1, hr.mono h, h2, h3, h4⟩⟩
theorem hot_suite {X : Cx} {a : Addr} {oe : Obj} {cls : Value} {d : Option Addr} {pn : List (Addr × Obj)} (hz : L2N.Zn cls d oe) (hf : ∃ vs, oe.data = .fields vs) : L2H.HotC (X.suite a ((a, oe) :: pn)) := by
  obtain ⟨vs, hv⟩ := hf
  exact ⟨(a, oe), ⟨rfl, vs, hv, hz.2.2 vs hv⟩, List.mem_cons_self⟩
section
variable {X : Cx} {c : Ct} {e : Expr} {es : List Expr} {ms : Ms} {pos p : Pos}
theorem de_callHot {x : Str} {g : Sem} [o : Ok X c] (F : KnH X x (spD X.K g)) (hc : L2H.HotC X) (ha : PA X (e :: es) (tAs c ms)) (hg : Gl X x := by rfl) (hdb : (x == ("__debug__" : Str)) = false := by decide)
    (he : starEach (e :: es) X.env = (false, eval e X.env) :: starEach es X.env := by rfl) (hpl : (backTo pos (starEach es X.env)).any (·.1) = false := by rfl) : PE X (.Call (.Name x p) (e :: es) [] pos) (tE c (mCall g ms)) := by
  obtain ⟨k, f, fd, ps, F, hr, hm, hk, hb⟩ := F.ex
  refine pe_imp (L2H.pe_callH (E := fun _ => E0) F hr hc hg hm hk hb (fun σ _ _ _ _ _ _ z => z.elim) ha hdb he hpl) ?_
  rintro σ H Q ⟨G, s, Q0, R, hm, hQ⟩
  refine ⟨G, s, _, R, hm, fun ds s1 vs H1 G1 q R1 S1 K1 dgs => ?_⟩
  refine ⟨G1, ds, s1.w, _, R1.gH, o.K ▸ dgs, q, fun r w' v H' G' q2 h => ?_⟩
  have h' : Ret c.K none G1 H1 G' H' r v := o.K ▸ h
  obtain ⟨R', O'⟩ := R1.called h'
  have k2 : Keep c H1 H' := fun b o e _ => h.kH b o e (by simp)
  exact hQ _ _ _ _ _ q2 R' (S1.trans h.g0) (K1.trans k2) O'
end
theorem ok_bodyX {N : List Str} {qual : Str} {scope : Scope} {f : Addr} {cdv : Value} {A : Around} {outer : List PySem.Env} {s : Shared} {H : Hp} {E : XK} {k : Nat} {c : Ct} (hr : Room k (A.deeper (envOfC qual scope s.heap.objs.size f cdv))) (nd : N.Nodup) (blt : ∀ x ∈ bltNames, mg x = none) (hK : c.K = K) (hM : c.mg = mg) (hX : c.xe = none) :
    Ok (bodyCxX P w K mg base N qual scope f cdv A outer s H E) c := ⟨hK.symm, blt, by have := hr.un; show (A.deeper (envOfC qual scope s.heap.objs.size f cdv)).units + 66 < _; omega, nd, hM.symm, fun _ => hX⟩
theorem ok_bodyH {N : List Str} {qual : Str} {scope : Scope} {f : Addr} {cdv : Value} {A : Around} {outer : List PySem.Env} {s : Shared} {H : Hp} {E : XK} {p : Addr × Obj} {k : Nat} {c : Ct} (hr : L2H.RoomH k (A.deeper (envOfC qual scope s.heap.objs.size f cdv))) (nd : N.Nodup) (blt : ∀ x ∈ bltNames, mg x = none) (hK : c.K = K) (hM : c.mg = mg) (hX : c.xe = none) :
    Ok (bodyCxH P w K mg base N qual scope f cdv A outer s H E p) c := ⟨hK.symm, blt, by have := hr.un; show (A.deeper (envOfC qual scope s.heap.objs.size f cdv)).units + 66 < _; omega, nd, hM.symm, fun _ => hX⟩
theorem fn_okX {x qual : Str} {st : Stmt} {f : Addr} {fd : FuncData} {N ps : List Str} {k : Nat} {body : (Exn → DL.S → Prop) → MS} {spec : SemX} (F : Fun K x qual st f fd) (Sc : FnScope N ps (defScope st)) (len : ∀ ds w Q E, spec ds w Q E → ds.length = ps.length) (blt : ∀ x ∈ bltNames, mg x = none)
    (hbody : ∀ (cdv : Value) (A : Around) (outer : List PySem.Env) (s : Shared) (H : Hp) (E : XK) (c : Ct) (xx : Exn → DL.S → Prop), Room k (A.deeper (envOfC qual (defScope st) s.heap.objs.size f cdv)) → Ok (bodyCxX P w K mg base N qual (defScope st) f cdv A outer s H E) c → XOk c xx (fun cls d _ H => E cls d H) → PSs (bodyCxX P w K mg base N qual (defScope st) f cdv A outer s H E) (defBody st) (tS c (body xx)))
    (vc : ∀ ds w Q E, spec ds w Q E → runX N.length body ds w Q E) : FnOk P w K mg base (L2N.CX P w) (k + 1) f fd ps (spX K mg spec) := by
  obtain ⟨oc, od, kV, doc, pm, an, cdv, ct, osl, rfl, lk, hcd⟩ := F.ex
  refine fn_of lk hcd Sc (fun vs H Q E h => ?_) fun A outer s H vs Q E hr h => ?_
  · obtain ⟨G0, ds, w, Qd, Ed, _, h2, h3, _⟩ := h
    rw [h2.length]
    exact len _ _ _ _ h3
  · obtain ⟨G0, ds, w', Qd, Ed, h1, h2, h3, h4, h5⟩ := h
    have hpl : ps.length ≤ N.length := by have := congrArg List.length Sc.pre; rw [List.length_take] at this; omega
    have hl := len _ _ _ _ h3
    have hl2 := h2.length
    have fin : ∀ {r : DL.R} {s' : DL.S} {v : V} {σ' : St} {H' G' : Hp}, Qd r s'.w → Rel ⟨K, G0, H, none, fun _ => False, mg, none⟩ σ' H' G' s' → RetR ⟨K, G0, H, none, fun _ => False, mg, none⟩ H' G' v r → Q v H' := fun {r s' v σ' H' G'} q R h => by
      refine h4 _ _ _ _ _ q ⟨R.g0, R.gH, R.kH, R.gN, ?_⟩
      cases r with
      | val d => exact h
      | own ds => exact h
      | bor ds => exact h
    refine ⟨_, hbody cdv A outer s H E ⟨K, G0, H, none, fun _ => False, mg, none⟩ (fun e s => Ed e s.w) hr (ok_bodyX hr Sc.nd blt rfl rfl rfl) (fun e s' σ' H' G' cls d q R ex => ?_), G0, _, _, rel_start (w := w') h1 h2 (by omega), vc _ _ _ _ h3, ?_⟩
    · exact h5 _ _ _ _ _ _ q ⟨R.g0, R.gH, fun b o e => R.kH b o e (by simp), R.gN, ex⟩
    · exact ⟨fun s' σ' H' G' q R S => fin q R .non, fun s' σ' H' G' q R S => q.elim, fun s' σ' H' G' q R S => q.elim, fun r s' v σ' H' G' q R S h => fin q R h⟩
theorem fn_okH {x qual : Str} {st : Stmt} {f : Addr} {fd : FuncData} {N ps : List Str} {k : Nat} {body : MS} {spec : DL.Sem} (F : Fun K x qual st f fd) (Sc : FnScope N ps (defScope st)) (len : ∀ ds w Q, spec ds w Q → ds.length = ps.length) (blt : ∀ x ∈ bltNames, mg x = none)
    (hbody : ∀ (cdv : Value) (A : Around) (outer : List PySem.Env) (s : Shared) (H : Hp) (E : XK) (p : Addr × Obj) (c : Ct), L2H.RoomH k (A.deeper (envOfC qual (defScope st) s.heap.objs.size f cdv)) → Ok (bodyCxH P w K mg base N qual (defScope st) f cdv A outer s H E p) c → PSs (bodyCxH P w K mg base N qual (defScope st) f cdv A outer s H E p) (defBody st) (tS c body))
    (vc : ∀ ds w Q, spec ds w Q → run N.length body ds w Q) : L2H.FnH P w K mg base CX0 (k + 1) f fd ps (spD K spec) := by
  obtain ⟨oc, od, kV, doc, pm, an, cdv, ct, osl, rfl, lk, hcd⟩ := F.ex
  refine L2H.fn_ofH lk hcd Sc (fun vs H Q E h => ?_) fun A outer s H vs Q E p hot hr h => ?_
  · obtain ⟨G0, ds, w, Qd, _, h2, h3, _⟩ := h
    rw [h2.length]
    exact len _ _ _ h3
  · obtain ⟨G0, ds, w', Qd, h1, h2, h3, h4⟩ := h
    have hpl : ps.length ≤ N.length := by have := congrArg List.length Sc.pre; rw [List.length_take] at this; omega
    have hl := len _ _ _ h3
    have hl2 := h2.length
    have fin : ∀ {r : DL.R} {s' : DL.S} {v : V} {σ' : St} {H' G' : Hp}, Qd r s'.w → Rel ⟨K, G0, H, none, fun _ => False, mg, none⟩ σ' H' G' s' → RetR ⟨K, G0, H, none, fun _ => False, mg, none⟩ H' G' v r → Q v H' := fun {r s' v σ' H' G'} q R h => by
      refine h4 _ _ _ _ _ q ⟨R.g0, R.gH, R.kH, R.gN, ?_⟩
      cases r with
      | val d => exact h
      | own ds => exact h
      | bor ds => exact h
    refine ⟨_, (hbody cdv A outer s H E p ⟨K, G0, H, none, fun _ => False, mg, none⟩ hr (ok_bodyH hr Sc.nd blt rfl rfl rfl)).nox, G0, _, _, rel_start (w := w') h1 h2 (by omega), vc _ _ _ h3, ?_⟩
    exact ⟨fun s' σ' H' G' q R S => fin q R .non, fun s' σ' H' G' q R S => q.elim, fun s' σ' H' G' q R S => q.elim, fun r s' v σ' H' G' q R S h => fin q R h⟩
theorem FnAt.fkX {x : Str} {st : Stmt} {ps : List Str} {sp : Sp} {k : Nat} (h : FnAt K x st) (X : K.In hp) (G : hp.Ns mainGlobals mg) (hb : ∀ f fd, Fun K x x st f fd → FnOk P w K mg base (L2N.CX P w) k f fd ps sp)
    (bind : ∀ (kV doc pm : Value) (an : Option Addr) (cdv ct : Value) (us : List Value), us.length = ps.length → bindArgs (PySem.W.fnOf x x (defArgs st) (defBody st) (defScope st) .none kV doc pm an cdv ct) ⟨us, []⟩ = pure (ps.zip us)) : FKX P w K mg base x k sp := by
  obtain ⟨f, fd, a, F⟩ := h.ex
  exact ⟨f, fd, ps, hb f fd F, PySem.W.mg_of X G a, F.kp, F.binds bind⟩
theorem FnAt.fkH {x : Str} {st : Stmt} {ps : List Str} {sp : Sp} {k : Nat} (h : FnAt K x st) (X : K.In hp) (G : hp.Ns mainGlobals mg) (hb : ∀ f fd, Fun K x x st f fd → L2H.FnH P w K mg base CX0 k f fd ps sp)
    (bind : ∀ (kV doc pm : Value) (an : Option Addr) (cdv ct : Value) (us : List Value), us.length = ps.length → bindArgs (PySem.W.fnOf x x (defArgs st) (defBody st) (defScope st) .none kV doc pm an cdv ct) ⟨us, []⟩ = pure (ps.zip us)) : FKH P w K mg base x k sp := by
  obtain ⟨f, fd, a, F⟩ := h.ex
  exact ⟨f, fd, ps, hb f fd F, PySem.W.mg_of X G a, F.kp, F.binds bind⟩
end
end DL

/-! DLX4: errors: how they are made. -/
namespace DL
open PySem PySem.Spec PyProof.Rows L2
/-- C() -/
theorem pmk0 {X : Cx} {C : Addr} {bmB : List Value} {newId initId : String} {B : String} {x : Str} {p pos : Pos} (F : ExcBaseFacts B newId initId bmB) (q : PySem.W.excIn X.K C bmB newId = true) (gC : X.mg x = some (.ref C)) (kC : PySem.W.keepIn X.K (.ref C) = true) (r : Raises X (.ref C)) (hg : Gl X x := by rfl)
    (hdb : (x == ("__debug__" : Str)) = false := by decide) : L2N.PMk X (.Call (.Name x p) [] [] pos) (fun _ H Q => Q (.ref C) none H) := by
  intro pins s σ H Q I h
  refine wpAny_Call_Name_kw (ld_glob I hg gC ?_ hdb)
  refine PySem.W.callWith_K0 I.kIn kC ?_
  obtain ⟨bm, N, nm, qn, bs, hdct, sn, sub, ab, col, dd, k0, k1, k2, k3, k5, mN, hC, hN, hni, T⟩ := exc_obj I.kIn q
  exact wpAny_call_exc_subT F T hC hN hni (fun h' e hm => L2N.mk_of I hm r h (I.hok.gone hm.new)) (by show 0 ≤ sizeLine; exact Nat.zero_le _)
/-- what the written part says of a class without a field -/
structure XNo (K : PySem.W.Frag) (C : Addr) : Prop where
  x : PySem.W.excIn K C [.type "ValueError", .type "Exception", .type "BaseException", .type "object"] "ValueError.__new__" = true
  k : PySem.W.keepIn K (.ref C) = true
theorem XNo.mk0 {X : Cx} {C : Addr} {x : Str} {p pos : Pos} (h : XNo X.K C) (k : XCls X.K C) (gC : X.mg x = some (.ref C)) (hg : Gl X x := by rfl) (hdb : (x == ("__debug__" : Str)) = false := by decide) : L2N.PMk X (.Call (.Name x p) [] [] pos) (fun _ H Q => Q (.ref C) none H) :=
  pmk0 PySem.F.excBase_ValueError h.x gC h.k (raises_own k.exC k.ty) hg hdb
end DL
namespace DL
open PySem PySem.Spec PyProof.Rows L2
theorem KnH.suite {X : Cx} {x : Str} {sp : Sp} (h : KnH X x sp) {a : Addr} {pn : List (Addr × Obj)} : KnH (X.suite a pn) x sp := by
  obtain ⟨k, f, fd, ps, h1, h2, h3, h4, h5⟩ := h.ex
  exact ⟨⟨k, f, fd, ps, h1, ⟨h2.dp, h2.un⟩, h3, h4, h5⟩⟩
/-- a class of the module -/
structure XAt (K : PySem.W.Frag) (x : Str) (C : Addr) : Prop where
  a : PySem.W.nsIn K mainGlobals x = some (some (.ref C))
  k : XCls K C
theorem XAt.mk' {K : PySem.W.Frag} {x : Str} {C : Addr} (a : PySem.W.nsIn K mainGlobals x = some (some (.ref C))) (cl : PySem.W.isClsIn K C = true) (ga : PySem.W.findIn K (.ref C) "__getattribute__" = some (some (.builtin "BaseException.__getattribute__")))
    (gg : PySem.W.findIn K (.ref C) "__getattr__" = some none) (ex : PySem.W.subIn K (.ref C) (.type "BaseException") = some true) (hd : PySem.W.hasDictIn K C = true) (ty : PySem.W.typeIn K (.ref C) = some (.type "type"))
    (ha : PySem.W.findIn K (.ref C) "__class__" = some (some (.builtin "object.__class__"))) (hn : PySem.W.specialIn K (.builtin "object.__class__") "__get__" = some (some (.builtin "getset_descriptor.__get__"))) (ht : PySem.W.takesIn K (.builtin "object.__class__") = some true)
    (hm : PySem.W.mroIn K C (.type "object") = some true) : ∃ C, XAt K x C := ⟨C, a, cl, ga, gg, ex, hd, ty, ha, hn, ht, hm⟩
theorem XNo.mk' {K : PySem.W.Frag} {x : Str} {C : Addr} (a : PySem.W.nsIn K mainGlobals x = some (some (.ref C))) (q : PySem.W.excIn K C [.type "ValueError", .type "Exception", .type "BaseException", .type "object"] "ValueError.__new__" = true) (k : PySem.W.keepIn K (.ref C) = true) :
    ∃ C, PySem.W.nsIn K mainGlobals x = some (some (.ref C)) ∧ XNo K C := ⟨C, a, q, k⟩
/-- one class is a subclass of another -/
def XSub (K : PySem.W.Frag) (x y : Str) (b : Bool) : Prop := ∃ C D, PySem.W.nsIn K mainGlobals x = some (some (.ref C)) ∧ PySem.W.nsIn K mainGlobals y = some (some (.ref D)) ∧ PySem.W.subIn K (.ref C) (.ref D) = some b
theorem XSub.mk' {K : PySem.W.Frag} {x y : Str} {b : Bool} {C D : Addr} (a : PySem.W.nsIn K mainGlobals x = some (some (.ref C))) (d : PySem.W.nsIn K mainGlobals y = some (some (.ref D))) (s : PySem.W.subIn K (.ref C) (.ref D) = some b) : XSub K x y b := ⟨C, D, a, d, s⟩
theorem XSub.at {K : PySem.W.Frag} {x y : Str} {b : Bool} {C D : Addr} (h : XSub K x y b) (a : PySem.W.nsIn K mainGlobals x = some (some (.ref C))) (d : PySem.W.nsIn K mainGlobals y = some (some (.ref D))) : PySem.W.subIn K (.ref C) (.ref D) = some b := by
  obtain ⟨C', D', h1, h2, h3⟩ := h
  rw [a] at h1
  rw [d] at h2
  cases h1
  cases h2
  exact h3
/-- .. has nothing of the field's name -/
def XFld (K : PySem.W.Frag) (x : Str) (f : Str) : Prop := ∃ C, PySem.W.nsIn K mainGlobals x = some (some (.ref C)) ∧ PySem.W.findIn K (.ref C) f = some none
theorem XFld.mk' {K : PySem.W.Frag} {x f : Str} {C : Addr} (a : PySem.W.nsIn K mainGlobals x = some (some (.ref C))) (s : PySem.W.findIn K (.ref C) f = some none) : XFld K x f := ⟨C, a, s⟩
theorem XFld.at {K : PySem.W.Frag} {x f : Str} {C : Addr} (h : XFld K x f) (a : PySem.W.nsIn K mainGlobals x = some (some (.ref C))) : PySem.W.findIn K (.ref C) f = some none := by
  obtain ⟨C', h1, h2⟩ := h
  rw [a] at h1
  cases h1
  exact h2
theorem cls_same {K : PySem.W.Frag} {x : Str} {C D : Addr} (a : PySem.W.nsIn K mainGlobals x = some (some (.ref C))) (d : PySem.W.nsIn K mainGlobals x = some (some (.ref D))) : C = D := by
  rw [a] at d
  cases d
  rfl
end DL

/-! DLMath: plain facts about the meanings. -/
namespace DL
theorem atI_map {α β : Type} (f : α → β) (xs : List α) (i : Int) : atI (xs.map f) i = (atI xs i).map f := by
  unfold atI
  rw [List.length_map]
  cases ixN xs.length i <;> simp
theorem ex_map {α β : Type} {f : α → β} {o : Option α} {P : β → Prop} : (∃ d, o.map f = some d ∧ P d) ↔ ∃ x, o = some x ∧ P (f x) := by
  constructor
  · rintro ⟨d, h, p⟩
    cases o with
    | none => cases h
    | some x => cases h; exact ⟨x, rfl, p⟩
  · rintro ⟨x, rfl, p⟩
    exact ⟨_, rfl, p⟩
theorem ex_some {α : Type} {a : α} {P : α → Prop} : (∃ d, some a = some d ∧ P d) ↔ P a := ⟨fun ⟨_, e, p⟩ => by cases e; exact p, fun p => ⟨a, rfl, p⟩⟩
theorem ex_arg {f : String} {x : D} {P : D → Prop} : (∃ d, (some (f, x) : Option (String × D)) = some (f, d) ∧ P d) = P x := propext ⟨fun ⟨_, e, p⟩ => by cases e; exact p, fun p => ⟨x, rfl, p⟩⟩
theorem ex_valB {x : D} {P : D → Prop} : (∃ d, R.val x = R.val d ∧ flatD d = true ∧ P d) = (flatD x = true ∧ P x) := propext ⟨fun ⟨_, e, p⟩ => by cases e; exact p, fun p => ⟨x, rfl, p⟩⟩
theorem atI_of {α : Type} {xs : List α} {i : Int} (h0 : 0 ≤ i) (h1 : i < xs.length) : atI xs i = some (xs[i.toNat]'(by omega)) := by
  unfold atI ixN
  rw [if_pos h0, if_pos h1]
  simp
theorem atI_at {α : Type} {xs : List α} {i : Int} {a : α} (h0 : 0 ≤ i) (h : xs[i.toNat]? = some a) : atI xs i = some a := by
  have hl : i.toNat < xs.length := (List.getElem?_eq_some_iff.mp h).1
  unfold atI ixN
  rw [if_pos h0, if_pos (by omega)]
  exact h
theorem eqD_none_none : eqD D.none D.none = true := by simp only [eqD]
theorem eqD_none_bool (b : Bool) : eqD D.none (D.bool b) = false := by simp only [eqD]
theorem eqD_none_int (b : Int) : eqD D.none (D.int b) = false := by simp only [eqD]
theorem eqD_none_str (b : List Nat) : eqD D.none (D.str b) = false := by simp only [eqD]
theorem eqD_none_list (b : List D) : eqD D.none (D.list b) = false := by simp only [eqD]
theorem eqD_none_tup (b : List D) : eqD D.none (D.tup b) = false := by simp only [eqD]
theorem eqD_bool_none (a : Bool) : eqD (D.bool a) D.none = false := by simp only [eqD]
theorem eqD_bool_bool (a : Bool) (b : Bool) : eqD (D.bool a) (D.bool b) = (a == b) := by simp only [eqD]
theorem eqD_bool_int (a : Bool) (b : Int) : eqD (D.bool a) (D.int b) = ((if a then (1 : Int) else 0) == b) := by simp only [eqD]
theorem eqD_bool_str (a : Bool) (b : List Nat) : eqD (D.bool a) (D.str b) = false := by simp only [eqD]
theorem eqD_bool_list (a : Bool) (b : List D) : eqD (D.bool a) (D.list b) = false := by simp only [eqD]
theorem eqD_bool_tup (a : Bool) (b : List D) : eqD (D.bool a) (D.tup b) = false := by simp only [eqD]
theorem eqD_int_none (a : Int) : eqD (D.int a) D.none = false := by simp only [eqD]
theorem eqD_int_bool (a : Int) (b : Bool) : eqD (D.int a) (D.bool b) = (a == (if b then (1 : Int) else 0)) := by simp only [eqD]
theorem eqD_int_int (a : Int) (b : Int) : eqD (D.int a) (D.int b) = (a == b) := by simp only [eqD]
theorem eqD_int_str (a : Int) (b : List Nat) : eqD (D.int a) (D.str b) = false := by simp only [eqD]
theorem eqD_int_list (a : Int) (b : List D) : eqD (D.int a) (D.list b) = false := by simp only [eqD]
theorem eqD_int_tup (a : Int) (b : List D) : eqD (D.int a) (D.tup b) = false := by simp only [eqD]
theorem eqD_str_none (a : List Nat) : eqD (D.str a) D.none = false := by simp only [eqD]
theorem eqD_str_bool (a : List Nat) (b : Bool) : eqD (D.str a) (D.bool b) = false := by simp only [eqD]
theorem eqD_str_int (a : List Nat) (b : Int) : eqD (D.str a) (D.int b) = false := by simp only [eqD]
theorem eqD_str_str (a : List Nat) (b : List Nat) : eqD (D.str a) (D.str b) = (a == b) := by simp only [eqD]
theorem eqD_str_list (a : List Nat) (b : List D) : eqD (D.str a) (D.list b) = false := by simp only [eqD]
theorem eqD_str_tup (a : List Nat) (b : List D) : eqD (D.str a) (D.tup b) = false := by simp only [eqD]
theorem eqD_list_none (a : List D) : eqD (D.list a) D.none = false := by simp only [eqD]
theorem eqD_list_bool (a : List D) (b : Bool) : eqD (D.list a) (D.bool b) = false := by simp only [eqD]
theorem eqD_list_int (a : List D) (b : Int) : eqD (D.list a) (D.int b) = false := by simp only [eqD]
theorem eqD_list_str (a : List D) (b : List Nat) : eqD (D.list a) (D.str b) = false := by simp only [eqD]
theorem eqD_list_list (a : List D) (b : List D) : eqD (D.list a) (D.list b) = eqDs a b := by simp only [eqD]
theorem eqD_list_tup (a : List D) (b : List D) : eqD (D.list a) (D.tup b) = false := by simp only [eqD]
theorem eqD_tup_none (a : List D) : eqD (D.tup a) D.none = false := by simp only [eqD]
theorem eqD_tup_bool (a : List D) (b : Bool) : eqD (D.tup a) (D.bool b) = false := by simp only [eqD]
theorem eqD_tup_int (a : List D) (b : Int) : eqD (D.tup a) (D.int b) = false := by simp only [eqD]
theorem eqD_tup_str (a : List D) (b : List Nat) : eqD (D.tup a) (D.str b) = false := by simp only [eqD]
theorem eqD_tup_list (a : List D) (b : List D) : eqD (D.tup a) (D.list b) = false := by simp only [eqD]
theorem eqD_tup_tup (a : List D) (b : List D) : eqD (D.tup a) (D.tup b) = eqDs a b := by simp only [eqD]
theorem eqDs_nn : eqDs [] [] = true := by simp only [eqDs]
theorem eqDs_cc (x y : D) (a b : List D) : eqDs (x :: a) (y :: b) = (eqD x y && eqDs a b) := by simp only [eqDs]
theorem eqDs_nc (y : D) (b : List D) : eqDs [] (y :: b) = false := by simp only [eqDs]
theorem eqDs_cn (x : D) (a : List D) : eqDs (x :: a) [] = false := by simp only [eqDs]
theorem beq_int (a b : Int) : (a == b) = decide (a = b) := rfl
end DL
namespace DL
theorem lg_lt {n k : Nat} (h : n < 2 ^ k) (hk : 0 < k) : n.log2 < k := by
  by_cases h0 : n = 0
  · subst h0
    simpa using hk
  · exact (Nat.log2_lt h0).mpr h
theorem lg62 {i : Int} (h1 : -4611686018427387904 < i) (h2 : i < 4611686018427387904) : i.natAbs.log2 < 62 := lg_lt (by omega) (by decide)
theorem mul62 {i j : Int} (h1 : -4611686018427387904 < i) (h2 : i < 4611686018427387904) (h3 : -4611686018427387904 < j) (h4 : j < 4611686018427387904) : i.natAbs.log2 + j.natAbs.log2 < 1000000 := by
  have := lg62 h1 h2
  have := lg62 h3 h4
  omega
theorem div62 {j : Int} (h3 : -4611686018427387904 < j) (h4 : j < 4611686018427387904) : j.natAbs.log2 < 9000 := by
  have := lg62 h3 h4
  omega
theorem lg_pow {i : Int} {k : Nat} (h : i.natAbs < 2 ^ k) (hk : 0 < k) : i.natAbs.log2 < k := lg_lt h hk
theorem mul_pow {i j : Int} {a b : Nat} (h : i.natAbs < 2 ^ a) (ha : 0 < a) (h' : j.natAbs < 2 ^ b) (hb : 0 < b) (hab : a + b ≤ 1000000) : i.natAbs.log2 + j.natAbs.log2 < 1000000 := by
  have := lg_lt h ha
  have := lg_lt h' hb
  omega
/-! ### the feed -/
structure Wok (w : W) : Prop where
  len : w.sc.length ≤ 63
  i0 : 0 ≤ w.ix
  i1 : w.ix ≤ w.sc.length
  b0 : 0 ≤ w.big
  s0 : 0 ≤ w.seed
  s1 : w.seed < 2147483648
theorem Wok.start {ns : List Int} (h : ns.length ≤ 63) : Wok ⟨ns, 0, 0, 1⟩ := ⟨h, Int.le_refl 0, by show (0 : Int) ≤ (ns.length : Int); omega, Int.le_refl 0, (by decide : (0 : Int) ≤ 1), (by decide : (1 : Int) < 2147483648)⟩
end DL

/-! DLLoop: loops, by an invariant. -/
namespace DL
theorem forL_ix {g : Gt} {body : MS} {O : Outs} : ∀ (ds : List D) (I : Nat → S → Prop), (∀ k d s, ds[k]? = some d → I k s → ∀ K : S → Prop, (∀ s', I (k + 1) s' → K s') → g d s fun s1 => body s1 { nx := K, ct := K, bk := O.nx, rt := O.rt }) → (∀ s, I ds.length s → O.nx s) → ∀ s, I 0 s → forL g body ds s O
  | [], I, _, he, s, h => he s h
  | d :: r, I, hb, he, s, h => by
    refine hb 0 d s rfl h (fun s2 => forL g body r s2 O) fun s2 h2 => ?_
    exact forL_ix r (fun k => I (k + 1)) (fun k d s e h K q => hb (k + 1) d s e h K q) he s2 h2
theorem ran_get {lo : Int} {n k : Nat} {d : D} (h : (ran lo n)[k]? = some d) : k < n ∧ d = .int (lo + k) := by
  unfold ran at h
  rw [List.getElem?_map] at h
  cases e : (List.range n)[k]? with
  | none => rw [e] at h; cases h
  | some m =>
    rw [e] at h
    have hk : k < n := by simpa using (List.getElem?_eq_some_iff.mp e).1
    have : m = k := by
      have := (List.getElem?_eq_some_iff.mp e).2
      simpa using this.symm
    subst this
    cases h
    exact ⟨hk, rfl⟩
theorem ran_len (lo : Int) (n : Nat) : (ran lo n).length = n := by simp [ran]
theorem forL_ran {g : Gt} {body : MS} {O : Outs} {lo : Int} {n : Nat} (I : Nat → S → Prop) (s : S) (h0 : I 0 s) (h : ∀ k s, k < n → I k s → ∀ K : S → Prop, (∀ s', I (k + 1) s' → K s') → g (.int (lo + k)) s fun s1 => body s1 { nx := K, ct := K, bk := O.nx, rt := O.rt }) (he : ∀ s, I n s → O.nx s) : forL g body (ran lo n) s O := by
  refine forL_ix (ran lo n) I (fun k d s e hI K q => ?_) (fun s hI => he s (by rwa [ran_len] at hI)) s h0
  obtain ⟨hk, rfl⟩ := ran_get e
  exact h k s hk hI K q
theorem compL_ix {own : List Nat} {g : Gt} {t : T} {e : M} {Q : List D → S → Prop} : ∀ (ds : List D) (acc : List D) (s : S) (I : Nat → List D → S → Prop), I 0 acc s →
    (∀ k d acc s, ds[k]? = some d → I k acc s → ∀ K : List D → S → Prop, (∀ acc' s', I (k + 1) acc' s' → K acc' s') → g d { s with v := puts s.v own .gone } fun s1 => t s1 fun c s2 =>
      if c = true then e s2 fun x s3 => frz x fun y => acc.length < LINE ∧ K (acc ++ [y]) s3 else K acc s2) → (∀ acc s, I ds.length acc s → Q acc s) → compL own g t e ds acc s Q
  | [], acc, s, I, h, _, he => he acc s h
  | d :: r, acc, s, I, h, hb, he => hb 0 d acc s rfl h (fun acc2 s2 => compL own g t e r acc2 s2 Q) fun acc2 s2 h2 => compL_ix r acc2 s2 (fun k => I (k + 1)) h2 (fun k d acc s e h K q => hb (k + 1) d acc s e h K q) he
/-- a comprehension without a condition: a map -/
theorem compL_f {own : List Nat} {g : Gt} {e : M} {Q : List D → S → Prop} {s : S} (ds : List D) (f : D → D) (J : S → Prop) (hJ : J s) (hl : ds.length ≤ LINE)
    (h : ∀ d s, d ∈ ds → J s → ∀ (C : Prop) (K : D → S → Prop), C → (∀ s', J s' → K (f d) s') → g d { s with v := puts s.v own .gone } fun s1 => e s1 fun x s3 => frz x fun y => C ∧ K y s3) (he : ∀ s', J s' → Q (ds.map f) s') : compL own g tYes e ds [] s Q := by
  refine compL_ix ds [] s (fun k acc s => acc = (ds.take k).map f ∧ J s) ⟨by simp, hJ⟩ ?_ ?_
  · rintro k d acc s hd ⟨rfl, hj⟩ K hK
    have hk : k < ds.length := (List.getElem?_eq_some_iff.mp hd).1
    have hde := (List.getElem?_eq_some_iff.mp hd).2
    refine h d s (List.mem_of_getElem? hd) hj (((ds.take k).map f).length < LINE) (fun y s3 => K ((ds.take k).map f ++ [y]) s3) (by simp only [List.length_map, List.length_take]; omega) fun s' hj' => hK _ _ ⟨?_, hj'⟩
    rw [← hde, List.take_succ_eq_append_getElem hk, List.map_append]
    rfl
  · rintro acc s' ⟨rfl, hj⟩
    rw [List.take_length]
    exact he s' hj
theorem cut_from {α : Type} (xs : List α) (p : Nat) : cut xs (some (p : Int)) none = xs.drop p := by
  unfold cut sIx
  simp only [if_neg (show ¬ ((p : Int) < 0) by omega), Int.toNat_natCast]
  rw [List.take_of_length_le (by rw [List.length_drop]; omega)]
  rcases Nat.le_total p xs.length with h | h
  · rw [Nat.min_eq_left h]
  · rw [Nat.min_eq_right h, List.drop_length, List.drop_of_length_le h]
theorem cut_to {α : Type} (xs : List α) (p : Nat) : cut xs none (some (p : Int)) = xs.take p := by
  unfold cut sIx
  simp only [if_neg (show ¬ ((p : Int) < 0) by omega), Int.toNat_natCast, List.drop_zero, Nat.sub_zero]
  rcases Nat.le_total p xs.length with h | h
  · rw [Nat.min_eq_left h]
  · rw [Nat.min_eq_right h, List.take_length, List.take_of_length_le h]
theorem cut_1 {α : Type} (xs : List α) : cut xs (some 1) none = xs.drop 1 := cut_from xs 1
theorem map_eraseIdx {α β : Type} (f : α → β) : ∀ (xs : List α) (i : Nat), (xs.map f).eraseIdx i = (xs.eraseIdx i).map f
  | [], _ => rfl
  | _ :: _, 0 => rfl
  | x :: r, i + 1 => congrArg (f x :: ·) (map_eraseIdx f r i)
theorem pop_perm {α : Type} : ∀ (xs : List α) (i : Nat) (h : i < xs.length), ((xs[i]) :: xs.eraseIdx i).Perm xs
  | _ :: _, 0, _ => .refl _
  | x :: r, i + 1, h => .trans (.swap _ _ _) ((pop_perm r i (Nat.lt_of_succ_lt_succ h)).cons x)
theorem atI_range {n : Nat} {i : Int} (h0 : 0 ≤ i) (h1 : i < n) : atI (List.range n) i = some i.toNat := by
  rw [atI_of h0 (by rw [List.length_range]; exact h1), List.getElem_range]
/-- a cut between two statements -/
theorem seq_cut {a b : MS} {s : S} {O : Outs} (I : S → Prop) (h1 : ∀ K : S → Prop, (∀ s', I s' → K s') → a s { nx := K, rt := O.rt, bk := O.bk, ct := O.ct }) (h2 : ∀ s', I s' → b s' O) : sSeq a b s O := h1 _ h2
/-- a loop whose list is told apart -/
theorem for_cut {src : Src} {g : Gt} {body : MS} {s : S} {O : Outs} (J : List D → S → Prop) (h1 : ∀ K : List D → S → Prop, (∀ ds s', J ds s' → K ds s') → src s K) (h2 : ∀ ds s', J ds s' → forL g body ds s' O) : sFor src g body s O := h1 _ h2
/-- a loop over a range that starts at nought -/
theorem for_r1 {m : M} {g : Gt} {body : MS} {s : S} {O : Outs} (n : Nat) (I : Nat → S → Prop) (s0 : S) (hm : ∀ K : R → S → Prop, K (.val (.int n)) s0 → m s K) (hn : n < 4611686018427387904) (h0 : I 0 s0)
    (h : ∀ k s, k < n → I k s → ∀ K : S → Prop, (∀ s', I (k + 1) s' → K s') → g (.int k) s fun s1 => body s1 { nx := K, ct := K, bk := O.nx, rt := O.rt }) (he : ∀ s, I n s → O.nx s) : sFor (srcR1 m) g body s O := by
  refine hm _ ?_
  show (-(2 ^ 62) ≤ (n : Int) ∧ (n : Int) < 2 ^ 62) ∧ forL g body (ran 0 (n : Int).toNat) s0 O
  rw [Int.toNat_natCast]
  refine ⟨by omega, forL_ran I s0 h0 (fun k s hk hI K hK => ?_) he⟩
  rw [Int.zero_add]
  exact h k s hk hI K hK
/-- a list display whose elements are all of one kind -/
def AllMs (P : D → Prop) (J : S → Prop) (n : Nat) (es : Ms) : Prop := ∀ s, J s → ∀ K : List D → S → Prop, (∀ ds s', ds.length = n → (∀ d, d ∈ ds → P d) → J s' → K ds s') → es s K
theorem allN {P : D → Prop} {J : S → Prop} : AllMs P J 0 msN := fun s hj K hK => hK [] s rfl (fun d hd => absurd hd (List.not_mem_nil)) hj
theorem allC {P : D → Prop} {J : S → Prop} {a : DL.M} {r : Ms} {n : Nat} (ha : ∀ s, J s → ∀ K : R → S → Prop, (∀ d s', P d → J s' → K (.val d) s') → a s K) (hr : AllMs P J n r) : AllMs P J (n + 1) (msC a r) := fun s hj K hK =>
  ha s hj _ fun d s' hp hj' => hr s' hj' _ fun ds s2 hl hds hj2 => hK (d :: ds) s2 (congrArg (· + 1) hl) (fun x hx => by
    rcases List.mem_cons.mp hx with h | h
    · rw [h]; exact hp
    · exact hds x h) hj2
theorem allK {P : D → Prop} {J : S → Prop} {d : D} {r : Ms} {n : Nat} (h : P d) (hr : AllMs P J n r) : AllMs P J (n + 1) (msC (mC d) r) := allC (fun s hj K hK => hK d s h hj) hr
theorem allG {P : D → Prop} {J : S → Prop} {i : Int} {r : Ms} {n : Nat} (h : P (.int (-i))) (hr : AllMs P J n r) : AllMs P J (n + 1) (msC (mUn dNeg (mC (.int i))) r) := allC (fun s hj K hK => hK _ s h hj) hr
theorem for_list {es : Ms} {g : Gt} {body : MS} {s : S} {O : Outs} {n : Nat} {P : D → Prop} {J : S → Prop} (hall : AllMs P J n es) (hn : n ≤ LINE) (hj : J s) (h : ∀ ds s', ds.length = n → (∀ d, d ∈ ds → P d) → J s' → forL g body ds s' O) : sFor (srcV (mList es)) g body s O :=
  hall s hj _ fun ds s' hl hds hj' => ⟨by rw [hl]; exact hn, h ds s' hl hds hj'⟩
/-- x = [..] -/
theorem set_all {es : Ms} {i : Nat} {s : S} {O : Outs} {n : Nat} {P : D → Prop} {J : S → Prop} (hall : AllMs P J n es) (hn : n ≤ LINE) (hj : J s) (h : ∀ ds s', ds.length = n → (∀ d, d ∈ ds → P d) → J s' → O.nx { s' with v := put s'.v i (.own ds) }) : sSet i (mList es) s O :=
  hall s hj _ fun ds s' hl hd hj' => ⟨by omega, h ds s' hl hd hj'⟩
/-- x + [..] -/
theorem cat_all {es : Ms} {j : Nat} {ds0 : List D} {s : S} {Q : R → S → Prop} {n : Nat} {P : D → Prop} {J : S → Prop} (hg : get s.v j = .own ds0) (hall : AllMs P J n es) (hj : J s) (hn : ds0.length + n ≤ LINE) (h : ∀ ds s', ds.length = n → (∀ d, d ∈ ds → P d) → J s' → Q (.own (ds0 ++ ds)) s') : mBin dAdd (mVar j) (mList es) s Q := by
  show mVar j s _
  unfold mVar
  rw [hg]
  refine hall s hj _ fun ds s' hl hd hj' => ⟨by omega, ?_⟩
  show dAdd (.list ds0) (.list ds) _
  exact ⟨by omega, h ds s' hl hd hj'⟩
theorem while_of {c : T} {body : MS} {s : S} {O : Outs} (I : Nat → S → Prop) (m : Nat) (h0 : I m s) (h : ∀ m s, I m s → ∀ K : S → Prop, (∀ m' s', m' < m → I m' s' → K s') → c s fun t s1 => if t = true then body s1 { nx := K, ct := K, bk := O.nx, rt := O.rt } else O.nx s1) : sWhile c body s O :=
  ⟨I, ⟨m, h0⟩, fun m s hI => h m s hI _ fun m' s' a b => ⟨m', a, b⟩⟩
theorem at0 {α : Type} (a : α) (r : List α) : atI (a :: r) 0 = some a := by
  unfold atI ixN
  rw [if_pos (by decide), if_pos (by simp only [List.length_cons]; omega)]
  rfl
theorem at1 {α : Type} (a b : α) (r : List α) : atI (a :: b :: r) 1 = some b := by
  unfold atI ixN
  rw [if_pos (by decide), if_pos (by simp only [List.length_cons]; omega)]
  rfl
theorem at2 {α : Type} (a b c : α) (r : List α) : atI (a :: b :: c :: r) 2 = some c := by
  unfold atI ixN
  rw [if_pos (by decide), if_pos (by simp only [List.length_cons]; omega)]
  rfl
theorem at3 {α : Type} (a b c d : α) (r : List α) : atI (a :: b :: c :: d :: r) 3 = some d := by
  unfold atI ixN
  rw [if_pos (by decide), if_pos (by simp only [List.length_cons]; omega)]
  rfl
theorem at_end {α : Type} (xs : List α) (a : α) : atI (xs ++ [a]) (-1) = some a := by
  unfold atI ixN
  rw [if_neg (by decide), if_pos (by simp only [List.length_append, List.length_cons, List.length_nil]; omega)]
  simp only [Option.bind_some, List.length_append, List.length_cons, List.length_nil]
  rw [show (-1 + ((xs.length + (0 + 1) : Nat) : Int)).toNat = xs.length by omega]
  simp
end DL
namespace DL
theorem mapInt_inj {a b : List Int} : (a.map D.int = b.map D.int) = (a = b) := by
  apply propext
  constructor
  · intro h
    induction a generalizing b with
    | nil => cases b with
      | nil => rfl
      | cons y r => cases h
    | cons x r ih => cases b with
      | nil => cases h
      | cons y r' =>
        simp only [List.map_cons, List.cons.injEq, D.int.injEq] at h
        rw [h.1, ih h.2]
  · rintro rfl
    rfl
abbrev dP (p : Int × Int) : D := .tup [.int p.1, .int p.2]
end DL

/-! DLEq: == of data. -/
namespace DL
mutual
theorem eqD_refl : ∀ d : D, eqD d d = true
  | .none => eqD_none_none
  | .bool b => by rw [eqD_bool_bool]; exact beq_self_eq_true b
  | .int i => by rw [eqD_int_int]; exact beq_self_eq_true i
  | .str s => by rw [eqD_str_str]; exact beq_self_eq_true s
  | .list ds => by rw [eqD_list_list]; exact eqDs_refl ds
  | .tup ds => by rw [eqD_tup_tup]; exact eqDs_refl ds
theorem eqDs_refl : ∀ ds : List D, eqDs ds ds = true
  | [] => eqDs_nn
  | d :: r => by rw [eqDs_cc, eqD_refl d, eqDs_refl r]; rfl
end
theorem eqDs_map {α : Type} [DecidableEq α] (f : α → D) (hf : ∀ x y, eqD (f x) (f y) = decide (x = y)) : ∀ a b : List α, eqDs (a.map f) (b.map f) = decide (a = b)
  | [], [] => by rw [List.map_nil, eqDs_nn]; rfl
  | [], y :: b => by rw [List.map_nil, List.map_cons, eqDs_nc]; rfl
  | x :: a, [] => by rw [List.map_nil, List.map_cons, eqDs_cn]; rfl
  | x :: a, y :: b => by
    rw [List.map_cons, List.map_cons, eqDs_cc, hf, eqDs_map f hf a b, Bool.eq_iff_iff]
    simp
theorem eqDs_ints (a b : List Int) : eqDs (a.map D.int) (b.map D.int) = decide (a = b) := eqDs_map D.int (fun x y => by rw [eqD_int_int]; rfl) a b
theorem eqDs_strs (a b : List (List Nat)) : eqDs (a.map D.str) (b.map D.str) = decide (a = b) := eqDs_map D.str (fun x y => by rw [eqD_str_str, Bool.eq_iff_iff]; simp) a b
end DL

/-! Minus: tables of turns; lists with minus. -/
namespace Minus
open DL
structure M4 where
  p : Int
  q : Int
  r : Int
  s : Int
def M4.go (m : M4) (n : Int) : M4 := ⟨m.p * n + m.q, -m.p, m.r * n + m.s, -m.r⟩
def M4.act (m : M4) (v : Int × Int) : Int × Int := (m.p * v.1 + m.q * v.2, m.r * v.1 + m.s * v.2)
def M4.det (m : M4) : Int := m.p * m.s - m.q * m.r
def M4.sg (m : M4) (k : Int) : M4 := ⟨k * m.p, k * m.q, k * m.r, k * m.s⟩
def tb (l : List Int) : M4 := l.foldl M4.go ⟨1, 0, 0, 1⟩
def ptS (n : Int) (v : Int × Int) : Int × Int := (n * v.1 - v.2, v.1)
def pt (l : List Int) (v : Int × Int) : Int × Int := l.foldr ptS v
theorem tb_snoc (l : List Int) (n : Int) : tb (l ++ [n]) = (tb l).go n := by unfold tb; rw [List.foldl_append]; rfl
theorem put_app (a b : List Int) (v : Int × Int) : pt (a ++ b) v = pt a (pt b v) := List.foldr_append ..
theorem fold_act : ∀ (l : List Int) (m : M4) (v : Int × Int), (l.foldl M4.go m).act v = m.act (pt l v)
  | [], _, _ => rfl
  | n :: l, m, v => by
    show (l.foldl M4.go (m.go n)).act v = m.act (ptS n (pt l v))
    rw [fold_act l (m.go n) v]
    generalize pt l v = u
    obtain ⟨a, b⟩ := u
    unfold M4.go M4.act ptS
    dsimp only
    refine Prod.ext ?_ ?_ <;> dsimp only <;> grind
theorem tb_act (l : List Int) (v : Int × Int) : (tb l).act v = pt l v := by
  unfold tb
  rw [fold_act]
  obtain ⟨a, b⟩ := pt l v
  unfold M4.act
  refine Prod.ext ?_ ?_ <;> dsimp only <;> omega
theorem tb_cols (l : List Int) : tb l = ⟨(pt l (1, 0)).1, (pt l (0, 1)).1, (pt l (1, 0)).2, (pt l (0, 1)).2⟩ := by
  rw [← tb_act, ← tb_act]
  unfold M4.act
  dsimp only
  generalize tb l = m
  obtain ⟨p, q, r, s⟩ := m
  simp
theorem go_det (m : M4) (n : Int) : (m.go n).det = m.det := by
  unfold M4.go M4.det
  dsimp only
  grind
theorem tb_det (l : List Int) : (tb l).det = 1 := by
  have : ∀ (l : List Int) (m : M4), (l.foldl M4.go m).det = m.det := by
    intro l
    induction l with
    | nil => intro m; rfl
    | cons n l ih => intro m; show (l.foldl M4.go (m.go n)).det = _; rw [ih, go_det]
  unfold tb
  rw [this]
  decide
theorem sg_det {m : M4} {k : Int} (h : k = 1 ∨ k = -1) : (m.sg k).det = m.det := by
  unfold M4.sg M4.det
  rcases h with rfl | rfl <;> grind
/-! ### rounding up -/
def up (a b : Int) : Int := -((-a) / b)
inductive ML : Int → Int → List Int → Prop
  | nil (a : Int) : ML a 0 []
  | cons {a b : Int} {l : List Int} : 0 < b → ML b (up a b * b - a) l → ML a b (up a b :: l)
theorem up_spec {a b : Int} (h : 0 < b) : 0 ≤ up a b * b - a ∧ up a b * b - a < b := by
  unfold up
  have h1 := Int.emod_nonneg (-a) (by omega : b ≠ 0)
  have h2 := Int.emod_lt_of_pos (-a) h
  have h3 := Int.emod_add_mul_ediv (-a) b
  have h4 : -((-a) / b) * b = -(b * ((-a) / b)) := by rw [Int.neg_mul, Int.mul_comm]
  omega
theorem up_uniq {a b n : Int} (h : 0 < b) (h0 : 0 ≤ n * b - a) (h1 : n * b - a < b) : up a b = n := by
  obtain ⟨u0, u1⟩ := up_spec (a := a) h
  generalize up a b = m at *
  have e1 : (m - n) * b = m * b - n * b := Int.sub_mul ..
  by_cases hlt : m < n
  · have : 1 * b ≤ (n - m) * b := Int.mul_le_mul_of_nonneg_right (by omega) (by omega)
    rw [Int.sub_mul] at this
    omega
  · by_cases hgt : n < m
    · have : 1 * b ≤ (m - n) * b := Int.mul_le_mul_of_nonneg_right (by omega) (by omega)
      omega
    · omega
theorem up_small {a b k : Int} (h : 0 < b) (hk : 1 ≤ k) (h1 : -k ≤ a) (h2 : a ≤ k) : -k ≤ up a b ∧ up a b ≤ k := by
  obtain ⟨u0, u1⟩ := up_spec (a := a) h
  generalize up a b = m at *
  constructor
  · refine Int.not_lt.mp fun z => ?_
    have : (k + 1) * 1 ≤ (-m) * b := Int.mul_le_mul (by omega) (by omega) (by decide) (by omega)
    rw [Int.neg_mul] at this
    omega
  · refine Int.not_lt.mp fun z => ?_
    by_cases hb : b = 1
    · subst hb; omega
    · have h3 : k * b ≤ (m - 1) * b := Int.mul_le_mul_of_nonneg_right (by omega) (by omega)
      have h4 : k * 2 ≤ k * b := Int.mul_le_mul_of_nonneg_left (by omega) (by omega)
      rw [Int.sub_mul] at h3
      omega
theorem ML.pos {a b : Int} {l : List Int} (h : ML a b l) : 0 ≤ b ∧ (l.length : Int) ≤ b := by
  induction h with
  | nil a => exact ⟨Int.le_refl 0, Int.le_refl 0⟩
  | @cons a b l hb _ ih =>
    have := up_spec (a := a) hb
    rw [List.length_cons]
    omega
theorem ML.small {a b : Int} {l : List Int} (h : ML a b l) : ∀ k : Int, 1 ≤ k → -k ≤ a → a ≤ k → b ≤ k → ∀ x ∈ l, -k ≤ x ∧ x ≤ k := by
  induction h with
  | nil a => intro k _ _ _ _ x hx; cases hx
  | @cons a b l hb _ ih =>
    intro k hk h1 h2 h3 x hx
    have u := up_spec (a := a) hb
    rcases List.mem_cons.mp hx with e | e
    · rw [e]; exact up_small hb hk h1 h2
    · exact ih k hk (by omega) h3 (by omega) x e
theorem ML.two {a b : Int} {l : List Int} (h : ML a b l) : b < a → ∀ x ∈ l, 2 ≤ x := by
  induction h with
  | nil a => intro _ x hx; cases hx
  | @cons a b l hb _ ih =>
    intro h x hx
    have u := up_spec (a := a) hb
    rcases List.mem_cons.mp hx with e | e
    · rw [e]
      refine Int.not_lt.mp fun z => ?_
      have : up a b * b ≤ 1 * b := Int.mul_le_mul_of_nonneg_right (by omega) (by omega)
      omega
    · exact ih (by omega) x e
theorem ML.tail {a b x : Int} {l : List Int} (h : ML a b (x :: l)) : ∀ y ∈ l, 2 ≤ y := by
  cases h with
  | cons hb h => exact h.two (up_spec hb).2
theorem ML.ne {a b : Int} {l : List Int} (h : ML a b l) (hb : 0 < b) : l ≠ [] := by
  cases h with
  | nil => omega
  | cons => exact List.cons_ne_nil _ _
theorem ML.uniq {a b : Int} {l : List Int} (h : ML a b l) : ∀ l', ML a b l' → l = l' := by
  induction h with
  | nil a =>
    intro l' h'
    cases h' with
    | nil => rfl
    | cons hb _ => exact absurd hb (by decide)
  | @cons a b l hb _ ih =>
    intro l' h'
    cases h' with
    | nil => exact absurd hb (by decide)
    | cons _ h' => rw [ih _ h']
theorem ML.col {a b : Int} {l : List Int} (h : ML a b l) : (b = 0 → 0 < a) → (∃ x y, a * x + b * y = 1) → pt l (1, 0) = (a, b) := by
  induction h with
  | nil a =>
    intro h0 ⟨x, y, e⟩
    have h0 := h0 rfl
    have e : a * x = 1 := by omega
    have ha : a = 1 := by
      have hx : 0 < x := by
        refine Int.not_le.mp fun z => ?_
        have := Int.mul_nonpos_of_nonneg_of_nonpos (Int.le_of_lt h0) z
        omega
      have h1 : 1 * x ≤ a * x := Int.mul_le_mul_of_nonneg_right (by omega) (by omega)
      have hx1 : x = 1 := by omega
      rw [hx1] at e
      omega
    rw [ha]
    rfl
  | @cons a b l hb _ ih =>
    intro _ ⟨x, y, e⟩
    have u := up_spec (a := a) hb
    have := ih (fun _ => hb) ⟨up a b * x + y, -x, by generalize up a b = m; grind⟩
    show ptS (up a b) (pt l (1, 0)) = _
    rw [this]
    unfold ptS
    refine Prod.ext ?_ rfl
    dsimp only
    omega
/-- a list is the one told -/
theorem ML.of : ∀ l : List Int, l ≠ [] → (∀ x ∈ l.drop 1, 2 ≤ x) → 0 < (pt l (1, 0)).2 ∧ ML (pt l (1, 0)).1 (pt l (1, 0)).2 l ∧ ((∀ x ∈ l, 2 ≤ x) → (pt l (1, 0)).2 < (pt l (1, 0)).1)
  | [], h, _ => absurd rfl h
  | [n], _, _ => by
    have e : pt [n] (1, 0) = (n, 1) := by
      show (n * 1 - 0, 1) = _
      refine Prod.ext ?_ rfl
      dsimp only
      omega
    rw [e]
    refine ⟨Int.one_pos, ?_, fun h => by have := h n List.mem_cons_self; show 1 < n; omega⟩
    have hu : up n 1 = n := up_uniq (by decide) (by omega) (by omega)
    have h2 : ML n 1 (up n 1 :: []) := .cons (by decide) (by rw [hu, show n * 1 - n = 0 by omega]; exact .nil 1)
    rw [hu] at h2
    exact h2
  | n :: m :: l, _, h => by
    have hm : ∀ x ∈ m :: l, 2 ≤ x := h
    obtain ⟨i1, i2, i3⟩ := ML.of (m :: l) (List.cons_ne_nil _ _) fun x hx => hm x (List.mem_cons_of_mem _ hx)
    have i3 := i3 hm
    show 0 < (ptS n (pt (m :: l) (1, 0))).2 ∧ ML (ptS n (pt (m :: l) (1, 0))).1 (ptS n (pt (m :: l) (1, 0))).2 (n :: m :: l) ∧ (_ → (ptS n (pt (m :: l) (1, 0))).2 < (ptS n (pt (m :: l) (1, 0))).1)
    generalize pt (m :: l) (1, 0) = v at *
    obtain ⟨P, R⟩ := v
    dsimp only at i1 i2 i3
    show 0 < P ∧ ML (n * P - R) P (n :: m :: l) ∧ (_ → P < n * P - R)
    have hP : 0 < P := by omega
    have hu : up (n * P - R) P = n := up_uniq hP (by omega) (by omega)
    refine ⟨hP, ?_, fun h => ?_⟩
    · have : ML (n * P - R) P (up (n * P - R) P :: m :: l) := .cons hP (by rw [hu, show n * P - (n * P - R) = R by omega]; exact i2)
      rw [hu] at this
      exact this
    · have hn := h n List.mem_cons_self
      have : 2 * P ≤ n * P := Int.mul_le_mul_of_nonneg_right hn (by omega)
      omega
/-! ### what is told of a table -/
structure Told (m : M4) (k : Int) (l : List Int) : Prop where
  sign : k = 1 ∨ k = -1
  ne : l ≠ []
  mid : ∀ x ∈ (l.drop 1).dropLast, 2 ≤ x
  eq : (tb l).sg k = m
theorem list_snoc {α : Type} (l : List α) (h : l ≠ []) : ∃ i x, l = i ++ [x] := ⟨l.dropLast, l.getLast h, (List.dropLast_concat_getLast h).symm⟩
theorem put_last (t : List Int) (c : Int) : (tb (t ++ [c])).q = -(pt t (1, 0)).1 ∧ (tb (t ++ [c])).s = -(pt t (1, 0)).2 := by
  rw [tb_snoc, tb_cols t]
  exact ⟨rfl, rfl⟩
theorem mid_init {t : List Int} {c : Int} (h : ∀ x ∈ ((t ++ [c]).drop 1).dropLast, 2 ≤ x) : ∀ x ∈ t.drop 1, 2 ≤ x := by
  intro x hx
  cases t with
  | nil => cases hx
  | cons y t =>
    refine h x ?_
    show x ∈ (t ++ [c]).dropLast
    rw [List.dropLast_concat]
    exact hx
theorem one_table (c : Int) : tb [c] = ⟨c, -1, 1, 0⟩ := by
  show (⟨1 * c + 0, -1, 0 * c + 1, -0⟩ : M4) = _
  simp
theorem Told.uniq {m : M4} {k k' : Int} {l l' : List Int} (h : Told m k l) (h' : Told m k' l') : k = k' ∧ l = l' := by
  obtain ⟨t, c, rfl⟩ := list_snoc l h.ne
  obtain ⟨t', c', rfl⟩ := list_snoc l' h'.ne
  have e := h.eq
  have e' := h'.eq
  have hk := h.sign
  have hk' := h'.sign
  have p1 := put_last t c
  have p2 := put_last t' c'
  have m1 := mid_init h.mid
  have m2 := mid_init h'.mid
  have hs : k * (tb (t ++ [c])).s = k' * (tb (t' ++ [c'])).s := by
    have := congrArg M4.s (e.trans e'.symm)
    exact this
  have hq : k * (tb (t ++ [c])).q = k' * (tb (t' ++ [c'])).q := congrArg M4.q (e.trans e'.symm)
  have hr : k * (tb (t ++ [c])).r = k' * (tb (t' ++ [c'])).r := congrArg M4.r (e.trans e'.symm)
  have hp : k * (tb (t ++ [c])).p = k' * (tb (t' ++ [c'])).p := congrArg M4.p (e.trans e'.symm)
  rw [p1.2, p2.2] at hs
  rw [p1.1, p2.1] at hq
  have z : ∀ t : List Int, t ≠ [] → (∀ x ∈ t.drop 1, 2 ≤ x) → 0 < (pt t (1, 0)).2 := fun t a b => (ML.of t a b).1
  have z0 : (pt [] (1, 0)).2 = 0 := rfl
  have hkk : k = k' ∧ t = t' := by
    by_cases ht : t = []
    · subst ht
      by_cases ht' : t' = []
      · subst ht'
        have r1 : (tb ([] ++ [c])).r = 1 := by rw [List.nil_append, one_table]
        have r2 : (tb ([] ++ [c'])).r = 1 := by rw [List.nil_append, one_table]
        rw [r1, r2] at hr
        exact ⟨by omega, rfl⟩
      · have := z t' ht' m2
        rw [z0] at hs
        rcases hk' with rfl | rfl <;> omega
    · have h1 := z t ht m1
      by_cases ht' : t' = []
      · subst ht'
        rw [z0] at hs
        rcases hk with rfl | rfl <;> omega
      · have h2 := z t' ht' m2
        have ek : k = k' := by rcases hk with rfl | rfl <;> rcases hk' with rfl | rfl <;> omega
        refine ⟨ek, ?_⟩
        subst ek
        have a1 := (ML.of t ht m1).2.1
        have a2 := (ML.of t' ht' m2).2.1
        have q1 : (pt t (1, 0)).1 = (pt t' (1, 0)).1 := by rcases hk with rfl | rfl <;> omega
        have q2 : (pt t (1, 0)).2 = (pt t' (1, 0)).2 := by rcases hk with rfl | rfl <;> omega
        rw [q1, q2] at a1
        exact a1.uniq _ a2
  obtain ⟨rfl, rfl⟩ := hkk
  refine ⟨rfl, ?_⟩
  have g : (tb t).go c = (tb t).go c' := by
    rw [← tb_snoc, ← tb_snoc]
    cases e1 : tb (t ++ [c])
    cases e2 : tb (t ++ [c'])
    have hs' := congrArg M4.s (e.trans e'.symm)
    have hq' := congrArg M4.q (e.trans e'.symm)
    rw [e1] at hp hr hs' hq'
    rw [e2] at hp hr hs' hq'
    dsimp only [M4.sg] at *
    rcases hk with rfl | rfl
    · rw [M4.mk.injEq]; omega
    · rw [M4.mk.injEq]; omega
  have hd := tb_det t
  unfold M4.det at hd
  have g1 := congrArg M4.p g
  have g2 := congrArg M4.r g
  unfold M4.go at g1 g2
  dsimp only at g1 g2
  have d1 : (tb t).p * (c - c') = 0 := by rw [Int.mul_sub]; omega
  have d2 : (tb t).r * (c - c') = 0 := by rw [Int.mul_sub]; omega
  have : c - c' = 0 := by
    have h3 : ((tb t).p * (tb t).s - (tb t).q * (tb t).r) * (c - c') = 0 := by
      have h4 : ((tb t).p * (tb t).s - (tb t).q * (tb t).r) * (c - c') = (tb t).s * ((tb t).p * (c - c')) - (tb t).q * ((tb t).r * (c - c')) := by grind
      rw [h4, d1, d2]
      simp
    rw [hd, Int.one_mul] at h3
    exact h3
  rw [show c = c' by omega]
/-- the list told of a table with a last number not nought -/
theorem Told.of {m : M4} {k : Int} {t : List Int} (hd : m.det = 1) (hk : k = 1 ∨ k = -1) (hs : 0 < -k * m.s) (h : ML (-k * m.q) (-k * m.s) t) : Told m k (t ++ [k * ((tb t).s * m.p - (tb t).q * m.r)]) := by
  unfold M4.det at hd
  have hc := h.col (fun z => by omega) ⟨k * m.r, -k * m.p, by rcases hk with rfl | rfl <;> grind⟩
  have hne := h.ne hs
  have ht := tb_det t
  have hcol := tb_cols t
  refine ⟨hk, by simp, ?_, ?_⟩
  · cases t with
    | nil => exact absurd rfl hne
    | cons x t =>
      intro y hy
      have e : ((x :: t ++ [k * ((tb (x :: t)).s * m.p - (tb (x :: t)).q * m.r)]).drop 1).dropLast = t := List.dropLast_concat
      rw [e] at hy
      exact h.tail y hy
  · rw [tb_snoc]
    have e1 : (tb t).p = -k * m.q := by rw [hcol, hc]
    have e2 : (tb t).r = -k * m.s := by rw [hcol, hc]
    unfold M4.det at ht
    generalize tb t = T at *
    obtain ⟨P, Q, R, S⟩ := T
    obtain ⟨p, q, r, s⟩ := m
    unfold M4.go M4.sg
    dsimp only at *
    subst e1 e2
    rw [M4.mk.injEq]
    rcases hk with rfl | rfl <;> refine ⟨?_, ?_, ?_, ?_⟩ <;> grind
theorem Told.zero {m : M4} (hd : m.det = 1) (hs : m.s = 0) : Told m m.r [m.r * m.p] := by
  unfold M4.det at hd
  obtain ⟨p, q, r, s⟩ := m
  dsimp only at *
  subst hs
  have h1 : q * r = -1 := by omega
  have hr : r = 1 ∨ r = -1 := by
    have h2 : r ∣ 1 := ⟨-q, by grind⟩
    rcases Int.natAbs_dvd_natAbs.mpr h2 with ⟨z, hz⟩
    have : r.natAbs = 1 := Nat.eq_one_of_mul_eq_one_right hz.symm
    omega
  refine ⟨hr, by simp, fun x hx => (by cases hx), ?_⟩
  rw [one_table]
  unfold M4.sg
  dsimp only
  rw [M4.mk.injEq]
  rcases hr with rfl | rfl <;> refine ⟨?_, ?_, ?_, ?_⟩ <;> omega
/-! ### bounds -/
def K0 : Nat := 12000
def lowV (k : Nat) (v : Int × Int) : Prop := v.1.natAbs ≤ 2 ^ k ∧ v.2.natAbs ≤ 2 ^ k
theorem put_low (k : Nat) : ∀ (t : List Int) (v : Int × Int), (∀ x ∈ t, x.natAbs < 1024) → lowV k v → lowV (k + 11 * t.length) (pt t v)
  | [], v, _, h => h
  | n :: t, v, hx, h => by
    have ih := put_low k t v (fun x hx' => hx x (List.mem_cons_of_mem _ hx')) h
    have hn := hx n List.mem_cons_self
    show lowV _ (ptS n (pt t v))
    unfold lowV ptS at *
    generalize pt t v = u at *
    obtain ⟨a, b⟩ := u
    dsimp only at *
    rw [List.length_cons, show k + 11 * (t.length + 1) = k + 11 * t.length + 11 by omega, Nat.pow_add]
    generalize 2 ^ (k + 11 * t.length) = P at *
    have h1 : (n * a).natAbs ≤ 1024 * P := by
      rw [Int.natAbs_mul]
      exact Nat.mul_le_mul (by omega) ih.1
    have h2 : (2 : Nat) ^ 11 = 2048 := by decide
    rw [h2]
    omega
structure Okl (l : List Int) : Prop where
  len : l.length ≤ 1001
  init : ∀ x ∈ l.dropLast, x.natAbs < 1024
  all : ∀ x ∈ l, x.natAbs < 2 ^ K0
theorem Okl.of {l : List Int} (h : l.length ≤ 1001) (h2 : ∀ x ∈ l, x.natAbs < 1024) : Okl l := by
  refine ⟨h, fun x hx => h2 x (List.dropLast_subset l hx), fun x hx => Nat.lt_of_lt_of_le (h2 x hx) ?_⟩
  show 2 ^ 10 ≤ 2 ^ K0
  exact Nat.pow_le_pow_right (by decide) (by decide)
theorem Okl.low {l : List Int} (h : Okl l) {v : Int × Int} (h1 : v.1.natAbs ≤ 1) (h2 : v.2.natAbs ≤ 1) : lowV 24000 (pt l v) := by
  have mono : ∀ {a b : Nat} {u : Int × Int}, a ≤ b → lowV a u → lowV b u := fun hab hu => ⟨Nat.le_trans hu.1 (Nat.pow_le_pow_right (by decide) hab), Nat.le_trans hu.2 (Nat.pow_le_pow_right (by decide) hab)⟩
  by_cases e : l = []
  · subst e
    exact mono (a := 0) (by decide) ⟨h1, h2⟩
  · obtain ⟨t, c, rfl⟩ := list_snoc l e
    rw [put_app]
    have hc := h.all c (List.mem_append_right _ List.mem_cons_self)
    have ht : ∀ x ∈ t, x.natAbs < 1024 := fun x hx => h.init x (by rw [List.dropLast_concat]; exact hx)
    have hl := h.len
    rw [List.length_append] at hl
    have hl : t.length ≤ 1000 := by simpa using hl
    have hv : lowV (K0 + 1) (pt [c] v) := by
      show lowV _ (c * v.1 - v.2, v.1)
      unfold lowV
      dsimp only
      have h3 : (c * v.1).natAbs ≤ 2 ^ K0 * 1 := by
        rw [Int.natAbs_mul]
        exact Nat.mul_le_mul (Nat.le_of_lt hc) h1
      have h4 : 1 ≤ 2 ^ K0 := Nat.one_le_two_pow
      rw [Nat.pow_succ]
      generalize 2 ^ K0 = P at *
      omega
    refine mono ?_ (put_low (K0 + 1) t _ ht hv)
    have : K0 = 12000 := rfl
    omega
theorem Okl.drop {l : List Int} (h : Okl l) (n : Nat) : Okl (l.drop n) := by
  refine ⟨by rw [List.length_drop]; have := h.len; omega, fun x hx => h.init x ?_, fun x hx => h.all x (List.mem_of_mem_drop hx)⟩
  by_cases hn : n < l.length
  · have : l.dropLast.drop n = (l.drop n).dropLast := by
      rw [List.dropLast_eq_take, List.dropLast_eq_take, List.drop_take, List.length_drop]
      congr 1
      omega
    rw [← this] at hx
    exact List.mem_of_mem_drop hx
  · rw [List.drop_of_length_le (by omega)] at hx
    cases hx
theorem Okl.take {l : List Int} (h : Okl l) (n : Nat) : Okl (l.take n) := by
  refine ⟨by rw [List.length_take]; have := h.len; omega, fun x hx => h.init x ?_, fun x hx => h.all x (List.mem_of_mem_take hx)⟩
  rw [List.dropLast_eq_take, List.take_take] at hx
  rw [List.dropLast_eq_take]
  have e : min ((l.take n).length - 1) n ≤ l.length - 1 := by rw [List.length_take]; omega
  have : l.take (min ((l.take n).length - 1) n) = (l.take (l.length - 1)).take (min ((l.take n).length - 1) n) := by rw [List.take_take, Nat.min_eq_left e]
  rw [this] at hx
  exact List.mem_of_mem_take hx
theorem low_log {k : Nat} {v : Int × Int} (h : lowV k v) : v.1.natAbs.log2 ≤ k ∧ v.2.natAbs.log2 ≤ k := by
  have key : ∀ x : Nat, x ≤ 2 ^ k → x.log2 ≤ k := fun x hx => Nat.le_of_lt_succ (lg_lt (Nat.lt_of_le_of_lt hx (Nat.pow_lt_pow_right (by decide) (Nat.lt_succ_self k))) (Nat.succ_pos k))
  exact ⟨key _ h.1, key _ h.2⟩
theorem all_log {x : Int} (h : x.natAbs < 2 ^ K0) : x.natAbs.log2 < K0 := lg_lt h (by decide)
end Minus

/-! The meanings of the defs, printed by the generator. -/
namespace K49
open DL

abbrev c_NOTHING : D := .tup [(.int 1), (.int 0), (.int 0), (.int 1)]
abbrev c_MOST_SIZE : D := .int 999
def b__law_draw : MS :=
  (sSeq (sIf (tAnd (tB (mBin dEq (mFeed 0 2) (mC (.int 0)))) (tB (mBin dLt (mFeed 0 1) (mUn dLen (mFeed 0 0)))))
  (sSeq (sSet 2 (mUn dAbs (mUn dInt (mBin dIx (mFeed 0 0) (mFeed 0 1)))))
  (sSeq (sFeedA 0 1 1)
  (sIf (tB (mBin dGe (mVar 2) (mBin dPow (mC (.int 10)) (mC (.int 18)))))
  (sFeed 0 2 (mFzV 2))
  (sFeed 0 3 (mBin dMod (mUn dInt (mBin dAdd (mBin dAdd (mBin dMul (mFeed 0 3) (mC (.int 48271))) (mBin dMul (mVar 2) (mC (.int 69621)))) (mFeed 0 1))) (mC (.int 2147483647)))))))
  sNil)
  (sSeq (sIf (tB (mBin dGt (mFeed 0 2) (mC (.int 0))))
  (sSeq (sSet 3 (mBin dMod (mUn dInt (mFeed 0 2)) (mVar 1)))
  (sSeq (sFeed 0 2 (mBin dDiv (mFeed 0 2) (mVar 1)))
  (sRet (mVar 3))))
  sNil)
  (sSeq (sFeed 0 3 (mBin dMod (mUn dInt (mBin dAdd (mBin dMul (mFeed 0 3) (mC (.int 16807))) (mC (.int 12345)))) (mC (.int 2147483647))))
  (sSeq (sSet 4 (mBin dMod (mUn dInt (mBin dAdd (mBin dMul (mFeed 0 3) (mFeed 0 3)) (mFeed 0 3))) (mC (.int 2147483629))))
  (sRet (mBin dMod (mBin dDiv (mVar 4) (mC (.int 11))) (mVar 1)))))))
def b__law_fits : MS :=
  (sRet (mBin dLe (mUn dMax (mComp [1] (srcV (mFzV 0)) (gV 1) tYes (mUn dAbs (mVar 1)))) (mC (.int 999))))
def b__law_put : MS :=
  (sSeq (sFor (srcR1 (mUn dLen (mVar 0))) (gV 3)
  (sSeq (sSet 4 (mBin dIx (mVar 0) (mBin dSub (mBin dSub (mUn dLen (mVar 0)) (mC (.int 1))) (mVar 3))))
  (sSeq (sSet 5 (mBin dSub (mBin dMul (mVar 4) (mVar 1)) (mVar 2)))
  (sSeq (sSet 2 (mFzV 1))
  (sSet 1 (mFzV 5))))))
  (sRet (mList (msC (mFzV 1) (msC (mFzV 2) msN)))))
def b__law_table (g__law_put : Sem) : MS :=
  (sSeq (sSet 1 (mCall g__law_put (msC (mFzV 0) (msC (mC (.int 1)) (msC (mC (.int 0)) msN)))))
  (sSeq (sSet 2 (mCall g__law_put (msC (mFzV 0) (msC (mC (.int 0)) (msC (mC (.int 1)) msN)))))
  (sRet (mTup (msC (mBin dIx (mVar 1) (mC (.int 0))) (msC (mBin dIx (mVar 2) (mC (.int 0))) (msC (mBin dIx (mVar 1) (mC (.int 1))) (msC (mBin dIx (mVar 2) (mC (.int 1))) msN))))))))
def b__law_drawn (g__law_draw : Sem) (g__law_fits : Sem) (g__law_table : Sem) : MS :=
  (sSeq (sSet 1 (mList (msC (mBin dSub (mCallF g__law_draw 0 (msC (mC (.int 19)) msN)) (mC (.int 9))) msN)))
  (sSeq (sFor (srcR1 (mCallF g__law_draw 0 (msC (mC (.int 5)) msN))) (gV 2)
  (sSeq (sSet 3 (mBin dAdd (mVar 1) (mList (msC (mBin dAdd (mC (.int 2)) (mCallF g__law_draw 0 (msC (mBin dIx (mList (msC (mC (.int 2)) (msC (mC (.int 6)) msN))) (mCallF g__law_draw 0 (msC (mC (.int 2)) msN))) msN))) msN))))
  (sIf (tV (mCall g__law_fits (msC (mCall g__law_table (msC (mFzV 3) msN)) msN)))
  (sSet 1 (mFzV 3))
  sNil)))
  (sSeq (sSet 4 (mBin dAdd (mVar 1) (mList (msC (mBin dSub (mCallF g__law_draw 0 (msC (mC (.int 19)) msN)) (mC (.int 9))) msN))))
  (sSeq (sIf (tAnd (tB (mBin dGt (mCallF g__law_draw 0 (msC (mC (.int 4)) msN)) (mC (.int 0)))) (tV (mCall g__law_fits (msC (mCall g__law_table (msC (mFzV 4) msN)) msN))))
  (sRet (mVar 4))
  sNil)
  (sRet (mVar 1))))))
def b_rounded_up : MS :=
  (sRet (mUn dNeg (mBin dDiv (mUn dNeg (mVar 0)) (mVar 1))))
def b_minus_list (g_rounded_up : Sem) : MS :=
  (sSeq (sSet 2 (mList msN))
  (sSeq (sWhile (tB (mBin dNe (mVar 1) (mC (.int 0))))
  (sSeq (sSet 3 (mCall g_rounded_up (msC (mFzV 0) (msC (mFzV 1) msN))))
  (sSeq (sApp 2 (mFzV 3))
  (sPar 0 1 (mFzV 1) (mBin dSub (mBin dMul (mVar 3) (mVar 1)) (mVar 0))))))
  (sRet (mVar 2))))
def b_multiplied : MS :=
  (sSeq (sAsg (gT 4 (gsC (gV 2) (gsC (gV 3) (gsC (gV 4) (gsC (gV 5) gsN))))) (mFzV 0))
  (sSeq (sAsg (gT 4 (gsC (gV 6) (gsC (gV 7) (gsC (gV 8) (gsC (gV 9) gsN))))) (mFzV 1))
  (sRet (mTup (msC (mBin dAdd (mBin dMul (mVar 2) (mVar 6)) (mBin dMul (mVar 3) (mVar 8))) (msC (mBin dAdd (mBin dMul (mVar 2) (mVar 7)) (mBin dMul (mVar 3) (mVar 9))) (msC (mBin dAdd (mBin dMul (mVar 4) (mVar 6)) (mBin dMul (mVar 5) (mVar 8))) (msC (mBin dAdd (mBin dMul (mVar 4) (mVar 7)) (mBin dMul (mVar 5) (mVar 9))) msN))))))))
def b_turned_by (g_multiplied : Sem) : MS :=
  (sSeq (sSet 1 (mC c_NOTHING))
  (sSeq (sFor (srcV (mFzV 0)) (gV 2)
  (sSet 1 (mCall g_multiplied (msC (mFzV 1) (msC (mTup (msC (mFzV 2) (msC (mUn dNeg (mC (.int 1))) (msC (mC (.int 1)) (msC (mC (.int 0)) msN))))) msN)))))
  (sRet (mVar 1))))
def b_turns_of (g_minus_list : Sem) (g_turned_by : Sem) (xx : Exn → S → Prop) : MS :=
  (sSeq (sAsg (gT 4 (gsC (gV 1) (gsC (gV 2) (gsC (gV 3) (gsC (gV 4) gsN))))) (mFzV 0))
  (sSeq (sIf (tOr (tB (mBin dNe (mBin dSub (mBin dMul (mVar 1) (mVar 4)) (mBin dMul (mVar 2) (mVar 3))) (mC (.int 1)))) (tB (mBin dGt (mUn dMax (mComp [8] (srcV (mFzV 0)) (gV 8) tYes (mUn dAbs (mVar 8)))) (mC c_MOST_SIZE))))
  (sRaise1 xx "BadTable" "table" (mFzV 0))
  sNil)
  (sSeq (sIf (tB (mBin dEq (mVar 4) (mC (.int 0))))
  (sRet (mTup (msC (mFzV 3) (msC (mList (msC (mBin dMul (mVar 3) (mVar 1)) msN)) msN))))
  sNil)
  (sSeq (sSet 5 (mIf (tB (mBin dGt (mVar 4) (mC (.int 0)))) (mUn dNeg (mC (.int 1))) (mC (.int 1))))
  (sSeq (sSet 6 (mCall g_minus_list (msC (mBin dMul (mUn dNeg (mVar 5)) (mVar 2)) (msC (mUn dAbs (mVar 4)) msN))))
  (sSeq (sSet 7 (mCall g_turned_by (msC (mFzV 6) msN)))
  (sRet (mTup (msC (mFzV 5) (msC (mBin dAdd (mVar 6) (mList (msC (mBin dMul (mVar 5) (mBin dSub (mBin dMul (mBin dIx (mVar 7) (mC (.int 3))) (mVar 1)) (mBin dMul (mBin dIx (mVar 7) (mC (.int 1))) (mVar 3)))) msN))) msN))))))))))
def b__law_whole : MS :=
  (sRet (mAnd (mIsI (mVar 0) .int) (mNot (mIsI (mVar 0) .bool))))
def b__law_told (g_turns_of : SemX) (g__law_whole : Sem) (g_turned_by : Sem) (g__law_table : Sem) : MS :=
  (sSeq (sSet 3 (mCallX g_turns_of (fun _ _ => False) (msC (mFzV 0) msN)))
  (sSeq (sIf (tOr (tNot (tV (mIsI (mVar 3) .tuple))) (tOr (tB (mBin dNe (mUn dLen (mVar 3)) (mC (.int 2)))) (tOr (tNot (tV (mCall g__law_whole (msC (mBin dIx (mVar 3) (mC (.int 0))) msN)))) (tB (mBin dNe (mBin dIx (mVar 3) (mC (.int 0))) (mVar 1))))))
  (sRet (mC (.bool false)))
  sNil)
  (sSeq (sIf (tOr (tNot (tV (mIsI (mBin dIx (mVar 3) (mC (.int 1))) .list))) (tB (mBin dNe (mUn dLen (mBin dIx (mVar 3) (mC (.int 1)))) (mUn dLen (mVar 2)))))
  (sRet (mC (.bool false)))
  sNil)
  (sSeq (sFor (srcR1 (mUn dLen (mVar 2))) (gV 4)
  (sIf (tOr (tNot (tV (mCall g__law_whole (msC (mBin dIx (mBin dIx (mVar 3) (mC (.int 1))) (mVar 4)) msN)))) (tB (mBin dNe (mBin dIx (mBin dIx (mVar 3) (mC (.int 1))) (mVar 4)) (mBin dIx (mVar 2) (mVar 4)))))
  (sRet (mC (.bool false)))
  sNil))
  (sSeq (sSet 5 (mCall g_turned_by (msC (mSl (mBin dIx (mVar 3) (mC (.int 1))) oN (oS (mC (.int 40)))) msN)))
  (sRet (mOr (mBin dGt (mUn dLen (mVar 2)) (mC (.int 40))) (mBin dEq (mVar 5) (mCall g__law_table (msC (mFzV 2) msN))))))))))
def b__law_signed (g__law_table : Sem) : MS :=
  (sSeq (sSet 2 (mCall g__law_table (msC (mFzV 0) msN)))
  (sRet (mTup (msC (mBin dMul (mVar 1) (mBin dIx (mVar 2) (mC (.int 0)))) (msC (mBin dMul (mVar 1) (mBin dIx (mVar 2) (mC (.int 1)))) (msC (mBin dMul (mVar 1) (mBin dIx (mVar 2) (mC (.int 2)))) (msC (mBin dMul (mVar 1) (mBin dIx (mVar 2) (mC (.int 3)))) msN)))))))
def b__law_long_right (g__law_draw : Sem) (g__law_fits : Sem) (g__law_table : Sem) (g__law_told : Sem) (g__law_signed : Sem) : MS :=
  (sSeq (sSet 1 (mBin dAdd (mC (.int 1)) (mCallF g__law_draw 0 (msC (mC (.int 900)) msN))))
  (sSeq (sSet 2 (mBin dAdd (mC (.int 1)) (mCallF g__law_draw 0 (msC (mC (.int 26)) msN))))
  (sSeq (sSet 3 (mBin dAdd (mBin dAdd (mBin dMul (mList (msC (mC (.int 2)) msN)) (mVar 2)) (mList (msC (mBin dAdd (mC (.int 3)) (mCallF g__law_draw 0 (msC (mC (.int 3)) msN))) msN))) (mBin dMul (mList (msC (mC (.int 2)) msN)) (mCallF g__law_draw 0 (msC (mC (.int 26)) msN)))))
  (sSeq (sFor (srcV (mList (msC (mBin dMul (mList (msC (mC (.int 2)) msN)) (mVar 1)) (msC (mFzV 3) (msC (mBin dAdd (mBin dAdd (mList (msC (mBin dSub (mCallF g__law_draw 0 (msC (mC (.int 9)) msN)) (mC (.int 4))) msN)) (mBin dMul (mList (msC (mC (.int 2)) msN)) (mVar 2))) (mList (msC (mBin dSub (mCallF g__law_draw 0 (msC (mC (.int 9)) msN)) (mC (.int 4))) msN))) msN))))) (gV 4)
  (sIf (tV (mCall g__law_fits (msC (mCall g__law_table (msC (mFzV 4) msN)) msN)))
  (sFor (srcV (mList (msC (mC (.int 1)) (msC (mUn dNeg (mC (.int 1))) msN)))) (gV 5)
  (sIf (tNot (tV (mCall g__law_told (msC (mCall g__law_signed (msC (mFzV 4) (msC (mFzV 5) msN))) (msC (mFzV 5) (msC (mFzV 4) msN))))))
  (sRet (mC (.bool false)))
  sNil))
  sNil))
  (sRet (mC (.bool true)))))))
def b__law_any_right (g_turns_of : SemX) (g__law_whole : Sem) (g__law_signed : Sem) : MS :=
  (sSeq (sSet 1 (mCallX g_turns_of (fun _ _ => False) (msC (mFzV 0) msN)))
  (sSeq (sIf (tOr (tNot (tV (mIsI (mVar 1) .tuple))) (tOr (tB (mBin dNe (mUn dLen (mVar 1)) (mC (.int 2)))) (tOr (tNot (tV (mCall g__law_whole (msC (mBin dIx (mVar 1) (mC (.int 0))) msN)))) (tB (mBin (dIn true) (mBin dIx (mVar 1) (mC (.int 0))) (mList (msC (mC (.int 1)) (msC (mUn dNeg (mC (.int 1))) msN))))))))
  (sRet (mC (.bool false)))
  sNil)
  (sSeq (sIf (tOr (tNot (tV (mIsI (mBin dIx (mVar 1) (mC (.int 1))) .list))) (tB (mBin dEq (mUn dLen (mBin dIx (mVar 1) (mC (.int 1)))) (mC (.int 0)))))
  (sRet (mC (.bool false)))
  sNil)
  (sSeq (sFor (srcV (mBin dIx (mVar 1) (mC (.int 1)))) (gV 2)
  (sIf (tNot (tV (mCall g__law_whole (msC (mFzV 2) msN))))
  (sRet (mC (.bool false)))
  sNil))
  (sSeq (sFor (srcV (mSl (mBin dIx (mVar 1) (mC (.int 1))) (oS (mC (.int 1))) (oS (mUn dNeg (mC (.int 1)))))) (gV 2)
  (sIf (tB (mBin dLt (mVar 2) (mC (.int 2))))
  (sRet (mC (.bool false)))
  sNil))
  (sRet (mBin dEq (mCall g__law_signed (msC (mBin dIx (mVar 1) (mC (.int 1))) (msC (mBin dIx (mVar 1) (mC (.int 0))) msN))) (mVar 0))))))))
def b__law_refused (g_turns_of : SemX) : MS :=
  (sSeq (sTry ["BadTable"] (fun xx => (sExpr (mCallX g_turns_of xx (msC (mFzV 0) msN)))) [⟨["BadTable"], 1, true, (sSeq (sIf (tOr (tNot (tV (mXIs 1 ["BadTable"] ["BadTable"]))) (tOr (tV (mXIs 1 ["BadTable"] [])) (tV (mXIs 1 ["BadTable"] []))))
  (sRet (mC (.bool false)))
  sNil)
  (sRet (mAnd (mIsI (mXArg 1 ["BadTable"] "table") .tuple) (mBin dEq (mXArg 1 ["BadTable"] "table") (mVar 0)))))⟩])
  (sRet (mC (.bool false))))
def b_law (g__law_drawn : Sem) (g__law_signed : Sem) (g__law_told : Sem) (g__law_any_right : Sem) (g__law_refused : Sem) (g__law_fits : Sem) (g__law_draw : Sem) (g__law_table : Sem) (g__law_long_right : Sem) (g_turns_of : SemX) : MS :=
  (sSeq (sFor (srcR1 (mC (.int 4))) (gV 2)
  (sSeq (sSet 3 (mCallF g__law_drawn 1 msN))
  (sSeq (sFor (srcV (mList (msC (mC (.int 1)) (msC (mUn dNeg (mC (.int 1))) msN)))) (gV 4)
  (sSeq (sSet 5 (mCall g__law_signed (msC (mFzV 3) (msC (mFzV 4) msN))))
  (sSeq (sIf (tOr (tNot (tV (mCall g__law_told (msC (mFzV 5) (msC (mFzV 4) (msC (mFzV 3) msN)))))) (tNot (tV (mCall g__law_any_right (msC (mFzV 5) msN)))))
  (sRet (mC (.bool false)))
  sNil)
  (sSeq (sAsg (gT 4 (gsC (gV 6) (gsC (gV 7) (gsC (gV 8) (gsC (gV 9) gsN))))) (mFzV 5))
  (sFor (srcV (mList (msC (mTup (msC (mBin dAdd (mVar 6) (mC (.int 1))) (msC (mFzV 7) (msC (mFzV 8) (msC (mFzV 9) msN))))) (msC (mTup (msC (mFzV 6) (msC (mFzV 7) (msC (mFzV 8) (msC (mBin dAdd (mVar 9) (mC (.int 1))) msN))))) (msC (mTup (msC (mFzV 6) (msC (mBin dAdd (mVar 7) (mC (.int 1))) (msC (mFzV 8) (msC (mFzV 9) msN))))) (msC (mTup (msC (mFzV 7) (msC (mFzV 6) (msC (mFzV 9) (msC (mFzV 8) msN))))) (msC (mTup (msC (mFzV 6) (msC (mFzV 7) (msC (mBin dAdd (mVar 8) (mC (.int 1))) (msC (mFzV 9) msN))))) msN))))))) (gV 10)
  (sIf (tB (mBin dNe (mBin dSub (mBin dMul (mBin dIx (mVar 10) (mC (.int 0))) (mBin dIx (mVar 10) (mC (.int 3)))) (mBin dMul (mBin dIx (mVar 10) (mC (.int 1))) (mBin dIx (mVar 10) (mC (.int 2))))) (mC (.int 1))))
  (sIf (tNot (tV (mCall g__law_refused (msC (mFzV 10) msN))))
  (sRet (mC (.bool false)))
  sNil)
  (sIf (tAnd (tV (mCall g__law_fits (msC (mFzV 10) msN))) (tNot (tV (mCall g__law_any_right (msC (mFzV 10) msN)))))
  (sRet (mC (.bool false)))
  sNil)))))))
  (sSeq (sSet 11 (mComp [12] (srcR1 (mCallF g__law_draw 1 (msC (mC (.int 7)) msN))) (gV 12) tYes (mBin dSub (mCallF g__law_draw 1 (msC (mC (.int 9)) msN)) (mC (.int 4)))))
  (sSeq (sSet 5 (mCall g__law_table (msC (mFzV 11) msN)))
  (sSeq (sIf (tAnd (tV (mCall g__law_fits (msC (mFzV 5) msN))) (tNot (tV (mCall g__law_any_right (msC (mFzV 5) msN)))))
  (sRet (mC (.bool false)))
  sNil)
  (sIf (tAnd (tNot (tV (mCall g__law_fits (msC (mFzV 5) msN)))) (tNot (tV (mCall g__law_refused (msC (mFzV 5) msN)))))
  (sRet (mC (.bool false)))
  sNil)))))))
  (sSeq (sIf (tNot (tV (mCallF g__law_long_right 1 msN)))
  (sRet (mC (.bool false)))
  sNil)
  (sSeq (sSet 12 (mBin dAdd (mC (.int 1)) (mCallF g__law_draw 1 (msC (mC (.int 999)) msN))))
  (sSeq (sFor (srcV (mList (msC (mTup (msC (mC (.int 1)) (msC (mFzV 12) (msC (mC (.int 0)) (msC (mC (.int 1)) msN))))) (msC (mTup (msC (mC (.int 1)) (msC (mC (.int 0)) (msC (mFzV 12) (msC (mC (.int 1)) msN))))) (msC (mTup (msC (mC (.int 1)) (msC (mUn dNeg (mVar 12)) (msC (mC (.int 0)) (msC (mC (.int 1)) msN))))) (msC (mTup (msC (mUn dNeg (mC (.int 1))) (msC (mC (.int 0)) (msC (mFzV 12) (msC (mUn dNeg (mC (.int 1))) msN))))) (msC (mTup (msC (mC (.int 0)) (msC (mUn dNeg (mC (.int 1))) (msC (mC (.int 1)) (msC (mFzV 12) msN))))) (msC (mTup (msC (mFzV 12) (msC (mUn dNeg (mC (.int 1))) (msC (mC (.int 1)) (msC (mC (.int 0)) msN))))) msN)))))))) (gV 5)
  (sIf (tNot (tV (mCall g__law_any_right (msC (mFzV 5) msN))))
  (sRet (mC (.bool false)))
  sNil))
  (sSeq (sFor (srcV (mList (msC (mTup (msC (mC (.int 1)) (msC (mC (.int 1000)) (msC (mC (.int 0)) (msC (mC (.int 1)) msN))))) (msC (mTup (msC (mC (.int 1)) (msC (mC (.int 0)) (msC (mUn dNeg (mC (.int 1000))) (msC (mC (.int 1)) msN))))) (msC (mTup (msC (mC (.int 1000)) (msC (mUn dNeg (mC (.int 1))) (msC (mC (.int 1)) (msC (mC (.int 0)) msN))))) (msC (mTup (msC (mBin dPow (mC (.int 10)) (mC (.int 30))) (msC (mC (.int 1)) (msC (mUn dNeg (mC (.int 1))) (msC (mC (.int 0)) msN))))) (msC (mTup (msC (mC (.int 0)) (msC (mC (.int 0)) (msC (mC (.int 0)) (msC (mC (.int 0)) msN))))) (msC (mTup (msC (mC (.int 2)) (msC (mC (.int 0)) (msC (mC (.int 0)) (msC (mC (.int 2)) msN))))) msN)))))))) (gV 5)
  (sIf (tNot (tV (mCall g__law_refused (msC (mFzV 5) msN))))
  (sRet (mC (.bool false)))
  sNil))
  (sRet (mAnd (mBin dEq (mCallX g_turns_of (fun _ _ => False) (msC (mTup (msC (mC (.int 1)) (msC (mC (.int 0)) (msC (mC (.int 0)) (msC (mC (.int 1)) msN))))) msN)) (mTup (msC (mUn dNeg (mC (.int 1))) (msC (mList (msC (mC (.int 0)) (msC (mC (.int 0)) msN))) msN)))) (mBin dEq (mCallX g_turns_of (fun _ _ => False) (msC (mTup (msC (mC (.int 999)) (msC (mUn dNeg (mC (.int 1))) (msC (mC (.int 1)) (msC (mC (.int 0)) msN))))) msN)) (mTup (msC (mC (.int 1)) (msC (mList (msC (mC (.int 999)) msN)) msN)))))))))))
end K49

namespace K49
open DL Minus
def spec__law_draw : Sem := fun ds w Q => ∃ (many : Int), ds = [.int many] ∧ 0 < many ∧ many ≤ 1000000 ∧ Wok w ∧ ∀ r w', 0 ≤ r → r < many → Wok w' → Q (.val (.int r)) w'
theorem ar__law_draw (many : Int) (w : W) (Q : R → W → Prop) : ar 1 spec__law_draw [.int many] w Q = (0 < many ∧ many ≤ 1000000 ∧ Wok w ∧ ∀ r w', 0 ≤ r → r < many → Wok w' → Q (.val (.int r)) w') := by
  apply propext
  constructor
  · rintro ⟨_, many', e, h⟩
    simp only [List.cons.injEq, D.str.injEq, D.int.injEq, D.bool.injEq, D.tup.injEq, D.list.injEq, mapInt_inj, Int.natCast_inj, and_true, and_assoc] at e
    first | (obtain rfl := e; exact h) | (obtain ⟨rfl, _⟩ := e; exact h)
  · intro h
    exact ⟨rfl, many, rfl, h⟩
theorem vc__law_draw : ∀ ds w Q, spec__law_draw ds w Q → runF 5 (b__law_draw) ds w Q := by
  rintro ds w Q ⟨many, rfl, h⟩
  unfold b__law_draw
  obtain ⟨h0, h1, hw, h⟩ := h
  have gm : many.natAbs.log2 < 9000 := div62 (by omega) (by omega)
  obtain ⟨sc, ix, big, seed⟩ := w
  obtain ⟨wl, wi0, wi1, wb, ws0, ws1⟩ := hw
  dsimp only at wl wi0 wi1 wb ws0 ws1
  simp only [run, runF, DL.get, DL.put, puts, back, mC, mVar, mFzV, mFeed, frz, msN, msC, mBin, mUn, dAdd, dSub, dMul, dDiv, dMod, dPow, dNeg, dCmp, dLt, dLe, dGt, dGe, dEq, dNe, dIn, dIsN, dIsNotN, isN, flatD, okT, truth, tV, tB, tAnd, tOr, tNot, mAnd, mOr, mNot, mIf, mChain, mList, mTup, dIx, mSl, oN, oS, mRev, mRevTo, mCall, mCallF, dLen, dAbs, dInt, dMin2, dMax2, dList, dTup, dSum, dMin, dMax, dMinG, dMaxG, dAll, isTy, mIsI, gV, gSkip, gsN, gsC, gT, srcV, srcR1, srcR2, srcEnum, srcRev, mComp, tYes, isS, isL, mMS, mML, dIndexS, dIndexL, dIndexFrom, mMS2, dCount, dSplit, dJoin, sNil, sSeq, sSet, sAsg, sPar, sRet, retK, sRetN, sIf, sPass, sBrk, sCont, sNever, sExpr, sAug, ownAt, feedAt, intD, sApp, sExt, sSetI, sAugI, sFeed, sFeedA, popD, sPop, sAddPop, sFor, DL.W.set, DL.W.at, DL.R.d, okD, eqD_none_none, eqD_none_bool, eqD_none_int, eqD_none_str, eqD_none_list, eqD_none_tup, eqD_bool_none, eqD_bool_bool, eqD_bool_int, eqD_bool_str, eqD_bool_list, eqD_bool_tup, eqD_int_none, eqD_int_bool, eqD_int_int, eqD_int_str, eqD_int_list, eqD_int_tup, eqD_str_none, eqD_str_bool, eqD_str_int, eqD_str_str, eqD_str_list, eqD_str_tup, eqD_list_none, eqD_list_bool, eqD_list_int, eqD_list_str, eqD_list_list, eqD_list_tup, eqD_tup_none, eqD_tup_bool, eqD_tup_int, eqD_tup_str, eqD_tup_list, eqD_tup_tup, eqDs_nn, eqDs_cc, eqDs_nc, eqDs_cn, List.map_cons, List.map_nil, List.map, List.cons_append, List.nil_append, List.replicate, List.length_cons, List.length_nil, Nat.reduceAdd, Nat.reduceSub, List.all_cons, List.all_nil, Bool.and_true, Bool.true_and, true_and, and_true, atI_map, ex_map, ex_some, List.length_map, beq_int, decide_eq_true_eq, if_true, if_false, Bool.false_eq_true, if_pos, reduceIte, at0, at1, at2, at3, dP, mCallX, mCallB, peekA, evA, evAs, eq_self, sRaise0, sRaise1, sTry, caught, unslot, unheld, mXArg, mXIs, runX, List.contains_cons, List.contains_nil, Slot.isExn, String.reduceBEq, ex_arg, ex_valB, Bool.or_false, Bool.false_or, Bool.or_true, Bool.true_or, Bool.not_false, Bool.not_true]
  have m1 : ∀ a b : Int, 0 ≤ a → 0 < b → 0 ≤ a % b ∧ a % b < b := fun a b _ hb => ⟨Int.emod_nonneg _ (by omega), Int.emod_lt_of_pos _ hb⟩
  have e18 : (10 : Int) ^ Int.toNat 18 = 1000000000000000000 := by decide
  rw [e18]
  -- the later draws of a seed
  have tail : ∀ (ix' seed' : Int), 0 ≤ ix' → ix' ≤ sc.length → ∀ big', 0 ≤ big' → 0 ≤ seed' → seed' < 2147483648 →
    (1 ≤ 3 ∧ 3 ≤ 3) ∧ seed'.natAbs.log2 + (Int.natAbs 16807).log2 < 1000000 ∧ (0 : Int) < 2147483647 ∧ ((seed' * 16807 + 12345) % 2147483647).natAbs.log2 + ((seed' * 16807 + 12345) % 2147483647).natAbs.log2 < 1000000 ∧ (0 : Int) < 2147483629 ∧
      (0 : Int) < 11 ∧ (Int.natAbs 11).log2 < 9000 ∧ 0 < many ∧ Q (R.val (D.int (((seed' * 16807 + 12345) % 2147483647 * ((seed' * 16807 + 12345) % 2147483647) + (seed' * 16807 + 12345) % 2147483647) % 2147483629 / 11 % many))) { sc := sc, ix := ix', big := big', seed := (seed' * 16807 + 12345) % 2147483647 } := by
    intro ix' seed' i0 i1 big' b0 s0 s1
    have hs := m1 (seed' * 16807 + 12345) 2147483647 (by omega) (by decide)
    refine ⟨by decide, mul62 (by omega) (by omega) (by decide) (by decide), by decide, mul62 (by omega) (by omega) (by omega) (by omega), by decide, by decide, by decide, h0, ?_⟩
    exact h _ _ (Int.emod_nonneg _ (by omega)) (Int.emod_lt_of_pos _ h0) ⟨wl, i0, i1, b0, hs.1, by show (seed' * 16807 + 12345) % 2147483647 < 2147483648; omega⟩
  have take : ∀ (ix' big' seed' : Int), 0 ≤ ix' → ix' ≤ sc.length → 0 < big' → 0 ≤ seed' → seed' < 2147483648 → Q (R.val (D.int (big' % many))) { sc := sc, ix := ix', big := big' / many, seed := seed' } := by
    intro ix' big' seed' i0 i1 b0 s0 s1
    exact h _ _ (Int.emod_nonneg _ (by omega)) (Int.emod_lt_of_pos _ h0) ⟨wl, i0, i1, Int.ediv_nonneg (by omega) (by omega), s0, s1⟩
  have last : ∀ (ix' big' seed' : Int), 0 ≤ ix' → ix' ≤ sc.length → 0 ≤ big' → 0 ≤ seed' → seed' < 2147483648 →
    if 0 < big' then 0 < many ∧ (1 ≤ 2 ∧ 2 ≤ 3) ∧ 0 < many ∧ many.natAbs.log2 < 9000 ∧ Q (R.val (D.int (big' % many))) { sc := sc, ix := ix', big := big' / many, seed := seed' }
    else (1 ≤ 3 ∧ 3 ≤ 3) ∧ seed'.natAbs.log2 + (Int.natAbs 16807).log2 < 1000000 ∧ (0 : Int) < 2147483647 ∧ ((seed' * 16807 + 12345) % 2147483647).natAbs.log2 + ((seed' * 16807 + 12345) % 2147483647).natAbs.log2 < 1000000 ∧ (0 : Int) < 2147483629 ∧
      (0 : Int) < 11 ∧ (Int.natAbs 11).log2 < 9000 ∧ 0 < many ∧ Q (R.val (D.int (((seed' * 16807 + 12345) % 2147483647 * ((seed' * 16807 + 12345) % 2147483647) + (seed' * 16807 + 12345) % 2147483647) % 2147483629 / 11 % many))) { sc := sc, ix := ix', big := big', seed := (seed' * 16807 + 12345) % 2147483647 } := by
    intro ix' big' seed' i0 i1 b0 s0 s1
    split
    · exact ⟨h0, by decide, h0, gm, take _ _ _ i0 i1 (by omega) s0 s1⟩
    · exact tail _ _ i0 i1 _ b0 s0 s1
  split
  · split
    · rename_i hb hi
      refine ⟨_, atI_of wi0 hi, by decide, by decide, ?_⟩
      generalize sc[ix.toNat]'(by omega) = x
      have hx : 0 ≤ if x < 0 then -x else x := by split <;> omega
      generalize (if x < 0 then -x else x) = y at hx
      split
      · exact ⟨by decide, last (ix + 1) y seed (by omega) (by omega) hx ws0 ws1⟩
      · refine ⟨by decide, mul62 (by omega) (by omega) (by decide) (by decide), mul62 (by omega) (by omega) (by decide) (by decide), by decide, ?_⟩
        have hs := m1 (seed * 48271 + y * 69621 + (ix + 1)) 2147483647 (by omega) (by decide)
        exact last (ix + 1) big _ (by omega) (by omega) wb hs.1 (by omega)
    · exact last ix big seed wi0 wi1 wb ws0 ws1
  · exact last ix big seed wi0 wi1 wb ws0 ws1

abbrev tM (m : M4) : D := .tup [.int m.p, .int m.q, .int m.r, .int m.s]
abbrev eTab (m : M4) : Exn := ⟨"BadTable", some ("table", tM m)⟩
def fits (m : M4) : Prop := m.p.natAbs ≤ 999 ∧ m.q.natAbs ≤ 999 ∧ m.r.natAbs ≤ 999 ∧ m.s.natAbs ≤ 999
instance (m : M4) : Decidable (fits m) := inferInstanceAs (Decidable (_ ∧ _))
theorem okInts (r : List Int) (k : Nat) : (r.map D.int).all (okD k) = true := List.all_eq_true.mpr fun d hd => by
  obtain ⟨x, _, rfl⟩ := List.mem_map.mp hd
  cases k <;> rfl
theorem atZ {l : List Int} {i : Nat} (h : i < l.length) : atI l (i : Int) = some (l.getD i 0) := by
  rw [atI_of (by omega) (by omega)]
  simp [List.getD_eq_getElem?_getD, List.getElem?_eq_getElem h]
theorem getD_mem {l : List Int} {i : Nat} (h : i < l.length) : l.getD i 0 ∈ l := by
  rw [List.getD_eq_getElem?_getD, List.getElem?_eq_getElem h]
  exact List.getElem_mem h
/-- a cut at a condition -/
theorem cond_cut {t : T} {a b : MS} {s : S} {O : Outs} (c : Bool) (h : ∀ K : Bool → S → Prop, K c s → t s K) (h1 : c = true → a s O) (h2 : c = false → b s O) : sIf t a b s O := by
  refine h _ ?_
  show if c = true then a s O else b s O
  cases c with
  | true => exact h1 rfl
  | false => exact h2 rfl
theorem cut_mid {α : Type} (xs : List α) : cut xs (some 1) (some (-1)) = (xs.drop 1).dropLast := by
  unfold cut sIx
  simp only [if_pos (show (-1 : Int) < 0 by decide), if_neg (show ¬ ((1 : Int) < 0) by decide)]
  rw [List.dropLast_eq_take, List.length_drop, show (1 : Int).toNat = 1 from rfl]
  by_cases h : 1 ≤ xs.length
  · rw [Nat.min_eq_left h, show (-1 + (xs.length : Int)).toNat - 1 = xs.length - 1 - 1 by omega]
  · have : xs = [] := List.eq_nil_of_length_eq_zero (by omega)
    subst this
    rfl
theorem rep2 (n : Nat) : (List.replicate n [D.int 2]).flatten = (List.replicate n 2).map D.int := by
  induction n with
  | zero => rfl
  | succ n ih => rw [List.replicate_succ, List.replicate_succ, List.flatten_cons, ih]; rfl
theorem allL {P : D → Prop} {J : S → Prop} {a : DL.M} {r : Ms} {n : Nat} (ha : ∀ s, J s → ∀ K : DL.R → S → Prop, (∀ ds s', P (.list ds) → J s' → K (.own ds) s') → a s K) (hr : AllMs P J n r) : AllMs P J (n + 1) (msC a r) := fun s hj K hK =>
  ha s hj _ fun ds s' hp hj' => hr s' hj' _ fun ds' s2 hl hds hj2 => hK (.list ds :: ds') s2 (congrArg (· + 1) hl) (fun x hx => by
    rcases List.mem_cons.mp hx with h | h
    · rw [h]; exact hp
    · exact hds x h) hj2
def spec_multiplied : Sem := fun ds w Q => ∃ (a : Int) (b : Int) (c : Int) (d : Int) (e : Int) (f : Int) (g : Int) (k : Int), ds = [.tup [.int a, .int b, .int c, .int d], .tup [.int e, .int f, .int g, .int k]] ∧ (lowV 24000 (a, b) ∧ lowV 24000 (c, d) ∧ e.natAbs.log2 < K0 ∧ f.natAbs.log2 < K0 ∧ g.natAbs.log2 < K0 ∧ k.natAbs.log2 < K0) ∧ Q (.val (.tup [.int (a * e + b * g), .int (a * f + b * k), .int (c * e + d * g), .int (c * f + d * k)])) w
theorem ar_multiplied (a : Int) (b : Int) (c : Int) (d : Int) (e : Int) (f : Int) (g : Int) (k : Int) (w : W) (Q : R → W → Prop) : ar 2 spec_multiplied [.tup [.int a, .int b, .int c, .int d], .tup [.int e, .int f, .int g, .int k]] w Q = ((lowV 24000 (a, b) ∧ lowV 24000 (c, d) ∧ e.natAbs.log2 < K0 ∧ f.natAbs.log2 < K0 ∧ g.natAbs.log2 < K0 ∧ k.natAbs.log2 < K0) ∧ Q (.val (.tup [.int (a * e + b * g), .int (a * f + b * k), .int (c * e + d * g), .int (c * f + d * k)])) w) := by
  apply propext
  constructor
  · rintro ⟨_, a', b', c', d', e', f', g', k', e, h⟩
    simp only [List.cons.injEq, D.str.injEq, D.int.injEq, D.bool.injEq, D.tup.injEq, D.list.injEq, mapInt_inj, Int.natCast_inj, and_true, and_assoc] at e
    first | (obtain ⟨rfl, rfl, rfl, rfl, rfl, rfl, rfl, rfl⟩ := e; exact h) | (obtain ⟨rfl, rfl, rfl, rfl, rfl, rfl, rfl, rfl, _⟩ := e; exact h)
  · intro h
    exact ⟨rfl, a, b, c, d, e, f, g, k, rfl, h⟩
theorem vc_multiplied : ∀ ds w Q, spec_multiplied ds w Q → run 10 (b_multiplied) ds w Q := by
  rintro ds w Q ⟨a, b, c, d, e, f, g, k, rfl, h⟩
  unfold b_multiplied
  simp only [run, runF, DL.get, DL.put, puts, back, mC, mVar, mFzV, mFeed, frz, msN, msC, mBin, mUn, dAdd, dSub, dMul, dDiv, dMod, dPow, dNeg, dCmp, dLt, dLe, dGt, dGe, dEq, dNe, dIn, dIsN, dIsNotN, isN, flatD, okT, truth, tV, tB, tAnd, tOr, tNot, mAnd, mOr, mNot, mIf, mChain, mList, mTup, dIx, mSl, oN, oS, mRev, mRevTo, mCall, mCallF, dLen, dAbs, dInt, dMin2, dMax2, dList, dTup, dSum, dMin, dMax, dMinG, dMaxG, dAll, isTy, mIsI, gV, gSkip, gsN, gsC, gT, srcV, srcR1, srcR2, srcEnum, srcRev, mComp, tYes, isS, isL, mMS, mML, dIndexS, dIndexL, dIndexFrom, mMS2, dCount, dSplit, dJoin, sNil, sSeq, sSet, sAsg, sPar, sRet, retK, sRetN, sIf, sPass, sBrk, sCont, sNever, sExpr, sAug, ownAt, feedAt, intD, sApp, sExt, sSetI, sAugI, sFeed, sFeedA, popD, sPop, sAddPop, sFor, DL.W.set, DL.W.at, DL.R.d, okD, eqD_none_none, eqD_none_bool, eqD_none_int, eqD_none_str, eqD_none_list, eqD_none_tup, eqD_bool_none, eqD_bool_bool, eqD_bool_int, eqD_bool_str, eqD_bool_list, eqD_bool_tup, eqD_int_none, eqD_int_bool, eqD_int_int, eqD_int_str, eqD_int_list, eqD_int_tup, eqD_str_none, eqD_str_bool, eqD_str_int, eqD_str_str, eqD_str_list, eqD_str_tup, eqD_list_none, eqD_list_bool, eqD_list_int, eqD_list_str, eqD_list_list, eqD_list_tup, eqD_tup_none, eqD_tup_bool, eqD_tup_int, eqD_tup_str, eqD_tup_list, eqD_tup_tup, eqDs_nn, eqDs_cc, eqDs_nc, eqDs_cn, List.map_cons, List.map_nil, List.map, List.cons_append, List.nil_append, List.replicate, List.length_cons, List.length_nil, Nat.reduceAdd, Nat.reduceSub, List.all_cons, List.all_nil, Bool.and_true, Bool.true_and, true_and, and_true, atI_map, ex_map, ex_some, List.length_map, beq_int, decide_eq_true_eq, if_true, if_false, Bool.false_eq_true, if_pos, reduceIte, at0, at1, at2, at3, dP, mCallX, mCallB, peekA, evA, evAs, eq_self, sRaise0, sRaise1, sTry, caught, unslot, unheld, mXArg, mXIs, runX, List.contains_cons, List.contains_nil, Slot.isExn, String.reduceBEq, ex_arg, ex_valB, Bool.or_false, Bool.false_or, Bool.or_true, Bool.true_or, Bool.not_false, Bool.not_true]
  obtain ⟨⟨h1, h2, he, hf, hg, hk⟩, q⟩ := h
  have l1 := low_log h1
  have l2 := low_log h2
  have hz : K0 = 12000 := rfl
  dsimp only at l1 l2
  exact ⟨by omega, by omega, by omega, by omega, by omega, by omega, by omega, by omega, by decide, q⟩
def spec_turned_by : Sem := fun ds w Q => ∃ (l : List Int), ds = [.list (l.map D.int)] ∧ Okl l ∧ Q (.val (tM (tb l))) w
theorem ar_turned_by (l : List Int) (w : W) (Q : R → W → Prop) : ar 1 spec_turned_by [.list (l.map D.int)] w Q = (Okl l ∧ Q (.val (tM (tb l))) w) := by
  apply propext
  constructor
  · rintro ⟨_, l', e, h⟩
    simp only [List.cons.injEq, D.str.injEq, D.int.injEq, D.bool.injEq, D.tup.injEq, D.list.injEq, mapInt_inj, Int.natCast_inj, and_true, and_assoc] at e
    first | (obtain rfl := e; exact h) | (obtain ⟨rfl, _⟩ := e; exact h)
  · intro h
    exact ⟨rfl, l, rfl, h⟩
theorem vc_turned_by : ∀ ds w Q, spec_turned_by ds w Q → run 3 (b_turned_by (ar 2 spec_multiplied)) ds w Q := by
  rintro ds w Q ⟨l, rfl, h⟩
  unfold b_turned_by
  simp only [run, runF, DL.get, DL.put, puts, back, mC, mVar, mFzV, mFeed, frz, msN, msC, mBin, mUn, dAdd, dSub, dMul, dDiv, dMod, dPow, dNeg, dCmp, dLt, dLe, dGt, dGe, dEq, dNe, dIn, dIsN, dIsNotN, isN, flatD, okT, truth, tV, tB, tAnd, tOr, tNot, mAnd, mOr, mNot, mIf, mChain, mList, mTup, dIx, mSl, oN, oS, mRev, mRevTo, mCall, mCallF, dLen, dAbs, dInt, dMin2, dMax2, dList, dTup, dSum, dMin, dMax, dMinG, dMaxG, dAll, isTy, mIsI, gV, gSkip, gsN, gsC, gT, srcV, srcR1, srcR2, srcEnum, srcRev, mComp, tYes, isS, isL, mMS, mML, dIndexS, dIndexL, dIndexFrom, mMS2, dCount, dSplit, dJoin, sNil, sSeq, sSet, sAsg, sPar, sRet, retK, sRetN, sIf, sPass, sBrk, sCont, sNever, sExpr, sAug, ownAt, feedAt, intD, sApp, sExt, sSetI, sAugI, sFeed, sFeedA, popD, sPop, sAddPop, sFor, DL.W.set, DL.W.at, DL.R.d, okD, eqD_none_none, eqD_none_bool, eqD_none_int, eqD_none_str, eqD_none_list, eqD_none_tup, eqD_bool_none, eqD_bool_bool, eqD_bool_int, eqD_bool_str, eqD_bool_list, eqD_bool_tup, eqD_int_none, eqD_int_bool, eqD_int_int, eqD_int_str, eqD_int_list, eqD_int_tup, eqD_str_none, eqD_str_bool, eqD_str_int, eqD_str_str, eqD_str_list, eqD_str_tup, eqD_list_none, eqD_list_bool, eqD_list_int, eqD_list_str, eqD_list_list, eqD_list_tup, eqD_tup_none, eqD_tup_bool, eqD_tup_int, eqD_tup_str, eqD_tup_list, eqD_tup_tup, eqDs_nn, eqDs_cc, eqDs_nc, eqDs_cn, List.map_cons, List.map_nil, List.map, List.cons_append, List.nil_append, List.replicate, List.length_cons, List.length_nil, Nat.reduceAdd, Nat.reduceSub, List.all_cons, List.all_nil, Bool.and_true, Bool.true_and, true_and, and_true, atI_map, ex_map, ex_some, List.length_map, beq_int, decide_eq_true_eq, if_true, if_false, Bool.false_eq_true, if_pos, reduceIte, at0, at1, at2, at3, dP, mCallX, mCallB, peekA, evA, evAs, eq_self, sRaise0, sRaise1, sTry, caught, unslot, unheld, mXArg, mXIs, runX, List.contains_cons, List.contains_nil, Slot.isExn, String.reduceBEq, ex_arg, ex_valB, Bool.or_false, Bool.false_or, Bool.or_true, Bool.true_or, Bool.not_false, Bool.not_true, ar_multiplied]
  obtain ⟨hl, q⟩ := h
  have hln := hl.len
  have hz : (2000 : Nat) ≤ LINE := by decide
  refine forL_ix _ (fun n st => ∃ x : Slot, n ≤ l.length ∧ st = ⟨[.val (.list (l.map D.int)), .val (tM (tb (l.take n))), x], w⟩) ?_ ?_ _ ⟨.gone, Nat.zero_le _, rfl⟩
  · rintro n d _ hd ⟨x, hn, rfl⟩ K hK
    obtain ⟨c, hc, rfl⟩ : ∃ c, l[n]? = some c ∧ d = .int c := by
      rw [List.getElem?_map] at hd
      cases e : l[n]? with
      | none => rw [e] at hd; cases hd
      | some c => rw [e] at hd; cases hd; exact ⟨c, rfl, rfl⟩
    obtain ⟨hn', hce⟩ := List.getElem?_eq_some_iff.mp hc
    have et : l.take (n + 1) = l.take n ++ [c] := by rw [List.take_succ_eq_append_getElem hn', hce]
    have hot := hl.take n
    have c1 := hot.low (v := (1, 0)) (by decide) (by decide)
    have c2 := hot.low (v := (0, 1)) (by decide) (by decide)
    have hcl := all_log (hl.all c (List.mem_of_getElem? hc))
    have hcols := tb_cols (l.take n)
    have r1 : lowV 24000 ((tb (l.take n)).p, (tb (l.take n)).q) := by rw [hcols]; exact ⟨c1.1, c2.1⟩
    have r2 : lowV 24000 ((tb (l.take n)).r, (tb (l.take n)).s) := by rw [hcols]; exact ⟨c1.2, c2.2⟩
    rw [et, tb_snoc] at hK
    generalize tb (l.take n) = m at *
    have e : m.go c = ⟨m.p * c + m.q * 1, m.p * -1 + m.q * 0, m.r * c + m.s * 1, m.r * -1 + m.s * 0⟩ := by
      unfold M4.go
      rw [M4.mk.injEq]
      omega
    rw [e] at hK
    simp only [run, runF, DL.get, DL.put, puts, back, mC, mVar, mFzV, mFeed, frz, msN, msC, mBin, mUn, dAdd, dSub, dMul, dDiv, dMod, dPow, dNeg, dCmp, dLt, dLe, dGt, dGe, dEq, dNe, dIn, dIsN, dIsNotN, isN, flatD, okT, truth, tV, tB, tAnd, tOr, tNot, mAnd, mOr, mNot, mIf, mChain, mList, mTup, dIx, mSl, oN, oS, mRev, mRevTo, mCall, mCallF, dLen, dAbs, dInt, dMin2, dMax2, dList, dTup, dSum, dMin, dMax, dMinG, dMaxG, dAll, isTy, mIsI, gV, gSkip, gsN, gsC, gT, srcV, srcR1, srcR2, srcEnum, srcRev, mComp, tYes, isS, isL, mMS, mML, dIndexS, dIndexL, dIndexFrom, mMS2, dCount, dSplit, dJoin, sNil, sSeq, sSet, sAsg, sPar, sRet, retK, sRetN, sIf, sPass, sBrk, sCont, sNever, sExpr, sAug, ownAt, feedAt, intD, sApp, sExt, sSetI, sAugI, sFeed, sFeedA, popD, sPop, sAddPop, sFor, DL.W.set, DL.W.at, DL.R.d, okD, eqD_none_none, eqD_none_bool, eqD_none_int, eqD_none_str, eqD_none_list, eqD_none_tup, eqD_bool_none, eqD_bool_bool, eqD_bool_int, eqD_bool_str, eqD_bool_list, eqD_bool_tup, eqD_int_none, eqD_int_bool, eqD_int_int, eqD_int_str, eqD_int_list, eqD_int_tup, eqD_str_none, eqD_str_bool, eqD_str_int, eqD_str_str, eqD_str_list, eqD_str_tup, eqD_list_none, eqD_list_bool, eqD_list_int, eqD_list_str, eqD_list_list, eqD_list_tup, eqD_tup_none, eqD_tup_bool, eqD_tup_int, eqD_tup_str, eqD_tup_list, eqD_tup_tup, eqDs_nn, eqDs_cc, eqDs_nc, eqDs_cn, List.map_cons, List.map_nil, List.map, List.cons_append, List.nil_append, List.replicate, List.length_cons, List.length_nil, Nat.reduceAdd, Nat.reduceSub, List.all_cons, List.all_nil, Bool.and_true, Bool.true_and, true_and, and_true, atI_map, ex_map, ex_some, List.length_map, beq_int, decide_eq_true_eq, if_true, if_false, Bool.false_eq_true, if_pos, reduceIte, at0, at1, at2, at3, dP, mCallX, mCallB, peekA, evA, evAs, eq_self, sRaise0, sRaise1, sTry, caught, unslot, unheld, mXArg, mXIs, runX, List.contains_cons, List.contains_nil, Slot.isExn, String.reduceBEq, ex_arg, ex_valB, Bool.or_false, Bool.false_or, Bool.or_true, Bool.true_or, Bool.not_false, Bool.not_true, ar_multiplied]
    exact ⟨by decide, ⟨r1, r2, hcl, by decide, by decide, by decide⟩, hK _ ⟨_, hn', rfl⟩⟩
  · rintro _ ⟨x, hn, rfl⟩
    simp only [run, runF, DL.get, DL.put, puts, back, mC, mVar, mFzV, mFeed, frz, msN, msC, mBin, mUn, dAdd, dSub, dMul, dDiv, dMod, dPow, dNeg, dCmp, dLt, dLe, dGt, dGe, dEq, dNe, dIn, dIsN, dIsNotN, isN, flatD, okT, truth, tV, tB, tAnd, tOr, tNot, mAnd, mOr, mNot, mIf, mChain, mList, mTup, dIx, mSl, oN, oS, mRev, mRevTo, mCall, mCallF, dLen, dAbs, dInt, dMin2, dMax2, dList, dTup, dSum, dMin, dMax, dMinG, dMaxG, dAll, isTy, mIsI, gV, gSkip, gsN, gsC, gT, srcV, srcR1, srcR2, srcEnum, srcRev, mComp, tYes, isS, isL, mMS, mML, dIndexS, dIndexL, dIndexFrom, mMS2, dCount, dSplit, dJoin, sNil, sSeq, sSet, sAsg, sPar, sRet, retK, sRetN, sIf, sPass, sBrk, sCont, sNever, sExpr, sAug, ownAt, feedAt, intD, sApp, sExt, sSetI, sAugI, sFeed, sFeedA, popD, sPop, sAddPop, sFor, DL.W.set, DL.W.at, DL.R.d, okD, eqD_none_none, eqD_none_bool, eqD_none_int, eqD_none_str, eqD_none_list, eqD_none_tup, eqD_bool_none, eqD_bool_bool, eqD_bool_int, eqD_bool_str, eqD_bool_list, eqD_bool_tup, eqD_int_none, eqD_int_bool, eqD_int_int, eqD_int_str, eqD_int_list, eqD_int_tup, eqD_str_none, eqD_str_bool, eqD_str_int, eqD_str_str, eqD_str_list, eqD_str_tup, eqD_list_none, eqD_list_bool, eqD_list_int, eqD_list_str, eqD_list_list, eqD_list_tup, eqD_tup_none, eqD_tup_bool, eqD_tup_int, eqD_tup_str, eqD_tup_list, eqD_tup_tup, eqDs_nn, eqDs_cc, eqDs_nc, eqDs_cn, List.map_cons, List.map_nil, List.map, List.cons_append, List.nil_append, List.replicate, List.length_cons, List.length_nil, Nat.reduceAdd, Nat.reduceSub, List.all_cons, List.all_nil, Bool.and_true, Bool.true_and, true_and, and_true, atI_map, ex_map, ex_some, List.length_map, beq_int, decide_eq_true_eq, if_true, if_false, Bool.false_eq_true, if_pos, reduceIte, at0, at1, at2, at3, dP, mCallX, mCallB, peekA, evA, evAs, eq_self, sRaise0, sRaise1, sTry, caught, unslot, unheld, mXArg, mXIs, runX, List.contains_cons, List.contains_nil, Slot.isExn, String.reduceBEq, ex_arg, ex_valB, Bool.or_false, Bool.false_or, Bool.or_true, Bool.true_or, Bool.not_false, Bool.not_true]
    rw [List.take_length]
    exact q
def spec__law_put : Sem := fun ds w Q => ∃ (l : List Int) (x : Int) (y : Int), ds = [.list (l.map D.int), .int x, .int y] ∧ Okl l ∧ x.natAbs ≤ 1 ∧ y.natAbs ≤ 1 ∧ Q (.own [.int (pt l (x, y)).1, .int (pt l (x, y)).2]) w
theorem ar__law_put (l : List Int) (x : Int) (y : Int) (w : W) (Q : R → W → Prop) : ar 3 spec__law_put [.list (l.map D.int), .int x, .int y] w Q = (Okl l ∧ x.natAbs ≤ 1 ∧ y.natAbs ≤ 1 ∧ Q (.own [.int (pt l (x, y)).1, .int (pt l (x, y)).2]) w) := by
  apply propext
  constructor
  · rintro ⟨_, l', x', y', e, h⟩
    simp only [List.cons.injEq, D.str.injEq, D.int.injEq, D.bool.injEq, D.tup.injEq, D.list.injEq, mapInt_inj, Int.natCast_inj, and_true, and_assoc] at e
    first | (obtain ⟨rfl, rfl, rfl⟩ := e; exact h) | (obtain ⟨rfl, rfl, rfl, _⟩ := e; exact h)
  · intro h
    exact ⟨rfl, l, x, y, rfl, h⟩
theorem vc__law_put : ∀ ds w Q, spec__law_put ds w Q → run 6 (b__law_put) ds w Q := by
  rintro ds w Q ⟨l, x, y, rfl, h⟩
  unfold b__law_put
  simp only [run, runF, DL.get, DL.put, puts, back, mC, mVar, mFzV, mFeed, frz, msN, msC, mBin, mUn, dAdd, dSub, dMul, dDiv, dMod, dPow, dNeg, dCmp, dLt, dLe, dGt, dGe, dEq, dNe, dIn, dIsN, dIsNotN, isN, flatD, okT, truth, tV, tB, tAnd, tOr, tNot, mAnd, mOr, mNot, mIf, mChain, mList, mTup, dIx, mSl, oN, oS, mRev, mRevTo, mCall, mCallF, dLen, dAbs, dInt, dMin2, dMax2, dList, dTup, dSum, dMin, dMax, dMinG, dMaxG, dAll, isTy, mIsI, gV, gSkip, gsN, gsC, gT, srcV, srcR1, srcR2, srcEnum, srcRev, mComp, tYes, isS, isL, mMS, mML, dIndexS, dIndexL, dIndexFrom, mMS2, dCount, dSplit, dJoin, sNil, sSeq, sSet, sAsg, sPar, sRet, retK, sRetN, sIf, sPass, sBrk, sCont, sNever, sExpr, sAug, ownAt, feedAt, intD, sApp, sExt, sSetI, sAugI, sFeed, sFeedA, popD, sPop, sAddPop, sFor, DL.W.set, DL.W.at, DL.R.d, okD, eqD_none_none, eqD_none_bool, eqD_none_int, eqD_none_str, eqD_none_list, eqD_none_tup, eqD_bool_none, eqD_bool_bool, eqD_bool_int, eqD_bool_str, eqD_bool_list, eqD_bool_tup, eqD_int_none, eqD_int_bool, eqD_int_int, eqD_int_str, eqD_int_list, eqD_int_tup, eqD_str_none, eqD_str_bool, eqD_str_int, eqD_str_str, eqD_str_list, eqD_str_tup, eqD_list_none, eqD_list_bool, eqD_list_int, eqD_list_str, eqD_list_list, eqD_list_tup, eqD_tup_none, eqD_tup_bool, eqD_tup_int, eqD_tup_str, eqD_tup_list, eqD_tup_tup, eqDs_nn, eqDs_cc, eqDs_nc, eqDs_cn, List.map_cons, List.map_nil, List.map, List.cons_append, List.nil_append, List.replicate, List.length_cons, List.length_nil, Nat.reduceAdd, Nat.reduceSub, List.all_cons, List.all_nil, Bool.and_true, Bool.true_and, true_and, and_true, atI_map, ex_map, ex_some, List.length_map, beq_int, decide_eq_true_eq, if_true, if_false, Bool.false_eq_true, if_pos, reduceIte, at0, at1, at2, at3, dP, mCallX, mCallB, peekA, evA, evAs, eq_self, sRaise0, sRaise1, sTry, caught, unslot, unheld, mXArg, mXIs, runX, List.contains_cons, List.contains_nil, Slot.isExn, String.reduceBEq, ex_arg, ex_valB, Bool.or_false, Bool.false_or, Bool.or_true, Bool.true_or, Bool.not_false, Bool.not_true]
  obtain ⟨hl, hx, hy, q⟩ := h
  have hln := hl.len
  have hz : (2000 : Nat) ≤ LINE := by decide
  refine ⟨by omega, ?_⟩
  refine forL_ran (fun n st => ∃ a b c : Slot, st = ⟨[.val (.list (l.map D.int)), .val (.int (pt (l.drop (l.length - n)) (x, y)).1), .val (.int (pt (l.drop (l.length - n)) (x, y)).2), a, b, c], w⟩) _ ⟨.gone, .gone, .gone, ?_⟩ ?_ ?_
  · rw [Nat.sub_zero, List.drop_length]
    rfl
  · rintro n _ hn ⟨a, b, c, rfl⟩ K hK
    have hk : l.length - (n + 1) < l.length := by omega
    have e2 : pt (l.drop (l.length - (n + 1))) (x, y) = ptS (l.getD (l.length - (n + 1)) 0) (pt (l.drop (l.length - n)) (x, y)) := by
      rw [List.drop_eq_getElem_cons hk, List.getD_eq_getElem?_getD, List.getElem?_eq_getElem hk, show l.length - (n + 1) + 1 = l.length - n by omega]
      rfl
    rw [e2] at hK
    have hg := atZ hk
    have hcl := all_log (hl.all _ (getD_mem hk))
    have hlow := low_log ((hl.drop (l.length - n)).low (v := (x, y)) hx hy)
    generalize l.getD (l.length - (n + 1)) 0 = v at *
    generalize pt (l.drop (l.length - n)) (x, y) = u at *
    have hz : K0 = 12000 := rfl
    simp only [run, runF, DL.get, DL.put, puts, back, mC, mVar, mFzV, mFeed, frz, msN, msC, mBin, mUn, dAdd, dSub, dMul, dDiv, dMod, dPow, dNeg, dCmp, dLt, dLe, dGt, dGe, dEq, dNe, dIn, dIsN, dIsNotN, isN, flatD, okT, truth, tV, tB, tAnd, tOr, tNot, mAnd, mOr, mNot, mIf, mChain, mList, mTup, dIx, mSl, oN, oS, mRev, mRevTo, mCall, mCallF, dLen, dAbs, dInt, dMin2, dMax2, dList, dTup, dSum, dMin, dMax, dMinG, dMaxG, dAll, isTy, mIsI, gV, gSkip, gsN, gsC, gT, srcV, srcR1, srcR2, srcEnum, srcRev, mComp, tYes, isS, isL, mMS, mML, dIndexS, dIndexL, dIndexFrom, mMS2, dCount, dSplit, dJoin, sNil, sSeq, sSet, sAsg, sPar, sRet, retK, sRetN, sIf, sPass, sBrk, sCont, sNever, sExpr, sAug, ownAt, feedAt, intD, sApp, sExt, sSetI, sAugI, sFeed, sFeedA, popD, sPop, sAddPop, sFor, DL.W.set, DL.W.at, DL.R.d, okD, eqD_none_none, eqD_none_bool, eqD_none_int, eqD_none_str, eqD_none_list, eqD_none_tup, eqD_bool_none, eqD_bool_bool, eqD_bool_int, eqD_bool_str, eqD_bool_list, eqD_bool_tup, eqD_int_none, eqD_int_bool, eqD_int_int, eqD_int_str, eqD_int_list, eqD_int_tup, eqD_str_none, eqD_str_bool, eqD_str_int, eqD_str_str, eqD_str_list, eqD_str_tup, eqD_list_none, eqD_list_bool, eqD_list_int, eqD_list_str, eqD_list_list, eqD_list_tup, eqD_tup_none, eqD_tup_bool, eqD_tup_int, eqD_tup_str, eqD_tup_list, eqD_tup_tup, eqDs_nn, eqDs_cc, eqDs_nc, eqDs_cn, List.map_cons, List.map_nil, List.map, List.cons_append, List.nil_append, List.replicate, List.length_cons, List.length_nil, Nat.reduceAdd, Nat.reduceSub, List.all_cons, List.all_nil, Bool.and_true, Bool.true_and, true_and, and_true, atI_map, ex_map, ex_some, List.length_map, beq_int, decide_eq_true_eq, if_true, if_false, Bool.false_eq_true, if_pos, reduceIte, at0, at1, at2, at3, dP, mCallX, mCallB, peekA, evA, evAs, eq_self, sRaise0, sRaise1, sTry, caught, unslot, unheld, mXArg, mXIs, runX, List.contains_cons, List.contains_nil, Slot.isExn, String.reduceBEq, ex_arg, ex_valB, Bool.or_false, Bool.false_or, Bool.or_true, Bool.true_or, Bool.not_false, Bool.not_true, Int.zero_add]
    rw [show (l.length : Int) - 1 - (n : Int) = ((l.length - (n + 1) : Nat) : Int) by omega]
    exact ⟨_, hg, by omega, hK _ ⟨_, _, _, rfl⟩⟩
  · rintro _ ⟨a, b, c, rfl⟩
    rw [Int.toNat_natCast, Nat.sub_self] at *
    simp only [run, runF, DL.get, DL.put, puts, back, mC, mVar, mFzV, mFeed, frz, msN, msC, mBin, mUn, dAdd, dSub, dMul, dDiv, dMod, dPow, dNeg, dCmp, dLt, dLe, dGt, dGe, dEq, dNe, dIn, dIsN, dIsNotN, isN, flatD, okT, truth, tV, tB, tAnd, tOr, tNot, mAnd, mOr, mNot, mIf, mChain, mList, mTup, dIx, mSl, oN, oS, mRev, mRevTo, mCall, mCallF, dLen, dAbs, dInt, dMin2, dMax2, dList, dTup, dSum, dMin, dMax, dMinG, dMaxG, dAll, isTy, mIsI, gV, gSkip, gsN, gsC, gT, srcV, srcR1, srcR2, srcEnum, srcRev, mComp, tYes, isS, isL, mMS, mML, dIndexS, dIndexL, dIndexFrom, mMS2, dCount, dSplit, dJoin, sNil, sSeq, sSet, sAsg, sPar, sRet, retK, sRetN, sIf, sPass, sBrk, sCont, sNever, sExpr, sAug, ownAt, feedAt, intD, sApp, sExt, sSetI, sAugI, sFeed, sFeedA, popD, sPop, sAddPop, sFor, DL.W.set, DL.W.at, DL.R.d, okD, eqD_none_none, eqD_none_bool, eqD_none_int, eqD_none_str, eqD_none_list, eqD_none_tup, eqD_bool_none, eqD_bool_bool, eqD_bool_int, eqD_bool_str, eqD_bool_list, eqD_bool_tup, eqD_int_none, eqD_int_bool, eqD_int_int, eqD_int_str, eqD_int_list, eqD_int_tup, eqD_str_none, eqD_str_bool, eqD_str_int, eqD_str_str, eqD_str_list, eqD_str_tup, eqD_list_none, eqD_list_bool, eqD_list_int, eqD_list_str, eqD_list_list, eqD_list_tup, eqD_tup_none, eqD_tup_bool, eqD_tup_int, eqD_tup_str, eqD_tup_list, eqD_tup_tup, eqDs_nn, eqDs_cc, eqDs_nc, eqDs_cn, List.map_cons, List.map_nil, List.map, List.cons_append, List.nil_append, List.replicate, List.length_cons, List.length_nil, Nat.reduceAdd, Nat.reduceSub, List.all_cons, List.all_nil, Bool.and_true, Bool.true_and, true_and, and_true, atI_map, ex_map, ex_some, List.length_map, beq_int, decide_eq_true_eq, if_true, if_false, Bool.false_eq_true, if_pos, reduceIte, at0, at1, at2, at3, dP, mCallX, mCallB, peekA, evA, evAs, eq_self, sRaise0, sRaise1, sTry, caught, unslot, unheld, mXArg, mXIs, runX, List.contains_cons, List.contains_nil, Slot.isExn, String.reduceBEq, ex_arg, ex_valB, Bool.or_false, Bool.false_or, Bool.or_true, Bool.true_or, Bool.not_false, Bool.not_true]
    exact ⟨by decide, q⟩
def spec__law_table : Sem := fun ds w Q => ∃ (l : List Int), ds = [.list (l.map D.int)] ∧ Okl l ∧ Q (.val (tM (tb l))) w
theorem ar__law_table (l : List Int) (w : W) (Q : R → W → Prop) : ar 1 spec__law_table [.list (l.map D.int)] w Q = (Okl l ∧ Q (.val (tM (tb l))) w) := by
  apply propext
  constructor
  · rintro ⟨_, l', e, h⟩
    simp only [List.cons.injEq, D.str.injEq, D.int.injEq, D.bool.injEq, D.tup.injEq, D.list.injEq, mapInt_inj, Int.natCast_inj, and_true, and_assoc] at e
    first | (obtain rfl := e; exact h) | (obtain ⟨rfl, _⟩ := e; exact h)
  · intro h
    exact ⟨rfl, l, rfl, h⟩
theorem vc__law_table : ∀ ds w Q, spec__law_table ds w Q → run 3 (b__law_table (ar 3 spec__law_put)) ds w Q := by
  rintro ds w Q ⟨l, rfl, h⟩
  unfold b__law_table
  simp only [run, runF, DL.get, DL.put, puts, back, mC, mVar, mFzV, mFeed, frz, msN, msC, mBin, mUn, dAdd, dSub, dMul, dDiv, dMod, dPow, dNeg, dCmp, dLt, dLe, dGt, dGe, dEq, dNe, dIn, dIsN, dIsNotN, isN, flatD, okT, truth, tV, tB, tAnd, tOr, tNot, mAnd, mOr, mNot, mIf, mChain, mList, mTup, dIx, mSl, oN, oS, mRev, mRevTo, mCall, mCallF, dLen, dAbs, dInt, dMin2, dMax2, dList, dTup, dSum, dMin, dMax, dMinG, dMaxG, dAll, isTy, mIsI, gV, gSkip, gsN, gsC, gT, srcV, srcR1, srcR2, srcEnum, srcRev, mComp, tYes, isS, isL, mMS, mML, dIndexS, dIndexL, dIndexFrom, mMS2, dCount, dSplit, dJoin, sNil, sSeq, sSet, sAsg, sPar, sRet, retK, sRetN, sIf, sPass, sBrk, sCont, sNever, sExpr, sAug, ownAt, feedAt, intD, sApp, sExt, sSetI, sAugI, sFeed, sFeedA, popD, sPop, sAddPop, sFor, DL.W.set, DL.W.at, DL.R.d, okD, eqD_none_none, eqD_none_bool, eqD_none_int, eqD_none_str, eqD_none_list, eqD_none_tup, eqD_bool_none, eqD_bool_bool, eqD_bool_int, eqD_bool_str, eqD_bool_list, eqD_bool_tup, eqD_int_none, eqD_int_bool, eqD_int_int, eqD_int_str, eqD_int_list, eqD_int_tup, eqD_str_none, eqD_str_bool, eqD_str_int, eqD_str_str, eqD_str_list, eqD_str_tup, eqD_list_none, eqD_list_bool, eqD_list_int, eqD_list_str, eqD_list_list, eqD_list_tup, eqD_tup_none, eqD_tup_bool, eqD_tup_int, eqD_tup_str, eqD_tup_list, eqD_tup_tup, eqDs_nn, eqDs_cc, eqDs_nc, eqDs_cn, List.map_cons, List.map_nil, List.map, List.cons_append, List.nil_append, List.replicate, List.length_cons, List.length_nil, Nat.reduceAdd, Nat.reduceSub, List.all_cons, List.all_nil, Bool.and_true, Bool.true_and, true_and, and_true, atI_map, ex_map, ex_some, List.length_map, beq_int, decide_eq_true_eq, if_true, if_false, Bool.false_eq_true, if_pos, reduceIte, at0, at1, at2, at3, dP, mCallX, mCallB, peekA, evA, evAs, eq_self, sRaise0, sRaise1, sTry, caught, unslot, unheld, mXArg, mXIs, runX, List.contains_cons, List.contains_nil, Slot.isExn, String.reduceBEq, ex_arg, ex_valB, Bool.or_false, Bool.false_or, Bool.or_true, Bool.true_or, Bool.not_false, Bool.not_true, ar__law_put]
  obtain ⟨hl, q⟩ := h
  rw [tb_cols] at q
  exact ⟨hl, by decide, by decide, hl, by decide, by decide, by decide, q⟩
def spec__law_signed : Sem := fun ds w Q => ∃ (l : List Int) (k : Int), ds = [.list (l.map D.int), .int k] ∧ Okl l ∧ (k = 1 ∨ k = -1) ∧ Q (.val (tM ((tb l).sg k))) w
theorem ar__law_signed (l : List Int) (k : Int) (w : W) (Q : R → W → Prop) : ar 2 spec__law_signed [.list (l.map D.int), .int k] w Q = (Okl l ∧ (k = 1 ∨ k = -1) ∧ Q (.val (tM ((tb l).sg k))) w) := by
  apply propext
  constructor
  · rintro ⟨_, l', k', e, h⟩
    simp only [List.cons.injEq, D.str.injEq, D.int.injEq, D.bool.injEq, D.tup.injEq, D.list.injEq, mapInt_inj, Int.natCast_inj, and_true, and_assoc] at e
    first | (obtain ⟨rfl, rfl⟩ := e; exact h) | (obtain ⟨rfl, rfl, _⟩ := e; exact h)
  · intro h
    exact ⟨rfl, l, k, rfl, h⟩
theorem vc__law_signed : ∀ ds w Q, spec__law_signed ds w Q → run 3 (b__law_signed (ar 1 spec__law_table)) ds w Q := by
  rintro ds w Q ⟨l, k, rfl, h⟩
  unfold b__law_signed
  simp only [run, runF, DL.get, DL.put, puts, back, mC, mVar, mFzV, mFeed, frz, msN, msC, mBin, mUn, dAdd, dSub, dMul, dDiv, dMod, dPow, dNeg, dCmp, dLt, dLe, dGt, dGe, dEq, dNe, dIn, dIsN, dIsNotN, isN, flatD, okT, truth, tV, tB, tAnd, tOr, tNot, mAnd, mOr, mNot, mIf, mChain, mList, mTup, dIx, mSl, oN, oS, mRev, mRevTo, mCall, mCallF, dLen, dAbs, dInt, dMin2, dMax2, dList, dTup, dSum, dMin, dMax, dMinG, dMaxG, dAll, isTy, mIsI, gV, gSkip, gsN, gsC, gT, srcV, srcR1, srcR2, srcEnum, srcRev, mComp, tYes, isS, isL, mMS, mML, dIndexS, dIndexL, dIndexFrom, mMS2, dCount, dSplit, dJoin, sNil, sSeq, sSet, sAsg, sPar, sRet, retK, sRetN, sIf, sPass, sBrk, sCont, sNever, sExpr, sAug, ownAt, feedAt, intD, sApp, sExt, sSetI, sAugI, sFeed, sFeedA, popD, sPop, sAddPop, sFor, DL.W.set, DL.W.at, DL.R.d, okD, eqD_none_none, eqD_none_bool, eqD_none_int, eqD_none_str, eqD_none_list, eqD_none_tup, eqD_bool_none, eqD_bool_bool, eqD_bool_int, eqD_bool_str, eqD_bool_list, eqD_bool_tup, eqD_int_none, eqD_int_bool, eqD_int_int, eqD_int_str, eqD_int_list, eqD_int_tup, eqD_str_none, eqD_str_bool, eqD_str_int, eqD_str_str, eqD_str_list, eqD_str_tup, eqD_list_none, eqD_list_bool, eqD_list_int, eqD_list_str, eqD_list_list, eqD_list_tup, eqD_tup_none, eqD_tup_bool, eqD_tup_int, eqD_tup_str, eqD_tup_list, eqD_tup_tup, eqDs_nn, eqDs_cc, eqDs_nc, eqDs_cn, List.map_cons, List.map_nil, List.map, List.cons_append, List.nil_append, List.replicate, List.length_cons, List.length_nil, Nat.reduceAdd, Nat.reduceSub, List.all_cons, List.all_nil, Bool.and_true, Bool.true_and, true_and, and_true, atI_map, ex_map, ex_some, List.length_map, beq_int, decide_eq_true_eq, if_true, if_false, Bool.false_eq_true, if_pos, reduceIte, at0, at1, at2, at3, dP, mCallX, mCallB, peekA, evA, evAs, eq_self, sRaise0, sRaise1, sTry, caught, unslot, unheld, mXArg, mXIs, runX, List.contains_cons, List.contains_nil, Slot.isExn, String.reduceBEq, ex_arg, ex_valB, Bool.or_false, Bool.false_or, Bool.or_true, Bool.true_or, Bool.not_false, Bool.not_true, ar__law_table]
  obtain ⟨hl, hk, q⟩ := h
  have c1 := low_log (hl.low (v := (1, 0)) (by decide) (by decide))
  have c2 := low_log (hl.low (v := (0, 1)) (by decide) (by decide))
  have hkl : k.natAbs.log2 = 0 := by rcases hk with rfl | rfl <;> decide
  have hcols := tb_cols l
  have r1 : (tb l).p.natAbs.log2 ≤ 24000 := by rw [hcols]; exact c1.1
  have r2 : (tb l).q.natAbs.log2 ≤ 24000 := by rw [hcols]; exact c2.1
  have r3 : (tb l).r.natAbs.log2 ≤ 24000 := by rw [hcols]; exact c1.2
  have r4 : (tb l).s.natAbs.log2 ≤ 24000 := by rw [hcols]; exact c2.2
  exact ⟨hl, by omega, by omega, by omega, by omega, by decide, q⟩
theorem abs_eq (x : Int) : (if x < 0 then -x else x) = (x.natAbs : Int) := by split <;> omega
theorem max_fits {p q r s m : Int} (h : m ∈ [(p.natAbs : Int), q.natAbs, r.natAbs, s.natAbs]) (hle : ∀ y ∈ [(p.natAbs : Int), q.natAbs, r.natAbs, s.natAbs], y ≤ m) : decide (m ≤ 999) = decide (fits ⟨p, q, r, s⟩) := by
  have h1 := hle p.natAbs (by simp)
  have h2 := hle q.natAbs (by simp)
  have h3 := hle r.natAbs (by simp)
  have h4 := hle s.natAbs (by simp)
  simp only [List.mem_cons, List.not_mem_nil, or_false] at h
  rw [decide_eq_decide]
  unfold fits
  dsimp only
  omega
def spec__law_fits : Sem := fun ds w Q => ∃ (p : Int) (q : Int) (r : Int) (s : Int), ds = [.tup [.int p, .int q, .int r, .int s]] ∧ Q (.val (.bool (decide (fits ⟨p, q, r, s⟩)))) w
theorem ar__law_fits (p : Int) (q : Int) (r : Int) (s : Int) (w : W) (Q : R → W → Prop) : ar 1 spec__law_fits [.tup [.int p, .int q, .int r, .int s]] w Q = (Q (.val (.bool (decide (fits ⟨p, q, r, s⟩)))) w) := by
  apply propext
  constructor
  · rintro ⟨_, p', q', r', s', e, h⟩
    simp only [List.cons.injEq, D.str.injEq, D.int.injEq, D.bool.injEq, D.tup.injEq, D.list.injEq, mapInt_inj, Int.natCast_inj, and_true, and_assoc] at e
    first | (obtain ⟨rfl, rfl, rfl, rfl⟩ := e; exact h) | (obtain ⟨rfl, rfl, rfl, rfl, _⟩ := e; exact h)
  · intro h
    exact ⟨rfl, p, q, r, s, rfl, h⟩
theorem vc__law_fits : ∀ ds w Q, spec__law_fits ds w Q → run 2 (b__law_fits) ds w Q := by
  rintro ds w Q ⟨p, q, r, s, rfl, h⟩
  unfold b__law_fits
  simp only [run, runF, DL.get, DL.put, puts, back, mC, mVar, mFzV, mFeed, frz, msN, msC, mBin, mUn, dAdd, dSub, dMul, dDiv, dMod, dPow, dNeg, dCmp, dLt, dLe, dGt, dGe, dEq, dNe, dIn, dIsN, dIsNotN, isN, flatD, okT, truth, tV, tB, tAnd, tOr, tNot, mAnd, mOr, mNot, mIf, mChain, mList, mTup, dIx, mSl, oN, oS, mRev, mRevTo, mCall, mCallF, dLen, dAbs, dInt, dMin2, dMax2, dList, dTup, dSum, dMin, dMax, dMinG, dMaxG, dAll, isTy, mIsI, gV, gSkip, gsN, gsC, gT, srcV, srcR1, srcR2, srcEnum, srcRev, mComp, tYes, isS, isL, mMS, mML, dIndexS, dIndexL, dIndexFrom, mMS2, dCount, dSplit, dJoin, sNil, sSeq, sSet, sAsg, sPar, sRet, retK, sRetN, sIf, sPass, sBrk, sCont, sNever, sExpr, sAug, ownAt, feedAt, intD, sApp, sExt, sSetI, sAugI, sFeed, sFeedA, popD, sPop, sAddPop, sFor, DL.W.set, DL.W.at, DL.R.d, okD, eqD_none_none, eqD_none_bool, eqD_none_int, eqD_none_str, eqD_none_list, eqD_none_tup, eqD_bool_none, eqD_bool_bool, eqD_bool_int, eqD_bool_str, eqD_bool_list, eqD_bool_tup, eqD_int_none, eqD_int_bool, eqD_int_int, eqD_int_str, eqD_int_list, eqD_int_tup, eqD_str_none, eqD_str_bool, eqD_str_int, eqD_str_str, eqD_str_list, eqD_str_tup, eqD_list_none, eqD_list_bool, eqD_list_int, eqD_list_str, eqD_list_list, eqD_list_tup, eqD_tup_none, eqD_tup_bool, eqD_tup_int, eqD_tup_str, eqD_tup_list, eqD_tup_tup, eqDs_nn, eqDs_cc, eqDs_nc, eqDs_cn, List.map_cons, List.map_nil, List.map, List.cons_append, List.nil_append, List.replicate, List.length_cons, List.length_nil, Nat.reduceAdd, Nat.reduceSub, List.all_cons, List.all_nil, Bool.and_true, Bool.true_and, true_and, and_true, atI_map, ex_map, ex_some, List.length_map, beq_int, decide_eq_true_eq, if_true, if_false, Bool.false_eq_true, if_pos, reduceIte, at0, at1, at2, at3, dP, mCallX, mCallB, peekA, evA, evAs, eq_self, sRaise0, sRaise1, sTry, caught, unslot, unheld, mXArg, mXIs, runX, List.contains_cons, List.contains_nil, Slot.isExn, String.reduceBEq, ex_arg, ex_valB, Bool.or_false, Bool.false_or, Bool.or_true, Bool.true_or, Bool.not_false, Bool.not_true]
  refine compL_f _ (fun d => match d with | .int i => .int i.natAbs | _ => .none) (fun st => ∃ x, st = ⟨[.val (.tup [.int p, .int q, .int r, .int s]), x], w⟩) ⟨_, rfl⟩ (show 4 ≤ LINE by decide) ?_ ?_
  · rintro d _ hd ⟨x, rfl⟩ C K hC hK
    obtain ⟨i, hi, rfl⟩ := List.mem_map.mp (show d ∈ [p, q, r, s].map D.int from hd)
    simp only [run, runF, DL.get, DL.put, puts, back, mC, mVar, mFzV, mFeed, frz, msN, msC, mBin, mUn, dAdd, dSub, dMul, dDiv, dMod, dPow, dNeg, dCmp, dLt, dLe, dGt, dGe, dEq, dNe, dIn, dIsN, dIsNotN, isN, flatD, okT, truth, tV, tB, tAnd, tOr, tNot, mAnd, mOr, mNot, mIf, mChain, mList, mTup, dIx, mSl, oN, oS, mRev, mRevTo, mCall, mCallF, dLen, dAbs, dInt, dMin2, dMax2, dList, dTup, dSum, dMin, dMax, dMinG, dMaxG, dAll, isTy, mIsI, gV, gSkip, gsN, gsC, gT, srcV, srcR1, srcR2, srcEnum, srcRev, mComp, tYes, isS, isL, mMS, mML, dIndexS, dIndexL, dIndexFrom, mMS2, dCount, dSplit, dJoin, sNil, sSeq, sSet, sAsg, sPar, sRet, retK, sRetN, sIf, sPass, sBrk, sCont, sNever, sExpr, sAug, ownAt, feedAt, intD, sApp, sExt, sSetI, sAugI, sFeed, sFeedA, popD, sPop, sAddPop, sFor, DL.W.set, DL.W.at, DL.R.d, okD, eqD_none_none, eqD_none_bool, eqD_none_int, eqD_none_str, eqD_none_list, eqD_none_tup, eqD_bool_none, eqD_bool_bool, eqD_bool_int, eqD_bool_str, eqD_bool_list, eqD_bool_tup, eqD_int_none, eqD_int_bool, eqD_int_int, eqD_int_str, eqD_int_list, eqD_int_tup, eqD_str_none, eqD_str_bool, eqD_str_int, eqD_str_str, eqD_str_list, eqD_str_tup, eqD_list_none, eqD_list_bool, eqD_list_int, eqD_list_str, eqD_list_list, eqD_list_tup, eqD_tup_none, eqD_tup_bool, eqD_tup_int, eqD_tup_str, eqD_tup_list, eqD_tup_tup, eqDs_nn, eqDs_cc, eqDs_nc, eqDs_cn, List.map_cons, List.map_nil, List.map, List.cons_append, List.nil_append, List.replicate, List.length_cons, List.length_nil, Nat.reduceAdd, Nat.reduceSub, List.all_cons, List.all_nil, Bool.and_true, Bool.true_and, true_and, and_true, atI_map, ex_map, ex_some, List.length_map, beq_int, decide_eq_true_eq, if_true, if_false, Bool.false_eq_true, if_pos, reduceIte, at0, at1, at2, at3, dP, mCallX, mCallB, peekA, evA, evAs, eq_self, sRaise0, sRaise1, sTry, caught, unslot, unheld, mXArg, mXIs, runX, List.contains_cons, List.contains_nil, Slot.isExn, String.reduceBEq, ex_arg, ex_valB, Bool.or_false, Bool.false_or, Bool.or_true, Bool.true_or, Bool.not_false, Bool.not_true, abs_eq]
    exact ⟨hC, hK _ ⟨_, rfl⟩⟩
  · rintro _ ⟨x, rfl⟩
    refine ⟨[(p.natAbs : Int), q.natAbs, r.natAbs, s.natAbs], rfl, Nat.succ_pos _, fun m hm hle => ?_⟩
    rw [max_fits hm hle]
    exact h
def spec_rounded_up : Sem := fun ds w Q => ∃ (a : Int) (b : Int), ds = [.int a, .int b] ∧ (0 < b ∧ b ≤ 999) ∧ Q (.val (.int (up a b))) w
theorem ar_rounded_up (a : Int) (b : Int) (w : W) (Q : R → W → Prop) : ar 2 spec_rounded_up [.int a, .int b] w Q = ((0 < b ∧ b ≤ 999) ∧ Q (.val (.int (up a b))) w) := by
  apply propext
  constructor
  · rintro ⟨_, a', b', e, h⟩
    simp only [List.cons.injEq, D.str.injEq, D.int.injEq, D.bool.injEq, D.tup.injEq, D.list.injEq, mapInt_inj, Int.natCast_inj, and_true, and_assoc] at e
    first | (obtain ⟨rfl, rfl⟩ := e; exact h) | (obtain ⟨rfl, rfl, _⟩ := e; exact h)
  · intro h
    exact ⟨rfl, a, b, rfl, h⟩
theorem vc_rounded_up : ∀ ds w Q, spec_rounded_up ds w Q → run 2 (b_rounded_up) ds w Q := by
  rintro ds w Q ⟨a, b, rfl, h⟩
  unfold b_rounded_up
  simp only [run, runF, DL.get, DL.put, puts, back, mC, mVar, mFzV, mFeed, frz, msN, msC, mBin, mUn, dAdd, dSub, dMul, dDiv, dMod, dPow, dNeg, dCmp, dLt, dLe, dGt, dGe, dEq, dNe, dIn, dIsN, dIsNotN, isN, flatD, okT, truth, tV, tB, tAnd, tOr, tNot, mAnd, mOr, mNot, mIf, mChain, mList, mTup, dIx, mSl, oN, oS, mRev, mRevTo, mCall, mCallF, dLen, dAbs, dInt, dMin2, dMax2, dList, dTup, dSum, dMin, dMax, dMinG, dMaxG, dAll, isTy, mIsI, gV, gSkip, gsN, gsC, gT, srcV, srcR1, srcR2, srcEnum, srcRev, mComp, tYes, isS, isL, mMS, mML, dIndexS, dIndexL, dIndexFrom, mMS2, dCount, dSplit, dJoin, sNil, sSeq, sSet, sAsg, sPar, sRet, retK, sRetN, sIf, sPass, sBrk, sCont, sNever, sExpr, sAug, ownAt, feedAt, intD, sApp, sExt, sSetI, sAugI, sFeed, sFeedA, popD, sPop, sAddPop, sFor, DL.W.set, DL.W.at, DL.R.d, okD, eqD_none_none, eqD_none_bool, eqD_none_int, eqD_none_str, eqD_none_list, eqD_none_tup, eqD_bool_none, eqD_bool_bool, eqD_bool_int, eqD_bool_str, eqD_bool_list, eqD_bool_tup, eqD_int_none, eqD_int_bool, eqD_int_int, eqD_int_str, eqD_int_list, eqD_int_tup, eqD_str_none, eqD_str_bool, eqD_str_int, eqD_str_str, eqD_str_list, eqD_str_tup, eqD_list_none, eqD_list_bool, eqD_list_int, eqD_list_str, eqD_list_list, eqD_list_tup, eqD_tup_none, eqD_tup_bool, eqD_tup_int, eqD_tup_str, eqD_tup_list, eqD_tup_tup, eqDs_nn, eqDs_cc, eqDs_nc, eqDs_cn, List.map_cons, List.map_nil, List.map, List.cons_append, List.nil_append, List.replicate, List.length_cons, List.length_nil, Nat.reduceAdd, Nat.reduceSub, List.all_cons, List.all_nil, Bool.and_true, Bool.true_and, true_and, and_true, atI_map, ex_map, ex_some, List.length_map, beq_int, decide_eq_true_eq, if_true, if_false, Bool.false_eq_true, if_pos, reduceIte, at0, at1, at2, at3, dP, mCallX, mCallB, peekA, evA, evAs, eq_self, sRaise0, sRaise1, sTry, caught, unslot, unheld, mXArg, mXIs, runX, List.contains_cons, List.contains_nil, Slot.isExn, String.reduceBEq, ex_arg, ex_valB, Bool.or_false, Bool.false_or, Bool.or_true, Bool.true_or, Bool.not_false, Bool.not_true]
  obtain ⟨hb, q⟩ := h
  exact ⟨hb.1, div62 (by omega) (by omega), q⟩
def spec_minus_list : Sem := fun ds w Q => ∃ (a : Int) (b : Int), ds = [.int a, .int b] ∧ (0 ≤ b ∧ b ≤ 999) ∧ (-999 ≤ a ∧ a ≤ 999) ∧ ∀ l, ML a b l → Q (.own (l.map D.int)) w
theorem ar_minus_list (a : Int) (b : Int) (w : W) (Q : R → W → Prop) : ar 2 spec_minus_list [.int a, .int b] w Q = ((0 ≤ b ∧ b ≤ 999) ∧ (-999 ≤ a ∧ a ≤ 999) ∧ ∀ l, ML a b l → Q (.own (l.map D.int)) w) := by
  apply propext
  constructor
  · rintro ⟨_, a', b', e, h⟩
    simp only [List.cons.injEq, D.str.injEq, D.int.injEq, D.bool.injEq, D.tup.injEq, D.list.injEq, mapInt_inj, Int.natCast_inj, and_true, and_assoc] at e
    first | (obtain ⟨rfl, rfl⟩ := e; exact h) | (obtain ⟨rfl, rfl, _⟩ := e; exact h)
  · intro h
    exact ⟨rfl, a, b, rfl, h⟩
theorem vc_minus_list : ∀ ds w Q, spec_minus_list ds w Q → run 4 (b_minus_list (ar 2 spec_rounded_up)) ds w Q := by
  rintro ds w Q ⟨a, b, rfl, h⟩
  unfold b_minus_list
  simp only [run, runF, DL.get, DL.put, puts, back, mC, mVar, mFzV, mFeed, frz, msN, msC, mBin, mUn, dAdd, dSub, dMul, dDiv, dMod, dPow, dNeg, dCmp, dLt, dLe, dGt, dGe, dEq, dNe, dIn, dIsN, dIsNotN, isN, flatD, okT, truth, tV, tB, tAnd, tOr, tNot, mAnd, mOr, mNot, mIf, mChain, mList, mTup, dIx, mSl, oN, oS, mRev, mRevTo, mCall, mCallF, dLen, dAbs, dInt, dMin2, dMax2, dList, dTup, dSum, dMin, dMax, dMinG, dMaxG, dAll, isTy, mIsI, gV, gSkip, gsN, gsC, gT, srcV, srcR1, srcR2, srcEnum, srcRev, mComp, tYes, isS, isL, mMS, mML, dIndexS, dIndexL, dIndexFrom, mMS2, dCount, dSplit, dJoin, sNil, sSeq, sSet, sAsg, sPar, sRet, retK, sRetN, sIf, sPass, sBrk, sCont, sNever, sExpr, sAug, ownAt, feedAt, intD, sApp, sExt, sSetI, sAugI, sFeed, sFeedA, popD, sPop, sAddPop, sFor, DL.W.set, DL.W.at, DL.R.d, okD, eqD_none_none, eqD_none_bool, eqD_none_int, eqD_none_str, eqD_none_list, eqD_none_tup, eqD_bool_none, eqD_bool_bool, eqD_bool_int, eqD_bool_str, eqD_bool_list, eqD_bool_tup, eqD_int_none, eqD_int_bool, eqD_int_int, eqD_int_str, eqD_int_list, eqD_int_tup, eqD_str_none, eqD_str_bool, eqD_str_int, eqD_str_str, eqD_str_list, eqD_str_tup, eqD_list_none, eqD_list_bool, eqD_list_int, eqD_list_str, eqD_list_list, eqD_list_tup, eqD_tup_none, eqD_tup_bool, eqD_tup_int, eqD_tup_str, eqD_tup_list, eqD_tup_tup, eqDs_nn, eqDs_cc, eqDs_nc, eqDs_cn, List.map_cons, List.map_nil, List.map, List.cons_append, List.nil_append, List.replicate, List.length_cons, List.length_nil, Nat.reduceAdd, Nat.reduceSub, List.all_cons, List.all_nil, Bool.and_true, Bool.true_and, true_and, and_true, atI_map, ex_map, ex_some, List.length_map, beq_int, decide_eq_true_eq, if_true, if_false, Bool.false_eq_true, if_pos, reduceIte, at0, at1, at2, at3, dP, mCallX, mCallB, peekA, evA, evAs, eq_self, sRaise0, sRaise1, sTry, caught, unslot, unheld, mXArg, mXIs, runX, List.contains_cons, List.contains_nil, Slot.isExn, String.reduceBEq, ex_arg, ex_valB, Bool.or_false, Bool.false_or, Bool.or_true, Bool.true_or, Bool.not_false, Bool.not_true, ar_rounded_up]
  obtain ⟨hb, ha, q⟩ := h
  have hz : (2000 : Nat) ≤ LINE := by decide
  refine ⟨by decide, ?_⟩
  refine while_of (fun m st => ∃ (a' b' : Int) (acc : List Int) (x : Slot), (0 ≤ b' ∧ b' ≤ 999) ∧ (-999 ≤ a' ∧ a' ≤ 999) ∧ m = b'.toNat ∧ (acc.length : Int) + b' ≤ 999 ∧ (∀ l, ML a' b' l → ML a b (acc ++ l)) ∧ st = ⟨[.val (.int a'), .val (.int b'), .own (acc.map D.int), x], w⟩) b.toNat ⟨a, b, [], .gone, hb, ha, rfl, by simp; omega, fun l h => h, rfl⟩ ?_
  rintro m _ ⟨a', b', acc, x, hb', ha', rfl, hlen, hml, rfl⟩ K hK
  simp only [run, runF, DL.get, DL.put, puts, back, mC, mVar, mFzV, mFeed, frz, msN, msC, mBin, mUn, dAdd, dSub, dMul, dDiv, dMod, dPow, dNeg, dCmp, dLt, dLe, dGt, dGe, dEq, dNe, dIn, dIsN, dIsNotN, isN, flatD, okT, truth, tV, tB, tAnd, tOr, tNot, mAnd, mOr, mNot, mIf, mChain, mList, mTup, dIx, mSl, oN, oS, mRev, mRevTo, mCall, mCallF, dLen, dAbs, dInt, dMin2, dMax2, dList, dTup, dSum, dMin, dMax, dMinG, dMaxG, dAll, isTy, mIsI, gV, gSkip, gsN, gsC, gT, srcV, srcR1, srcR2, srcEnum, srcRev, mComp, tYes, isS, isL, mMS, mML, dIndexS, dIndexL, dIndexFrom, mMS2, dCount, dSplit, dJoin, sNil, sSeq, sSet, sAsg, sPar, sRet, retK, sRetN, sIf, sPass, sBrk, sCont, sNever, sExpr, sAug, ownAt, feedAt, intD, sApp, sExt, sSetI, sAugI, sFeed, sFeedA, popD, sPop, sAddPop, sFor, DL.W.set, DL.W.at, DL.R.d, okD, eqD_none_none, eqD_none_bool, eqD_none_int, eqD_none_str, eqD_none_list, eqD_none_tup, eqD_bool_none, eqD_bool_bool, eqD_bool_int, eqD_bool_str, eqD_bool_list, eqD_bool_tup, eqD_int_none, eqD_int_bool, eqD_int_int, eqD_int_str, eqD_int_list, eqD_int_tup, eqD_str_none, eqD_str_bool, eqD_str_int, eqD_str_str, eqD_str_list, eqD_str_tup, eqD_list_none, eqD_list_bool, eqD_list_int, eqD_list_str, eqD_list_list, eqD_list_tup, eqD_tup_none, eqD_tup_bool, eqD_tup_int, eqD_tup_str, eqD_tup_list, eqD_tup_tup, eqDs_nn, eqDs_cc, eqDs_nc, eqDs_cn, List.map_cons, List.map_nil, List.map, List.cons_append, List.nil_append, List.replicate, List.length_cons, List.length_nil, Nat.reduceAdd, Nat.reduceSub, List.all_cons, List.all_nil, Bool.and_true, Bool.true_and, true_and, and_true, atI_map, ex_map, ex_some, List.length_map, beq_int, decide_eq_true_eq, if_true, if_false, Bool.false_eq_true, if_pos, reduceIte, at0, at1, at2, at3, dP, mCallX, mCallB, peekA, evA, evAs, eq_self, sRaise0, sRaise1, sTry, caught, unslot, unheld, mXArg, mXIs, runX, List.contains_cons, List.contains_nil, Slot.isExn, String.reduceBEq, ex_arg, ex_valB, Bool.or_false, Bool.false_or, Bool.or_true, Bool.true_or, Bool.not_false, Bool.not_true, ar_rounded_up]
  by_cases e : b' = 0
  · subst e
    rw [if_neg (by decide)]
    have := q acc (by have := hml [] (.nil _); rwa [List.append_nil] at this)
    exact this
  · have hp : 0 < b' := by omega
    have u := up_spec (a := a') hp
    have us := up_small (k := 999) hp (by decide) ha'.1 ha'.2
    rw [if_pos (by simpa using e)]
    refine ⟨⟨hp, hb'.2⟩, by omega, mul62 (by omega) (by omega) (by omega) (by omega), ?_⟩
    rw [show List.map D.int acc ++ [D.int (up a' b')] = (acc ++ [up a' b']).map D.int by rw [List.map_append]; rfl]
    refine hK _ _ ?_ ⟨b', up a' b' * b' - a', acc ++ [up a' b'], _, ⟨by omega, by omega⟩, ⟨by omega, by omega⟩, rfl, by rw [List.length_append]; simp only [List.length_cons, List.length_nil]; omega, fun l h => ?_, rfl⟩
    · omega
    · rw [List.append_assoc]
      exact hml _ (.cons hp h)
theorem low_fits {a b : Int} (h1 : a.natAbs ≤ 1000) (h2 : b.natAbs ≤ 1000) : lowV 24000 (a, b) := by
  have : 1000 ≤ 2 ^ 24000 := Nat.le_trans (show 1000 ≤ 2 ^ 10 by decide) (Nat.pow_le_pow_right (by decide) (by decide))
  exact ⟨Nat.le_trans h1 this, Nat.le_trans h2 this⟩
abbrev tst (p q r s : Int) (a b c d k n t x : Slot) (w : W) : S := ⟨[.val (.tup [.int p, .int q, .int r, .int s]), a, b, c, d, k, n, t, x], w⟩
def spec_turns_of : SemX := fun ds w Q E => ∃ (p : Int) (q : Int) (r : Int) (s : Int), ds = [.tup [.int p, .int q, .int r, .int s]] ∧ lowV 24000 (p, q) ∧ lowV 24000 (r, s) ∧ (¬ (M4.det ⟨p, q, r, s⟩ = 1 ∧ fits ⟨p, q, r, s⟩) → E (eTab ⟨p, q, r, s⟩) w) ∧ (M4.det ⟨p, q, r, s⟩ = 1 → fits ⟨p, q, r, s⟩ → ∀ k l, Told ⟨p, q, r, s⟩ k l → Okl l → Q (.val (.tup [.int k, .list (l.map D.int)])) w)
theorem ar_turns_of (p : Int) (q : Int) (r : Int) (s : Int) (w : W) (Q : R → W → Prop) (E : Exn → W → Prop) : arX 1 spec_turns_of [.tup [.int p, .int q, .int r, .int s]] w Q E = (lowV 24000 (p, q) ∧ lowV 24000 (r, s) ∧ (¬ (M4.det ⟨p, q, r, s⟩ = 1 ∧ fits ⟨p, q, r, s⟩) → E (eTab ⟨p, q, r, s⟩) w) ∧ (M4.det ⟨p, q, r, s⟩ = 1 → fits ⟨p, q, r, s⟩ → ∀ k l, Told ⟨p, q, r, s⟩ k l → Okl l → Q (.val (.tup [.int k, .list (l.map D.int)])) w)) := by
  apply propext
  constructor
  · rintro ⟨_, p', q', r', s', e, h⟩
    simp only [List.cons.injEq, D.str.injEq, D.int.injEq, D.bool.injEq, D.tup.injEq, D.list.injEq, mapInt_inj, Int.natCast_inj, and_true, and_assoc] at e
    first | (obtain ⟨rfl, rfl, rfl, rfl⟩ := e; exact h) | (obtain ⟨rfl, rfl, rfl, rfl, _⟩ := e; exact h)
  · intro h
    exact ⟨rfl, p, q, r, s, rfl, h⟩
theorem vc_turns_of : ∀ ds w Q E, spec_turns_of ds w Q E → runX 9 (b_turns_of (ar 2 spec_minus_list) (ar 1 spec_turned_by)) ds w Q E := by
  rintro ds w Q E ⟨p, q, r, s, rfl, h⟩
  unfold b_turns_of
  obtain ⟨h1, h2, h3, h4⟩ := h
  have l1 := low_log h1
  have l2 := low_log h2
  dsimp only at l1 l2
  show sSeq _ _ (tst p q r s .gone .gone .gone .gone .gone .gone .gone .gone w) _
  refine seq_cut (fun s' => s' = tst p q r s (.val (.int p)) (.val (.int q)) (.val (.int r)) (.val (.int s)) .gone .gone .gone .gone w) ?_ ?_
  · intro K hK
    simp only [run, runF, DL.get, DL.put, puts, back, mC, mVar, mFzV, mFeed, frz, msN, msC, mBin, mUn, dAdd, dSub, dMul, dDiv, dMod, dPow, dNeg, dCmp, dLt, dLe, dGt, dGe, dEq, dNe, dIn, dIsN, dIsNotN, isN, flatD, okT, truth, tV, tB, tAnd, tOr, tNot, mAnd, mOr, mNot, mIf, mChain, mList, mTup, dIx, mSl, oN, oS, mRev, mRevTo, mCall, mCallF, dLen, dAbs, dInt, dMin2, dMax2, dList, dTup, dSum, dMin, dMax, dMinG, dMaxG, dAll, isTy, mIsI, gV, gSkip, gsN, gsC, gT, srcV, srcR1, srcR2, srcEnum, srcRev, mComp, tYes, isS, isL, mMS, mML, dIndexS, dIndexL, dIndexFrom, mMS2, dCount, dSplit, dJoin, sNil, sSeq, sSet, sAsg, sPar, sRet, retK, sRetN, sIf, sPass, sBrk, sCont, sNever, sExpr, sAug, ownAt, feedAt, intD, sApp, sExt, sSetI, sAugI, sFeed, sFeedA, popD, sPop, sAddPop, sFor, DL.W.set, DL.W.at, DL.R.d, okD, eqD_none_none, eqD_none_bool, eqD_none_int, eqD_none_str, eqD_none_list, eqD_none_tup, eqD_bool_none, eqD_bool_bool, eqD_bool_int, eqD_bool_str, eqD_bool_list, eqD_bool_tup, eqD_int_none, eqD_int_bool, eqD_int_int, eqD_int_str, eqD_int_list, eqD_int_tup, eqD_str_none, eqD_str_bool, eqD_str_int, eqD_str_str, eqD_str_list, eqD_str_tup, eqD_list_none, eqD_list_bool, eqD_list_int, eqD_list_str, eqD_list_list, eqD_list_tup, eqD_tup_none, eqD_tup_bool, eqD_tup_int, eqD_tup_str, eqD_tup_list, eqD_tup_tup, eqDs_nn, eqDs_cc, eqDs_nc, eqDs_cn, List.map_cons, List.map_nil, List.map, List.cons_append, List.nil_append, List.replicate, List.length_cons, List.length_nil, Nat.reduceAdd, Nat.reduceSub, List.all_cons, List.all_nil, Bool.and_true, Bool.true_and, true_and, and_true, atI_map, ex_map, ex_some, List.length_map, beq_int, decide_eq_true_eq, if_true, if_false, Bool.false_eq_true, if_pos, reduceIte, at0, at1, at2, at3, dP, mCallX, mCallB, peekA, evA, evAs, eq_self, sRaise0, sRaise1, sTry, caught, unslot, unheld, mXArg, mXIs, runX, List.contains_cons, List.contains_nil, Slot.isExn, String.reduceBEq, ex_arg, ex_valB, Bool.or_false, Bool.false_or, Bool.or_true, Bool.true_or, Bool.not_false, Bool.not_true, ar_minus_list, ar_turned_by]
    exact hK _ rfl
  rintro _ rfl
  refine seq_cut (fun s' => (p * s - q * r = 1 ∧ fits ⟨p, q, r, s⟩) ∧ ∃ x, s' = tst p q r s (.val (.int p)) (.val (.int q)) (.val (.int r)) (.val (.int s)) .gone .gone .gone x w) ?_ ?_
  · intro K hK
    simp only [run, runF, DL.get, DL.put, puts, back, mC, mVar, mFzV, mFeed, frz, msN, msC, mBin, mUn, dAdd, dSub, dMul, dDiv, dMod, dPow, dNeg, dCmp, dLt, dLe, dGt, dGe, dEq, dNe, dIn, dIsN, dIsNotN, isN, flatD, okT, truth, tV, tB, tAnd, tOr, tNot, mAnd, mOr, mNot, mIf, mChain, mList, mTup, dIx, mSl, oN, oS, mRev, mRevTo, mCall, mCallF, dLen, dAbs, dInt, dMin2, dMax2, dList, dTup, dSum, dMin, dMax, dMinG, dMaxG, dAll, isTy, mIsI, gV, gSkip, gsN, gsC, gT, srcV, srcR1, srcR2, srcEnum, srcRev, mComp, tYes, isS, isL, mMS, mML, dIndexS, dIndexL, dIndexFrom, mMS2, dCount, dSplit, dJoin, sNil, sSeq, sSet, sAsg, sPar, sRet, retK, sRetN, sIf, sPass, sBrk, sCont, sNever, sExpr, sAug, ownAt, feedAt, intD, sApp, sExt, sSetI, sAugI, sFeed, sFeedA, popD, sPop, sAddPop, sFor, DL.W.set, DL.W.at, DL.R.d, okD, eqD_none_none, eqD_none_bool, eqD_none_int, eqD_none_str, eqD_none_list, eqD_none_tup, eqD_bool_none, eqD_bool_bool, eqD_bool_int, eqD_bool_str, eqD_bool_list, eqD_bool_tup, eqD_int_none, eqD_int_bool, eqD_int_int, eqD_int_str, eqD_int_list, eqD_int_tup, eqD_str_none, eqD_str_bool, eqD_str_int, eqD_str_str, eqD_str_list, eqD_str_tup, eqD_list_none, eqD_list_bool, eqD_list_int, eqD_list_str, eqD_list_list, eqD_list_tup, eqD_tup_none, eqD_tup_bool, eqD_tup_int, eqD_tup_str, eqD_tup_list, eqD_tup_tup, eqDs_nn, eqDs_cc, eqDs_nc, eqDs_cn, List.map_cons, List.map_nil, List.map, List.cons_append, List.nil_append, List.replicate, List.length_cons, List.length_nil, Nat.reduceAdd, Nat.reduceSub, List.all_cons, List.all_nil, Bool.and_true, Bool.true_and, true_and, and_true, atI_map, ex_map, ex_some, List.length_map, beq_int, decide_eq_true_eq, if_true, if_false, Bool.false_eq_true, if_pos, reduceIte, at0, at1, at2, at3, dP, mCallX, mCallB, peekA, evA, evAs, eq_self, sRaise0, sRaise1, sTry, caught, unslot, unheld, mXArg, mXIs, runX, List.contains_cons, List.contains_nil, Slot.isExn, String.reduceBEq, ex_arg, ex_valB, Bool.or_false, Bool.false_or, Bool.or_true, Bool.true_or, Bool.not_false, Bool.not_true, ar_minus_list, ar_turned_by]
    refine ⟨by omega, by omega, ?_⟩
    by_cases e : p * s - q * r = 1
    · rw [e, decide_eq_true rfl, if_neg (by decide)]
      refine compL_f _ (fun d => match d with | .int i => .int i.natAbs | _ => .none) (fun st => ∃ x, st = tst p q r s (.val (.int p)) (.val (.int q)) (.val (.int r)) (.val (.int s)) .gone .gone .gone x w) ⟨_, rfl⟩ (show 4 ≤ LINE by decide) ?_ ?_
      · rintro d _ hd ⟨x, rfl⟩ C K hC hK
        obtain ⟨i, hi, rfl⟩ := List.mem_map.mp (show d ∈ [p, q, r, s].map D.int from hd)
        simp only [run, runF, DL.get, DL.put, puts, back, mC, mVar, mFzV, mFeed, frz, msN, msC, mBin, mUn, dAdd, dSub, dMul, dDiv, dMod, dPow, dNeg, dCmp, dLt, dLe, dGt, dGe, dEq, dNe, dIn, dIsN, dIsNotN, isN, flatD, okT, truth, tV, tB, tAnd, tOr, tNot, mAnd, mOr, mNot, mIf, mChain, mList, mTup, dIx, mSl, oN, oS, mRev, mRevTo, mCall, mCallF, dLen, dAbs, dInt, dMin2, dMax2, dList, dTup, dSum, dMin, dMax, dMinG, dMaxG, dAll, isTy, mIsI, gV, gSkip, gsN, gsC, gT, srcV, srcR1, srcR2, srcEnum, srcRev, mComp, tYes, isS, isL, mMS, mML, dIndexS, dIndexL, dIndexFrom, mMS2, dCount, dSplit, dJoin, sNil, sSeq, sSet, sAsg, sPar, sRet, retK, sRetN, sIf, sPass, sBrk, sCont, sNever, sExpr, sAug, ownAt, feedAt, intD, sApp, sExt, sSetI, sAugI, sFeed, sFeedA, popD, sPop, sAddPop, sFor, DL.W.set, DL.W.at, DL.R.d, okD, eqD_none_none, eqD_none_bool, eqD_none_int, eqD_none_str, eqD_none_list, eqD_none_tup, eqD_bool_none, eqD_bool_bool, eqD_bool_int, eqD_bool_str, eqD_bool_list, eqD_bool_tup, eqD_int_none, eqD_int_bool, eqD_int_int, eqD_int_str, eqD_int_list, eqD_int_tup, eqD_str_none, eqD_str_bool, eqD_str_int, eqD_str_str, eqD_str_list, eqD_str_tup, eqD_list_none, eqD_list_bool, eqD_list_int, eqD_list_str, eqD_list_list, eqD_list_tup, eqD_tup_none, eqD_tup_bool, eqD_tup_int, eqD_tup_str, eqD_tup_list, eqD_tup_tup, eqDs_nn, eqDs_cc, eqDs_nc, eqDs_cn, List.map_cons, List.map_nil, List.map, List.cons_append, List.nil_append, List.replicate, List.length_cons, List.length_nil, Nat.reduceAdd, Nat.reduceSub, List.all_cons, List.all_nil, Bool.and_true, Bool.true_and, true_and, and_true, atI_map, ex_map, ex_some, List.length_map, beq_int, decide_eq_true_eq, if_true, if_false, Bool.false_eq_true, if_pos, reduceIte, at0, at1, at2, at3, dP, mCallX, mCallB, peekA, evA, evAs, eq_self, sRaise0, sRaise1, sTry, caught, unslot, unheld, mXArg, mXIs, runX, List.contains_cons, List.contains_nil, Slot.isExn, String.reduceBEq, ex_arg, ex_valB, Bool.or_false, Bool.false_or, Bool.or_true, Bool.true_or, Bool.not_false, Bool.not_true, ar_minus_list, ar_turned_by, abs_eq]
        exact ⟨hC, hK _ ⟨_, rfl⟩⟩
      · rintro _ ⟨x, rfl⟩
        refine ⟨[(p.natAbs : Int), q.natAbs, r.natAbs, s.natAbs], rfl, Nat.succ_pos _, fun m hm hle => ?_⟩
        have hmf := max_fits hm hle
        by_cases hf : fits ⟨p, q, r, s⟩
        · rw [decide_eq_true hf, decide_eq_true_eq] at hmf
          rw [if_neg (by omega)]
          exact hK _ ⟨⟨e, hf⟩, _, rfl⟩
        · rw [decide_eq_false hf, decide_eq_false_iff_not] at hmf
          rw [if_pos (by omega)]
          exact h3 fun z => hf z.2
    · rw [decide_eq_false e, if_pos (by decide)]
      exact h3 fun z => e z.1
  rintro _ ⟨⟨hd, hf⟩, x, rfl⟩
  have hf' := hf
  unfold fits at hf'
  dsimp only at hf'
  refine seq_cut (fun s' => s ≠ 0 ∧ s' = tst p q r s (.val (.int p)) (.val (.int q)) (.val (.int r)) (.val (.int s)) .gone .gone .gone x w) ?_ ?_
  · intro K hK
    simp only [run, runF, DL.get, DL.put, puts, back, mC, mVar, mFzV, mFeed, frz, msN, msC, mBin, mUn, dAdd, dSub, dMul, dDiv, dMod, dPow, dNeg, dCmp, dLt, dLe, dGt, dGe, dEq, dNe, dIn, dIsN, dIsNotN, isN, flatD, okT, truth, tV, tB, tAnd, tOr, tNot, mAnd, mOr, mNot, mIf, mChain, mList, mTup, dIx, mSl, oN, oS, mRev, mRevTo, mCall, mCallF, dLen, dAbs, dInt, dMin2, dMax2, dList, dTup, dSum, dMin, dMax, dMinG, dMaxG, dAll, isTy, mIsI, gV, gSkip, gsN, gsC, gT, srcV, srcR1, srcR2, srcEnum, srcRev, mComp, tYes, isS, isL, mMS, mML, dIndexS, dIndexL, dIndexFrom, mMS2, dCount, dSplit, dJoin, sNil, sSeq, sSet, sAsg, sPar, sRet, retK, sRetN, sIf, sPass, sBrk, sCont, sNever, sExpr, sAug, ownAt, feedAt, intD, sApp, sExt, sSetI, sAugI, sFeed, sFeedA, popD, sPop, sAddPop, sFor, DL.W.set, DL.W.at, DL.R.d, okD, eqD_none_none, eqD_none_bool, eqD_none_int, eqD_none_str, eqD_none_list, eqD_none_tup, eqD_bool_none, eqD_bool_bool, eqD_bool_int, eqD_bool_str, eqD_bool_list, eqD_bool_tup, eqD_int_none, eqD_int_bool, eqD_int_int, eqD_int_str, eqD_int_list, eqD_int_tup, eqD_str_none, eqD_str_bool, eqD_str_int, eqD_str_str, eqD_str_list, eqD_str_tup, eqD_list_none, eqD_list_bool, eqD_list_int, eqD_list_str, eqD_list_list, eqD_list_tup, eqD_tup_none, eqD_tup_bool, eqD_tup_int, eqD_tup_str, eqD_tup_list, eqD_tup_tup, eqDs_nn, eqDs_cc, eqDs_nc, eqDs_cn, List.map_cons, List.map_nil, List.map, List.cons_append, List.nil_append, List.replicate, List.length_cons, List.length_nil, Nat.reduceAdd, Nat.reduceSub, List.all_cons, List.all_nil, Bool.and_true, Bool.true_and, true_and, and_true, atI_map, ex_map, ex_some, List.length_map, beq_int, decide_eq_true_eq, if_true, if_false, Bool.false_eq_true, if_pos, reduceIte, at0, at1, at2, at3, dP, mCallX, mCallB, peekA, evA, evAs, eq_self, sRaise0, sRaise1, sTry, caught, unslot, unheld, mXArg, mXIs, runX, List.contains_cons, List.contains_nil, Slot.isExn, String.reduceBEq, ex_arg, ex_valB, Bool.or_false, Bool.false_or, Bool.or_true, Bool.true_or, Bool.not_false, Bool.not_true, ar_minus_list, ar_turned_by]
    split
    · rename_i e
      refine ⟨by omega, by decide, by decide, ?_⟩
      have := h4 hd hf _ _ (Told.zero hd e) (Okl.of (show 1 ≤ 1001 by decide) ?_)
      · exact this
      · intro y hy
        rw [List.mem_singleton.mp hy]
        have ht := (Told.zero (m := ⟨p, q, r, s⟩) hd e).sign
        dsimp only at ht ⊢
        rcases ht with rfl | rfl <;> omega
    · rename_i e
      exact hK _ ⟨e, rfl⟩
  rintro _ ⟨hs, rfl⟩
  obtain ⟨k, hk, hks, hka⟩ : ∃ k : Int, (k = 1 ∨ k = -1) ∧ 0 < -k * s ∧ k = (if 0 < s then -1 else 1) := by
    by_cases z : 0 < s
    · exact ⟨-1, .inr rfl, by omega, by rw [if_pos z]⟩
    · exact ⟨1, .inl rfl, by omega, by rw [if_neg z]⟩
  have hks2 : -k * s ≤ 999 := by rcases hk with rfl | rfl <;> omega
  refine seq_cut (fun s' => s' = tst p q r s (.val (.int p)) (.val (.int q)) (.val (.int r)) (.val (.int s)) (.val (.int k)) .gone .gone x w) ?_ ?_
  · intro K hK
    simp only [run, runF, DL.get, DL.put, puts, back, mC, mVar, mFzV, mFeed, frz, msN, msC, mBin, mUn, dAdd, dSub, dMul, dDiv, dMod, dPow, dNeg, dCmp, dLt, dLe, dGt, dGe, dEq, dNe, dIn, dIsN, dIsNotN, isN, flatD, okT, truth, tV, tB, tAnd, tOr, tNot, mAnd, mOr, mNot, mIf, mChain, mList, mTup, dIx, mSl, oN, oS, mRev, mRevTo, mCall, mCallF, dLen, dAbs, dInt, dMin2, dMax2, dList, dTup, dSum, dMin, dMax, dMinG, dMaxG, dAll, isTy, mIsI, gV, gSkip, gsN, gsC, gT, srcV, srcR1, srcR2, srcEnum, srcRev, mComp, tYes, isS, isL, mMS, mML, dIndexS, dIndexL, dIndexFrom, mMS2, dCount, dSplit, dJoin, sNil, sSeq, sSet, sAsg, sPar, sRet, retK, sRetN, sIf, sPass, sBrk, sCont, sNever, sExpr, sAug, ownAt, feedAt, intD, sApp, sExt, sSetI, sAugI, sFeed, sFeedA, popD, sPop, sAddPop, sFor, DL.W.set, DL.W.at, DL.R.d, okD, eqD_none_none, eqD_none_bool, eqD_none_int, eqD_none_str, eqD_none_list, eqD_none_tup, eqD_bool_none, eqD_bool_bool, eqD_bool_int, eqD_bool_str, eqD_bool_list, eqD_bool_tup, eqD_int_none, eqD_int_bool, eqD_int_int, eqD_int_str, eqD_int_list, eqD_int_tup, eqD_str_none, eqD_str_bool, eqD_str_int, eqD_str_str, eqD_str_list, eqD_str_tup, eqD_list_none, eqD_list_bool, eqD_list_int, eqD_list_str, eqD_list_list, eqD_list_tup, eqD_tup_none, eqD_tup_bool, eqD_tup_int, eqD_tup_str, eqD_tup_list, eqD_tup_tup, eqDs_nn, eqDs_cc, eqDs_nc, eqDs_cn, List.map_cons, List.map_nil, List.map, List.cons_append, List.nil_append, List.replicate, List.length_cons, List.length_nil, Nat.reduceAdd, Nat.reduceSub, List.all_cons, List.all_nil, Bool.and_true, Bool.true_and, true_and, and_true, atI_map, ex_map, ex_some, List.length_map, beq_int, decide_eq_true_eq, if_true, if_false, Bool.false_eq_true, if_pos, reduceIte, at0, at1, at2, at3, dP, mCallX, mCallB, peekA, evA, evAs, eq_self, sRaise0, sRaise1, sTry, caught, unslot, unheld, mXArg, mXIs, runX, List.contains_cons, List.contains_nil, Slot.isExn, String.reduceBEq, ex_arg, ex_valB, Bool.or_false, Bool.false_or, Bool.or_true, Bool.true_or, Bool.not_false, Bool.not_true, ar_minus_list, ar_turned_by]
    by_cases z : 0 < s
    · rw [if_pos z] at hka ⊢
      subst hka
      exact hK _ rfl
    · rw [if_neg z] at hka ⊢
      subst hka
      exact hK _ rfl
  rintro _ rfl
  refine seq_cut (fun s' => ∃ l, ML (-k * q) (-k * s) l ∧ s' = tst p q r s (.val (.int p)) (.val (.int q)) (.val (.int r)) (.val (.int s)) (.val (.int k)) (.own (l.map D.int)) .gone x w) ?_ ?_
  · intro K hK
    simp only [run, runF, DL.get, DL.put, puts, back, mC, mVar, mFzV, mFeed, frz, msN, msC, mBin, mUn, dAdd, dSub, dMul, dDiv, dMod, dPow, dNeg, dCmp, dLt, dLe, dGt, dGe, dEq, dNe, dIn, dIsN, dIsNotN, isN, flatD, okT, truth, tV, tB, tAnd, tOr, tNot, mAnd, mOr, mNot, mIf, mChain, mList, mTup, dIx, mSl, oN, oS, mRev, mRevTo, mCall, mCallF, dLen, dAbs, dInt, dMin2, dMax2, dList, dTup, dSum, dMin, dMax, dMinG, dMaxG, dAll, isTy, mIsI, gV, gSkip, gsN, gsC, gT, srcV, srcR1, srcR2, srcEnum, srcRev, mComp, tYes, isS, isL, mMS, mML, dIndexS, dIndexL, dIndexFrom, mMS2, dCount, dSplit, dJoin, sNil, sSeq, sSet, sAsg, sPar, sRet, retK, sRetN, sIf, sPass, sBrk, sCont, sNever, sExpr, sAug, ownAt, feedAt, intD, sApp, sExt, sSetI, sAugI, sFeed, sFeedA, popD, sPop, sAddPop, sFor, DL.W.set, DL.W.at, DL.R.d, okD, eqD_none_none, eqD_none_bool, eqD_none_int, eqD_none_str, eqD_none_list, eqD_none_tup, eqD_bool_none, eqD_bool_bool, eqD_bool_int, eqD_bool_str, eqD_bool_list, eqD_bool_tup, eqD_int_none, eqD_int_bool, eqD_int_int, eqD_int_str, eqD_int_list, eqD_int_tup, eqD_str_none, eqD_str_bool, eqD_str_int, eqD_str_str, eqD_str_list, eqD_str_tup, eqD_list_none, eqD_list_bool, eqD_list_int, eqD_list_str, eqD_list_list, eqD_list_tup, eqD_tup_none, eqD_tup_bool, eqD_tup_int, eqD_tup_str, eqD_tup_list, eqD_tup_tup, eqDs_nn, eqDs_cc, eqDs_nc, eqDs_cn, List.map_cons, List.map_nil, List.map, List.cons_append, List.nil_append, List.replicate, List.length_cons, List.length_nil, Nat.reduceAdd, Nat.reduceSub, List.all_cons, List.all_nil, Bool.and_true, Bool.true_and, true_and, and_true, atI_map, ex_map, ex_some, List.length_map, beq_int, decide_eq_true_eq, if_true, if_false, Bool.false_eq_true, if_pos, reduceIte, at0, at1, at2, at3, dP, mCallX, mCallB, peekA, evA, evAs, eq_self, sRaise0, sRaise1, sTry, caught, unslot, unheld, mXArg, mXIs, runX, List.contains_cons, List.contains_nil, Slot.isExn, String.reduceBEq, ex_arg, ex_valB, Bool.or_false, Bool.false_or, Bool.or_true, Bool.true_or, Bool.not_false, Bool.not_true, ar_minus_list, ar_turned_by, abs_eq]
    have e1 : (s.natAbs : Int) = -k * s := by rcases hk with rfl | rfl <;> omega
    rw [e1]
    refine ⟨mul62 (by rcases hk with rfl | rfl <;> decide) (by rcases hk with rfl | rfl <;> decide) (by omega) (by omega), ⟨by omega, by omega⟩, ⟨?_, ?_⟩, fun l h => hK _ ⟨l, h, rfl⟩⟩
    · rcases hk with rfl | rfl <;> omega
    · rcases hk with rfl | rfl <;> omega
  rintro _ ⟨l, hl, rfl⟩
  have hll := hl.pos
  have hls := hl.small 999 (by decide) (by rcases hk with rfl | rfl <;> omega) (by rcases hk with rfl | rfl <;> omega) (by omega)
  have hlx : ∀ x ∈ l, x.natAbs < 1024 := fun x hx => by have := hls x hx; omega
  have hlen : l.length ≤ 999 := by omega
  have okl := Okl.of (by omega : l.length ≤ 1001) hlx
  have hT := Told.of (m := ⟨p, q, r, s⟩) hd hk hks hl
  have c1 := put_low 0 l (0, 1) hlx ⟨by decide, by decide⟩
  have hcols := tb_cols l
  refine seq_cut (fun s' => s' = tst p q r s (.val (.int p)) (.val (.int q)) (.val (.int r)) (.val (.int s)) (.val (.int k)) (.val (.list (l.map D.int))) (.val (tM (tb l))) x w) ?_ ?_
  · intro K hK
    simp only [run, runF, DL.get, DL.put, puts, back, mC, mVar, mFzV, mFeed, frz, msN, msC, mBin, mUn, dAdd, dSub, dMul, dDiv, dMod, dPow, dNeg, dCmp, dLt, dLe, dGt, dGe, dEq, dNe, dIn, dIsN, dIsNotN, isN, flatD, okT, truth, tV, tB, tAnd, tOr, tNot, mAnd, mOr, mNot, mIf, mChain, mList, mTup, dIx, mSl, oN, oS, mRev, mRevTo, mCall, mCallF, dLen, dAbs, dInt, dMin2, dMax2, dList, dTup, dSum, dMin, dMax, dMinG, dMaxG, dAll, isTy, mIsI, gV, gSkip, gsN, gsC, gT, srcV, srcR1, srcR2, srcEnum, srcRev, mComp, tYes, isS, isL, mMS, mML, dIndexS, dIndexL, dIndexFrom, mMS2, dCount, dSplit, dJoin, sNil, sSeq, sSet, sAsg, sPar, sRet, retK, sRetN, sIf, sPass, sBrk, sCont, sNever, sExpr, sAug, ownAt, feedAt, intD, sApp, sExt, sSetI, sAugI, sFeed, sFeedA, popD, sPop, sAddPop, sFor, DL.W.set, DL.W.at, DL.R.d, okD, eqD_none_none, eqD_none_bool, eqD_none_int, eqD_none_str, eqD_none_list, eqD_none_tup, eqD_bool_none, eqD_bool_bool, eqD_bool_int, eqD_bool_str, eqD_bool_list, eqD_bool_tup, eqD_int_none, eqD_int_bool, eqD_int_int, eqD_int_str, eqD_int_list, eqD_int_tup, eqD_str_none, eqD_str_bool, eqD_str_int, eqD_str_str, eqD_str_list, eqD_str_tup, eqD_list_none, eqD_list_bool, eqD_list_int, eqD_list_str, eqD_list_list, eqD_list_tup, eqD_tup_none, eqD_tup_bool, eqD_tup_int, eqD_tup_str, eqD_tup_list, eqD_tup_tup, eqDs_nn, eqDs_cc, eqDs_nc, eqDs_cn, List.map_cons, List.map_nil, List.map, List.cons_append, List.nil_append, List.replicate, List.length_cons, List.length_nil, Nat.reduceAdd, Nat.reduceSub, List.all_cons, List.all_nil, Bool.and_true, Bool.true_and, true_and, and_true, atI_map, ex_map, ex_some, List.length_map, beq_int, decide_eq_true_eq, if_true, if_false, Bool.false_eq_true, if_pos, reduceIte, at0, at1, at2, at3, dP, mCallX, mCallB, peekA, evA, evAs, eq_self, sRaise0, sRaise1, sTry, caught, unslot, unheld, mXArg, mXIs, runX, List.contains_cons, List.contains_nil, Slot.isExn, String.reduceBEq, ex_arg, ex_valB, Bool.or_false, Bool.false_or, Bool.or_true, Bool.true_or, Bool.not_false, Bool.not_true, ar_minus_list, ar_turned_by]
    exact ⟨okl, hK _ rfl⟩
  rintro _ rfl
  have lc := low_log c1
  have c2 : lowV 10989 (pt l (0, 1)) := ⟨Nat.le_trans c1.1 (Nat.pow_le_pow_right (by decide) (by omega)), Nat.le_trans c1.2 (Nat.pow_le_pow_right (by decide) (by omega))⟩
  have b1 : (tb l).q.natAbs ≤ 2 ^ 10989 := by rw [hcols]; exact c2.1
  have b2 : (tb l).s.natAbs ≤ 2 ^ 10989 := by rw [hcols]; exact c2.2
  have g1 : (tb l).q.natAbs.log2 < 10990 := lg_lt (Nat.lt_of_le_of_lt b1 (Nat.pow_lt_pow_right (by decide) (by decide))) (by decide)
  have g2 : (tb l).s.natAbs.log2 < 10990 := lg_lt (Nat.lt_of_le_of_lt b2 (Nat.pow_lt_pow_right (by decide) (by decide))) (by decide)
  have hkl : k.natAbs.log2 = 0 := by rcases hk with rfl | rfl <;> decide
  have hc : ((tb l).s * p - (tb l).q * r).natAbs < 2 ^ 11000 := by
    have e1 : ((tb l).s * p).natAbs ≤ 2 ^ 10989 * 999 := by rw [Int.natAbs_mul]; exact Nat.mul_le_mul b2 hf'.1
    have e2 : ((tb l).q * r).natAbs ≤ 2 ^ 10989 * 999 := by rw [Int.natAbs_mul]; exact Nat.mul_le_mul b1 hf'.2.2.1
    rw [show (11000 : Nat) = 10989 + 11 from rfl, Nat.pow_add]
    have e3 : 0 < 2 ^ 10989 := Nat.two_pow_pos 10989
    generalize 2 ^ 10989 = P at *
    generalize (tb l).s * p = x1 at *
    generalize (tb l).q * r = x2 at *
    have e4 : (2 : Nat) ^ 11 = 2048 := by decide
    rw [e4]
    omega
  have g3 : ((tb l).s * p - (tb l).q * r).natAbs.log2 < 11000 := lg_lt hc (by decide)
  have okc : Okl (l ++ [k * ((tb l).s * p - (tb l).q * r)]) := by
    have hkc : (k * ((tb l).s * p - (tb l).q * r)).natAbs < 2 ^ K0 := by
      have : (k * ((tb l).s * p - (tb l).q * r)).natAbs = ((tb l).s * p - (tb l).q * r).natAbs := by
        rw [Int.natAbs_mul]
        rcases hk with rfl | rfl
        · exact Nat.one_mul _
        · exact Nat.one_mul _
      rw [this]
      exact Nat.lt_of_lt_of_le hc (Nat.pow_le_pow_right (by decide) (by decide))
    refine ⟨by rw [List.length_append]; simp only [List.length_cons, List.length_nil]; omega, fun y hy => hlx y (by rwa [List.dropLast_concat] at hy), fun y hy => ?_⟩
    rcases List.mem_append.mp hy with z | z
    · exact okl.all y z
    · rw [List.mem_singleton.mp z]; exact hkc
  have h5 := h4 hd hf _ _ hT okc
  have hz : (2000 : Nat) ≤ LINE := by decide
  simp only [run, runF, DL.get, DL.put, puts, back, mC, mVar, mFzV, mFeed, frz, msN, msC, mBin, mUn, dAdd, dSub, dMul, dDiv, dMod, dPow, dNeg, dCmp, dLt, dLe, dGt, dGe, dEq, dNe, dIn, dIsN, dIsNotN, isN, flatD, okT, truth, tV, tB, tAnd, tOr, tNot, mAnd, mOr, mNot, mIf, mChain, mList, mTup, dIx, mSl, oN, oS, mRev, mRevTo, mCall, mCallF, dLen, dAbs, dInt, dMin2, dMax2, dList, dTup, dSum, dMin, dMax, dMinG, dMaxG, dAll, isTy, mIsI, gV, gSkip, gsN, gsC, gT, srcV, srcR1, srcR2, srcEnum, srcRev, mComp, tYes, isS, isL, mMS, mML, dIndexS, dIndexL, dIndexFrom, mMS2, dCount, dSplit, dJoin, sNil, sSeq, sSet, sAsg, sPar, sRet, retK, sRetN, sIf, sPass, sBrk, sCont, sNever, sExpr, sAug, ownAt, feedAt, intD, sApp, sExt, sSetI, sAugI, sFeed, sFeedA, popD, sPop, sAddPop, sFor, DL.W.set, DL.W.at, DL.R.d, okD, eqD_none_none, eqD_none_bool, eqD_none_int, eqD_none_str, eqD_none_list, eqD_none_tup, eqD_bool_none, eqD_bool_bool, eqD_bool_int, eqD_bool_str, eqD_bool_list, eqD_bool_tup, eqD_int_none, eqD_int_bool, eqD_int_int, eqD_int_str, eqD_int_list, eqD_int_tup, eqD_str_none, eqD_str_bool, eqD_str_int, eqD_str_str, eqD_str_list, eqD_str_tup, eqD_list_none, eqD_list_bool, eqD_list_int, eqD_list_str, eqD_list_list, eqD_list_tup, eqD_tup_none, eqD_tup_bool, eqD_tup_int, eqD_tup_str, eqD_tup_list, eqD_tup_tup, eqDs_nn, eqDs_cc, eqDs_nc, eqDs_cn, List.map_cons, List.map_nil, List.map, List.cons_append, List.nil_append, List.replicate, List.length_cons, List.length_nil, Nat.reduceAdd, Nat.reduceSub, List.all_cons, List.all_nil, Bool.and_true, Bool.true_and, true_and, and_true, atI_map, ex_map, ex_some, List.length_map, beq_int, decide_eq_true_eq, if_true, if_false, Bool.false_eq_true, if_pos, reduceIte, at0, at1, at2, at3, dP, mCallX, mCallB, peekA, evA, evAs, eq_self, sRaise0, sRaise1, sTry, caught, unslot, unheld, mXArg, mXIs, runX, List.contains_cons, List.contains_nil, Slot.isExn, String.reduceBEq, ex_arg, ex_valB, Bool.or_false, Bool.false_or, Bool.or_true, Bool.true_or, Bool.not_false, Bool.not_true, ar_minus_list, ar_turned_by]
  refine ⟨by omega, by omega, by omega, by decide, by omega, by decide, ?_⟩
  rw [show List.map D.int l ++ [D.int (k * ((tb l).s * p - (tb l).q * r))] = (l ++ [k * ((tb l).s * p - (tb l).q * r)]).map D.int by rw [List.map_append]; rfl]
  exact h5
def spec__law_whole : Sem := fun ds w Q => ∃ (i : Int), ds = [.int i] ∧ Q (.val (.bool true)) w
theorem ar__law_whole (i : Int) (w : W) (Q : R → W → Prop) : ar 1 spec__law_whole [.int i] w Q = (Q (.val (.bool true)) w) := by
  apply propext
  constructor
  · rintro ⟨_, i', e, h⟩
    simp only [List.cons.injEq, D.str.injEq, D.int.injEq, D.bool.injEq, D.tup.injEq, D.list.injEq, mapInt_inj, Int.natCast_inj, and_true, and_assoc] at e
    first | (obtain rfl := e; exact h) | (obtain ⟨rfl, _⟩ := e; exact h)
  · intro h
    exact ⟨rfl, i, rfl, h⟩
theorem vc__law_whole : ∀ ds w Q, spec__law_whole ds w Q → run 1 (b__law_whole) ds w Q := by
  rintro ds w Q ⟨i, rfl, h⟩
  unfold b__law_whole
  simp only [run, runF, DL.get, DL.put, puts, back, mC, mVar, mFzV, mFeed, frz, msN, msC, mBin, mUn, dAdd, dSub, dMul, dDiv, dMod, dPow, dNeg, dCmp, dLt, dLe, dGt, dGe, dEq, dNe, dIn, dIsN, dIsNotN, isN, flatD, okT, truth, tV, tB, tAnd, tOr, tNot, mAnd, mOr, mNot, mIf, mChain, mList, mTup, dIx, mSl, oN, oS, mRev, mRevTo, mCall, mCallF, dLen, dAbs, dInt, dMin2, dMax2, dList, dTup, dSum, dMin, dMax, dMinG, dMaxG, dAll, isTy, mIsI, gV, gSkip, gsN, gsC, gT, srcV, srcR1, srcR2, srcEnum, srcRev, mComp, tYes, isS, isL, mMS, mML, dIndexS, dIndexL, dIndexFrom, mMS2, dCount, dSplit, dJoin, sNil, sSeq, sSet, sAsg, sPar, sRet, retK, sRetN, sIf, sPass, sBrk, sCont, sNever, sExpr, sAug, ownAt, feedAt, intD, sApp, sExt, sSetI, sAugI, sFeed, sFeedA, popD, sPop, sAddPop, sFor, DL.W.set, DL.W.at, DL.R.d, okD, eqD_none_none, eqD_none_bool, eqD_none_int, eqD_none_str, eqD_none_list, eqD_none_tup, eqD_bool_none, eqD_bool_bool, eqD_bool_int, eqD_bool_str, eqD_bool_list, eqD_bool_tup, eqD_int_none, eqD_int_bool, eqD_int_int, eqD_int_str, eqD_int_list, eqD_int_tup, eqD_str_none, eqD_str_bool, eqD_str_int, eqD_str_str, eqD_str_list, eqD_str_tup, eqD_list_none, eqD_list_bool, eqD_list_int, eqD_list_str, eqD_list_list, eqD_list_tup, eqD_tup_none, eqD_tup_bool, eqD_tup_int, eqD_tup_str, eqD_tup_list, eqD_tup_tup, eqDs_nn, eqDs_cc, eqDs_nc, eqDs_cn, List.map_cons, List.map_nil, List.map, List.cons_append, List.nil_append, List.replicate, List.length_cons, List.length_nil, Nat.reduceAdd, Nat.reduceSub, List.all_cons, List.all_nil, Bool.and_true, Bool.true_and, true_and, and_true, atI_map, ex_map, ex_some, List.length_map, beq_int, decide_eq_true_eq, if_true, if_false, Bool.false_eq_true, if_pos, reduceIte, at0, at1, at2, at3, dP, mCallX, mCallB, peekA, evA, evAs, eq_self, sRaise0, sRaise1, sTry, caught, unslot, unheld, mXArg, mXIs, runX, List.contains_cons, List.contains_nil, Slot.isExn, String.reduceBEq, ex_arg, ex_valB, Bool.or_false, Bool.false_or, Bool.or_true, Bool.true_or, Bool.not_false, Bool.not_true]
  exact h
def spec__law_told : Sem := fun ds w Q => ∃ (p : Int) (q : Int) (r : Int) (s : Int) (k : Int) (l : List Int), ds = [.tup [.int p, .int q, .int r, .int s], .int k, .list (l.map D.int)] ∧ Told ⟨p, q, r, s⟩ k l ∧ fits ⟨p, q, r, s⟩ ∧ l.length ≤ 1000 ∧ (∀ x ∈ l, x.natAbs < 1024) ∧ Q (.val (.bool true)) w
theorem ar__law_told (p : Int) (q : Int) (r : Int) (s : Int) (k : Int) (l : List Int) (w : W) (Q : R → W → Prop) : ar 3 spec__law_told [.tup [.int p, .int q, .int r, .int s], .int k, .list (l.map D.int)] w Q = (Told ⟨p, q, r, s⟩ k l ∧ fits ⟨p, q, r, s⟩ ∧ l.length ≤ 1000 ∧ (∀ x ∈ l, x.natAbs < 1024) ∧ Q (.val (.bool true)) w) := by
  apply propext
  constructor
  · rintro ⟨_, p', q', r', s', k', l', e, h⟩
    simp only [List.cons.injEq, D.str.injEq, D.int.injEq, D.bool.injEq, D.tup.injEq, D.list.injEq, mapInt_inj, Int.natCast_inj, and_true, and_assoc] at e
    first | (obtain ⟨rfl, rfl, rfl, rfl, rfl, rfl⟩ := e; exact h) | (obtain ⟨rfl, rfl, rfl, rfl, rfl, rfl, _⟩ := e; exact h)
  · intro h
    exact ⟨rfl, p, q, r, s, k, l, rfl, h⟩
theorem vc__law_told : ∀ ds w Q, spec__law_told ds w Q → run 6 (b__law_told (arX 1 spec_turns_of) (ar 1 spec__law_whole) (ar 1 spec_turned_by) (ar 1 spec__law_table)) ds w Q := by
  rintro ds w Q ⟨p, q, r, s, k, l, rfl, h⟩
  unfold b__law_told
  obtain ⟨ht, hf, hl, hx, hq⟩ := h
  have hz : (2000 : Nat) ≤ LINE := by decide
  have hf' := hf
  unfold fits at hf'
  dsimp only at hf'
  have hd : M4.det ⟨p, q, r, s⟩ = 1 := by rw [← ht.eq, sg_det ht.sign]; exact tb_det l
  have okl := Okl.of (by omega : l.length ≤ 1001) hx
  show sSeq _ _ ⟨[.val (.tup [.int p, .int q, .int r, .int s]), .val (.int k), .val (.list (l.map D.int)), .gone, .gone, .gone], w⟩ _
  refine seq_cut (fun s' => s' = ⟨[.val (.tup [.int p, .int q, .int r, .int s]), .val (.int k), .val (.list (l.map D.int)), .val (.tup [.int k, .list (l.map D.int)]), .gone, .gone], w⟩) ?_ ?_
  · intro K hK
    simp only [run, runF, DL.get, DL.put, puts, back, mC, mVar, mFzV, mFeed, frz, msN, msC, mBin, mUn, dAdd, dSub, dMul, dDiv, dMod, dPow, dNeg, dCmp, dLt, dLe, dGt, dGe, dEq, dNe, dIn, dIsN, dIsNotN, isN, flatD, okT, truth, tV, tB, tAnd, tOr, tNot, mAnd, mOr, mNot, mIf, mChain, mList, mTup, dIx, mSl, oN, oS, mRev, mRevTo, mCall, mCallF, dLen, dAbs, dInt, dMin2, dMax2, dList, dTup, dSum, dMin, dMax, dMinG, dMaxG, dAll, isTy, mIsI, gV, gSkip, gsN, gsC, gT, srcV, srcR1, srcR2, srcEnum, srcRev, mComp, tYes, isS, isL, mMS, mML, dIndexS, dIndexL, dIndexFrom, mMS2, dCount, dSplit, dJoin, sNil, sSeq, sSet, sAsg, sPar, sRet, retK, sRetN, sIf, sPass, sBrk, sCont, sNever, sExpr, sAug, ownAt, feedAt, intD, sApp, sExt, sSetI, sAugI, sFeed, sFeedA, popD, sPop, sAddPop, sFor, DL.W.set, DL.W.at, DL.R.d, okD, eqD_none_none, eqD_none_bool, eqD_none_int, eqD_none_str, eqD_none_list, eqD_none_tup, eqD_bool_none, eqD_bool_bool, eqD_bool_int, eqD_bool_str, eqD_bool_list, eqD_bool_tup, eqD_int_none, eqD_int_bool, eqD_int_int, eqD_int_str, eqD_int_list, eqD_int_tup, eqD_str_none, eqD_str_bool, eqD_str_int, eqD_str_str, eqD_str_list, eqD_str_tup, eqD_list_none, eqD_list_bool, eqD_list_int, eqD_list_str, eqD_list_list, eqD_list_tup, eqD_tup_none, eqD_tup_bool, eqD_tup_int, eqD_tup_str, eqD_tup_list, eqD_tup_tup, eqDs_nn, eqDs_cc, eqDs_nc, eqDs_cn, List.map_cons, List.map_nil, List.map, List.cons_append, List.nil_append, List.replicate, List.length_cons, List.length_nil, Nat.reduceAdd, Nat.reduceSub, List.all_cons, List.all_nil, Bool.and_true, Bool.true_and, true_and, and_true, atI_map, ex_map, ex_some, List.length_map, beq_int, decide_eq_true_eq, if_true, if_false, Bool.false_eq_true, if_pos, reduceIte, at0, at1, at2, at3, dP, mCallX, mCallB, peekA, evA, evAs, eq_self, sRaise0, sRaise1, sTry, caught, unslot, unheld, mXArg, mXIs, runX, List.contains_cons, List.contains_nil, Slot.isExn, String.reduceBEq, ex_arg, ex_valB, Bool.or_false, Bool.false_or, Bool.or_true, Bool.true_or, Bool.not_false, Bool.not_true, ar_turns_of, ar__law_whole, ar_turned_by, ar__law_table]
    refine ⟨low_fits (by omega) (by omega), low_fits (by omega) (by omega), fun z => absurd ⟨hd, hf⟩ z, fun _ _ k' l' ht' _ => ?_⟩
    obtain ⟨rfl, rfl⟩ := ht'.uniq ht
    exact hK _ rfl
  rintro _ rfl
  refine seq_cut (fun s' => s' = ⟨[.val (.tup [.int p, .int q, .int r, .int s]), .val (.int k), .val (.list (l.map D.int)), .val (.tup [.int k, .list (l.map D.int)]), .gone, .gone], w⟩) ?_ ?_
  · intro K hK
    simp only [run, runF, DL.get, DL.put, puts, back, mC, mVar, mFzV, mFeed, frz, msN, msC, mBin, mUn, dAdd, dSub, dMul, dDiv, dMod, dPow, dNeg, dCmp, dLt, dLe, dGt, dGe, dEq, dNe, dIn, dIsN, dIsNotN, isN, flatD, okT, truth, tV, tB, tAnd, tOr, tNot, mAnd, mOr, mNot, mIf, mChain, mList, mTup, dIx, mSl, oN, oS, mRev, mRevTo, mCall, mCallF, dLen, dAbs, dInt, dMin2, dMax2, dList, dTup, dSum, dMin, dMax, dMinG, dMaxG, dAll, isTy, mIsI, gV, gSkip, gsN, gsC, gT, srcV, srcR1, srcR2, srcEnum, srcRev, mComp, tYes, isS, isL, mMS, mML, dIndexS, dIndexL, dIndexFrom, mMS2, dCount, dSplit, dJoin, sNil, sSeq, sSet, sAsg, sPar, sRet, retK, sRetN, sIf, sPass, sBrk, sCont, sNever, sExpr, sAug, ownAt, feedAt, intD, sApp, sExt, sSetI, sAugI, sFeed, sFeedA, popD, sPop, sAddPop, sFor, DL.W.set, DL.W.at, DL.R.d, okD, eqD_none_none, eqD_none_bool, eqD_none_int, eqD_none_str, eqD_none_list, eqD_none_tup, eqD_bool_none, eqD_bool_bool, eqD_bool_int, eqD_bool_str, eqD_bool_list, eqD_bool_tup, eqD_int_none, eqD_int_bool, eqD_int_int, eqD_int_str, eqD_int_list, eqD_int_tup, eqD_str_none, eqD_str_bool, eqD_str_int, eqD_str_str, eqD_str_list, eqD_str_tup, eqD_list_none, eqD_list_bool, eqD_list_int, eqD_list_str, eqD_list_list, eqD_list_tup, eqD_tup_none, eqD_tup_bool, eqD_tup_int, eqD_tup_str, eqD_tup_list, eqD_tup_tup, eqDs_nn, eqDs_cc, eqDs_nc, eqDs_cn, List.map_cons, List.map_nil, List.map, List.cons_append, List.nil_append, List.replicate, List.length_cons, List.length_nil, Nat.reduceAdd, Nat.reduceSub, List.all_cons, List.all_nil, Bool.and_true, Bool.true_and, true_and, and_true, atI_map, ex_map, ex_some, List.length_map, beq_int, decide_eq_true_eq, if_true, if_false, Bool.false_eq_true, if_pos, reduceIte, at0, at1, at2, at3, dP, mCallX, mCallB, peekA, evA, evAs, eq_self, sRaise0, sRaise1, sTry, caught, unslot, unheld, mXArg, mXIs, runX, List.contains_cons, List.contains_nil, Slot.isExn, String.reduceBEq, ex_arg, ex_valB, Bool.or_false, Bool.false_or, Bool.or_true, Bool.true_or, Bool.not_false, Bool.not_true, ar_turns_of, ar__law_whole, ar_turned_by, ar__law_table]
    rw [if_neg (by decide), if_neg (by decide)]
    exact hK _ rfl
  rintro _ rfl
  refine seq_cut (fun s' => s' = ⟨[.val (.tup [.int p, .int q, .int r, .int s]), .val (.int k), .val (.list (l.map D.int)), .val (.tup [.int k, .list (l.map D.int)]), .gone, .gone], w⟩) ?_ ?_
  · intro K hK
    simp only [run, runF, DL.get, DL.put, puts, back, mC, mVar, mFzV, mFeed, frz, msN, msC, mBin, mUn, dAdd, dSub, dMul, dDiv, dMod, dPow, dNeg, dCmp, dLt, dLe, dGt, dGe, dEq, dNe, dIn, dIsN, dIsNotN, isN, flatD, okT, truth, tV, tB, tAnd, tOr, tNot, mAnd, mOr, mNot, mIf, mChain, mList, mTup, dIx, mSl, oN, oS, mRev, mRevTo, mCall, mCallF, dLen, dAbs, dInt, dMin2, dMax2, dList, dTup, dSum, dMin, dMax, dMinG, dMaxG, dAll, isTy, mIsI, gV, gSkip, gsN, gsC, gT, srcV, srcR1, srcR2, srcEnum, srcRev, mComp, tYes, isS, isL, mMS, mML, dIndexS, dIndexL, dIndexFrom, mMS2, dCount, dSplit, dJoin, sNil, sSeq, sSet, sAsg, sPar, sRet, retK, sRetN, sIf, sPass, sBrk, sCont, sNever, sExpr, sAug, ownAt, feedAt, intD, sApp, sExt, sSetI, sAugI, sFeed, sFeedA, popD, sPop, sAddPop, sFor, DL.W.set, DL.W.at, DL.R.d, okD, eqD_none_none, eqD_none_bool, eqD_none_int, eqD_none_str, eqD_none_list, eqD_none_tup, eqD_bool_none, eqD_bool_bool, eqD_bool_int, eqD_bool_str, eqD_bool_list, eqD_bool_tup, eqD_int_none, eqD_int_bool, eqD_int_int, eqD_int_str, eqD_int_list, eqD_int_tup, eqD_str_none, eqD_str_bool, eqD_str_int, eqD_str_str, eqD_str_list, eqD_str_tup, eqD_list_none, eqD_list_bool, eqD_list_int, eqD_list_str, eqD_list_list, eqD_list_tup, eqD_tup_none, eqD_tup_bool, eqD_tup_int, eqD_tup_str, eqD_tup_list, eqD_tup_tup, eqDs_nn, eqDs_cc, eqDs_nc, eqDs_cn, List.map_cons, List.map_nil, List.map, List.cons_append, List.nil_append, List.replicate, List.length_cons, List.length_nil, Nat.reduceAdd, Nat.reduceSub, List.all_cons, List.all_nil, Bool.and_true, Bool.true_and, true_and, and_true, atI_map, ex_map, ex_some, List.length_map, beq_int, decide_eq_true_eq, if_true, if_false, Bool.false_eq_true, if_pos, reduceIte, at0, at1, at2, at3, dP, mCallX, mCallB, peekA, evA, evAs, eq_self, sRaise0, sRaise1, sTry, caught, unslot, unheld, mXArg, mXIs, runX, List.contains_cons, List.contains_nil, Slot.isExn, String.reduceBEq, ex_arg, ex_valB, Bool.or_false, Bool.false_or, Bool.or_true, Bool.true_or, Bool.not_false, Bool.not_true, ar_turns_of, ar__law_whole, ar_turned_by, ar__law_table]
    rw [if_neg (by decide)]
    exact hK _ rfl
  rintro _ rfl
  refine seq_cut (fun s' => ∃ x, s' = ⟨[.val (.tup [.int p, .int q, .int r, .int s]), .val (.int k), .val (.list (l.map D.int)), .val (.tup [.int k, .list (l.map D.int)]), x, .gone], w⟩) ?_ ?_
  · intro K hK
    refine for_r1 l.length (fun n s' => ∃ x, s' = ⟨[.val (.tup [.int p, .int q, .int r, .int s]), .val (.int k), .val (.list (l.map D.int)), .val (.tup [.int k, .list (l.map D.int)]), x, .gone], w⟩) ⟨[.val (.tup [.int p, .int q, .int r, .int s]), .val (.int k), .val (.list (l.map D.int)), .val (.tup [.int k, .list (l.map D.int)]), .gone, .gone], w⟩ ?_ (by omega) ⟨_, rfl⟩ ?_ ?_
    · intro K hK
      simp only [run, runF, DL.get, DL.put, puts, back, mC, mVar, mFzV, mFeed, frz, msN, msC, mBin, mUn, dAdd, dSub, dMul, dDiv, dMod, dPow, dNeg, dCmp, dLt, dLe, dGt, dGe, dEq, dNe, dIn, dIsN, dIsNotN, isN, flatD, okT, truth, tV, tB, tAnd, tOr, tNot, mAnd, mOr, mNot, mIf, mChain, mList, mTup, dIx, mSl, oN, oS, mRev, mRevTo, mCall, mCallF, dLen, dAbs, dInt, dMin2, dMax2, dList, dTup, dSum, dMin, dMax, dMinG, dMaxG, dAll, isTy, mIsI, gV, gSkip, gsN, gsC, gT, srcV, srcR1, srcR2, srcEnum, srcRev, mComp, tYes, isS, isL, mMS, mML, dIndexS, dIndexL, dIndexFrom, mMS2, dCount, dSplit, dJoin, sNil, sSeq, sSet, sAsg, sPar, sRet, retK, sRetN, sIf, sPass, sBrk, sCont, sNever, sExpr, sAug, ownAt, feedAt, intD, sApp, sExt, sSetI, sAugI, sFeed, sFeedA, popD, sPop, sAddPop, sFor, DL.W.set, DL.W.at, DL.R.d, okD, eqD_none_none, eqD_none_bool, eqD_none_int, eqD_none_str, eqD_none_list, eqD_none_tup, eqD_bool_none, eqD_bool_bool, eqD_bool_int, eqD_bool_str, eqD_bool_list, eqD_bool_tup, eqD_int_none, eqD_int_bool, eqD_int_int, eqD_int_str, eqD_int_list, eqD_int_tup, eqD_str_none, eqD_str_bool, eqD_str_int, eqD_str_str, eqD_str_list, eqD_str_tup, eqD_list_none, eqD_list_bool, eqD_list_int, eqD_list_str, eqD_list_list, eqD_list_tup, eqD_tup_none, eqD_tup_bool, eqD_tup_int, eqD_tup_str, eqD_tup_list, eqD_tup_tup, eqDs_nn, eqDs_cc, eqDs_nc, eqDs_cn, List.map_cons, List.map_nil, List.map, List.cons_append, List.nil_append, List.replicate, List.length_cons, List.length_nil, Nat.reduceAdd, Nat.reduceSub, List.all_cons, List.all_nil, Bool.and_true, Bool.true_and, true_and, and_true, atI_map, ex_map, ex_some, List.length_map, beq_int, decide_eq_true_eq, if_true, if_false, Bool.false_eq_true, if_pos, reduceIte, at0, at1, at2, at3, dP, mCallX, mCallB, peekA, evA, evAs, eq_self, sRaise0, sRaise1, sTry, caught, unslot, unheld, mXArg, mXIs, runX, List.contains_cons, List.contains_nil, Slot.isExn, String.reduceBEq, ex_arg, ex_valB, Bool.or_false, Bool.false_or, Bool.or_true, Bool.true_or, Bool.not_false, Bool.not_true, ar_turns_of, ar__law_whole, ar_turned_by, ar__law_table]
      exact hK
    · rintro n _ hn ⟨x, rfl⟩ K hK
      have hg := atZ hn
      simp only [run, runF, DL.get, DL.put, puts, back, mC, mVar, mFzV, mFeed, frz, msN, msC, mBin, mUn, dAdd, dSub, dMul, dDiv, dMod, dPow, dNeg, dCmp, dLt, dLe, dGt, dGe, dEq, dNe, dIn, dIsN, dIsNotN, isN, flatD, okT, truth, tV, tB, tAnd, tOr, tNot, mAnd, mOr, mNot, mIf, mChain, mList, mTup, dIx, mSl, oN, oS, mRev, mRevTo, mCall, mCallF, dLen, dAbs, dInt, dMin2, dMax2, dList, dTup, dSum, dMin, dMax, dMinG, dMaxG, dAll, isTy, mIsI, gV, gSkip, gsN, gsC, gT, srcV, srcR1, srcR2, srcEnum, srcRev, mComp, tYes, isS, isL, mMS, mML, dIndexS, dIndexL, dIndexFrom, mMS2, dCount, dSplit, dJoin, sNil, sSeq, sSet, sAsg, sPar, sRet, retK, sRetN, sIf, sPass, sBrk, sCont, sNever, sExpr, sAug, ownAt, feedAt, intD, sApp, sExt, sSetI, sAugI, sFeed, sFeedA, popD, sPop, sAddPop, sFor, DL.W.set, DL.W.at, DL.R.d, okD, eqD_none_none, eqD_none_bool, eqD_none_int, eqD_none_str, eqD_none_list, eqD_none_tup, eqD_bool_none, eqD_bool_bool, eqD_bool_int, eqD_bool_str, eqD_bool_list, eqD_bool_tup, eqD_int_none, eqD_int_bool, eqD_int_int, eqD_int_str, eqD_int_list, eqD_int_tup, eqD_str_none, eqD_str_bool, eqD_str_int, eqD_str_str, eqD_str_list, eqD_str_tup, eqD_list_none, eqD_list_bool, eqD_list_int, eqD_list_str, eqD_list_list, eqD_list_tup, eqD_tup_none, eqD_tup_bool, eqD_tup_int, eqD_tup_str, eqD_tup_list, eqD_tup_tup, eqDs_nn, eqDs_cc, eqDs_nc, eqDs_cn, List.map_cons, List.map_nil, List.map, List.cons_append, List.nil_append, List.replicate, List.length_cons, List.length_nil, Nat.reduceAdd, Nat.reduceSub, List.all_cons, List.all_nil, Bool.and_true, Bool.true_and, true_and, and_true, atI_map, ex_map, ex_some, List.length_map, beq_int, decide_eq_true_eq, if_true, if_false, Bool.false_eq_true, if_pos, reduceIte, at0, at1, at2, at3, dP, mCallX, mCallB, peekA, evA, evAs, eq_self, sRaise0, sRaise1, sTry, caught, unslot, unheld, mXArg, mXIs, runX, List.contains_cons, List.contains_nil, Slot.isExn, String.reduceBEq, ex_arg, ex_valB, Bool.or_false, Bool.false_or, Bool.or_true, Bool.true_or, Bool.not_false, Bool.not_true, ar_turns_of, ar__law_whole, ar_turned_by, ar__law_table]
      refine ⟨_, hg, _, hg, _, hg, ?_⟩
      rw [if_neg (by simp)]
      exact hK _ ⟨_, rfl⟩
    · rintro _ ⟨x, rfl⟩
      exact hK _ ⟨x, rfl⟩
  rintro _ ⟨x, rfl⟩
  have e40 : cut (List.map D.int l) none (some 40) = (l.take 40).map D.int := by rw [show (40 : Int) = ((40 : Nat) : Int) from rfl, cut_to, List.map_take]
  refine seq_cut (fun s' => s' = ⟨[.val (.tup [.int p, .int q, .int r, .int s]), .val (.int k), .val (.list (l.map D.int)), .val (.tup [.int k, .list (l.map D.int)]), x, .val (tM (tb (l.take 40)))], w⟩) ?_ ?_
  · intro K hK
    simp only [run, runF, DL.get, DL.put, puts, back, mC, mVar, mFzV, mFeed, frz, msN, msC, mBin, mUn, dAdd, dSub, dMul, dDiv, dMod, dPow, dNeg, dCmp, dLt, dLe, dGt, dGe, dEq, dNe, dIn, dIsN, dIsNotN, isN, flatD, okT, truth, tV, tB, tAnd, tOr, tNot, mAnd, mOr, mNot, mIf, mChain, mList, mTup, dIx, mSl, oN, oS, mRev, mRevTo, mCall, mCallF, dLen, dAbs, dInt, dMin2, dMax2, dList, dTup, dSum, dMin, dMax, dMinG, dMaxG, dAll, isTy, mIsI, gV, gSkip, gsN, gsC, gT, srcV, srcR1, srcR2, srcEnum, srcRev, mComp, tYes, isS, isL, mMS, mML, dIndexS, dIndexL, dIndexFrom, mMS2, dCount, dSplit, dJoin, sNil, sSeq, sSet, sAsg, sPar, sRet, retK, sRetN, sIf, sPass, sBrk, sCont, sNever, sExpr, sAug, ownAt, feedAt, intD, sApp, sExt, sSetI, sAugI, sFeed, sFeedA, popD, sPop, sAddPop, sFor, DL.W.set, DL.W.at, DL.R.d, okD, eqD_none_none, eqD_none_bool, eqD_none_int, eqD_none_str, eqD_none_list, eqD_none_tup, eqD_bool_none, eqD_bool_bool, eqD_bool_int, eqD_bool_str, eqD_bool_list, eqD_bool_tup, eqD_int_none, eqD_int_bool, eqD_int_int, eqD_int_str, eqD_int_list, eqD_int_tup, eqD_str_none, eqD_str_bool, eqD_str_int, eqD_str_str, eqD_str_list, eqD_str_tup, eqD_list_none, eqD_list_bool, eqD_list_int, eqD_list_str, eqD_list_list, eqD_list_tup, eqD_tup_none, eqD_tup_bool, eqD_tup_int, eqD_tup_str, eqD_tup_list, eqD_tup_tup, eqDs_nn, eqDs_cc, eqDs_nc, eqDs_cn, List.map_cons, List.map_nil, List.map, List.cons_append, List.nil_append, List.replicate, List.length_cons, List.length_nil, Nat.reduceAdd, Nat.reduceSub, List.all_cons, List.all_nil, Bool.and_true, Bool.true_and, true_and, and_true, atI_map, ex_map, ex_some, List.length_map, beq_int, decide_eq_true_eq, if_true, if_false, Bool.false_eq_true, if_pos, reduceIte, at0, at1, at2, at3, dP, mCallX, mCallB, peekA, evA, evAs, eq_self, sRaise0, sRaise1, sTry, caught, unslot, unheld, mXArg, mXIs, runX, List.contains_cons, List.contains_nil, Slot.isExn, String.reduceBEq, ex_arg, ex_valB, Bool.or_false, Bool.false_or, Bool.or_true, Bool.true_or, Bool.not_false, Bool.not_true, ar_turns_of, ar__law_whole, ar_turned_by, ar__law_table]
    rw [e40, ar_turned_by]
    exact ⟨okl.take 40, hK _ rfl⟩
  rintro _ rfl
  simp only [run, runF, DL.get, DL.put, puts, back, mC, mVar, mFzV, mFeed, frz, msN, msC, mBin, mUn, dAdd, dSub, dMul, dDiv, dMod, dPow, dNeg, dCmp, dLt, dLe, dGt, dGe, dEq, dNe, dIn, dIsN, dIsNotN, isN, flatD, okT, truth, tV, tB, tAnd, tOr, tNot, mAnd, mOr, mNot, mIf, mChain, mList, mTup, dIx, mSl, oN, oS, mRev, mRevTo, mCall, mCallF, dLen, dAbs, dInt, dMin2, dMax2, dList, dTup, dSum, dMin, dMax, dMinG, dMaxG, dAll, isTy, mIsI, gV, gSkip, gsN, gsC, gT, srcV, srcR1, srcR2, srcEnum, srcRev, mComp, tYes, isS, isL, mMS, mML, dIndexS, dIndexL, dIndexFrom, mMS2, dCount, dSplit, dJoin, sNil, sSeq, sSet, sAsg, sPar, sRet, retK, sRetN, sIf, sPass, sBrk, sCont, sNever, sExpr, sAug, ownAt, feedAt, intD, sApp, sExt, sSetI, sAugI, sFeed, sFeedA, popD, sPop, sAddPop, sFor, DL.W.set, DL.W.at, DL.R.d, okD, eqD_none_none, eqD_none_bool, eqD_none_int, eqD_none_str, eqD_none_list, eqD_none_tup, eqD_bool_none, eqD_bool_bool, eqD_bool_int, eqD_bool_str, eqD_bool_list, eqD_bool_tup, eqD_int_none, eqD_int_bool, eqD_int_int, eqD_int_str, eqD_int_list, eqD_int_tup, eqD_str_none, eqD_str_bool, eqD_str_int, eqD_str_str, eqD_str_list, eqD_str_tup, eqD_list_none, eqD_list_bool, eqD_list_int, eqD_list_str, eqD_list_list, eqD_list_tup, eqD_tup_none, eqD_tup_bool, eqD_tup_int, eqD_tup_str, eqD_tup_list, eqD_tup_tup, eqDs_nn, eqDs_cc, eqDs_nc, eqDs_cn, List.map_cons, List.map_nil, List.map, List.cons_append, List.nil_append, List.replicate, List.length_cons, List.length_nil, Nat.reduceAdd, Nat.reduceSub, List.all_cons, List.all_nil, Bool.and_true, Bool.true_and, true_and, and_true, atI_map, ex_map, ex_some, List.length_map, beq_int, decide_eq_true_eq, if_true, if_false, Bool.false_eq_true, if_pos, reduceIte, at0, at1, at2, at3, dP, mCallX, mCallB, peekA, evA, evAs, eq_self, sRaise0, sRaise1, sTry, caught, unslot, unheld, mXArg, mXIs, runX, List.contains_cons, List.contains_nil, Slot.isExn, String.reduceBEq, ex_arg, ex_valB, Bool.or_false, Bool.false_or, Bool.or_true, Bool.true_or, Bool.not_false, Bool.not_true, ar_turns_of, ar__law_whole, ar_turned_by, ar__law_table]
  split
  · exact hq
  · rw [List.take_of_length_le (by omega)]
    refine ⟨okl, ?_⟩
    simp only [decide_true, Bool.and_self]
    exact hq
def spec__law_any_right : Sem := fun ds w Q => ∃ (p : Int) (q : Int) (r : Int) (s : Int), ds = [.tup [.int p, .int q, .int r, .int s]] ∧ M4.det ⟨p, q, r, s⟩ = 1 ∧ fits ⟨p, q, r, s⟩ ∧ Q (.val (.bool true)) w
theorem ar__law_any_right (p : Int) (q : Int) (r : Int) (s : Int) (w : W) (Q : R → W → Prop) : ar 1 spec__law_any_right [.tup [.int p, .int q, .int r, .int s]] w Q = (M4.det ⟨p, q, r, s⟩ = 1 ∧ fits ⟨p, q, r, s⟩ ∧ Q (.val (.bool true)) w) := by
  apply propext
  constructor
  · rintro ⟨_, p', q', r', s', e, h⟩
    simp only [List.cons.injEq, D.str.injEq, D.int.injEq, D.bool.injEq, D.tup.injEq, D.list.injEq, mapInt_inj, Int.natCast_inj, and_true, and_assoc] at e
    first | (obtain ⟨rfl, rfl, rfl, rfl⟩ := e; exact h) | (obtain ⟨rfl, rfl, rfl, rfl, _⟩ := e; exact h)
  · intro h
    exact ⟨rfl, p, q, r, s, rfl, h⟩
theorem vc__law_any_right : ∀ ds w Q, spec__law_any_right ds w Q → run 3 (b__law_any_right (arX 1 spec_turns_of) (ar 1 spec__law_whole) (ar 2 spec__law_signed)) ds w Q := by
  rintro ds w Q ⟨p, q, r, s, rfl, h⟩
  unfold b__law_any_right
  obtain ⟨hd, hf, hq⟩ := h
  have hz : (2000 : Nat) ≤ LINE := by decide
  have hf' := hf
  unfold fits at hf'
  dsimp only at hf'
  show sSeq _ _ ⟨[.val (.tup [.int p, .int q, .int r, .int s]), .gone, .gone], w⟩ _
  refine seq_cut (fun s' => ∃ (k : Int) (l : List Int), Told ⟨p, q, r, s⟩ k l ∧ Okl l ∧ s' = ⟨[.val (.tup [.int p, .int q, .int r, .int s]), .val (.tup [.int k, .list (l.map D.int)]), .gone], w⟩) ?_ ?_
  · intro K hK
    simp only [run, runF, DL.get, DL.put, puts, back, mC, mVar, mFzV, mFeed, frz, msN, msC, mBin, mUn, dAdd, dSub, dMul, dDiv, dMod, dPow, dNeg, dCmp, dLt, dLe, dGt, dGe, dEq, dNe, dIn, dIsN, dIsNotN, isN, flatD, okT, truth, tV, tB, tAnd, tOr, tNot, mAnd, mOr, mNot, mIf, mChain, mList, mTup, dIx, mSl, oN, oS, mRev, mRevTo, mCall, mCallF, dLen, dAbs, dInt, dMin2, dMax2, dList, dTup, dSum, dMin, dMax, dMinG, dMaxG, dAll, isTy, mIsI, gV, gSkip, gsN, gsC, gT, srcV, srcR1, srcR2, srcEnum, srcRev, mComp, tYes, isS, isL, mMS, mML, dIndexS, dIndexL, dIndexFrom, mMS2, dCount, dSplit, dJoin, sNil, sSeq, sSet, sAsg, sPar, sRet, retK, sRetN, sIf, sPass, sBrk, sCont, sNever, sExpr, sAug, ownAt, feedAt, intD, sApp, sExt, sSetI, sAugI, sFeed, sFeedA, popD, sPop, sAddPop, sFor, DL.W.set, DL.W.at, DL.R.d, okD, eqD_none_none, eqD_none_bool, eqD_none_int, eqD_none_str, eqD_none_list, eqD_none_tup, eqD_bool_none, eqD_bool_bool, eqD_bool_int, eqD_bool_str, eqD_bool_list, eqD_bool_tup, eqD_int_none, eqD_int_bool, eqD_int_int, eqD_int_str, eqD_int_list, eqD_int_tup, eqD_str_none, eqD_str_bool, eqD_str_int, eqD_str_str, eqD_str_list, eqD_str_tup, eqD_list_none, eqD_list_bool, eqD_list_int, eqD_list_str, eqD_list_list, eqD_list_tup, eqD_tup_none, eqD_tup_bool, eqD_tup_int, eqD_tup_str, eqD_tup_list, eqD_tup_tup, eqDs_nn, eqDs_cc, eqDs_nc, eqDs_cn, List.map_cons, List.map_nil, List.map, List.cons_append, List.nil_append, List.replicate, List.length_cons, List.length_nil, Nat.reduceAdd, Nat.reduceSub, List.all_cons, List.all_nil, Bool.and_true, Bool.true_and, true_and, and_true, atI_map, ex_map, ex_some, List.length_map, beq_int, decide_eq_true_eq, if_true, if_false, Bool.false_eq_true, if_pos, reduceIte, at0, at1, at2, at3, dP, mCallX, mCallB, peekA, evA, evAs, eq_self, sRaise0, sRaise1, sTry, caught, unslot, unheld, mXArg, mXIs, runX, List.contains_cons, List.contains_nil, Slot.isExn, String.reduceBEq, ex_arg, ex_valB, Bool.or_false, Bool.false_or, Bool.or_true, Bool.true_or, Bool.not_false, Bool.not_true, ar_turns_of, ar__law_whole, ar__law_signed]
    exact ⟨low_fits (by omega) (by omega), low_fits (by omega) (by omega), fun z => absurd ⟨hd, hf⟩ z, fun _ _ k' l' ht' ho => hK _ ⟨k', l', ht', ho, rfl⟩⟩
  rintro _ ⟨k, l, ht, ho, rfl⟩
  have hlen := ho.len
  refine seq_cut (fun s' => s' = ⟨[.val (.tup [.int p, .int q, .int r, .int s]), .val (.tup [.int k, .list (l.map D.int)]), .gone], w⟩) ?_ ?_
  · intro K hK
    simp only [run, runF, DL.get, DL.put, puts, back, mC, mVar, mFzV, mFeed, frz, msN, msC, mBin, mUn, dAdd, dSub, dMul, dDiv, dMod, dPow, dNeg, dCmp, dLt, dLe, dGt, dGe, dEq, dNe, dIn, dIsN, dIsNotN, isN, flatD, okT, truth, tV, tB, tAnd, tOr, tNot, mAnd, mOr, mNot, mIf, mChain, mList, mTup, dIx, mSl, oN, oS, mRev, mRevTo, mCall, mCallF, dLen, dAbs, dInt, dMin2, dMax2, dList, dTup, dSum, dMin, dMax, dMinG, dMaxG, dAll, isTy, mIsI, gV, gSkip, gsN, gsC, gT, srcV, srcR1, srcR2, srcEnum, srcRev, mComp, tYes, isS, isL, mMS, mML, dIndexS, dIndexL, dIndexFrom, mMS2, dCount, dSplit, dJoin, sNil, sSeq, sSet, sAsg, sPar, sRet, retK, sRetN, sIf, sPass, sBrk, sCont, sNever, sExpr, sAug, ownAt, feedAt, intD, sApp, sExt, sSetI, sAugI, sFeed, sFeedA, popD, sPop, sAddPop, sFor, DL.W.set, DL.W.at, DL.R.d, okD, eqD_none_none, eqD_none_bool, eqD_none_int, eqD_none_str, eqD_none_list, eqD_none_tup, eqD_bool_none, eqD_bool_bool, eqD_bool_int, eqD_bool_str, eqD_bool_list, eqD_bool_tup, eqD_int_none, eqD_int_bool, eqD_int_int, eqD_int_str, eqD_int_list, eqD_int_tup, eqD_str_none, eqD_str_bool, eqD_str_int, eqD_str_str, eqD_str_list, eqD_str_tup, eqD_list_none, eqD_list_bool, eqD_list_int, eqD_list_str, eqD_list_list, eqD_list_tup, eqD_tup_none, eqD_tup_bool, eqD_tup_int, eqD_tup_str, eqD_tup_list, eqD_tup_tup, eqDs_nn, eqDs_cc, eqDs_nc, eqDs_cn, List.map_cons, List.map_nil, List.map, List.cons_append, List.nil_append, List.replicate, List.length_cons, List.length_nil, Nat.reduceAdd, Nat.reduceSub, List.all_cons, List.all_nil, Bool.and_true, Bool.true_and, true_and, and_true, atI_map, ex_map, ex_some, List.length_map, beq_int, decide_eq_true_eq, if_true, if_false, Bool.false_eq_true, if_pos, reduceIte, at0, at1, at2, at3, dP, mCallX, mCallB, peekA, evA, evAs, eq_self, sRaise0, sRaise1, sTry, caught, unslot, unheld, mXArg, mXIs, runX, List.contains_cons, List.contains_nil, Slot.isExn, String.reduceBEq, ex_arg, ex_valB, Bool.or_false, Bool.false_or, Bool.or_true, Bool.true_or, Bool.not_false, Bool.not_true, ar_turns_of, ar__law_whole, ar__law_signed]
    have e : (true ^^ [D.int 1, D.int (-1)].any fun d => eqD d (D.int k)) = false := by
      simp only [List.any_cons, List.any_nil, eqD_int_int]
      rcases ht.sign with rfl | rfl <;> decide
    rw [if_neg (by decide), e]
    exact ⟨by decide, hK _ rfl⟩
  rintro _ rfl
  refine seq_cut (fun s' => s' = ⟨[.val (.tup [.int p, .int q, .int r, .int s]), .val (.tup [.int k, .list (l.map D.int)]), .gone], w⟩) ?_ ?_
  · intro K hK
    simp only [run, runF, DL.get, DL.put, puts, back, mC, mVar, mFzV, mFeed, frz, msN, msC, mBin, mUn, dAdd, dSub, dMul, dDiv, dMod, dPow, dNeg, dCmp, dLt, dLe, dGt, dGe, dEq, dNe, dIn, dIsN, dIsNotN, isN, flatD, okT, truth, tV, tB, tAnd, tOr, tNot, mAnd, mOr, mNot, mIf, mChain, mList, mTup, dIx, mSl, oN, oS, mRev, mRevTo, mCall, mCallF, dLen, dAbs, dInt, dMin2, dMax2, dList, dTup, dSum, dMin, dMax, dMinG, dMaxG, dAll, isTy, mIsI, gV, gSkip, gsN, gsC, gT, srcV, srcR1, srcR2, srcEnum, srcRev, mComp, tYes, isS, isL, mMS, mML, dIndexS, dIndexL, dIndexFrom, mMS2, dCount, dSplit, dJoin, sNil, sSeq, sSet, sAsg, sPar, sRet, retK, sRetN, sIf, sPass, sBrk, sCont, sNever, sExpr, sAug, ownAt, feedAt, intD, sApp, sExt, sSetI, sAugI, sFeed, sFeedA, popD, sPop, sAddPop, sFor, DL.W.set, DL.W.at, DL.R.d, okD, eqD_none_none, eqD_none_bool, eqD_none_int, eqD_none_str, eqD_none_list, eqD_none_tup, eqD_bool_none, eqD_bool_bool, eqD_bool_int, eqD_bool_str, eqD_bool_list, eqD_bool_tup, eqD_int_none, eqD_int_bool, eqD_int_int, eqD_int_str, eqD_int_list, eqD_int_tup, eqD_str_none, eqD_str_bool, eqD_str_int, eqD_str_str, eqD_str_list, eqD_str_tup, eqD_list_none, eqD_list_bool, eqD_list_int, eqD_list_str, eqD_list_list, eqD_list_tup, eqD_tup_none, eqD_tup_bool, eqD_tup_int, eqD_tup_str, eqD_tup_list, eqD_tup_tup, eqDs_nn, eqDs_cc, eqDs_nc, eqDs_cn, List.map_cons, List.map_nil, List.map, List.cons_append, List.nil_append, List.replicate, List.length_cons, List.length_nil, Nat.reduceAdd, Nat.reduceSub, List.all_cons, List.all_nil, Bool.and_true, Bool.true_and, true_and, and_true, atI_map, ex_map, ex_some, List.length_map, beq_int, decide_eq_true_eq, if_true, if_false, Bool.false_eq_true, if_pos, reduceIte, at0, at1, at2, at3, dP, mCallX, mCallB, peekA, evA, evAs, eq_self, sRaise0, sRaise1, sTry, caught, unslot, unheld, mXArg, mXIs, runX, List.contains_cons, List.contains_nil, Slot.isExn, String.reduceBEq, ex_arg, ex_valB, Bool.or_false, Bool.false_or, Bool.or_true, Bool.true_or, Bool.not_false, Bool.not_true, ar_turns_of, ar__law_whole, ar__law_signed]
    have := List.length_pos_iff.mpr ht.ne
    rw [if_neg (by omega)]
    exact hK _ rfl
  rintro _ rfl
  refine seq_cut (fun s' => ∃ x, s' = ⟨[.val (.tup [.int p, .int q, .int r, .int s]), .val (.tup [.int k, .list (l.map D.int)]), x], w⟩) ?_ ?_
  · intro K hK
    refine for_cut (fun ds s' => ds = l.map D.int ∧ s' = ⟨[.val (.tup [.int p, .int q, .int r, .int s]), .val (.tup [.int k, .list (l.map D.int)]), .gone], w⟩) ?_ ?_
    · intro K hK
      simp only [run, runF, DL.get, DL.put, puts, back, mC, mVar, mFzV, mFeed, frz, msN, msC, mBin, mUn, dAdd, dSub, dMul, dDiv, dMod, dPow, dNeg, dCmp, dLt, dLe, dGt, dGe, dEq, dNe, dIn, dIsN, dIsNotN, isN, flatD, okT, truth, tV, tB, tAnd, tOr, tNot, mAnd, mOr, mNot, mIf, mChain, mList, mTup, dIx, mSl, oN, oS, mRev, mRevTo, mCall, mCallF, dLen, dAbs, dInt, dMin2, dMax2, dList, dTup, dSum, dMin, dMax, dMinG, dMaxG, dAll, isTy, mIsI, gV, gSkip, gsN, gsC, gT, srcV, srcR1, srcR2, srcEnum, srcRev, mComp, tYes, isS, isL, mMS, mML, dIndexS, dIndexL, dIndexFrom, mMS2, dCount, dSplit, dJoin, sNil, sSeq, sSet, sAsg, sPar, sRet, retK, sRetN, sIf, sPass, sBrk, sCont, sNever, sExpr, sAug, ownAt, feedAt, intD, sApp, sExt, sSetI, sAugI, sFeed, sFeedA, popD, sPop, sAddPop, sFor, DL.W.set, DL.W.at, DL.R.d, okD, eqD_none_none, eqD_none_bool, eqD_none_int, eqD_none_str, eqD_none_list, eqD_none_tup, eqD_bool_none, eqD_bool_bool, eqD_bool_int, eqD_bool_str, eqD_bool_list, eqD_bool_tup, eqD_int_none, eqD_int_bool, eqD_int_int, eqD_int_str, eqD_int_list, eqD_int_tup, eqD_str_none, eqD_str_bool, eqD_str_int, eqD_str_str, eqD_str_list, eqD_str_tup, eqD_list_none, eqD_list_bool, eqD_list_int, eqD_list_str, eqD_list_list, eqD_list_tup, eqD_tup_none, eqD_tup_bool, eqD_tup_int, eqD_tup_str, eqD_tup_list, eqD_tup_tup, eqDs_nn, eqDs_cc, eqDs_nc, eqDs_cn, List.map_cons, List.map_nil, List.map, List.cons_append, List.nil_append, List.replicate, List.length_cons, List.length_nil, Nat.reduceAdd, Nat.reduceSub, List.all_cons, List.all_nil, Bool.and_true, Bool.true_and, true_and, and_true, atI_map, ex_map, ex_some, List.length_map, beq_int, decide_eq_true_eq, if_true, if_false, Bool.false_eq_true, if_pos, reduceIte, at0, at1, at2, at3, dP, mCallX, mCallB, peekA, evA, evAs, eq_self, sRaise0, sRaise1, sTry, caught, unslot, unheld, mXArg, mXIs, runX, List.contains_cons, List.contains_nil, Slot.isExn, String.reduceBEq, ex_arg, ex_valB, Bool.or_false, Bool.false_or, Bool.or_true, Bool.true_or, Bool.not_false, Bool.not_true, ar_turns_of, ar__law_whole, ar__law_signed]
      exact hK _ _ ⟨rfl, rfl⟩
    rintro ds _ ⟨rfl, rfl⟩
    refine forL_ix _ (fun n s' => ∃ x, s' = ⟨[.val (.tup [.int p, .int q, .int r, .int s]), .val (.tup [.int k, .list (l.map D.int)]), x], w⟩) ?_ (fun s h => hK s h) _ ⟨_, rfl⟩
    rintro n d _ hdd ⟨x, rfl⟩ K hK
    obtain ⟨y, hy, rfl⟩ := List.mem_map.mp (List.mem_of_getElem? hdd)
    simp only [run, runF, DL.get, DL.put, puts, back, mC, mVar, mFzV, mFeed, frz, msN, msC, mBin, mUn, dAdd, dSub, dMul, dDiv, dMod, dPow, dNeg, dCmp, dLt, dLe, dGt, dGe, dEq, dNe, dIn, dIsN, dIsNotN, isN, flatD, okT, truth, tV, tB, tAnd, tOr, tNot, mAnd, mOr, mNot, mIf, mChain, mList, mTup, dIx, mSl, oN, oS, mRev, mRevTo, mCall, mCallF, dLen, dAbs, dInt, dMin2, dMax2, dList, dTup, dSum, dMin, dMax, dMinG, dMaxG, dAll, isTy, mIsI, gV, gSkip, gsN, gsC, gT, srcV, srcR1, srcR2, srcEnum, srcRev, mComp, tYes, isS, isL, mMS, mML, dIndexS, dIndexL, dIndexFrom, mMS2, dCount, dSplit, dJoin, sNil, sSeq, sSet, sAsg, sPar, sRet, retK, sRetN, sIf, sPass, sBrk, sCont, sNever, sExpr, sAug, ownAt, feedAt, intD, sApp, sExt, sSetI, sAugI, sFeed, sFeedA, popD, sPop, sAddPop, sFor, DL.W.set, DL.W.at, DL.R.d, okD, eqD_none_none, eqD_none_bool, eqD_none_int, eqD_none_str, eqD_none_list, eqD_none_tup, eqD_bool_none, eqD_bool_bool, eqD_bool_int, eqD_bool_str, eqD_bool_list, eqD_bool_tup, eqD_int_none, eqD_int_bool, eqD_int_int, eqD_int_str, eqD_int_list, eqD_int_tup, eqD_str_none, eqD_str_bool, eqD_str_int, eqD_str_str, eqD_str_list, eqD_str_tup, eqD_list_none, eqD_list_bool, eqD_list_int, eqD_list_str, eqD_list_list, eqD_list_tup, eqD_tup_none, eqD_tup_bool, eqD_tup_int, eqD_tup_str, eqD_tup_list, eqD_tup_tup, eqDs_nn, eqDs_cc, eqDs_nc, eqDs_cn, List.map_cons, List.map_nil, List.map, List.cons_append, List.nil_append, List.replicate, List.length_cons, List.length_nil, Nat.reduceAdd, Nat.reduceSub, List.all_cons, List.all_nil, Bool.and_true, Bool.true_and, true_and, and_true, atI_map, ex_map, ex_some, List.length_map, beq_int, decide_eq_true_eq, if_true, if_false, Bool.false_eq_true, if_pos, reduceIte, at0, at1, at2, at3, dP, mCallX, mCallB, peekA, evA, evAs, eq_self, sRaise0, sRaise1, sTry, caught, unslot, unheld, mXArg, mXIs, runX, List.contains_cons, List.contains_nil, Slot.isExn, String.reduceBEq, ex_arg, ex_valB, Bool.or_false, Bool.false_or, Bool.or_true, Bool.true_or, Bool.not_false, Bool.not_true, ar_turns_of, ar__law_whole, ar__law_signed]
    exact hK _ ⟨_, rfl⟩
  rintro _ ⟨x, rfl⟩
  refine seq_cut (fun s' => ∃ x, s' = ⟨[.val (.tup [.int p, .int q, .int r, .int s]), .val (.tup [.int k, .list (l.map D.int)]), x], w⟩) ?_ ?_
  · intro K hK
    refine for_cut (fun ds s' => ds = ((l.drop 1).dropLast).map D.int ∧ s' = ⟨[.val (.tup [.int p, .int q, .int r, .int s]), .val (.tup [.int k, .list (l.map D.int)]), x], w⟩) ?_ ?_
    · intro K hK
      simp only [run, runF, DL.get, DL.put, puts, back, mC, mVar, mFzV, mFeed, frz, msN, msC, mBin, mUn, dAdd, dSub, dMul, dDiv, dMod, dPow, dNeg, dCmp, dLt, dLe, dGt, dGe, dEq, dNe, dIn, dIsN, dIsNotN, isN, flatD, okT, truth, tV, tB, tAnd, tOr, tNot, mAnd, mOr, mNot, mIf, mChain, mList, mTup, dIx, mSl, oN, oS, mRev, mRevTo, mCall, mCallF, dLen, dAbs, dInt, dMin2, dMax2, dList, dTup, dSum, dMin, dMax, dMinG, dMaxG, dAll, isTy, mIsI, gV, gSkip, gsN, gsC, gT, srcV, srcR1, srcR2, srcEnum, srcRev, mComp, tYes, isS, isL, mMS, mML, dIndexS, dIndexL, dIndexFrom, mMS2, dCount, dSplit, dJoin, sNil, sSeq, sSet, sAsg, sPar, sRet, retK, sRetN, sIf, sPass, sBrk, sCont, sNever, sExpr, sAug, ownAt, feedAt, intD, sApp, sExt, sSetI, sAugI, sFeed, sFeedA, popD, sPop, sAddPop, sFor, DL.W.set, DL.W.at, DL.R.d, okD, eqD_none_none, eqD_none_bool, eqD_none_int, eqD_none_str, eqD_none_list, eqD_none_tup, eqD_bool_none, eqD_bool_bool, eqD_bool_int, eqD_bool_str, eqD_bool_list, eqD_bool_tup, eqD_int_none, eqD_int_bool, eqD_int_int, eqD_int_str, eqD_int_list, eqD_int_tup, eqD_str_none, eqD_str_bool, eqD_str_int, eqD_str_str, eqD_str_list, eqD_str_tup, eqD_list_none, eqD_list_bool, eqD_list_int, eqD_list_str, eqD_list_list, eqD_list_tup, eqD_tup_none, eqD_tup_bool, eqD_tup_int, eqD_tup_str, eqD_tup_list, eqD_tup_tup, eqDs_nn, eqDs_cc, eqDs_nc, eqDs_cn, List.map_cons, List.map_nil, List.map, List.cons_append, List.nil_append, List.replicate, List.length_cons, List.length_nil, Nat.reduceAdd, Nat.reduceSub, List.all_cons, List.all_nil, Bool.and_true, Bool.true_and, true_and, and_true, atI_map, ex_map, ex_some, List.length_map, beq_int, decide_eq_true_eq, if_true, if_false, Bool.false_eq_true, if_pos, reduceIte, at0, at1, at2, at3, dP, mCallX, mCallB, peekA, evA, evAs, eq_self, sRaise0, sRaise1, sTry, caught, unslot, unheld, mXArg, mXIs, runX, List.contains_cons, List.contains_nil, Slot.isExn, String.reduceBEq, ex_arg, ex_valB, Bool.or_false, Bool.false_or, Bool.or_true, Bool.true_or, Bool.not_false, Bool.not_true, ar_turns_of, ar__law_whole, ar__law_signed]
      refine hK _ _ ⟨?_, rfl⟩
      rw [cut_mid, ← List.map_drop, ← List.map_dropLast]
    rintro ds _ ⟨rfl, rfl⟩
    refine forL_ix _ (fun n s' => ∃ x, s' = ⟨[.val (.tup [.int p, .int q, .int r, .int s]), .val (.tup [.int k, .list (l.map D.int)]), x], w⟩) ?_ (fun s h => hK s h) _ ⟨_, rfl⟩
    rintro n d _ hdd ⟨x, rfl⟩ K hK
    obtain ⟨y, hy, rfl⟩ := List.mem_map.mp (List.mem_of_getElem? hdd)
    have h2 := ht.mid y hy
    simp only [run, runF, DL.get, DL.put, puts, back, mC, mVar, mFzV, mFeed, frz, msN, msC, mBin, mUn, dAdd, dSub, dMul, dDiv, dMod, dPow, dNeg, dCmp, dLt, dLe, dGt, dGe, dEq, dNe, dIn, dIsN, dIsNotN, isN, flatD, okT, truth, tV, tB, tAnd, tOr, tNot, mAnd, mOr, mNot, mIf, mChain, mList, mTup, dIx, mSl, oN, oS, mRev, mRevTo, mCall, mCallF, dLen, dAbs, dInt, dMin2, dMax2, dList, dTup, dSum, dMin, dMax, dMinG, dMaxG, dAll, isTy, mIsI, gV, gSkip, gsN, gsC, gT, srcV, srcR1, srcR2, srcEnum, srcRev, mComp, tYes, isS, isL, mMS, mML, dIndexS, dIndexL, dIndexFrom, mMS2, dCount, dSplit, dJoin, sNil, sSeq, sSet, sAsg, sPar, sRet, retK, sRetN, sIf, sPass, sBrk, sCont, sNever, sExpr, sAug, ownAt, feedAt, intD, sApp, sExt, sSetI, sAugI, sFeed, sFeedA, popD, sPop, sAddPop, sFor, DL.W.set, DL.W.at, DL.R.d, okD, eqD_none_none, eqD_none_bool, eqD_none_int, eqD_none_str, eqD_none_list, eqD_none_tup, eqD_bool_none, eqD_bool_bool, eqD_bool_int, eqD_bool_str, eqD_bool_list, eqD_bool_tup, eqD_int_none, eqD_int_bool, eqD_int_int, eqD_int_str, eqD_int_list, eqD_int_tup, eqD_str_none, eqD_str_bool, eqD_str_int, eqD_str_str, eqD_str_list, eqD_str_tup, eqD_list_none, eqD_list_bool, eqD_list_int, eqD_list_str, eqD_list_list, eqD_list_tup, eqD_tup_none, eqD_tup_bool, eqD_tup_int, eqD_tup_str, eqD_tup_list, eqD_tup_tup, eqDs_nn, eqDs_cc, eqDs_nc, eqDs_cn, List.map_cons, List.map_nil, List.map, List.cons_append, List.nil_append, List.replicate, List.length_cons, List.length_nil, Nat.reduceAdd, Nat.reduceSub, List.all_cons, List.all_nil, Bool.and_true, Bool.true_and, true_and, and_true, atI_map, ex_map, ex_some, List.length_map, beq_int, decide_eq_true_eq, if_true, if_false, Bool.false_eq_true, if_pos, reduceIte, at0, at1, at2, at3, dP, mCallX, mCallB, peekA, evA, evAs, eq_self, sRaise0, sRaise1, sTry, caught, unslot, unheld, mXArg, mXIs, runX, List.contains_cons, List.contains_nil, Slot.isExn, String.reduceBEq, ex_arg, ex_valB, Bool.or_false, Bool.false_or, Bool.or_true, Bool.true_or, Bool.not_false, Bool.not_true, ar_turns_of, ar__law_whole, ar__law_signed]
    rw [if_neg (by omega)]
    exact hK _ ⟨_, rfl⟩
  rintro _ ⟨x, rfl⟩
  have he := ht.eq
  simp only [run, runF, DL.get, DL.put, puts, back, mC, mVar, mFzV, mFeed, frz, msN, msC, mBin, mUn, dAdd, dSub, dMul, dDiv, dMod, dPow, dNeg, dCmp, dLt, dLe, dGt, dGe, dEq, dNe, dIn, dIsN, dIsNotN, isN, flatD, okT, truth, tV, tB, tAnd, tOr, tNot, mAnd, mOr, mNot, mIf, mChain, mList, mTup, dIx, mSl, oN, oS, mRev, mRevTo, mCall, mCallF, dLen, dAbs, dInt, dMin2, dMax2, dList, dTup, dSum, dMin, dMax, dMinG, dMaxG, dAll, isTy, mIsI, gV, gSkip, gsN, gsC, gT, srcV, srcR1, srcR2, srcEnum, srcRev, mComp, tYes, isS, isL, mMS, mML, dIndexS, dIndexL, dIndexFrom, mMS2, dCount, dSplit, dJoin, sNil, sSeq, sSet, sAsg, sPar, sRet, retK, sRetN, sIf, sPass, sBrk, sCont, sNever, sExpr, sAug, ownAt, feedAt, intD, sApp, sExt, sSetI, sAugI, sFeed, sFeedA, popD, sPop, sAddPop, sFor, DL.W.set, DL.W.at, DL.R.d, okD, eqD_none_none, eqD_none_bool, eqD_none_int, eqD_none_str, eqD_none_list, eqD_none_tup, eqD_bool_none, eqD_bool_bool, eqD_bool_int, eqD_bool_str, eqD_bool_list, eqD_bool_tup, eqD_int_none, eqD_int_bool, eqD_int_int, eqD_int_str, eqD_int_list, eqD_int_tup, eqD_str_none, eqD_str_bool, eqD_str_int, eqD_str_str, eqD_str_list, eqD_str_tup, eqD_list_none, eqD_list_bool, eqD_list_int, eqD_list_str, eqD_list_list, eqD_list_tup, eqD_tup_none, eqD_tup_bool, eqD_tup_int, eqD_tup_str, eqD_tup_list, eqD_tup_tup, eqDs_nn, eqDs_cc, eqDs_nc, eqDs_cn, List.map_cons, List.map_nil, List.map, List.cons_append, List.nil_append, List.replicate, List.length_cons, List.length_nil, Nat.reduceAdd, Nat.reduceSub, List.all_cons, List.all_nil, Bool.and_true, Bool.true_and, true_and, and_true, atI_map, ex_map, ex_some, List.length_map, beq_int, decide_eq_true_eq, if_true, if_false, Bool.false_eq_true, if_pos, reduceIte, at0, at1, at2, at3, dP, mCallX, mCallB, peekA, evA, evAs, eq_self, sRaise0, sRaise1, sTry, caught, unslot, unheld, mXArg, mXIs, runX, List.contains_cons, List.contains_nil, Slot.isExn, String.reduceBEq, ex_arg, ex_valB, Bool.or_false, Bool.false_or, Bool.or_true, Bool.true_or, Bool.not_false, Bool.not_true, ar_turns_of, ar__law_whole, ar__law_signed]
  rw [he]
  simp only [decide_true, Bool.and_self]
  exact ⟨ho, ht.sign, hq⟩
def spec__law_refused : Sem := fun ds w Q => ∃ (p : Int) (q : Int) (r : Int) (s : Int), ds = [.tup [.int p, .int q, .int r, .int s]] ∧ lowV 24000 (p, q) ∧ lowV 24000 (r, s) ∧ ¬ (M4.det ⟨p, q, r, s⟩ = 1 ∧ fits ⟨p, q, r, s⟩) ∧ Q (.val (.bool true)) w
theorem ar__law_refused (p : Int) (q : Int) (r : Int) (s : Int) (w : W) (Q : R → W → Prop) : ar 1 spec__law_refused [.tup [.int p, .int q, .int r, .int s]] w Q = (lowV 24000 (p, q) ∧ lowV 24000 (r, s) ∧ ¬ (M4.det ⟨p, q, r, s⟩ = 1 ∧ fits ⟨p, q, r, s⟩) ∧ Q (.val (.bool true)) w) := by
  apply propext
  constructor
  · rintro ⟨_, p', q', r', s', e, h⟩
    simp only [List.cons.injEq, D.str.injEq, D.int.injEq, D.bool.injEq, D.tup.injEq, D.list.injEq, mapInt_inj, Int.natCast_inj, and_true, and_assoc] at e
    first | (obtain ⟨rfl, rfl, rfl, rfl⟩ := e; exact h) | (obtain ⟨rfl, rfl, rfl, rfl, _⟩ := e; exact h)
  · intro h
    exact ⟨rfl, p, q, r, s, rfl, h⟩
theorem vc__law_refused : ∀ ds w Q, spec__law_refused ds w Q → run 2 (b__law_refused (arX 1 spec_turns_of)) ds w Q := by
  rintro ds w Q ⟨p, q, r, s, rfl, h⟩
  unfold b__law_refused
  simp only [run, runF, DL.get, DL.put, puts, back, mC, mVar, mFzV, mFeed, frz, msN, msC, mBin, mUn, dAdd, dSub, dMul, dDiv, dMod, dPow, dNeg, dCmp, dLt, dLe, dGt, dGe, dEq, dNe, dIn, dIsN, dIsNotN, isN, flatD, okT, truth, tV, tB, tAnd, tOr, tNot, mAnd, mOr, mNot, mIf, mChain, mList, mTup, dIx, mSl, oN, oS, mRev, mRevTo, mCall, mCallF, dLen, dAbs, dInt, dMin2, dMax2, dList, dTup, dSum, dMin, dMax, dMinG, dMaxG, dAll, isTy, mIsI, gV, gSkip, gsN, gsC, gT, srcV, srcR1, srcR2, srcEnum, srcRev, mComp, tYes, isS, isL, mMS, mML, dIndexS, dIndexL, dIndexFrom, mMS2, dCount, dSplit, dJoin, sNil, sSeq, sSet, sAsg, sPar, sRet, retK, sRetN, sIf, sPass, sBrk, sCont, sNever, sExpr, sAug, ownAt, feedAt, intD, sApp, sExt, sSetI, sAugI, sFeed, sFeedA, popD, sPop, sAddPop, sFor, DL.W.set, DL.W.at, DL.R.d, okD, eqD_none_none, eqD_none_bool, eqD_none_int, eqD_none_str, eqD_none_list, eqD_none_tup, eqD_bool_none, eqD_bool_bool, eqD_bool_int, eqD_bool_str, eqD_bool_list, eqD_bool_tup, eqD_int_none, eqD_int_bool, eqD_int_int, eqD_int_str, eqD_int_list, eqD_int_tup, eqD_str_none, eqD_str_bool, eqD_str_int, eqD_str_str, eqD_str_list, eqD_str_tup, eqD_list_none, eqD_list_bool, eqD_list_int, eqD_list_str, eqD_list_list, eqD_list_tup, eqD_tup_none, eqD_tup_bool, eqD_tup_int, eqD_tup_str, eqD_tup_list, eqD_tup_tup, eqDs_nn, eqDs_cc, eqDs_nc, eqDs_cn, List.map_cons, List.map_nil, List.map, List.cons_append, List.nil_append, List.replicate, List.length_cons, List.length_nil, Nat.reduceAdd, Nat.reduceSub, List.all_cons, List.all_nil, Bool.and_true, Bool.true_and, true_and, and_true, atI_map, ex_map, ex_some, List.length_map, beq_int, decide_eq_true_eq, if_true, if_false, Bool.false_eq_true, if_pos, reduceIte, at0, at1, at2, at3, dP, mCallX, mCallB, peekA, evA, evAs, eq_self, sRaise0, sRaise1, sTry, caught, unslot, unheld, mXArg, mXIs, runX, List.contains_cons, List.contains_nil, Slot.isExn, String.reduceBEq, ex_arg, ex_valB, Bool.or_false, Bool.false_or, Bool.or_true, Bool.true_or, Bool.not_false, Bool.not_true, ar_turns_of]
  obtain ⟨h1, h2, h3, hq⟩ := h
  exact ⟨h1, h2, fun _ => by simpa using hq, fun a b => absurd ⟨a, b⟩ h3⟩
structure Sh (l : List Int) : Prop where
  ne : l ≠ []
  mid : ∀ x ∈ (l.drop 1).dropLast, 2 ≤ x
  low : ∀ x ∈ l, x.natAbs < 1024
  len : l.length ≤ 1000
  fit : fits (tb l)
def spec__law_drawn : Sem := fun ds w Q => ds = [] ∧ Wok w ∧ (∀ l w', Sh l → Wok w' → Q (.own (l.map D.int)) w') ∧ (∀ l w', Sh l → Wok w' → Q (.val (.list (l.map D.int))) w')
theorem ar__law_drawn (w : W) (Q : R → W → Prop) : ar 0 spec__law_drawn [] w Q = (Wok w ∧ (∀ l w', Sh l → Wok w' → Q (.own (l.map D.int)) w') ∧ (∀ l w', Sh l → Wok w' → Q (.val (.list (l.map D.int))) w')) := by
  apply propext
  constructor
  · rintro ⟨_, _, h⟩
    exact h
  · intro h
    exact ⟨rfl, rfl, h⟩
theorem vc__law_drawn : ∀ ds w Q, spec__law_drawn ds w Q → runF 5 (b__law_drawn (ar 1 spec__law_draw) (ar 1 spec__law_fits) (ar 1 spec__law_table)) ds w Q := by
  rintro ds w Q ⟨rfl, h⟩
  unfold b__law_drawn
  obtain ⟨hk, q1, q2⟩ := h
  have hz : (2000 : Nat) ≤ LINE := by decide
  show sSeq _ _ ⟨[.feed, .gone, .gone, .gone, .gone], w⟩ _
  refine seq_cut (fun s' => ∃ (c : Int) (w' : W), (-9 ≤ c ∧ c ≤ 9) ∧ Wok w' ∧ s' = ⟨[.feed, .own ([c].map D.int), .gone, .gone, .gone], w'⟩) ?_ ?_
  · intro K hK
    simp only [run, runF, DL.get, DL.put, puts, back, mC, mVar, mFzV, mFeed, frz, msN, msC, mBin, mUn, dAdd, dSub, dMul, dDiv, dMod, dPow, dNeg, dCmp, dLt, dLe, dGt, dGe, dEq, dNe, dIn, dIsN, dIsNotN, isN, flatD, okT, truth, tV, tB, tAnd, tOr, tNot, mAnd, mOr, mNot, mIf, mChain, mList, mTup, dIx, mSl, oN, oS, mRev, mRevTo, mCall, mCallF, dLen, dAbs, dInt, dMin2, dMax2, dList, dTup, dSum, dMin, dMax, dMinG, dMaxG, dAll, isTy, mIsI, gV, gSkip, gsN, gsC, gT, srcV, srcR1, srcR2, srcEnum, srcRev, mComp, tYes, isS, isL, mMS, mML, dIndexS, dIndexL, dIndexFrom, mMS2, dCount, dSplit, dJoin, sNil, sSeq, sSet, sAsg, sPar, sRet, retK, sRetN, sIf, sPass, sBrk, sCont, sNever, sExpr, sAug, ownAt, feedAt, intD, sApp, sExt, sSetI, sAugI, sFeed, sFeedA, popD, sPop, sAddPop, sFor, DL.W.set, DL.W.at, DL.R.d, okD, eqD_none_none, eqD_none_bool, eqD_none_int, eqD_none_str, eqD_none_list, eqD_none_tup, eqD_bool_none, eqD_bool_bool, eqD_bool_int, eqD_bool_str, eqD_bool_list, eqD_bool_tup, eqD_int_none, eqD_int_bool, eqD_int_int, eqD_int_str, eqD_int_list, eqD_int_tup, eqD_str_none, eqD_str_bool, eqD_str_int, eqD_str_str, eqD_str_list, eqD_str_tup, eqD_list_none, eqD_list_bool, eqD_list_int, eqD_list_str, eqD_list_list, eqD_list_tup, eqD_tup_none, eqD_tup_bool, eqD_tup_int, eqD_tup_str, eqD_tup_list, eqD_tup_tup, eqDs_nn, eqDs_cc, eqDs_nc, eqDs_cn, List.map_cons, List.map_nil, List.map, List.cons_append, List.nil_append, List.replicate, List.length_cons, List.length_nil, Nat.reduceAdd, Nat.reduceSub, List.all_cons, List.all_nil, Bool.and_true, Bool.true_and, true_and, and_true, atI_map, ex_map, ex_some, List.length_map, beq_int, decide_eq_true_eq, if_true, if_false, Bool.false_eq_true, if_pos, reduceIte, at0, at1, at2, at3, dP, mCallX, mCallB, peekA, evA, evAs, eq_self, sRaise0, sRaise1, sTry, caught, unslot, unheld, mXArg, mXIs, runX, List.contains_cons, List.contains_nil, Slot.isExn, String.reduceBEq, ex_arg, ex_valB, Bool.or_false, Bool.false_or, Bool.or_true, Bool.true_or, Bool.not_false, Bool.not_true, ar__law_draw, ar__law_fits, ar__law_table]
    exact ⟨by decide, by decide, hk, fun r w' r0 r1 hw' => ⟨by decide, hK _ ⟨_, _, ⟨by omega, by omega⟩, hw', rfl⟩⟩⟩
  rintro _ ⟨c, w1, hc, hw1, rfl⟩
  refine seq_cut (fun s' => ∃ (l : List Int) (a x y : Slot) (w' : W), (a = .own (l.map D.int) ∨ a = .val (.list (l.map D.int))) ∧ l ≠ [] ∧ (∀ x ∈ l.drop 1, 2 ≤ x) ∧ (∀ x ∈ l, x.natAbs < 20) ∧ l.length ≤ 6 ∧ fits (tb l) ∧ Wok w' ∧ s' = ⟨[.feed, a, x, y, .gone], w'⟩) ?_ ?_
  · intro K hK
    refine for_cut (fun ds s' => ∃ (m : Nat) (w' : W), m < 5 ∧ Wok w' ∧ ds = ran 0 m ∧ s' = ⟨[.feed, .own ([c].map D.int), .gone, .gone, .gone], w'⟩) ?_ ?_
    · intro K hK
      simp only [run, runF, DL.get, DL.put, puts, back, mC, mVar, mFzV, mFeed, frz, msN, msC, mBin, mUn, dAdd, dSub, dMul, dDiv, dMod, dPow, dNeg, dCmp, dLt, dLe, dGt, dGe, dEq, dNe, dIn, dIsN, dIsNotN, isN, flatD, okT, truth, tV, tB, tAnd, tOr, tNot, mAnd, mOr, mNot, mIf, mChain, mList, mTup, dIx, mSl, oN, oS, mRev, mRevTo, mCall, mCallF, dLen, dAbs, dInt, dMin2, dMax2, dList, dTup, dSum, dMin, dMax, dMinG, dMaxG, dAll, isTy, mIsI, gV, gSkip, gsN, gsC, gT, srcV, srcR1, srcR2, srcEnum, srcRev, mComp, tYes, isS, isL, mMS, mML, dIndexS, dIndexL, dIndexFrom, mMS2, dCount, dSplit, dJoin, sNil, sSeq, sSet, sAsg, sPar, sRet, retK, sRetN, sIf, sPass, sBrk, sCont, sNever, sExpr, sAug, ownAt, feedAt, intD, sApp, sExt, sSetI, sAugI, sFeed, sFeedA, popD, sPop, sAddPop, sFor, DL.W.set, DL.W.at, DL.R.d, okD, eqD_none_none, eqD_none_bool, eqD_none_int, eqD_none_str, eqD_none_list, eqD_none_tup, eqD_bool_none, eqD_bool_bool, eqD_bool_int, eqD_bool_str, eqD_bool_list, eqD_bool_tup, eqD_int_none, eqD_int_bool, eqD_int_int, eqD_int_str, eqD_int_list, eqD_int_tup, eqD_str_none, eqD_str_bool, eqD_str_int, eqD_str_str, eqD_str_list, eqD_str_tup, eqD_list_none, eqD_list_bool, eqD_list_int, eqD_list_str, eqD_list_list, eqD_list_tup, eqD_tup_none, eqD_tup_bool, eqD_tup_int, eqD_tup_str, eqD_tup_list, eqD_tup_tup, eqDs_nn, eqDs_cc, eqDs_nc, eqDs_cn, List.map_cons, List.map_nil, List.map, List.cons_append, List.nil_append, List.replicate, List.length_cons, List.length_nil, Nat.reduceAdd, Nat.reduceSub, List.all_cons, List.all_nil, Bool.and_true, Bool.true_and, true_and, and_true, atI_map, ex_map, ex_some, List.length_map, beq_int, decide_eq_true_eq, if_true, if_false, Bool.false_eq_true, if_pos, reduceIte, at0, at1, at2, at3, dP, mCallX, mCallB, peekA, evA, evAs, eq_self, sRaise0, sRaise1, sTry, caught, unslot, unheld, mXArg, mXIs, runX, List.contains_cons, List.contains_nil, Slot.isExn, String.reduceBEq, ex_arg, ex_valB, Bool.or_false, Bool.false_or, Bool.or_true, Bool.true_or, Bool.not_false, Bool.not_true, ar__law_draw, ar__law_fits, ar__law_table]
      exact ⟨by decide, by decide, hw1, fun r w' r0 r1 hw' => ⟨⟨by omega, by omega⟩, hK _ _ ⟨r.toNat, w', by omega, hw', rfl, rfl⟩⟩⟩
    rintro ds _ ⟨m, w2, hm, hw2, rfl, rfl⟩
    refine forL_ran (fun n s' => ∃ (l : List Int) (a x y : Slot) (w' : W), (a = .own (l.map D.int) ∨ a = .val (.list (l.map D.int))) ∧ l ≠ [] ∧ (∀ x ∈ l.drop 1, 2 ≤ x) ∧ (∀ x ∈ l, x.natAbs < 20) ∧ l.length ≤ n + 1 ∧ fits (tb l) ∧ Wok w' ∧ s' = ⟨[.feed, a, x, y, .gone], w'⟩) _ ⟨[c], _, _, _, w2, .inl rfl, by simp, fun x hx => (by cases hx), fun x hx => ?_, Nat.le_refl 1, ?_, hw2, rfl⟩ ?_ ?_
    · rw [List.mem_singleton.mp hx]; omega
    · rw [one_table]
      unfold fits
      dsimp only
      omega
    · rintro n _ hn ⟨l, a, x, y, w', ha, l1, l2, l3, l4, l5, hw', rfl⟩ K hK
      refine seq_cut (fun s' => ∃ (c : Int) (w' : W) (a : Slot), (a = .own (l.map D.int) ∨ a = .val (.list (l.map D.int))) ∧ (2 ≤ c ∧ c ≤ 9) ∧ Wok w' ∧ s' = ⟨[.feed, a, .val (.int (0 + (n : Int))), .own ((l ++ [c]).map D.int), .gone], w'⟩) ?_ ?_
      · intro K hK
        rcases ha with rfl | rfl
        · simp only [run, runF, DL.get, DL.put, puts, back, mC, mVar, mFzV, mFeed, frz, msN, msC, mBin, mUn, dAdd, dSub, dMul, dDiv, dMod, dPow, dNeg, dCmp, dLt, dLe, dGt, dGe, dEq, dNe, dIn, dIsN, dIsNotN, isN, flatD, okT, truth, tV, tB, tAnd, tOr, tNot, mAnd, mOr, mNot, mIf, mChain, mList, mTup, dIx, mSl, oN, oS, mRev, mRevTo, mCall, mCallF, dLen, dAbs, dInt, dMin2, dMax2, dList, dTup, dSum, dMin, dMax, dMinG, dMaxG, dAll, isTy, mIsI, gV, gSkip, gsN, gsC, gT, srcV, srcR1, srcR2, srcEnum, srcRev, mComp, tYes, isS, isL, mMS, mML, dIndexS, dIndexL, dIndexFrom, mMS2, dCount, dSplit, dJoin, sNil, sSeq, sSet, sAsg, sPar, sRet, retK, sRetN, sIf, sPass, sBrk, sCont, sNever, sExpr, sAug, ownAt, feedAt, intD, sApp, sExt, sSetI, sAugI, sFeed, sFeedA, popD, sPop, sAddPop, sFor, DL.W.set, DL.W.at, DL.R.d, okD, eqD_none_none, eqD_none_bool, eqD_none_int, eqD_none_str, eqD_none_list, eqD_none_tup, eqD_bool_none, eqD_bool_bool, eqD_bool_int, eqD_bool_str, eqD_bool_list, eqD_bool_tup, eqD_int_none, eqD_int_bool, eqD_int_int, eqD_int_str, eqD_int_list, eqD_int_tup, eqD_str_none, eqD_str_bool, eqD_str_int, eqD_str_str, eqD_str_list, eqD_str_tup, eqD_list_none, eqD_list_bool, eqD_list_int, eqD_list_str, eqD_list_list, eqD_list_tup, eqD_tup_none, eqD_tup_bool, eqD_tup_int, eqD_tup_str, eqD_tup_list, eqD_tup_tup, eqDs_nn, eqDs_cc, eqDs_nc, eqDs_cn, List.map_cons, List.map_nil, List.map, List.cons_append, List.nil_append, List.replicate, List.length_cons, List.length_nil, Nat.reduceAdd, Nat.reduceSub, List.all_cons, List.all_nil, Bool.and_true, Bool.true_and, true_and, and_true, atI_map, ex_map, ex_some, List.length_map, beq_int, decide_eq_true_eq, if_true, if_false, Bool.false_eq_true, if_pos, reduceIte, at0, at1, at2, at3, dP, mCallX, mCallB, peekA, evA, evAs, eq_self, sRaise0, sRaise1, sTry, caught, unslot, unheld, mXArg, mXIs, runX, List.contains_cons, List.contains_nil, Slot.isExn, String.reduceBEq, ex_arg, ex_valB, Bool.or_false, Bool.false_or, Bool.or_true, Bool.true_or, Bool.not_false, Bool.not_true, ar__law_draw, ar__law_fits, ar__law_table]
          refine ⟨by decide, by decide, by decide, hw', fun r w' r0 r1 hw' => ?_⟩
          obtain ⟨b, hb, b1, b2⟩ : ∃ b : Int, atI [D.int 2, D.int 6] r = some (.int b) ∧ 2 ≤ b ∧ b ≤ 6 := by
            rcases (by omega : r = 0 ∨ r = 1) with rfl | rfl
            · exact ⟨2, rfl, by decide, by decide⟩
            · exact ⟨6, rfl, by decide, by decide⟩
          refine ⟨_, hb, ?_⟩
          simp only [run, runF, DL.get, DL.put, puts, back, mC, mVar, mFzV, mFeed, frz, msN, msC, mBin, mUn, dAdd, dSub, dMul, dDiv, dMod, dPow, dNeg, dCmp, dLt, dLe, dGt, dGe, dEq, dNe, dIn, dIsN, dIsNotN, isN, flatD, okT, truth, tV, tB, tAnd, tOr, tNot, mAnd, mOr, mNot, mIf, mChain, mList, mTup, dIx, mSl, oN, oS, mRev, mRevTo, mCall, mCallF, dLen, dAbs, dInt, dMin2, dMax2, dList, dTup, dSum, dMin, dMax, dMinG, dMaxG, dAll, isTy, mIsI, gV, gSkip, gsN, gsC, gT, srcV, srcR1, srcR2, srcEnum, srcRev, mComp, tYes, isS, isL, mMS, mML, dIndexS, dIndexL, dIndexFrom, mMS2, dCount, dSplit, dJoin, sNil, sSeq, sSet, sAsg, sPar, sRet, retK, sRetN, sIf, sPass, sBrk, sCont, sNever, sExpr, sAug, ownAt, feedAt, intD, sApp, sExt, sSetI, sAugI, sFeed, sFeedA, popD, sPop, sAddPop, sFor, DL.W.set, DL.W.at, DL.R.d, okD, eqD_none_none, eqD_none_bool, eqD_none_int, eqD_none_str, eqD_none_list, eqD_none_tup, eqD_bool_none, eqD_bool_bool, eqD_bool_int, eqD_bool_str, eqD_bool_list, eqD_bool_tup, eqD_int_none, eqD_int_bool, eqD_int_int, eqD_int_str, eqD_int_list, eqD_int_tup, eqD_str_none, eqD_str_bool, eqD_str_int, eqD_str_str, eqD_str_list, eqD_str_tup, eqD_list_none, eqD_list_bool, eqD_list_int, eqD_list_str, eqD_list_list, eqD_list_tup, eqD_tup_none, eqD_tup_bool, eqD_tup_int, eqD_tup_str, eqD_tup_list, eqD_tup_tup, eqDs_nn, eqDs_cc, eqDs_nc, eqDs_cn, List.map_cons, List.map_nil, List.map, List.cons_append, List.nil_append, List.replicate, List.length_cons, List.length_nil, Nat.reduceAdd, Nat.reduceSub, List.all_cons, List.all_nil, Bool.and_true, Bool.true_and, true_and, and_true, atI_map, ex_map, ex_some, List.length_map, beq_int, decide_eq_true_eq, if_true, if_false, Bool.false_eq_true, if_pos, reduceIte, at0, at1, at2, at3, dP, mCallX, mCallB, peekA, evA, evAs, eq_self, sRaise0, sRaise1, sTry, caught, unslot, unheld, mXArg, mXIs, runX, List.contains_cons, List.contains_nil, Slot.isExn, String.reduceBEq, ex_arg, ex_valB, Bool.or_false, Bool.false_or, Bool.or_true, Bool.true_or, Bool.not_false, Bool.not_true, ar__law_draw, ar__law_fits, ar__law_table]
          refine ⟨by omega, by omega, hw', fun r2 w' r20 r21 hw' => ⟨by decide, by omega, ?_⟩⟩
          rw [show List.map D.int l ++ [D.int (2 + r2)] = (l ++ [2 + r2]).map D.int by rw [List.map_append]; rfl]
          exact hK _ ⟨_, _, _, .inl rfl, ⟨by omega, by omega⟩, hw', rfl⟩
        · simp only [run, runF, DL.get, DL.put, puts, back, mC, mVar, mFzV, mFeed, frz, msN, msC, mBin, mUn, dAdd, dSub, dMul, dDiv, dMod, dPow, dNeg, dCmp, dLt, dLe, dGt, dGe, dEq, dNe, dIn, dIsN, dIsNotN, isN, flatD, okT, truth, tV, tB, tAnd, tOr, tNot, mAnd, mOr, mNot, mIf, mChain, mList, mTup, dIx, mSl, oN, oS, mRev, mRevTo, mCall, mCallF, dLen, dAbs, dInt, dMin2, dMax2, dList, dTup, dSum, dMin, dMax, dMinG, dMaxG, dAll, isTy, mIsI, gV, gSkip, gsN, gsC, gT, srcV, srcR1, srcR2, srcEnum, srcRev, mComp, tYes, isS, isL, mMS, mML, dIndexS, dIndexL, dIndexFrom, mMS2, dCount, dSplit, dJoin, sNil, sSeq, sSet, sAsg, sPar, sRet, retK, sRetN, sIf, sPass, sBrk, sCont, sNever, sExpr, sAug, ownAt, feedAt, intD, sApp, sExt, sSetI, sAugI, sFeed, sFeedA, popD, sPop, sAddPop, sFor, DL.W.set, DL.W.at, DL.R.d, okD, eqD_none_none, eqD_none_bool, eqD_none_int, eqD_none_str, eqD_none_list, eqD_none_tup, eqD_bool_none, eqD_bool_bool, eqD_bool_int, eqD_bool_str, eqD_bool_list, eqD_bool_tup, eqD_int_none, eqD_int_bool, eqD_int_int, eqD_int_str, eqD_int_list, eqD_int_tup, eqD_str_none, eqD_str_bool, eqD_str_int, eqD_str_str, eqD_str_list, eqD_str_tup, eqD_list_none, eqD_list_bool, eqD_list_int, eqD_list_str, eqD_list_list, eqD_list_tup, eqD_tup_none, eqD_tup_bool, eqD_tup_int, eqD_tup_str, eqD_tup_list, eqD_tup_tup, eqDs_nn, eqDs_cc, eqDs_nc, eqDs_cn, List.map_cons, List.map_nil, List.map, List.cons_append, List.nil_append, List.replicate, List.length_cons, List.length_nil, Nat.reduceAdd, Nat.reduceSub, List.all_cons, List.all_nil, Bool.and_true, Bool.true_and, true_and, and_true, atI_map, ex_map, ex_some, List.length_map, beq_int, decide_eq_true_eq, if_true, if_false, Bool.false_eq_true, if_pos, reduceIte, at0, at1, at2, at3, dP, mCallX, mCallB, peekA, evA, evAs, eq_self, sRaise0, sRaise1, sTry, caught, unslot, unheld, mXArg, mXIs, runX, List.contains_cons, List.contains_nil, Slot.isExn, String.reduceBEq, ex_arg, ex_valB, Bool.or_false, Bool.false_or, Bool.or_true, Bool.true_or, Bool.not_false, Bool.not_true, ar__law_draw, ar__law_fits, ar__law_table]
          refine ⟨by decide, by decide, by decide, hw', fun r w' r0 r1 hw' => ?_⟩
          obtain ⟨b, hb, b1, b2⟩ : ∃ b : Int, atI [D.int 2, D.int 6] r = some (.int b) ∧ 2 ≤ b ∧ b ≤ 6 := by
            rcases (by omega : r = 0 ∨ r = 1) with rfl | rfl
            · exact ⟨2, rfl, by decide, by decide⟩
            · exact ⟨6, rfl, by decide, by decide⟩
          refine ⟨_, hb, ?_⟩
          simp only [run, runF, DL.get, DL.put, puts, back, mC, mVar, mFzV, mFeed, frz, msN, msC, mBin, mUn, dAdd, dSub, dMul, dDiv, dMod, dPow, dNeg, dCmp, dLt, dLe, dGt, dGe, dEq, dNe, dIn, dIsN, dIsNotN, isN, flatD, okT, truth, tV, tB, tAnd, tOr, tNot, mAnd, mOr, mNot, mIf, mChain, mList, mTup, dIx, mSl, oN, oS, mRev, mRevTo, mCall, mCallF, dLen, dAbs, dInt, dMin2, dMax2, dList, dTup, dSum, dMin, dMax, dMinG, dMaxG, dAll, isTy, mIsI, gV, gSkip, gsN, gsC, gT, srcV, srcR1, srcR2, srcEnum, srcRev, mComp, tYes, isS, isL, mMS, mML, dIndexS, dIndexL, dIndexFrom, mMS2, dCount, dSplit, dJoin, sNil, sSeq, sSet, sAsg, sPar, sRet, retK, sRetN, sIf, sPass, sBrk, sCont, sNever, sExpr, sAug, ownAt, feedAt, intD, sApp, sExt, sSetI, sAugI, sFeed, sFeedA, popD, sPop, sAddPop, sFor, DL.W.set, DL.W.at, DL.R.d, okD, eqD_none_none, eqD_none_bool, eqD_none_int, eqD_none_str, eqD_none_list, eqD_none_tup, eqD_bool_none, eqD_bool_bool, eqD_bool_int, eqD_bool_str, eqD_bool_list, eqD_bool_tup, eqD_int_none, eqD_int_bool, eqD_int_int, eqD_int_str, eqD_int_list, eqD_int_tup, eqD_str_none, eqD_str_bool, eqD_str_int, eqD_str_str, eqD_str_list, eqD_str_tup, eqD_list_none, eqD_list_bool, eqD_list_int, eqD_list_str, eqD_list_list, eqD_list_tup, eqD_tup_none, eqD_tup_bool, eqD_tup_int, eqD_tup_str, eqD_tup_list, eqD_tup_tup, eqDs_nn, eqDs_cc, eqDs_nc, eqDs_cn, List.map_cons, List.map_nil, List.map, List.cons_append, List.nil_append, List.replicate, List.length_cons, List.length_nil, Nat.reduceAdd, Nat.reduceSub, List.all_cons, List.all_nil, Bool.and_true, Bool.true_and, true_and, and_true, atI_map, ex_map, ex_some, List.length_map, beq_int, decide_eq_true_eq, if_true, if_false, Bool.false_eq_true, if_pos, reduceIte, at0, at1, at2, at3, dP, mCallX, mCallB, peekA, evA, evAs, eq_self, sRaise0, sRaise1, sTry, caught, unslot, unheld, mXArg, mXIs, runX, List.contains_cons, List.contains_nil, Slot.isExn, String.reduceBEq, ex_arg, ex_valB, Bool.or_false, Bool.false_or, Bool.or_true, Bool.true_or, Bool.not_false, Bool.not_true, ar__law_draw, ar__law_fits, ar__law_table]
          refine ⟨by omega, by omega, hw', fun r2 w' r20 r21 hw' => ⟨by decide, by omega, ?_⟩⟩
          rw [show List.map D.int l ++ [D.int (2 + r2)] = (l ++ [2 + r2]).map D.int by rw [List.map_append]; rfl]
          exact hK _ ⟨_, _, _, .inr rfl, ⟨by omega, by omega⟩, hw', rfl⟩
      rintro _ ⟨c, w', a, ha, hc, hw', rfl⟩
      have m2 : ∀ x ∈ (l ++ [c]).drop 1, 2 ≤ x := by
        cases l with
        | nil => exact absurd rfl l1
        | cons z l =>
          intro x hx
          rcases List.mem_append.mp (show x ∈ l ++ [c] from hx) with e | e
          · exact l2 x e
          · rw [List.mem_singleton.mp e]; omega
      have m3 : ∀ x ∈ l ++ [c], x.natAbs < 20 := fun x hx => by
        rcases List.mem_append.mp hx with e | e
        · exact l3 x e
        · rw [List.mem_singleton.mp e]; omega
      have m4 : (l ++ [c]).length ≤ n + 1 + 1 := by rw [List.length_append]; simp only [List.length_cons, List.length_nil]; omega
      have okm := Okl.of (by omega : (l ++ [c]).length ≤ 1001) fun x hx => by have := m3 x hx; omega
      simp only [run, runF, DL.get, DL.put, puts, back, mC, mVar, mFzV, mFeed, frz, msN, msC, mBin, mUn, dAdd, dSub, dMul, dDiv, dMod, dPow, dNeg, dCmp, dLt, dLe, dGt, dGe, dEq, dNe, dIn, dIsN, dIsNotN, isN, flatD, okT, truth, tV, tB, tAnd, tOr, tNot, mAnd, mOr, mNot, mIf, mChain, mList, mTup, dIx, mSl, oN, oS, mRev, mRevTo, mCall, mCallF, dLen, dAbs, dInt, dMin2, dMax2, dList, dTup, dSum, dMin, dMax, dMinG, dMaxG, dAll, isTy, mIsI, gV, gSkip, gsN, gsC, gT, srcV, srcR1, srcR2, srcEnum, srcRev, mComp, tYes, isS, isL, mMS, mML, dIndexS, dIndexL, dIndexFrom, mMS2, dCount, dSplit, dJoin, sNil, sSeq, sSet, sAsg, sPar, sRet, retK, sRetN, sIf, sPass, sBrk, sCont, sNever, sExpr, sAug, ownAt, feedAt, intD, sApp, sExt, sSetI, sAugI, sFeed, sFeedA, popD, sPop, sAddPop, sFor, DL.W.set, DL.W.at, DL.R.d, okD, eqD_none_none, eqD_none_bool, eqD_none_int, eqD_none_str, eqD_none_list, eqD_none_tup, eqD_bool_none, eqD_bool_bool, eqD_bool_int, eqD_bool_str, eqD_bool_list, eqD_bool_tup, eqD_int_none, eqD_int_bool, eqD_int_int, eqD_int_str, eqD_int_list, eqD_int_tup, eqD_str_none, eqD_str_bool, eqD_str_int, eqD_str_str, eqD_str_list, eqD_str_tup, eqD_list_none, eqD_list_bool, eqD_list_int, eqD_list_str, eqD_list_list, eqD_list_tup, eqD_tup_none, eqD_tup_bool, eqD_tup_int, eqD_tup_str, eqD_tup_list, eqD_tup_tup, eqDs_nn, eqDs_cc, eqDs_nc, eqDs_cn, List.map_cons, List.map_nil, List.map, List.cons_append, List.nil_append, List.replicate, List.length_cons, List.length_nil, Nat.reduceAdd, Nat.reduceSub, List.all_cons, List.all_nil, Bool.and_true, Bool.true_and, true_and, and_true, atI_map, ex_map, ex_some, List.length_map, beq_int, decide_eq_true_eq, if_true, if_false, Bool.false_eq_true, if_pos, reduceIte, at0, at1, at2, at3, dP, mCallX, mCallB, peekA, evA, evAs, eq_self, sRaise0, sRaise1, sTry, caught, unslot, unheld, mXArg, mXIs, runX, List.contains_cons, List.contains_nil, Slot.isExn, String.reduceBEq, ex_arg, ex_valB, Bool.or_false, Bool.false_or, Bool.or_true, Bool.true_or, Bool.not_false, Bool.not_true, ar__law_draw, ar__law_fits, ar__law_table]
      refine ⟨okm, ?_⟩
      split
      · rename_i e
        exact hK _ ⟨l ++ [c], _, _, _, w', .inr rfl, by simp, m2, m3, m4, e, hw', rfl⟩
      · exact hK _ ⟨l, a, _, _, w', ha, l1, l2, l3, by omega, l5, hw', rfl⟩
    · rintro _ ⟨l, a, x, y, w', ha, l1, l2, l3, l4, l5, hw', rfl⟩
      exact hK _ ⟨l, a, x, y, w', ha, l1, l2, l3, by omega, l5, hw', rfl⟩
  rintro _ ⟨l, a, x, y, w2, ha, l1, l2, l3, l4, l5, hw2, rfl⟩
  have mid1 : ∀ x ∈ (l.drop 1).dropLast, 2 ≤ x := fun x hx => l2 x (List.dropLast_subset _ hx)
  have shl : Sh l := ⟨l1, mid1, fun x hx => by have := l3 x hx; omega, by omega, l5⟩
  refine seq_cut (fun s' => ∃ (c : Int) (w' : W) (a : Slot), (a = .own (l.map D.int) ∨ a = .val (.list (l.map D.int))) ∧ (-9 ≤ c ∧ c ≤ 9) ∧ Wok w' ∧ s' = ⟨[.feed, a, x, y, .own ((l ++ [c]).map D.int)], w'⟩) ?_ ?_
  · intro K hK
    rcases ha with rfl | rfl
    · simp only [run, runF, DL.get, DL.put, puts, back, mC, mVar, mFzV, mFeed, frz, msN, msC, mBin, mUn, dAdd, dSub, dMul, dDiv, dMod, dPow, dNeg, dCmp, dLt, dLe, dGt, dGe, dEq, dNe, dIn, dIsN, dIsNotN, isN, flatD, okT, truth, tV, tB, tAnd, tOr, tNot, mAnd, mOr, mNot, mIf, mChain, mList, mTup, dIx, mSl, oN, oS, mRev, mRevTo, mCall, mCallF, dLen, dAbs, dInt, dMin2, dMax2, dList, dTup, dSum, dMin, dMax, dMinG, dMaxG, dAll, isTy, mIsI, gV, gSkip, gsN, gsC, gT, srcV, srcR1, srcR2, srcEnum, srcRev, mComp, tYes, isS, isL, mMS, mML, dIndexS, dIndexL, dIndexFrom, mMS2, dCount, dSplit, dJoin, sNil, sSeq, sSet, sAsg, sPar, sRet, retK, sRetN, sIf, sPass, sBrk, sCont, sNever, sExpr, sAug, ownAt, feedAt, intD, sApp, sExt, sSetI, sAugI, sFeed, sFeedA, popD, sPop, sAddPop, sFor, DL.W.set, DL.W.at, DL.R.d, okD, eqD_none_none, eqD_none_bool, eqD_none_int, eqD_none_str, eqD_none_list, eqD_none_tup, eqD_bool_none, eqD_bool_bool, eqD_bool_int, eqD_bool_str, eqD_bool_list, eqD_bool_tup, eqD_int_none, eqD_int_bool, eqD_int_int, eqD_int_str, eqD_int_list, eqD_int_tup, eqD_str_none, eqD_str_bool, eqD_str_int, eqD_str_str, eqD_str_list, eqD_str_tup, eqD_list_none, eqD_list_bool, eqD_list_int, eqD_list_str, eqD_list_list, eqD_list_tup, eqD_tup_none, eqD_tup_bool, eqD_tup_int, eqD_tup_str, eqD_tup_list, eqD_tup_tup, eqDs_nn, eqDs_cc, eqDs_nc, eqDs_cn, List.map_cons, List.map_nil, List.map, List.cons_append, List.nil_append, List.replicate, List.length_cons, List.length_nil, Nat.reduceAdd, Nat.reduceSub, List.all_cons, List.all_nil, Bool.and_true, Bool.true_and, true_and, and_true, atI_map, ex_map, ex_some, List.length_map, beq_int, decide_eq_true_eq, if_true, if_false, Bool.false_eq_true, if_pos, reduceIte, at0, at1, at2, at3, dP, mCallX, mCallB, peekA, evA, evAs, eq_self, sRaise0, sRaise1, sTry, caught, unslot, unheld, mXArg, mXIs, runX, List.contains_cons, List.contains_nil, Slot.isExn, String.reduceBEq, ex_arg, ex_valB, Bool.or_false, Bool.false_or, Bool.or_true, Bool.true_or, Bool.not_false, Bool.not_true, ar__law_draw, ar__law_fits, ar__law_table]
      refine ⟨by decide, by decide, hw2, fun r2 w' r20 r21 hw' => ⟨by decide, by omega, ?_⟩⟩
      rw [show List.map D.int l ++ [D.int (r2 - 9)] = (l ++ [r2 - 9]).map D.int by rw [List.map_append]; rfl]
      exact hK _ ⟨_, _, _, .inl rfl, ⟨by omega, by omega⟩, hw', rfl⟩
    · simp only [run, runF, DL.get, DL.put, puts, back, mC, mVar, mFzV, mFeed, frz, msN, msC, mBin, mUn, dAdd, dSub, dMul, dDiv, dMod, dPow, dNeg, dCmp, dLt, dLe, dGt, dGe, dEq, dNe, dIn, dIsN, dIsNotN, isN, flatD, okT, truth, tV, tB, tAnd, tOr, tNot, mAnd, mOr, mNot, mIf, mChain, mList, mTup, dIx, mSl, oN, oS, mRev, mRevTo, mCall, mCallF, dLen, dAbs, dInt, dMin2, dMax2, dList, dTup, dSum, dMin, dMax, dMinG, dMaxG, dAll, isTy, mIsI, gV, gSkip, gsN, gsC, gT, srcV, srcR1, srcR2, srcEnum, srcRev, mComp, tYes, isS, isL, mMS, mML, dIndexS, dIndexL, dIndexFrom, mMS2, dCount, dSplit, dJoin, sNil, sSeq, sSet, sAsg, sPar, sRet, retK, sRetN, sIf, sPass, sBrk, sCont, sNever, sExpr, sAug, ownAt, feedAt, intD, sApp, sExt, sSetI, sAugI, sFeed, sFeedA, popD, sPop, sAddPop, sFor, DL.W.set, DL.W.at, DL.R.d, okD, eqD_none_none, eqD_none_bool, eqD_none_int, eqD_none_str, eqD_none_list, eqD_none_tup, eqD_bool_none, eqD_bool_bool, eqD_bool_int, eqD_bool_str, eqD_bool_list, eqD_bool_tup, eqD_int_none, eqD_int_bool, eqD_int_int, eqD_int_str, eqD_int_list, eqD_int_tup, eqD_str_none, eqD_str_bool, eqD_str_int, eqD_str_str, eqD_str_list, eqD_str_tup, eqD_list_none, eqD_list_bool, eqD_list_int, eqD_list_str, eqD_list_list, eqD_list_tup, eqD_tup_none, eqD_tup_bool, eqD_tup_int, eqD_tup_str, eqD_tup_list, eqD_tup_tup, eqDs_nn, eqDs_cc, eqDs_nc, eqDs_cn, List.map_cons, List.map_nil, List.map, List.cons_append, List.nil_append, List.replicate, List.length_cons, List.length_nil, Nat.reduceAdd, Nat.reduceSub, List.all_cons, List.all_nil, Bool.and_true, Bool.true_and, true_and, and_true, atI_map, ex_map, ex_some, List.length_map, beq_int, decide_eq_true_eq, if_true, if_false, Bool.false_eq_true, if_pos, reduceIte, at0, at1, at2, at3, dP, mCallX, mCallB, peekA, evA, evAs, eq_self, sRaise0, sRaise1, sTry, caught, unslot, unheld, mXArg, mXIs, runX, List.contains_cons, List.contains_nil, Slot.isExn, String.reduceBEq, ex_arg, ex_valB, Bool.or_false, Bool.false_or, Bool.or_true, Bool.true_or, Bool.not_false, Bool.not_true, ar__law_draw, ar__law_fits, ar__law_table]
      refine ⟨by decide, by decide, hw2, fun r2 w' r20 r21 hw' => ⟨by decide, by omega, ?_⟩⟩
      rw [show List.map D.int l ++ [D.int (r2 - 9)] = (l ++ [r2 - 9]).map D.int by rw [List.map_append]; rfl]
      exact hK _ ⟨_, _, _, .inr rfl, ⟨by omega, by omega⟩, hw', rfl⟩
  rintro _ ⟨c, w3, a, ha, hc, hw3, rfl⟩
  have m3 : ∀ x ∈ l ++ [c], x.natAbs < 20 := fun x hx => by
    rcases List.mem_append.mp hx with e | e
    · exact l3 x e
    · rw [List.mem_singleton.mp e]; omega
  have m4 : (l ++ [c]).length ≤ 7 := by rw [List.length_append]; simp only [List.length_cons, List.length_nil]; omega
  have okm := Okl.of (by omega : (l ++ [c]).length ≤ 1001) fun x hx => by have := m3 x hx; omega
  have mid2 : ∀ x ∈ ((l ++ [c]).drop 1).dropLast, 2 ≤ x := by
    cases l with
    | nil => exact absurd rfl l1
    | cons z l =>
      intro x hx
      rw [show ((z :: l ++ [c]).drop 1).dropLast = l from List.dropLast_concat] at hx
      exact l2 x hx
  have fin : ∀ w', Wok w' → ∀ y', (sRet (mVar 1)) ⟨[.feed, a, x, y, y'], w'⟩ { nx := fun s => Q (.val .none) s.w, rt := Q } := by
    intro w' hw' y'
    rcases ha with rfl | rfl
    · simp only [run, runF, DL.get, DL.put, puts, back, mC, mVar, mFzV, mFeed, frz, msN, msC, mBin, mUn, dAdd, dSub, dMul, dDiv, dMod, dPow, dNeg, dCmp, dLt, dLe, dGt, dGe, dEq, dNe, dIn, dIsN, dIsNotN, isN, flatD, okT, truth, tV, tB, tAnd, tOr, tNot, mAnd, mOr, mNot, mIf, mChain, mList, mTup, dIx, mSl, oN, oS, mRev, mRevTo, mCall, mCallF, dLen, dAbs, dInt, dMin2, dMax2, dList, dTup, dSum, dMin, dMax, dMinG, dMaxG, dAll, isTy, mIsI, gV, gSkip, gsN, gsC, gT, srcV, srcR1, srcR2, srcEnum, srcRev, mComp, tYes, isS, isL, mMS, mML, dIndexS, dIndexL, dIndexFrom, mMS2, dCount, dSplit, dJoin, sNil, sSeq, sSet, sAsg, sPar, sRet, retK, sRetN, sIf, sPass, sBrk, sCont, sNever, sExpr, sAug, ownAt, feedAt, intD, sApp, sExt, sSetI, sAugI, sFeed, sFeedA, popD, sPop, sAddPop, sFor, DL.W.set, DL.W.at, DL.R.d, okD, eqD_none_none, eqD_none_bool, eqD_none_int, eqD_none_str, eqD_none_list, eqD_none_tup, eqD_bool_none, eqD_bool_bool, eqD_bool_int, eqD_bool_str, eqD_bool_list, eqD_bool_tup, eqD_int_none, eqD_int_bool, eqD_int_int, eqD_int_str, eqD_int_list, eqD_int_tup, eqD_str_none, eqD_str_bool, eqD_str_int, eqD_str_str, eqD_str_list, eqD_str_tup, eqD_list_none, eqD_list_bool, eqD_list_int, eqD_list_str, eqD_list_list, eqD_list_tup, eqD_tup_none, eqD_tup_bool, eqD_tup_int, eqD_tup_str, eqD_tup_list, eqD_tup_tup, eqDs_nn, eqDs_cc, eqDs_nc, eqDs_cn, List.map_cons, List.map_nil, List.map, List.cons_append, List.nil_append, List.replicate, List.length_cons, List.length_nil, Nat.reduceAdd, Nat.reduceSub, List.all_cons, List.all_nil, Bool.and_true, Bool.true_and, true_and, and_true, atI_map, ex_map, ex_some, List.length_map, beq_int, decide_eq_true_eq, if_true, if_false, Bool.false_eq_true, if_pos, reduceIte, at0, at1, at2, at3, dP, mCallX, mCallB, peekA, evA, evAs, eq_self, sRaise0, sRaise1, sTry, caught, unslot, unheld, mXArg, mXIs, runX, List.contains_cons, List.contains_nil, Slot.isExn, String.reduceBEq, ex_arg, ex_valB, Bool.or_false, Bool.false_or, Bool.or_true, Bool.true_or, Bool.not_false, Bool.not_true]
      exact q1 l w' shl hw'
    · simp only [run, runF, DL.get, DL.put, puts, back, mC, mVar, mFzV, mFeed, frz, msN, msC, mBin, mUn, dAdd, dSub, dMul, dDiv, dMod, dPow, dNeg, dCmp, dLt, dLe, dGt, dGe, dEq, dNe, dIn, dIsN, dIsNotN, isN, flatD, okT, truth, tV, tB, tAnd, tOr, tNot, mAnd, mOr, mNot, mIf, mChain, mList, mTup, dIx, mSl, oN, oS, mRev, mRevTo, mCall, mCallF, dLen, dAbs, dInt, dMin2, dMax2, dList, dTup, dSum, dMin, dMax, dMinG, dMaxG, dAll, isTy, mIsI, gV, gSkip, gsN, gsC, gT, srcV, srcR1, srcR2, srcEnum, srcRev, mComp, tYes, isS, isL, mMS, mML, dIndexS, dIndexL, dIndexFrom, mMS2, dCount, dSplit, dJoin, sNil, sSeq, sSet, sAsg, sPar, sRet, retK, sRetN, sIf, sPass, sBrk, sCont, sNever, sExpr, sAug, ownAt, feedAt, intD, sApp, sExt, sSetI, sAugI, sFeed, sFeedA, popD, sPop, sAddPop, sFor, DL.W.set, DL.W.at, DL.R.d, okD, eqD_none_none, eqD_none_bool, eqD_none_int, eqD_none_str, eqD_none_list, eqD_none_tup, eqD_bool_none, eqD_bool_bool, eqD_bool_int, eqD_bool_str, eqD_bool_list, eqD_bool_tup, eqD_int_none, eqD_int_bool, eqD_int_int, eqD_int_str, eqD_int_list, eqD_int_tup, eqD_str_none, eqD_str_bool, eqD_str_int, eqD_str_str, eqD_str_list, eqD_str_tup, eqD_list_none, eqD_list_bool, eqD_list_int, eqD_list_str, eqD_list_list, eqD_list_tup, eqD_tup_none, eqD_tup_bool, eqD_tup_int, eqD_tup_str, eqD_tup_list, eqD_tup_tup, eqDs_nn, eqDs_cc, eqDs_nc, eqDs_cn, List.map_cons, List.map_nil, List.map, List.cons_append, List.nil_append, List.replicate, List.length_cons, List.length_nil, Nat.reduceAdd, Nat.reduceSub, List.all_cons, List.all_nil, Bool.and_true, Bool.true_and, true_and, and_true, atI_map, ex_map, ex_some, List.length_map, beq_int, decide_eq_true_eq, if_true, if_false, Bool.false_eq_true, if_pos, reduceIte, at0, at1, at2, at3, dP, mCallX, mCallB, peekA, evA, evAs, eq_self, sRaise0, sRaise1, sTry, caught, unslot, unheld, mXArg, mXIs, runX, List.contains_cons, List.contains_nil, Slot.isExn, String.reduceBEq, ex_arg, ex_valB, Bool.or_false, Bool.false_or, Bool.or_true, Bool.true_or, Bool.not_false, Bool.not_true]
      exact q2 l w' shl hw'
  refine seq_cut (fun s' => ∃ w' y', Wok w' ∧ s' = ⟨[.feed, a, x, y, y'], w'⟩) ?_ ?_
  · intro K hK
    simp only [run, runF, DL.get, DL.put, puts, back, mC, mVar, mFzV, mFeed, frz, msN, msC, mBin, mUn, dAdd, dSub, dMul, dDiv, dMod, dPow, dNeg, dCmp, dLt, dLe, dGt, dGe, dEq, dNe, dIn, dIsN, dIsNotN, isN, flatD, okT, truth, tV, tB, tAnd, tOr, tNot, mAnd, mOr, mNot, mIf, mChain, mList, mTup, dIx, mSl, oN, oS, mRev, mRevTo, mCall, mCallF, dLen, dAbs, dInt, dMin2, dMax2, dList, dTup, dSum, dMin, dMax, dMinG, dMaxG, dAll, isTy, mIsI, gV, gSkip, gsN, gsC, gT, srcV, srcR1, srcR2, srcEnum, srcRev, mComp, tYes, isS, isL, mMS, mML, dIndexS, dIndexL, dIndexFrom, mMS2, dCount, dSplit, dJoin, sNil, sSeq, sSet, sAsg, sPar, sRet, retK, sRetN, sIf, sPass, sBrk, sCont, sNever, sExpr, sAug, ownAt, feedAt, intD, sApp, sExt, sSetI, sAugI, sFeed, sFeedA, popD, sPop, sAddPop, sFor, DL.W.set, DL.W.at, DL.R.d, okD, eqD_none_none, eqD_none_bool, eqD_none_int, eqD_none_str, eqD_none_list, eqD_none_tup, eqD_bool_none, eqD_bool_bool, eqD_bool_int, eqD_bool_str, eqD_bool_list, eqD_bool_tup, eqD_int_none, eqD_int_bool, eqD_int_int, eqD_int_str, eqD_int_list, eqD_int_tup, eqD_str_none, eqD_str_bool, eqD_str_int, eqD_str_str, eqD_str_list, eqD_str_tup, eqD_list_none, eqD_list_bool, eqD_list_int, eqD_list_str, eqD_list_list, eqD_list_tup, eqD_tup_none, eqD_tup_bool, eqD_tup_int, eqD_tup_str, eqD_tup_list, eqD_tup_tup, eqDs_nn, eqDs_cc, eqDs_nc, eqDs_cn, List.map_cons, List.map_nil, List.map, List.cons_append, List.nil_append, List.replicate, List.length_cons, List.length_nil, Nat.reduceAdd, Nat.reduceSub, List.all_cons, List.all_nil, Bool.and_true, Bool.true_and, true_and, and_true, atI_map, ex_map, ex_some, List.length_map, beq_int, decide_eq_true_eq, if_true, if_false, Bool.false_eq_true, if_pos, reduceIte, at0, at1, at2, at3, dP, mCallX, mCallB, peekA, evA, evAs, eq_self, sRaise0, sRaise1, sTry, caught, unslot, unheld, mXArg, mXIs, runX, List.contains_cons, List.contains_nil, Slot.isExn, String.reduceBEq, ex_arg, ex_valB, Bool.or_false, Bool.false_or, Bool.or_true, Bool.true_or, Bool.not_false, Bool.not_true, ar__law_draw, ar__law_fits, ar__law_table]
    refine ⟨by decide, by decide, hw3, fun r2 w' r20 r21 hw' => ?_⟩
    split
    · refine ⟨okm, ?_⟩
      split
      · rename_i e
        exact q2 _ w' ⟨by simp, mid2, fun x hx => by have := m3 x hx; omega, by omega, e⟩ hw'
      · exact hK _ ⟨_, _, hw', rfl⟩
    · exact hK _ ⟨_, _, hw', rfl⟩
  rintro _ ⟨w', y', hw', rfl⟩
  exact fin w' hw' y'
structure Sp (l : List Int) : Prop where
  ne : l ≠ []
  mid : ∀ x ∈ (l.drop 1).dropLast, 2 ≤ x
  low : ∀ x ∈ l, x.natAbs < 1024
  len : l.length ≤ 1000
def SpD (d : D) : Prop := ∃ l : List Int, d = .list (l.map D.int) ∧ Sp l
theorem Sh.told {l : List Int} (h : Sh l) {k : Int} (hk : k = 1 ∨ k = -1) : Told ((tb l).sg k) k l := ⟨hk, h.ne, h.mid, rfl⟩
theorem fits_sg {m : M4} {k : Int} (hk : k = 1 ∨ k = -1) (h : fits m) : fits (m.sg k) := by
  unfold fits M4.sg at *
  dsimp only
  rcases hk with rfl | rfl <;> omega
theorem sp_one {a b : Int} {t : List Int} (h : ∀ x ∈ t, x = 2) (ha : a.natAbs < 1024) (hb : b.natAbs < 1024) (hl : t.length ≤ 900) : Sp ([a] ++ t ++ [b]) := by
  refine ⟨by simp, fun x hx => ?_, fun x hx => ?_, ?_⟩
  · rw [show (([a] ++ t ++ [b]).drop 1).dropLast = t from List.dropLast_concat] at hx
    rw [h x hx]
    decide
  · rcases List.mem_append.mp hx with z | z
    · rcases List.mem_append.mp z with z | z
      · rw [List.mem_singleton.mp z]; exact ha
      · rw [h x z]; decide
    · rw [List.mem_singleton.mp z]; exact hb
  · rw [List.length_append, List.length_append]
    simp only [List.length_cons, List.length_nil]
    omega
theorem sp_all {t : List Int} (h : ∀ x ∈ t, 2 ≤ x ∧ x ≤ 10) (h0 : t ≠ []) (hl : t.length ≤ 1000) : Sp t := ⟨h0, fun x hx => (h x (List.mem_of_mem_drop (List.dropLast_subset _ hx))).1, fun x hx => by have := h x hx; omega, hl⟩
def spec__law_long_right : Sem := fun ds w Q => ds = [] ∧ Wok w ∧ ∀ w', Wok w' → Q (.val (.bool true)) w'
theorem ar__law_long_right (w : W) (Q : R → W → Prop) : ar 0 spec__law_long_right [] w Q = (Wok w ∧ ∀ w', Wok w' → Q (.val (.bool true)) w') := by
  apply propext
  constructor
  · rintro ⟨_, _, h⟩
    exact h
  · intro h
    exact ⟨rfl, rfl, h⟩
theorem vc__law_long_right : ∀ ds w Q, spec__law_long_right ds w Q → runF 6 (b__law_long_right (ar 1 spec__law_draw) (ar 1 spec__law_fits) (ar 1 spec__law_table) (ar 3 spec__law_told) (ar 2 spec__law_signed)) ds w Q := by
  rintro ds w Q ⟨rfl, h⟩
  unfold b__law_long_right
  obtain ⟨hk, q⟩ := h
  have hz : (2000 : Nat) ≤ LINE := by decide
  have h2 : ∀ n : Nat, ∀ x ∈ List.replicate n (2 : Int), x = 2 := fun n x hx => List.eq_of_mem_replicate hx
  show sSeq _ _ ⟨[.feed, .gone, .gone, .gone, .gone, .gone], w⟩ _
  refine seq_cut (fun s' => ∃ (m : Int) (w' : W), (1 ≤ m ∧ m ≤ 900) ∧ Wok w' ∧ s' = ⟨[.feed, .val (.int m), .gone, .gone, .gone, .gone], w'⟩) ?_ ?_
  · intro K hK
    simp only [run, runF, DL.get, DL.put, puts, back, mC, mVar, mFzV, mFeed, frz, msN, msC, mBin, mUn, dAdd, dSub, dMul, dDiv, dMod, dPow, dNeg, dCmp, dLt, dLe, dGt, dGe, dEq, dNe, dIn, dIsN, dIsNotN, isN, flatD, okT, truth, tV, tB, tAnd, tOr, tNot, mAnd, mOr, mNot, mIf, mChain, mList, mTup, dIx, mSl, oN, oS, mRev, mRevTo, mCall, mCallF, dLen, dAbs, dInt, dMin2, dMax2, dList, dTup, dSum, dMin, dMax, dMinG, dMaxG, dAll, isTy, mIsI, gV, gSkip, gsN, gsC, gT, srcV, srcR1, srcR2, srcEnum, srcRev, mComp, tYes, isS, isL, mMS, mML, dIndexS, dIndexL, dIndexFrom, mMS2, dCount, dSplit, dJoin, sNil, sSeq, sSet, sAsg, sPar, sRet, retK, sRetN, sIf, sPass, sBrk, sCont, sNever, sExpr, sAug, ownAt, feedAt, intD, sApp, sExt, sSetI, sAugI, sFeed, sFeedA, popD, sPop, sAddPop, sFor, DL.W.set, DL.W.at, DL.R.d, okD, eqD_none_none, eqD_none_bool, eqD_none_int, eqD_none_str, eqD_none_list, eqD_none_tup, eqD_bool_none, eqD_bool_bool, eqD_bool_int, eqD_bool_str, eqD_bool_list, eqD_bool_tup, eqD_int_none, eqD_int_bool, eqD_int_int, eqD_int_str, eqD_int_list, eqD_int_tup, eqD_str_none, eqD_str_bool, eqD_str_int, eqD_str_str, eqD_str_list, eqD_str_tup, eqD_list_none, eqD_list_bool, eqD_list_int, eqD_list_str, eqD_list_list, eqD_list_tup, eqD_tup_none, eqD_tup_bool, eqD_tup_int, eqD_tup_str, eqD_tup_list, eqD_tup_tup, eqDs_nn, eqDs_cc, eqDs_nc, eqDs_cn, List.map_cons, List.map_nil, List.map, List.cons_append, List.nil_append, List.replicate, List.length_cons, List.length_nil, Nat.reduceAdd, Nat.reduceSub, List.all_cons, List.all_nil, Bool.and_true, Bool.true_and, true_and, and_true, atI_map, ex_map, ex_some, List.length_map, beq_int, decide_eq_true_eq, if_true, if_false, Bool.false_eq_true, if_pos, reduceIte, at0, at1, at2, at3, dP, mCallX, mCallB, peekA, evA, evAs, eq_self, sRaise0, sRaise1, sTry, caught, unslot, unheld, mXArg, mXIs, runX, List.contains_cons, List.contains_nil, Slot.isExn, String.reduceBEq, ex_arg, ex_valB, Bool.or_false, Bool.false_or, Bool.or_true, Bool.true_or, Bool.not_false, Bool.not_true, ar__law_draw, ar__law_fits, ar__law_table, ar__law_told, ar__law_signed]
    exact ⟨by decide, by decide, hk, fun r w' r0 r1 hw' => hK _ ⟨_, _, ⟨by omega, by omega⟩, hw', rfl⟩⟩
  rintro _ ⟨m, w1, hm, hw1, rfl⟩
  refine seq_cut (fun s' => ∃ (n : Int) (w' : W), (1 ≤ n ∧ n ≤ 26) ∧ Wok w' ∧ s' = ⟨[.feed, .val (.int m), .val (.int n), .gone, .gone, .gone], w'⟩) ?_ ?_
  · intro K hK
    simp only [run, runF, DL.get, DL.put, puts, back, mC, mVar, mFzV, mFeed, frz, msN, msC, mBin, mUn, dAdd, dSub, dMul, dDiv, dMod, dPow, dNeg, dCmp, dLt, dLe, dGt, dGe, dEq, dNe, dIn, dIsN, dIsNotN, isN, flatD, okT, truth, tV, tB, tAnd, tOr, tNot, mAnd, mOr, mNot, mIf, mChain, mList, mTup, dIx, mSl, oN, oS, mRev, mRevTo, mCall, mCallF, dLen, dAbs, dInt, dMin2, dMax2, dList, dTup, dSum, dMin, dMax, dMinG, dMaxG, dAll, isTy, mIsI, gV, gSkip, gsN, gsC, gT, srcV, srcR1, srcR2, srcEnum, srcRev, mComp, tYes, isS, isL, mMS, mML, dIndexS, dIndexL, dIndexFrom, mMS2, dCount, dSplit, dJoin, sNil, sSeq, sSet, sAsg, sPar, sRet, retK, sRetN, sIf, sPass, sBrk, sCont, sNever, sExpr, sAug, ownAt, feedAt, intD, sApp, sExt, sSetI, sAugI, sFeed, sFeedA, popD, sPop, sAddPop, sFor, DL.W.set, DL.W.at, DL.R.d, okD, eqD_none_none, eqD_none_bool, eqD_none_int, eqD_none_str, eqD_none_list, eqD_none_tup, eqD_bool_none, eqD_bool_bool, eqD_bool_int, eqD_bool_str, eqD_bool_list, eqD_bool_tup, eqD_int_none, eqD_int_bool, eqD_int_int, eqD_int_str, eqD_int_list, eqD_int_tup, eqD_str_none, eqD_str_bool, eqD_str_int, eqD_str_str, eqD_str_list, eqD_str_tup, eqD_list_none, eqD_list_bool, eqD_list_int, eqD_list_str, eqD_list_list, eqD_list_tup, eqD_tup_none, eqD_tup_bool, eqD_tup_int, eqD_tup_str, eqD_tup_list, eqD_tup_tup, eqDs_nn, eqDs_cc, eqDs_nc, eqDs_cn, List.map_cons, List.map_nil, List.map, List.cons_append, List.nil_append, List.replicate, List.length_cons, List.length_nil, Nat.reduceAdd, Nat.reduceSub, List.all_cons, List.all_nil, Bool.and_true, Bool.true_and, true_and, and_true, atI_map, ex_map, ex_some, List.length_map, beq_int, decide_eq_true_eq, if_true, if_false, Bool.false_eq_true, if_pos, reduceIte, at0, at1, at2, at3, dP, mCallX, mCallB, peekA, evA, evAs, eq_self, sRaise0, sRaise1, sTry, caught, unslot, unheld, mXArg, mXIs, runX, List.contains_cons, List.contains_nil, Slot.isExn, String.reduceBEq, ex_arg, ex_valB, Bool.or_false, Bool.false_or, Bool.or_true, Bool.true_or, Bool.not_false, Bool.not_true, ar__law_draw, ar__law_fits, ar__law_table, ar__law_told, ar__law_signed]
    exact ⟨by decide, by decide, hw1, fun r w' r0 r1 hw' => hK _ ⟨_, _, ⟨by omega, by omega⟩, hw', rfl⟩⟩
  rintro _ ⟨n, w2, hn, hw2, rfl⟩
  refine seq_cut (fun s' => ∃ (o : List Int) (w' : W), Sp o ∧ Wok w' ∧ s' = ⟨[.feed, .val (.int m), .val (.int n), .own (o.map D.int), .gone, .gone], w'⟩) ?_ ?_
  · intro K hK
    simp only [run, runF, DL.get, DL.put, puts, back, mC, mVar, mFzV, mFeed, frz, msN, msC, mBin, mUn, dAdd, dSub, dMul, dDiv, dMod, dPow, dNeg, dCmp, dLt, dLe, dGt, dGe, dEq, dNe, dIn, dIsN, dIsNotN, isN, flatD, okT, truth, tV, tB, tAnd, tOr, tNot, mAnd, mOr, mNot, mIf, mChain, mList, mTup, dIx, mSl, oN, oS, mRev, mRevTo, mCall, mCallF, dLen, dAbs, dInt, dMin2, dMax2, dList, dTup, dSum, dMin, dMax, dMinG, dMaxG, dAll, isTy, mIsI, gV, gSkip, gsN, gsC, gT, srcV, srcR1, srcR2, srcEnum, srcRev, mComp, tYes, isS, isL, mMS, mML, dIndexS, dIndexL, dIndexFrom, mMS2, dCount, dSplit, dJoin, sNil, sSeq, sSet, sAsg, sPar, sRet, retK, sRetN, sIf, sPass, sBrk, sCont, sNever, sExpr, sAug, ownAt, feedAt, intD, sApp, sExt, sSetI, sAugI, sFeed, sFeedA, popD, sPop, sAddPop, sFor, DL.W.set, DL.W.at, DL.R.d, okD, eqD_none_none, eqD_none_bool, eqD_none_int, eqD_none_str, eqD_none_list, eqD_none_tup, eqD_bool_none, eqD_bool_bool, eqD_bool_int, eqD_bool_str, eqD_bool_list, eqD_bool_tup, eqD_int_none, eqD_int_bool, eqD_int_int, eqD_int_str, eqD_int_list, eqD_int_tup, eqD_str_none, eqD_str_bool, eqD_str_int, eqD_str_str, eqD_str_list, eqD_str_tup, eqD_list_none, eqD_list_bool, eqD_list_int, eqD_list_str, eqD_list_list, eqD_list_tup, eqD_tup_none, eqD_tup_bool, eqD_tup_int, eqD_tup_str, eqD_tup_list, eqD_tup_tup, eqDs_nn, eqDs_cc, eqDs_nc, eqDs_cn, List.map_cons, List.map_nil, List.map, List.cons_append, List.nil_append, List.replicate, List.length_cons, List.length_nil, Nat.reduceAdd, Nat.reduceSub, List.all_cons, List.all_nil, Bool.and_true, Bool.true_and, true_and, and_true, atI_map, ex_map, ex_some, List.length_map, beq_int, decide_eq_true_eq, if_true, if_false, Bool.false_eq_true, if_pos, reduceIte, at0, at1, at2, at3, dP, mCallX, mCallB, peekA, evA, evAs, eq_self, sRaise0, sRaise1, sTry, caught, unslot, unheld, mXArg, mXIs, runX, List.contains_cons, List.contains_nil, Slot.isExn, String.reduceBEq, ex_arg, ex_valB, Bool.or_false, Bool.false_or, Bool.or_true, Bool.true_or, Bool.not_false, Bool.not_true, ar__law_draw, ar__law_fits, ar__law_table, ar__law_told, ar__law_signed]
    refine ⟨by decide, ⟨by omega, by omega⟩, by omega, by decide, by decide, hw2, fun r w' r0 r1 hw' => ⟨by decide, ?_⟩⟩
    rw [rep2]
    refine ⟨by rw [List.length_map, List.length_replicate]; omega, by decide, by decide, by decide, hw', fun r2 w' r20 r21 hw' => ⟨⟨by omega, by omega⟩, by omega, ?_⟩⟩
    rw [rep2]
    refine ⟨by rw [List.length_append, List.length_map, List.length_map, List.length_replicate, List.length_replicate]; simp only [List.length_cons, List.length_nil]; omega, ?_⟩
    rw [show [D.int (3 + r)] = [3 + r].map D.int from rfl, ← List.map_append, ← List.map_append]
    refine hK _ ⟨_, _, sp_all (fun x hx => ?_) (by simp) ?_, hw', rfl⟩
    · rcases List.mem_append.mp hx with z | z
      · rcases List.mem_append.mp z with z | z
        · rw [h2 _ x z]; decide
        · rw [List.mem_singleton.mp z]; omega
      · rw [h2 _ x z]; decide
    · rw [List.length_append, List.length_append, List.length_replicate, List.length_replicate]
      simp only [List.length_cons, List.length_nil]
      omega
  rintro _ ⟨o, w3, ho, hw3, rfl⟩
  refine seq_cut (fun s' => ∃ (a x y : Slot) (w' : W), Wok w' ∧ s' = ⟨[.feed, .val (.int m), .val (.int n), a, x, y], w'⟩) ?_ ?_
  · intro K hK
    refine for_list (n := 3) (P := SpD) (J := fun s' => ∃ (a : Slot) (w' : W), (a = .own (o.map D.int) ∨ a = .val (.list (o.map D.int))) ∧ Wok w' ∧ s' = ⟨[.feed, .val (.int m), .val (.int n), a, .gone, .gone], w'⟩) (allL ?_ (allC ?_ (allL ?_ allN))) (by decide) ⟨_, w3, .inl rfl, hw3, rfl⟩ ?_
    · rintro _ ⟨a, w', ha, hw', rfl⟩ K hK
      simp only [run, runF, DL.get, DL.put, puts, back, mC, mVar, mFzV, mFeed, frz, msN, msC, mBin, mUn, dAdd, dSub, dMul, dDiv, dMod, dPow, dNeg, dCmp, dLt, dLe, dGt, dGe, dEq, dNe, dIn, dIsN, dIsNotN, isN, flatD, okT, truth, tV, tB, tAnd, tOr, tNot, mAnd, mOr, mNot, mIf, mChain, mList, mTup, dIx, mSl, oN, oS, mRev, mRevTo, mCall, mCallF, dLen, dAbs, dInt, dMin2, dMax2, dList, dTup, dSum, dMin, dMax, dMinG, dMaxG, dAll, isTy, mIsI, gV, gSkip, gsN, gsC, gT, srcV, srcR1, srcR2, srcEnum, srcRev, mComp, tYes, isS, isL, mMS, mML, dIndexS, dIndexL, dIndexFrom, mMS2, dCount, dSplit, dJoin, sNil, sSeq, sSet, sAsg, sPar, sRet, retK, sRetN, sIf, sPass, sBrk, sCont, sNever, sExpr, sAug, ownAt, feedAt, intD, sApp, sExt, sSetI, sAugI, sFeed, sFeedA, popD, sPop, sAddPop, sFor, DL.W.set, DL.W.at, DL.R.d, okD, eqD_none_none, eqD_none_bool, eqD_none_int, eqD_none_str, eqD_none_list, eqD_none_tup, eqD_bool_none, eqD_bool_bool, eqD_bool_int, eqD_bool_str, eqD_bool_list, eqD_bool_tup, eqD_int_none, eqD_int_bool, eqD_int_int, eqD_int_str, eqD_int_list, eqD_int_tup, eqD_str_none, eqD_str_bool, eqD_str_int, eqD_str_str, eqD_str_list, eqD_str_tup, eqD_list_none, eqD_list_bool, eqD_list_int, eqD_list_str, eqD_list_list, eqD_list_tup, eqD_tup_none, eqD_tup_bool, eqD_tup_int, eqD_tup_str, eqD_tup_list, eqD_tup_tup, eqDs_nn, eqDs_cc, eqDs_nc, eqDs_cn, List.map_cons, List.map_nil, List.map, List.cons_append, List.nil_append, List.replicate, List.length_cons, List.length_nil, Nat.reduceAdd, Nat.reduceSub, List.all_cons, List.all_nil, Bool.and_true, Bool.true_and, true_and, and_true, atI_map, ex_map, ex_some, List.length_map, beq_int, decide_eq_true_eq, if_true, if_false, Bool.false_eq_true, if_pos, reduceIte, at0, at1, at2, at3, dP, mCallX, mCallB, peekA, evA, evAs, eq_self, sRaise0, sRaise1, sTry, caught, unslot, unheld, mXArg, mXIs, runX, List.contains_cons, List.contains_nil, Slot.isExn, String.reduceBEq, ex_arg, ex_valB, Bool.or_false, Bool.false_or, Bool.or_true, Bool.true_or, Bool.not_false, Bool.not_true, ar__law_draw, ar__law_fits, ar__law_table, ar__law_told, ar__law_signed]
      rw [rep2]
      refine ⟨by decide, ⟨by omega, by omega⟩, by omega, hK _ _ ⟨_, rfl, sp_all (fun x hx => by rw [h2 _ x hx]; decide) ?_ ?_⟩ ⟨_, _, ha, hw', rfl⟩⟩
      · intro z
        have := congrArg List.length z
        rw [List.length_replicate, List.length_nil] at this
        omega
      · rw [List.length_replicate]; omega
    · rintro _ ⟨a, w', ha, hw', rfl⟩ K hK
      rcases ha with rfl | rfl
      · simp only [run, runF, DL.get, DL.put, puts, back, mC, mVar, mFzV, mFeed, frz, msN, msC, mBin, mUn, dAdd, dSub, dMul, dDiv, dMod, dPow, dNeg, dCmp, dLt, dLe, dGt, dGe, dEq, dNe, dIn, dIsN, dIsNotN, isN, flatD, okT, truth, tV, tB, tAnd, tOr, tNot, mAnd, mOr, mNot, mIf, mChain, mList, mTup, dIx, mSl, oN, oS, mRev, mRevTo, mCall, mCallF, dLen, dAbs, dInt, dMin2, dMax2, dList, dTup, dSum, dMin, dMax, dMinG, dMaxG, dAll, isTy, mIsI, gV, gSkip, gsN, gsC, gT, srcV, srcR1, srcR2, srcEnum, srcRev, mComp, tYes, isS, isL, mMS, mML, dIndexS, dIndexL, dIndexFrom, mMS2, dCount, dSplit, dJoin, sNil, sSeq, sSet, sAsg, sPar, sRet, retK, sRetN, sIf, sPass, sBrk, sCont, sNever, sExpr, sAug, ownAt, feedAt, intD, sApp, sExt, sSetI, sAugI, sFeed, sFeedA, popD, sPop, sAddPop, sFor, DL.W.set, DL.W.at, DL.R.d, okD, eqD_none_none, eqD_none_bool, eqD_none_int, eqD_none_str, eqD_none_list, eqD_none_tup, eqD_bool_none, eqD_bool_bool, eqD_bool_int, eqD_bool_str, eqD_bool_list, eqD_bool_tup, eqD_int_none, eqD_int_bool, eqD_int_int, eqD_int_str, eqD_int_list, eqD_int_tup, eqD_str_none, eqD_str_bool, eqD_str_int, eqD_str_str, eqD_str_list, eqD_str_tup, eqD_list_none, eqD_list_bool, eqD_list_int, eqD_list_str, eqD_list_list, eqD_list_tup, eqD_tup_none, eqD_tup_bool, eqD_tup_int, eqD_tup_str, eqD_tup_list, eqD_tup_tup, eqDs_nn, eqDs_cc, eqDs_nc, eqDs_cn, List.map_cons, List.map_nil, List.map, List.cons_append, List.nil_append, List.replicate, List.length_cons, List.length_nil, Nat.reduceAdd, Nat.reduceSub, List.all_cons, List.all_nil, Bool.and_true, Bool.true_and, true_and, and_true, atI_map, ex_map, ex_some, List.length_map, beq_int, decide_eq_true_eq, if_true, if_false, Bool.false_eq_true, if_pos, reduceIte, at0, at1, at2, at3, dP, mCallX, mCallB, peekA, evA, evAs, eq_self, sRaise0, sRaise1, sTry, caught, unslot, unheld, mXArg, mXIs, runX, List.contains_cons, List.contains_nil, Slot.isExn, String.reduceBEq, ex_arg, ex_valB, Bool.or_false, Bool.false_or, Bool.or_true, Bool.true_or, Bool.not_false, Bool.not_true, ar__law_draw, ar__law_fits, ar__law_table, ar__law_told, ar__law_signed]
        exact hK _ _ ⟨o, rfl, ho⟩ ⟨_, _, .inr rfl, hw', rfl⟩
      · simp only [run, runF, DL.get, DL.put, puts, back, mC, mVar, mFzV, mFeed, frz, msN, msC, mBin, mUn, dAdd, dSub, dMul, dDiv, dMod, dPow, dNeg, dCmp, dLt, dLe, dGt, dGe, dEq, dNe, dIn, dIsN, dIsNotN, isN, flatD, okT, truth, tV, tB, tAnd, tOr, tNot, mAnd, mOr, mNot, mIf, mChain, mList, mTup, dIx, mSl, oN, oS, mRev, mRevTo, mCall, mCallF, dLen, dAbs, dInt, dMin2, dMax2, dList, dTup, dSum, dMin, dMax, dMinG, dMaxG, dAll, isTy, mIsI, gV, gSkip, gsN, gsC, gT, srcV, srcR1, srcR2, srcEnum, srcRev, mComp, tYes, isS, isL, mMS, mML, dIndexS, dIndexL, dIndexFrom, mMS2, dCount, dSplit, dJoin, sNil, sSeq, sSet, sAsg, sPar, sRet, retK, sRetN, sIf, sPass, sBrk, sCont, sNever, sExpr, sAug, ownAt, feedAt, intD, sApp, sExt, sSetI, sAugI, sFeed, sFeedA, popD, sPop, sAddPop, sFor, DL.W.set, DL.W.at, DL.R.d, okD, eqD_none_none, eqD_none_bool, eqD_none_int, eqD_none_str, eqD_none_list, eqD_none_tup, eqD_bool_none, eqD_bool_bool, eqD_bool_int, eqD_bool_str, eqD_bool_list, eqD_bool_tup, eqD_int_none, eqD_int_bool, eqD_int_int, eqD_int_str, eqD_int_list, eqD_int_tup, eqD_str_none, eqD_str_bool, eqD_str_int, eqD_str_str, eqD_str_list, eqD_str_tup, eqD_list_none, eqD_list_bool, eqD_list_int, eqD_list_str, eqD_list_list, eqD_list_tup, eqD_tup_none, eqD_tup_bool, eqD_tup_int, eqD_tup_str, eqD_tup_list, eqD_tup_tup, eqDs_nn, eqDs_cc, eqDs_nc, eqDs_cn, List.map_cons, List.map_nil, List.map, List.cons_append, List.nil_append, List.replicate, List.length_cons, List.length_nil, Nat.reduceAdd, Nat.reduceSub, List.all_cons, List.all_nil, Bool.and_true, Bool.true_and, true_and, and_true, atI_map, ex_map, ex_some, List.length_map, beq_int, decide_eq_true_eq, if_true, if_false, Bool.false_eq_true, if_pos, reduceIte, at0, at1, at2, at3, dP, mCallX, mCallB, peekA, evA, evAs, eq_self, sRaise0, sRaise1, sTry, caught, unslot, unheld, mXArg, mXIs, runX, List.contains_cons, List.contains_nil, Slot.isExn, String.reduceBEq, ex_arg, ex_valB, Bool.or_false, Bool.false_or, Bool.or_true, Bool.true_or, Bool.not_false, Bool.not_true, ar__law_draw, ar__law_fits, ar__law_table, ar__law_told, ar__law_signed]
        exact hK _ _ ⟨o, rfl, ho⟩ ⟨_, _, .inr rfl, hw', rfl⟩
    · rintro _ ⟨a, w', ha, hw', rfl⟩ K hK
      simp only [run, runF, DL.get, DL.put, puts, back, mC, mVar, mFzV, mFeed, frz, msN, msC, mBin, mUn, dAdd, dSub, dMul, dDiv, dMod, dPow, dNeg, dCmp, dLt, dLe, dGt, dGe, dEq, dNe, dIn, dIsN, dIsNotN, isN, flatD, okT, truth, tV, tB, tAnd, tOr, tNot, mAnd, mOr, mNot, mIf, mChain, mList, mTup, dIx, mSl, oN, oS, mRev, mRevTo, mCall, mCallF, dLen, dAbs, dInt, dMin2, dMax2, dList, dTup, dSum, dMin, dMax, dMinG, dMaxG, dAll, isTy, mIsI, gV, gSkip, gsN, gsC, gT, srcV, srcR1, srcR2, srcEnum, srcRev, mComp, tYes, isS, isL, mMS, mML, dIndexS, dIndexL, dIndexFrom, mMS2, dCount, dSplit, dJoin, sNil, sSeq, sSet, sAsg, sPar, sRet, retK, sRetN, sIf, sPass, sBrk, sCont, sNever, sExpr, sAug, ownAt, feedAt, intD, sApp, sExt, sSetI, sAugI, sFeed, sFeedA, popD, sPop, sAddPop, sFor, DL.W.set, DL.W.at, DL.R.d, okD, eqD_none_none, eqD_none_bool, eqD_none_int, eqD_none_str, eqD_none_list, eqD_none_tup, eqD_bool_none, eqD_bool_bool, eqD_bool_int, eqD_bool_str, eqD_bool_list, eqD_bool_tup, eqD_int_none, eqD_int_bool, eqD_int_int, eqD_int_str, eqD_int_list, eqD_int_tup, eqD_str_none, eqD_str_bool, eqD_str_int, eqD_str_str, eqD_str_list, eqD_str_tup, eqD_list_none, eqD_list_bool, eqD_list_int, eqD_list_str, eqD_list_list, eqD_list_tup, eqD_tup_none, eqD_tup_bool, eqD_tup_int, eqD_tup_str, eqD_tup_list, eqD_tup_tup, eqDs_nn, eqDs_cc, eqDs_nc, eqDs_cn, List.map_cons, List.map_nil, List.map, List.cons_append, List.nil_append, List.replicate, List.length_cons, List.length_nil, Nat.reduceAdd, Nat.reduceSub, List.all_cons, List.all_nil, Bool.and_true, Bool.true_and, true_and, and_true, atI_map, ex_map, ex_some, List.length_map, beq_int, decide_eq_true_eq, if_true, if_false, Bool.false_eq_true, if_pos, reduceIte, at0, at1, at2, at3, dP, mCallX, mCallB, peekA, evA, evAs, eq_self, sRaise0, sRaise1, sTry, caught, unslot, unheld, mXArg, mXIs, runX, List.contains_cons, List.contains_nil, Slot.isExn, String.reduceBEq, ex_arg, ex_valB, Bool.or_false, Bool.false_or, Bool.or_true, Bool.true_or, Bool.not_false, Bool.not_true, ar__law_draw, ar__law_fits, ar__law_table, ar__law_told, ar__law_signed]
      refine ⟨by decide, by decide, hw', fun r w' r0 r1 hw' => ⟨by decide, by decide, ⟨by omega, by omega⟩, by omega, ?_⟩⟩
      rw [rep2]
      refine ⟨by rw [List.length_map, List.length_replicate]; omega, by decide, by decide, hw', fun r2 w' r20 r21 hw' => ⟨by decide, by rw [List.length_map, List.length_replicate]; omega, ?_⟩⟩
      rw [show D.int (r - 4) :: (List.map D.int (List.replicate n.toNat 2) ++ [D.int (r2 - 4)]) = ([r - 4] ++ List.replicate n.toNat 2 ++ [r2 - 4]).map D.int by rw [List.map_append, List.map_append]; rfl]
      exact hK _ _ ⟨_, rfl, sp_one (h2 _) (by omega) (by omega) (by rw [List.length_replicate]; omega)⟩ ⟨_, _, ha, hw', rfl⟩
    · rintro ds _ hdl hds ⟨a, w', ha, hw', rfl⟩
      refine forL_ix _ (fun _ s' => ∃ x y, s' = ⟨[.feed, .val (.int m), .val (.int n), a, x, y], w'⟩) ?_ ?_ _ ⟨_, _, rfl⟩
      · rintro i d _ hd ⟨x, y, rfl⟩ K hK
        obtain ⟨l, rfl, hl⟩ := hds d (List.mem_of_getElem? hd)
        have okl := Okl.of (by have := hl.len; omega : l.length ≤ 1001) hl.low
        show sIf _ _ _ ⟨[.feed, .val (.int m), .val (.int n), a, .val (.list (l.map D.int)), y], w'⟩ _
        refine cond_cut (decide (fits (tb l))) ?_ (fun e => ?_) fun _ => hK _ ⟨_, _, rfl⟩
        · intro K hK
          simp only [run, runF, DL.get, DL.put, puts, back, mC, mVar, mFzV, mFeed, frz, msN, msC, mBin, mUn, dAdd, dSub, dMul, dDiv, dMod, dPow, dNeg, dCmp, dLt, dLe, dGt, dGe, dEq, dNe, dIn, dIsN, dIsNotN, isN, flatD, okT, truth, tV, tB, tAnd, tOr, tNot, mAnd, mOr, mNot, mIf, mChain, mList, mTup, dIx, mSl, oN, oS, mRev, mRevTo, mCall, mCallF, dLen, dAbs, dInt, dMin2, dMax2, dList, dTup, dSum, dMin, dMax, dMinG, dMaxG, dAll, isTy, mIsI, gV, gSkip, gsN, gsC, gT, srcV, srcR1, srcR2, srcEnum, srcRev, mComp, tYes, isS, isL, mMS, mML, dIndexS, dIndexL, dIndexFrom, mMS2, dCount, dSplit, dJoin, sNil, sSeq, sSet, sAsg, sPar, sRet, retK, sRetN, sIf, sPass, sBrk, sCont, sNever, sExpr, sAug, ownAt, feedAt, intD, sApp, sExt, sSetI, sAugI, sFeed, sFeedA, popD, sPop, sAddPop, sFor, DL.W.set, DL.W.at, DL.R.d, okD, eqD_none_none, eqD_none_bool, eqD_none_int, eqD_none_str, eqD_none_list, eqD_none_tup, eqD_bool_none, eqD_bool_bool, eqD_bool_int, eqD_bool_str, eqD_bool_list, eqD_bool_tup, eqD_int_none, eqD_int_bool, eqD_int_int, eqD_int_str, eqD_int_list, eqD_int_tup, eqD_str_none, eqD_str_bool, eqD_str_int, eqD_str_str, eqD_str_list, eqD_str_tup, eqD_list_none, eqD_list_bool, eqD_list_int, eqD_list_str, eqD_list_list, eqD_list_tup, eqD_tup_none, eqD_tup_bool, eqD_tup_int, eqD_tup_str, eqD_tup_list, eqD_tup_tup, eqDs_nn, eqDs_cc, eqDs_nc, eqDs_cn, List.map_cons, List.map_nil, List.map, List.cons_append, List.nil_append, List.replicate, List.length_cons, List.length_nil, Nat.reduceAdd, Nat.reduceSub, List.all_cons, List.all_nil, Bool.and_true, Bool.true_and, true_and, and_true, atI_map, ex_map, ex_some, List.length_map, beq_int, decide_eq_true_eq, if_true, if_false, Bool.false_eq_true, if_pos, reduceIte, at0, at1, at2, at3, dP, mCallX, mCallB, peekA, evA, evAs, eq_self, sRaise0, sRaise1, sTry, caught, unslot, unheld, mXArg, mXIs, runX, List.contains_cons, List.contains_nil, Slot.isExn, String.reduceBEq, ex_arg, ex_valB, Bool.or_false, Bool.false_or, Bool.or_true, Bool.true_or, Bool.not_false, Bool.not_true, ar__law_draw, ar__law_fits, ar__law_table, ar__law_told, ar__law_signed]
          exact ⟨okl, hK⟩
        · have hf : fits (tb l) := of_decide_eq_true e
          have sh : Sh l := ⟨hl.ne, hl.mid, hl.low, hl.len, hf⟩
          refine for_cut (fun ds s' => ds = [1, -1].map D.int ∧ s' = ⟨[.feed, .val (.int m), .val (.int n), a, .val (.list (l.map D.int)), y], w'⟩) ?_ ?_
          · intro K hK
            simp only [run, runF, DL.get, DL.put, puts, back, mC, mVar, mFzV, mFeed, frz, msN, msC, mBin, mUn, dAdd, dSub, dMul, dDiv, dMod, dPow, dNeg, dCmp, dLt, dLe, dGt, dGe, dEq, dNe, dIn, dIsN, dIsNotN, isN, flatD, okT, truth, tV, tB, tAnd, tOr, tNot, mAnd, mOr, mNot, mIf, mChain, mList, mTup, dIx, mSl, oN, oS, mRev, mRevTo, mCall, mCallF, dLen, dAbs, dInt, dMin2, dMax2, dList, dTup, dSum, dMin, dMax, dMinG, dMaxG, dAll, isTy, mIsI, gV, gSkip, gsN, gsC, gT, srcV, srcR1, srcR2, srcEnum, srcRev, mComp, tYes, isS, isL, mMS, mML, dIndexS, dIndexL, dIndexFrom, mMS2, dCount, dSplit, dJoin, sNil, sSeq, sSet, sAsg, sPar, sRet, retK, sRetN, sIf, sPass, sBrk, sCont, sNever, sExpr, sAug, ownAt, feedAt, intD, sApp, sExt, sSetI, sAugI, sFeed, sFeedA, popD, sPop, sAddPop, sFor, DL.W.set, DL.W.at, DL.R.d, okD, eqD_none_none, eqD_none_bool, eqD_none_int, eqD_none_str, eqD_none_list, eqD_none_tup, eqD_bool_none, eqD_bool_bool, eqD_bool_int, eqD_bool_str, eqD_bool_list, eqD_bool_tup, eqD_int_none, eqD_int_bool, eqD_int_int, eqD_int_str, eqD_int_list, eqD_int_tup, eqD_str_none, eqD_str_bool, eqD_str_int, eqD_str_str, eqD_str_list, eqD_str_tup, eqD_list_none, eqD_list_bool, eqD_list_int, eqD_list_str, eqD_list_list, eqD_list_tup, eqD_tup_none, eqD_tup_bool, eqD_tup_int, eqD_tup_str, eqD_tup_list, eqD_tup_tup, eqDs_nn, eqDs_cc, eqDs_nc, eqDs_cn, List.map_cons, List.map_nil, List.map, List.cons_append, List.nil_append, List.replicate, List.length_cons, List.length_nil, Nat.reduceAdd, Nat.reduceSub, List.all_cons, List.all_nil, Bool.and_true, Bool.true_and, true_and, and_true, atI_map, ex_map, ex_some, List.length_map, beq_int, decide_eq_true_eq, if_true, if_false, Bool.false_eq_true, if_pos, reduceIte, at0, at1, at2, at3, dP, mCallX, mCallB, peekA, evA, evAs, eq_self, sRaise0, sRaise1, sTry, caught, unslot, unheld, mXArg, mXIs, runX, List.contains_cons, List.contains_nil, Slot.isExn, String.reduceBEq, ex_arg, ex_valB, Bool.or_false, Bool.false_or, Bool.or_true, Bool.true_or, Bool.not_false, Bool.not_true, ar__law_draw, ar__law_fits, ar__law_table, ar__law_told, ar__law_signed]
            exact ⟨by decide, hK _ _ ⟨rfl, rfl⟩⟩
          rintro ds _ ⟨rfl, rfl⟩
          refine forL_ix _ (fun _ s' => ∃ y, s' = ⟨[.feed, .val (.int m), .val (.int n), a, .val (.list (l.map D.int)), y], w'⟩) ?_ ?_ _ ⟨_, rfl⟩
          · rintro i d _ hd ⟨y, rfl⟩ K hK
            obtain ⟨k, hk, rfl⟩ := List.mem_map.mp (List.mem_of_getElem? hd)
            have hk : k = 1 ∨ k = -1 := by simpa using hk
            simp only [run, runF, DL.get, DL.put, puts, back, mC, mVar, mFzV, mFeed, frz, msN, msC, mBin, mUn, dAdd, dSub, dMul, dDiv, dMod, dPow, dNeg, dCmp, dLt, dLe, dGt, dGe, dEq, dNe, dIn, dIsN, dIsNotN, isN, flatD, okT, truth, tV, tB, tAnd, tOr, tNot, mAnd, mOr, mNot, mIf, mChain, mList, mTup, dIx, mSl, oN, oS, mRev, mRevTo, mCall, mCallF, dLen, dAbs, dInt, dMin2, dMax2, dList, dTup, dSum, dMin, dMax, dMinG, dMaxG, dAll, isTy, mIsI, gV, gSkip, gsN, gsC, gT, srcV, srcR1, srcR2, srcEnum, srcRev, mComp, tYes, isS, isL, mMS, mML, dIndexS, dIndexL, dIndexFrom, mMS2, dCount, dSplit, dJoin, sNil, sSeq, sSet, sAsg, sPar, sRet, retK, sRetN, sIf, sPass, sBrk, sCont, sNever, sExpr, sAug, ownAt, feedAt, intD, sApp, sExt, sSetI, sAugI, sFeed, sFeedA, popD, sPop, sAddPop, sFor, DL.W.set, DL.W.at, DL.R.d, okD, eqD_none_none, eqD_none_bool, eqD_none_int, eqD_none_str, eqD_none_list, eqD_none_tup, eqD_bool_none, eqD_bool_bool, eqD_bool_int, eqD_bool_str, eqD_bool_list, eqD_bool_tup, eqD_int_none, eqD_int_bool, eqD_int_int, eqD_int_str, eqD_int_list, eqD_int_tup, eqD_str_none, eqD_str_bool, eqD_str_int, eqD_str_str, eqD_str_list, eqD_str_tup, eqD_list_none, eqD_list_bool, eqD_list_int, eqD_list_str, eqD_list_list, eqD_list_tup, eqD_tup_none, eqD_tup_bool, eqD_tup_int, eqD_tup_str, eqD_tup_list, eqD_tup_tup, eqDs_nn, eqDs_cc, eqDs_nc, eqDs_cn, List.map_cons, List.map_nil, List.map, List.cons_append, List.nil_append, List.replicate, List.length_cons, List.length_nil, Nat.reduceAdd, Nat.reduceSub, List.all_cons, List.all_nil, Bool.and_true, Bool.true_and, true_and, and_true, atI_map, ex_map, ex_some, List.length_map, beq_int, decide_eq_true_eq, if_true, if_false, Bool.false_eq_true, if_pos, reduceIte, at0, at1, at2, at3, dP, mCallX, mCallB, peekA, evA, evAs, eq_self, sRaise0, sRaise1, sTry, caught, unslot, unheld, mXArg, mXIs, runX, List.contains_cons, List.contains_nil, Slot.isExn, String.reduceBEq, ex_arg, ex_valB, Bool.or_false, Bool.false_or, Bool.or_true, Bool.true_or, Bool.not_false, Bool.not_true, ar__law_draw, ar__law_fits, ar__law_table, ar__law_told, ar__law_signed]
            exact ⟨okl, hk, sh.told hk, fits_sg hk hf, hl.len, hl.low, hK _ ⟨_, rfl⟩⟩
          · rintro _ ⟨y, rfl⟩
            exact hK _ ⟨_, _, rfl⟩
      · rintro _ ⟨x, y, rfl⟩
        exact hK _ ⟨a, x, y, w', hw', rfl⟩
  rintro _ ⟨a, x, y, w', hw', rfl⟩
  simp only [run, runF, DL.get, DL.put, puts, back, mC, mVar, mFzV, mFeed, frz, msN, msC, mBin, mUn, dAdd, dSub, dMul, dDiv, dMod, dPow, dNeg, dCmp, dLt, dLe, dGt, dGe, dEq, dNe, dIn, dIsN, dIsNotN, isN, flatD, okT, truth, tV, tB, tAnd, tOr, tNot, mAnd, mOr, mNot, mIf, mChain, mList, mTup, dIx, mSl, oN, oS, mRev, mRevTo, mCall, mCallF, dLen, dAbs, dInt, dMin2, dMax2, dList, dTup, dSum, dMin, dMax, dMinG, dMaxG, dAll, isTy, mIsI, gV, gSkip, gsN, gsC, gT, srcV, srcR1, srcR2, srcEnum, srcRev, mComp, tYes, isS, isL, mMS, mML, dIndexS, dIndexL, dIndexFrom, mMS2, dCount, dSplit, dJoin, sNil, sSeq, sSet, sAsg, sPar, sRet, retK, sRetN, sIf, sPass, sBrk, sCont, sNever, sExpr, sAug, ownAt, feedAt, intD, sApp, sExt, sSetI, sAugI, sFeed, sFeedA, popD, sPop, sAddPop, sFor, DL.W.set, DL.W.at, DL.R.d, okD, eqD_none_none, eqD_none_bool, eqD_none_int, eqD_none_str, eqD_none_list, eqD_none_tup, eqD_bool_none, eqD_bool_bool, eqD_bool_int, eqD_bool_str, eqD_bool_list, eqD_bool_tup, eqD_int_none, eqD_int_bool, eqD_int_int, eqD_int_str, eqD_int_list, eqD_int_tup, eqD_str_none, eqD_str_bool, eqD_str_int, eqD_str_str, eqD_str_list, eqD_str_tup, eqD_list_none, eqD_list_bool, eqD_list_int, eqD_list_str, eqD_list_list, eqD_list_tup, eqD_tup_none, eqD_tup_bool, eqD_tup_int, eqD_tup_str, eqD_tup_list, eqD_tup_tup, eqDs_nn, eqDs_cc, eqDs_nc, eqDs_cn, List.map_cons, List.map_nil, List.map, List.cons_append, List.nil_append, List.replicate, List.length_cons, List.length_nil, Nat.reduceAdd, Nat.reduceSub, List.all_cons, List.all_nil, Bool.and_true, Bool.true_and, true_and, and_true, atI_map, ex_map, ex_some, List.length_map, beq_int, decide_eq_true_eq, if_true, if_false, Bool.false_eq_true, if_pos, reduceIte, at0, at1, at2, at3, dP, mCallX, mCallB, peekA, evA, evAs, eq_self, sRaise0, sRaise1, sTry, caught, unslot, unheld, mXArg, mXIs, runX, List.contains_cons, List.contains_nil, Slot.isExn, String.reduceBEq, ex_arg, ex_valB, Bool.or_false, Bool.false_or, Bool.or_true, Bool.true_or, Bool.not_false, Bool.not_true]
  exact q w' hw'
abbrev lst (u n g t p q r s x m k : Slot) (w : W) : S := ⟨[.gone, .feed, u, n, g, t, p, q, r, s, x, m, k], w⟩
def TabD (d : D) : Prop := ∃ p q r s : Int, d = .tup [.int p, .int q, .int r, .int s] ∧ p.natAbs ≤ 1000 ∧ q.natAbs ≤ 1000 ∧ r.natAbs ≤ 1000 ∧ s.natAbs ≤ 1000
def GoodD (d : D) : Prop := ∃ p q r s : Int, d = .tup [.int p, .int q, .int r, .int s] ∧ M4.det ⟨p, q, r, s⟩ = 1 ∧ fits ⟨p, q, r, s⟩
def WrongD (d : D) : Prop := ∃ p q r s : Int, d = .tup [.int p, .int q, .int r, .int s] ∧ lowV 24000 (p, q) ∧ lowV 24000 (r, s) ∧ ¬ (M4.det ⟨p, q, r, s⟩ = 1 ∧ fits ⟨p, q, r, s⟩)
theorem okl_tab {l : List Int} (h : Okl l) : lowV 24000 ((tb l).p, (tb l).q) ∧ lowV 24000 ((tb l).r, (tb l).s) := by
  have c1 := h.low (v := (1, 0)) (by decide) (by decide)
  have c2 := h.low (v := (0, 1)) (by decide) (by decide)
  rw [tb_cols l]
  exact ⟨⟨c1.1, c2.1⟩, c1.2, c2.2⟩
theorem tel1 : Told ⟨1, 0, 0, 1⟩ (-1) [0, 0] := ⟨.inr rfl, by simp, fun x hx => (by cases hx), rfl⟩
theorem tel2 : Told ⟨999, -1, 1, 0⟩ 1 [999] := ⟨.inl rfl, by simp, fun x hx => (by cases hx), rfl⟩
theorem vc_law : ∀ ns : List Int, ns.length ≤ 63 → lawTrue 13 (b_law (ar 0 spec__law_drawn) (ar 2 spec__law_signed) (ar 3 spec__law_told) (ar 1 spec__law_any_right) (ar 1 spec__law_refused) (ar 1 spec__law_fits) (ar 1 spec__law_draw) (ar 1 spec__law_table) (ar 0 spec__law_long_right) (arX 1 spec_turns_of)) ns := by
  intro ns hn
  have hz : (2000000 : Nat) ≤ LINE := by decide
  have hw0 := Wok.start hn
  show sSeq _ _ (lst .gone .gone .gone .gone .gone .gone .gone .gone .gone .gone .gone ⟨ns, 0, 0, 1⟩) _
  refine seq_cut (fun s' => ∃ u n g t p q r s x m k w', Wok w' ∧ s' = lst u n g t p q r s x m k w') ?_ ?_
  · intro K hK
    refine for_r1 4 (fun _ s' => ∃ u n g t p q r s x m k w', Wok w' ∧ s' = lst u n g t p q r s x m k w') _ (fun K h => h) (by decide) ⟨_, _, _, _, _, _, _, _, _, _, _, _, hw0, rfl⟩ ?_ ?_
    · rintro i _ hi ⟨u, n, g, t, p, q, r, s, x, m, k, w0, hw0, rfl⟩ K hK
      show sSeq _ _ (lst (.val (.int i)) n g t p q r s x m k w0) _
      refine seq_cut (fun s' => ∃ (l : List Int) (a : Slot) (w' : W), (a = .own (l.map D.int) ∨ a = .val (.list (l.map D.int))) ∧ Sh l ∧ Wok w' ∧ s' = lst (.val (.int i)) a g t p q r s x m k w') ?_ ?_
      · intro K hK
        simp only [run, runF, DL.get, DL.put, puts, back, mC, mVar, mFzV, mFeed, frz, msN, msC, mBin, mUn, dAdd, dSub, dMul, dDiv, dMod, dPow, dNeg, dCmp, dLt, dLe, dGt, dGe, dEq, dNe, dIn, dIsN, dIsNotN, isN, flatD, okT, truth, tV, tB, tAnd, tOr, tNot, mAnd, mOr, mNot, mIf, mChain, mList, mTup, dIx, mSl, oN, oS, mRev, mRevTo, mCall, mCallF, dLen, dAbs, dInt, dMin2, dMax2, dList, dTup, dSum, dMin, dMax, dMinG, dMaxG, dAll, isTy, mIsI, gV, gSkip, gsN, gsC, gT, srcV, srcR1, srcR2, srcEnum, srcRev, mComp, tYes, isS, isL, mMS, mML, dIndexS, dIndexL, dIndexFrom, mMS2, dCount, dSplit, dJoin, sNil, sSeq, sSet, sAsg, sPar, sRet, retK, sRetN, sIf, sPass, sBrk, sCont, sNever, sExpr, sAug, ownAt, feedAt, intD, sApp, sExt, sSetI, sAugI, sFeed, sFeedA, popD, sPop, sAddPop, sFor, DL.W.set, DL.W.at, DL.R.d, okD, eqD_none_none, eqD_none_bool, eqD_none_int, eqD_none_str, eqD_none_list, eqD_none_tup, eqD_bool_none, eqD_bool_bool, eqD_bool_int, eqD_bool_str, eqD_bool_list, eqD_bool_tup, eqD_int_none, eqD_int_bool, eqD_int_int, eqD_int_str, eqD_int_list, eqD_int_tup, eqD_str_none, eqD_str_bool, eqD_str_int, eqD_str_str, eqD_str_list, eqD_str_tup, eqD_list_none, eqD_list_bool, eqD_list_int, eqD_list_str, eqD_list_list, eqD_list_tup, eqD_tup_none, eqD_tup_bool, eqD_tup_int, eqD_tup_str, eqD_tup_list, eqD_tup_tup, eqDs_nn, eqDs_cc, eqDs_nc, eqDs_cn, List.map_cons, List.map_nil, List.map, List.cons_append, List.nil_append, List.replicate, List.length_cons, List.length_nil, Nat.reduceAdd, Nat.reduceSub, List.all_cons, List.all_nil, Bool.and_true, Bool.true_and, true_and, and_true, atI_map, ex_map, ex_some, List.length_map, beq_int, decide_eq_true_eq, if_true, if_false, Bool.false_eq_true, if_pos, reduceIte, at0, at1, at2, at3, dP, mCallX, mCallB, peekA, evA, evAs, eq_self, sRaise0, sRaise1, sTry, caught, unslot, unheld, mXArg, mXIs, runX, List.contains_cons, List.contains_nil, Slot.isExn, String.reduceBEq, ex_arg, ex_valB, Bool.or_false, Bool.false_or, Bool.or_true, Bool.true_or, Bool.not_false, Bool.not_true, ar__law_drawn, ar__law_signed, ar__law_told, ar__law_any_right, ar__law_refused, ar__law_fits, ar__law_draw, ar__law_table, ar__law_long_right, ar_turns_of]
        exact ⟨hw0, fun l w' sh hw' => hK _ ⟨l, _, w', .inl rfl, sh, hw', rfl⟩, fun l w' sh hw' => hK _ ⟨l, _, w', .inr rfl, sh, hw', rfl⟩⟩
      rintro _ ⟨l, a, w1, ha, sh, hw1, rfl⟩
      have okl := Okl.of (by have := sh.len; omega : l.length ≤ 1001) sh.low
      refine seq_cut (fun s' => ∃ n g t p q r s x m k, s' = lst (.val (.int i)) n g t p q r s x m k w1) ?_ ?_
      · intro K hK
        refine for_cut (fun ds s' => ds = [1, -1].map D.int ∧ s' = lst (.val (.int i)) a g t p q r s x m k w1) ?_ ?_
        · intro K hK
          simp only [run, runF, DL.get, DL.put, puts, back, mC, mVar, mFzV, mFeed, frz, msN, msC, mBin, mUn, dAdd, dSub, dMul, dDiv, dMod, dPow, dNeg, dCmp, dLt, dLe, dGt, dGe, dEq, dNe, dIn, dIsN, dIsNotN, isN, flatD, okT, truth, tV, tB, tAnd, tOr, tNot, mAnd, mOr, mNot, mIf, mChain, mList, mTup, dIx, mSl, oN, oS, mRev, mRevTo, mCall, mCallF, dLen, dAbs, dInt, dMin2, dMax2, dList, dTup, dSum, dMin, dMax, dMinG, dMaxG, dAll, isTy, mIsI, gV, gSkip, gsN, gsC, gT, srcV, srcR1, srcR2, srcEnum, srcRev, mComp, tYes, isS, isL, mMS, mML, dIndexS, dIndexL, dIndexFrom, mMS2, dCount, dSplit, dJoin, sNil, sSeq, sSet, sAsg, sPar, sRet, retK, sRetN, sIf, sPass, sBrk, sCont, sNever, sExpr, sAug, ownAt, feedAt, intD, sApp, sExt, sSetI, sAugI, sFeed, sFeedA, popD, sPop, sAddPop, sFor, DL.W.set, DL.W.at, DL.R.d, okD, eqD_none_none, eqD_none_bool, eqD_none_int, eqD_none_str, eqD_none_list, eqD_none_tup, eqD_bool_none, eqD_bool_bool, eqD_bool_int, eqD_bool_str, eqD_bool_list, eqD_bool_tup, eqD_int_none, eqD_int_bool, eqD_int_int, eqD_int_str, eqD_int_list, eqD_int_tup, eqD_str_none, eqD_str_bool, eqD_str_int, eqD_str_str, eqD_str_list, eqD_str_tup, eqD_list_none, eqD_list_bool, eqD_list_int, eqD_list_str, eqD_list_list, eqD_list_tup, eqD_tup_none, eqD_tup_bool, eqD_tup_int, eqD_tup_str, eqD_tup_list, eqD_tup_tup, eqDs_nn, eqDs_cc, eqDs_nc, eqDs_cn, List.map_cons, List.map_nil, List.map, List.cons_append, List.nil_append, List.replicate, List.length_cons, List.length_nil, Nat.reduceAdd, Nat.reduceSub, List.all_cons, List.all_nil, Bool.and_true, Bool.true_and, true_and, and_true, atI_map, ex_map, ex_some, List.length_map, beq_int, decide_eq_true_eq, if_true, if_false, Bool.false_eq_true, if_pos, reduceIte, at0, at1, at2, at3, dP, mCallX, mCallB, peekA, evA, evAs, eq_self, sRaise0, sRaise1, sTry, caught, unslot, unheld, mXArg, mXIs, runX, List.contains_cons, List.contains_nil, Slot.isExn, String.reduceBEq, ex_arg, ex_valB, Bool.or_false, Bool.false_or, Bool.or_true, Bool.true_or, Bool.not_false, Bool.not_true, ar__law_drawn, ar__law_signed, ar__law_told, ar__law_any_right, ar__law_refused, ar__law_fits, ar__law_draw, ar__law_table, ar__law_long_right, ar_turns_of]
          exact ⟨by decide, hK _ _ ⟨rfl, rfl⟩⟩
        rintro ds _ ⟨rfl, rfl⟩
        refine forL_ix _ (fun _ s' => ∃ a g t p q r s x m k, (a = .own (l.map D.int) ∨ a = .val (.list (l.map D.int))) ∧ s' = lst (.val (.int i)) a g t p q r s x m k w1) ?_ ?_ _ ⟨_, _, _, _, _, _, _, _, _, _, ha, rfl⟩
        · rintro j d _ hd ⟨a, g, t, p, q, r, s, x, m, k, ha, rfl⟩ K hK
          obtain ⟨z, hz1, rfl⟩ := List.mem_map.mp (List.mem_of_getElem? hd)
          have hz1 : z = 1 ∨ z = -1 := by simpa using hz1
          have htold := sh.told hz1
          have hfit := fits_sg hz1 sh.fit
          have hdet : M4.det ((tb l).sg z) = 1 := by rw [sg_det hz1]; exact tb_det l
          show sSeq _ _ (lst (.val (.int i)) a (.val (.int z)) t p q r s x m k w1) _
          refine seq_cut (fun s' => s' = lst (.val (.int i)) (.val (.list (l.map D.int))) (.val (.int z)) (.val (tM ((tb l).sg z))) p q r s x m k w1) ?_ ?_
          · intro K hK
            rcases ha with rfl | rfl
            · simp only [run, runF, DL.get, DL.put, puts, back, mC, mVar, mFzV, mFeed, frz, msN, msC, mBin, mUn, dAdd, dSub, dMul, dDiv, dMod, dPow, dNeg, dCmp, dLt, dLe, dGt, dGe, dEq, dNe, dIn, dIsN, dIsNotN, isN, flatD, okT, truth, tV, tB, tAnd, tOr, tNot, mAnd, mOr, mNot, mIf, mChain, mList, mTup, dIx, mSl, oN, oS, mRev, mRevTo, mCall, mCallF, dLen, dAbs, dInt, dMin2, dMax2, dList, dTup, dSum, dMin, dMax, dMinG, dMaxG, dAll, isTy, mIsI, gV, gSkip, gsN, gsC, gT, srcV, srcR1, srcR2, srcEnum, srcRev, mComp, tYes, isS, isL, mMS, mML, dIndexS, dIndexL, dIndexFrom, mMS2, dCount, dSplit, dJoin, sNil, sSeq, sSet, sAsg, sPar, sRet, retK, sRetN, sIf, sPass, sBrk, sCont, sNever, sExpr, sAug, ownAt, feedAt, intD, sApp, sExt, sSetI, sAugI, sFeed, sFeedA, popD, sPop, sAddPop, sFor, DL.W.set, DL.W.at, DL.R.d, okD, eqD_none_none, eqD_none_bool, eqD_none_int, eqD_none_str, eqD_none_list, eqD_none_tup, eqD_bool_none, eqD_bool_bool, eqD_bool_int, eqD_bool_str, eqD_bool_list, eqD_bool_tup, eqD_int_none, eqD_int_bool, eqD_int_int, eqD_int_str, eqD_int_list, eqD_int_tup, eqD_str_none, eqD_str_bool, eqD_str_int, eqD_str_str, eqD_str_list, eqD_str_tup, eqD_list_none, eqD_list_bool, eqD_list_int, eqD_list_str, eqD_list_list, eqD_list_tup, eqD_tup_none, eqD_tup_bool, eqD_tup_int, eqD_tup_str, eqD_tup_list, eqD_tup_tup, eqDs_nn, eqDs_cc, eqDs_nc, eqDs_cn, List.map_cons, List.map_nil, List.map, List.cons_append, List.nil_append, List.replicate, List.length_cons, List.length_nil, Nat.reduceAdd, Nat.reduceSub, List.all_cons, List.all_nil, Bool.and_true, Bool.true_and, true_and, and_true, atI_map, ex_map, ex_some, List.length_map, beq_int, decide_eq_true_eq, if_true, if_false, Bool.false_eq_true, if_pos, reduceIte, at0, at1, at2, at3, dP, mCallX, mCallB, peekA, evA, evAs, eq_self, sRaise0, sRaise1, sTry, caught, unslot, unheld, mXArg, mXIs, runX, List.contains_cons, List.contains_nil, Slot.isExn, String.reduceBEq, ex_arg, ex_valB, Bool.or_false, Bool.false_or, Bool.or_true, Bool.true_or, Bool.not_false, Bool.not_true, ar__law_drawn, ar__law_signed, ar__law_told, ar__law_any_right, ar__law_refused, ar__law_fits, ar__law_draw, ar__law_table, ar__law_long_right, ar_turns_of]
              exact ⟨okl, hz1, hK _ rfl⟩
            · simp only [run, runF, DL.get, DL.put, puts, back, mC, mVar, mFzV, mFeed, frz, msN, msC, mBin, mUn, dAdd, dSub, dMul, dDiv, dMod, dPow, dNeg, dCmp, dLt, dLe, dGt, dGe, dEq, dNe, dIn, dIsN, dIsNotN, isN, flatD, okT, truth, tV, tB, tAnd, tOr, tNot, mAnd, mOr, mNot, mIf, mChain, mList, mTup, dIx, mSl, oN, oS, mRev, mRevTo, mCall, mCallF, dLen, dAbs, dInt, dMin2, dMax2, dList, dTup, dSum, dMin, dMax, dMinG, dMaxG, dAll, isTy, mIsI, gV, gSkip, gsN, gsC, gT, srcV, srcR1, srcR2, srcEnum, srcRev, mComp, tYes, isS, isL, mMS, mML, dIndexS, dIndexL, dIndexFrom, mMS2, dCount, dSplit, dJoin, sNil, sSeq, sSet, sAsg, sPar, sRet, retK, sRetN, sIf, sPass, sBrk, sCont, sNever, sExpr, sAug, ownAt, feedAt, intD, sApp, sExt, sSetI, sAugI, sFeed, sFeedA, popD, sPop, sAddPop, sFor, DL.W.set, DL.W.at, DL.R.d, okD, eqD_none_none, eqD_none_bool, eqD_none_int, eqD_none_str, eqD_none_list, eqD_none_tup, eqD_bool_none, eqD_bool_bool, eqD_bool_int, eqD_bool_str, eqD_bool_list, eqD_bool_tup, eqD_int_none, eqD_int_bool, eqD_int_int, eqD_int_str, eqD_int_list, eqD_int_tup, eqD_str_none, eqD_str_bool, eqD_str_int, eqD_str_str, eqD_str_list, eqD_str_tup, eqD_list_none, eqD_list_bool, eqD_list_int, eqD_list_str, eqD_list_list, eqD_list_tup, eqD_tup_none, eqD_tup_bool, eqD_tup_int, eqD_tup_str, eqD_tup_list, eqD_tup_tup, eqDs_nn, eqDs_cc, eqDs_nc, eqDs_cn, List.map_cons, List.map_nil, List.map, List.cons_append, List.nil_append, List.replicate, List.length_cons, List.length_nil, Nat.reduceAdd, Nat.reduceSub, List.all_cons, List.all_nil, Bool.and_true, Bool.true_and, true_and, and_true, atI_map, ex_map, ex_some, List.length_map, beq_int, decide_eq_true_eq, if_true, if_false, Bool.false_eq_true, if_pos, reduceIte, at0, at1, at2, at3, dP, mCallX, mCallB, peekA, evA, evAs, eq_self, sRaise0, sRaise1, sTry, caught, unslot, unheld, mXArg, mXIs, runX, List.contains_cons, List.contains_nil, Slot.isExn, String.reduceBEq, ex_arg, ex_valB, Bool.or_false, Bool.false_or, Bool.or_true, Bool.true_or, Bool.not_false, Bool.not_true, ar__law_drawn, ar__law_signed, ar__law_told, ar__law_any_right, ar__law_refused, ar__law_fits, ar__law_draw, ar__law_table, ar__law_long_right, ar_turns_of]
              exact ⟨okl, hz1, hK _ rfl⟩
          rintro _ rfl
          generalize (tb l).sg z = M at *
          obtain ⟨P, Q', R', S'⟩ := M
          refine seq_cut (fun s' => s' = lst (.val (.int i)) (.val (.list (l.map D.int))) (.val (.int z)) (.val (tM ⟨P, Q', R', S'⟩)) p q r s x m k w1) ?_ ?_
          · intro K hK
            simp only [run, runF, DL.get, DL.put, puts, back, mC, mVar, mFzV, mFeed, frz, msN, msC, mBin, mUn, dAdd, dSub, dMul, dDiv, dMod, dPow, dNeg, dCmp, dLt, dLe, dGt, dGe, dEq, dNe, dIn, dIsN, dIsNotN, isN, flatD, okT, truth, tV, tB, tAnd, tOr, tNot, mAnd, mOr, mNot, mIf, mChain, mList, mTup, dIx, mSl, oN, oS, mRev, mRevTo, mCall, mCallF, dLen, dAbs, dInt, dMin2, dMax2, dList, dTup, dSum, dMin, dMax, dMinG, dMaxG, dAll, isTy, mIsI, gV, gSkip, gsN, gsC, gT, srcV, srcR1, srcR2, srcEnum, srcRev, mComp, tYes, isS, isL, mMS, mML, dIndexS, dIndexL, dIndexFrom, mMS2, dCount, dSplit, dJoin, sNil, sSeq, sSet, sAsg, sPar, sRet, retK, sRetN, sIf, sPass, sBrk, sCont, sNever, sExpr, sAug, ownAt, feedAt, intD, sApp, sExt, sSetI, sAugI, sFeed, sFeedA, popD, sPop, sAddPop, sFor, DL.W.set, DL.W.at, DL.R.d, okD, eqD_none_none, eqD_none_bool, eqD_none_int, eqD_none_str, eqD_none_list, eqD_none_tup, eqD_bool_none, eqD_bool_bool, eqD_bool_int, eqD_bool_str, eqD_bool_list, eqD_bool_tup, eqD_int_none, eqD_int_bool, eqD_int_int, eqD_int_str, eqD_int_list, eqD_int_tup, eqD_str_none, eqD_str_bool, eqD_str_int, eqD_str_str, eqD_str_list, eqD_str_tup, eqD_list_none, eqD_list_bool, eqD_list_int, eqD_list_str, eqD_list_list, eqD_list_tup, eqD_tup_none, eqD_tup_bool, eqD_tup_int, eqD_tup_str, eqD_tup_list, eqD_tup_tup, eqDs_nn, eqDs_cc, eqDs_nc, eqDs_cn, List.map_cons, List.map_nil, List.map, List.cons_append, List.nil_append, List.replicate, List.length_cons, List.length_nil, Nat.reduceAdd, Nat.reduceSub, List.all_cons, List.all_nil, Bool.and_true, Bool.true_and, true_and, and_true, atI_map, ex_map, ex_some, List.length_map, beq_int, decide_eq_true_eq, if_true, if_false, Bool.false_eq_true, if_pos, reduceIte, at0, at1, at2, at3, dP, mCallX, mCallB, peekA, evA, evAs, eq_self, sRaise0, sRaise1, sTry, caught, unslot, unheld, mXArg, mXIs, runX, List.contains_cons, List.contains_nil, Slot.isExn, String.reduceBEq, ex_arg, ex_valB, Bool.or_false, Bool.false_or, Bool.or_true, Bool.true_or, Bool.not_false, Bool.not_true, ar__law_drawn, ar__law_signed, ar__law_told, ar__law_any_right, ar__law_refused, ar__law_fits, ar__law_draw, ar__law_table, ar__law_long_right, ar_turns_of]
            exact ⟨htold, hfit, sh.len, sh.low, hdet, hfit, hK _ rfl⟩
          rintro _ rfl
          refine seq_cut (fun s' => s' = lst (.val (.int i)) (.val (.list (l.map D.int))) (.val (.int z)) (.val (tM ⟨P, Q', R', S'⟩)) (.val (.int P)) (.val (.int Q')) (.val (.int R')) (.val (.int S')) x m k w1) ?_ ?_
          · intro K hK
            simp only [run, runF, DL.get, DL.put, puts, back, mC, mVar, mFzV, mFeed, frz, msN, msC, mBin, mUn, dAdd, dSub, dMul, dDiv, dMod, dPow, dNeg, dCmp, dLt, dLe, dGt, dGe, dEq, dNe, dIn, dIsN, dIsNotN, isN, flatD, okT, truth, tV, tB, tAnd, tOr, tNot, mAnd, mOr, mNot, mIf, mChain, mList, mTup, dIx, mSl, oN, oS, mRev, mRevTo, mCall, mCallF, dLen, dAbs, dInt, dMin2, dMax2, dList, dTup, dSum, dMin, dMax, dMinG, dMaxG, dAll, isTy, mIsI, gV, gSkip, gsN, gsC, gT, srcV, srcR1, srcR2, srcEnum, srcRev, mComp, tYes, isS, isL, mMS, mML, dIndexS, dIndexL, dIndexFrom, mMS2, dCount, dSplit, dJoin, sNil, sSeq, sSet, sAsg, sPar, sRet, retK, sRetN, sIf, sPass, sBrk, sCont, sNever, sExpr, sAug, ownAt, feedAt, intD, sApp, sExt, sSetI, sAugI, sFeed, sFeedA, popD, sPop, sAddPop, sFor, DL.W.set, DL.W.at, DL.R.d, okD, eqD_none_none, eqD_none_bool, eqD_none_int, eqD_none_str, eqD_none_list, eqD_none_tup, eqD_bool_none, eqD_bool_bool, eqD_bool_int, eqD_bool_str, eqD_bool_list, eqD_bool_tup, eqD_int_none, eqD_int_bool, eqD_int_int, eqD_int_str, eqD_int_list, eqD_int_tup, eqD_str_none, eqD_str_bool, eqD_str_int, eqD_str_str, eqD_str_list, eqD_str_tup, eqD_list_none, eqD_list_bool, eqD_list_int, eqD_list_str, eqD_list_list, eqD_list_tup, eqD_tup_none, eqD_tup_bool, eqD_tup_int, eqD_tup_str, eqD_tup_list, eqD_tup_tup, eqDs_nn, eqDs_cc, eqDs_nc, eqDs_cn, List.map_cons, List.map_nil, List.map, List.cons_append, List.nil_append, List.replicate, List.length_cons, List.length_nil, Nat.reduceAdd, Nat.reduceSub, List.all_cons, List.all_nil, Bool.and_true, Bool.true_and, true_and, and_true, atI_map, ex_map, ex_some, List.length_map, beq_int, decide_eq_true_eq, if_true, if_false, Bool.false_eq_true, if_pos, reduceIte, at0, at1, at2, at3, dP, mCallX, mCallB, peekA, evA, evAs, eq_self, sRaise0, sRaise1, sTry, caught, unslot, unheld, mXArg, mXIs, runX, List.contains_cons, List.contains_nil, Slot.isExn, String.reduceBEq, ex_arg, ex_valB, Bool.or_false, Bool.false_or, Bool.or_true, Bool.true_or, Bool.not_false, Bool.not_true, ar__law_drawn, ar__law_signed, ar__law_told, ar__law_any_right, ar__law_refused, ar__law_fits, ar__law_draw, ar__law_table, ar__law_long_right, ar_turns_of]
            exact hK _ rfl
          rintro _ rfl
          have hf' := hfit
          unfold fits at hf'
          dsimp only at hf'
          refine for_list (n := 5) (P := TabD) (J := fun s' => s' = lst (.val (.int i)) (.val (.list (l.map D.int))) (.val (.int z)) (.val (tM ⟨P, Q', R', S'⟩)) (.val (.int P)) (.val (.int Q')) (.val (.int R')) (.val (.int S')) x m k w1) (allC ?_ (allC ?_ (allC ?_ (allC ?_ (allC ?_ allN))))) (by decide) rfl ?_
          iterate 5
            rintro _ rfl K hK
            simp only [run, runF, DL.get, DL.put, puts, back, mC, mVar, mFzV, mFeed, frz, msN, msC, mBin, mUn, dAdd, dSub, dMul, dDiv, dMod, dPow, dNeg, dCmp, dLt, dLe, dGt, dGe, dEq, dNe, dIn, dIsN, dIsNotN, isN, flatD, okT, truth, tV, tB, tAnd, tOr, tNot, mAnd, mOr, mNot, mIf, mChain, mList, mTup, dIx, mSl, oN, oS, mRev, mRevTo, mCall, mCallF, dLen, dAbs, dInt, dMin2, dMax2, dList, dTup, dSum, dMin, dMax, dMinG, dMaxG, dAll, isTy, mIsI, gV, gSkip, gsN, gsC, gT, srcV, srcR1, srcR2, srcEnum, srcRev, mComp, tYes, isS, isL, mMS, mML, dIndexS, dIndexL, dIndexFrom, mMS2, dCount, dSplit, dJoin, sNil, sSeq, sSet, sAsg, sPar, sRet, retK, sRetN, sIf, sPass, sBrk, sCont, sNever, sExpr, sAug, ownAt, feedAt, intD, sApp, sExt, sSetI, sAugI, sFeed, sFeedA, popD, sPop, sAddPop, sFor, DL.W.set, DL.W.at, DL.R.d, okD, eqD_none_none, eqD_none_bool, eqD_none_int, eqD_none_str, eqD_none_list, eqD_none_tup, eqD_bool_none, eqD_bool_bool, eqD_bool_int, eqD_bool_str, eqD_bool_list, eqD_bool_tup, eqD_int_none, eqD_int_bool, eqD_int_int, eqD_int_str, eqD_int_list, eqD_int_tup, eqD_str_none, eqD_str_bool, eqD_str_int, eqD_str_str, eqD_str_list, eqD_str_tup, eqD_list_none, eqD_list_bool, eqD_list_int, eqD_list_str, eqD_list_list, eqD_list_tup, eqD_tup_none, eqD_tup_bool, eqD_tup_int, eqD_tup_str, eqD_tup_list, eqD_tup_tup, eqDs_nn, eqDs_cc, eqDs_nc, eqDs_cn, List.map_cons, List.map_nil, List.map, List.cons_append, List.nil_append, List.replicate, List.length_cons, List.length_nil, Nat.reduceAdd, Nat.reduceSub, List.all_cons, List.all_nil, Bool.and_true, Bool.true_and, true_and, and_true, atI_map, ex_map, ex_some, List.length_map, beq_int, decide_eq_true_eq, if_true, if_false, Bool.false_eq_true, if_pos, reduceIte, at0, at1, at2, at3, dP, mCallX, mCallB, peekA, evA, evAs, eq_self, sRaise0, sRaise1, sTry, caught, unslot, unheld, mXArg, mXIs, runX, List.contains_cons, List.contains_nil, Slot.isExn, String.reduceBEq, ex_arg, ex_valB, Bool.or_false, Bool.false_or, Bool.or_true, Bool.true_or, Bool.not_false, Bool.not_true, ar__law_drawn, ar__law_signed, ar__law_told, ar__law_any_right, ar__law_refused, ar__law_fits, ar__law_draw, ar__law_table, ar__law_long_right, ar_turns_of]
            exact ⟨by decide, hK _ _ ⟨_, _, _, _, rfl, by omega, by omega, by omega, by omega⟩ rfl⟩
          rintro ds _ hdl hds rfl
          refine forL_ix _ (fun _ s' => ∃ x, s' = lst (.val (.int i)) (.val (.list (l.map D.int))) (.val (.int z)) (.val (tM ⟨P, Q', R', S'⟩)) (.val (.int P)) (.val (.int Q')) (.val (.int R')) (.val (.int S')) x m k w1) ?_ ?_ _ ⟨_, rfl⟩
          · rintro j dd _ hdd ⟨x, rfl⟩ K hK
            obtain ⟨A, B, C, E, rfl, b1, b2, b3, b4⟩ := hds dd (List.mem_of_getElem? hdd)
            simp only [run, runF, DL.get, DL.put, puts, back, mC, mVar, mFzV, mFeed, frz, msN, msC, mBin, mUn, dAdd, dSub, dMul, dDiv, dMod, dPow, dNeg, dCmp, dLt, dLe, dGt, dGe, dEq, dNe, dIn, dIsN, dIsNotN, isN, flatD, okT, truth, tV, tB, tAnd, tOr, tNot, mAnd, mOr, mNot, mIf, mChain, mList, mTup, dIx, mSl, oN, oS, mRev, mRevTo, mCall, mCallF, dLen, dAbs, dInt, dMin2, dMax2, dList, dTup, dSum, dMin, dMax, dMinG, dMaxG, dAll, isTy, mIsI, gV, gSkip, gsN, gsC, gT, srcV, srcR1, srcR2, srcEnum, srcRev, mComp, tYes, isS, isL, mMS, mML, dIndexS, dIndexL, dIndexFrom, mMS2, dCount, dSplit, dJoin, sNil, sSeq, sSet, sAsg, sPar, sRet, retK, sRetN, sIf, sPass, sBrk, sCont, sNever, sExpr, sAug, ownAt, feedAt, intD, sApp, sExt, sSetI, sAugI, sFeed, sFeedA, popD, sPop, sAddPop, sFor, DL.W.set, DL.W.at, DL.R.d, okD, eqD_none_none, eqD_none_bool, eqD_none_int, eqD_none_str, eqD_none_list, eqD_none_tup, eqD_bool_none, eqD_bool_bool, eqD_bool_int, eqD_bool_str, eqD_bool_list, eqD_bool_tup, eqD_int_none, eqD_int_bool, eqD_int_int, eqD_int_str, eqD_int_list, eqD_int_tup, eqD_str_none, eqD_str_bool, eqD_str_int, eqD_str_str, eqD_str_list, eqD_str_tup, eqD_list_none, eqD_list_bool, eqD_list_int, eqD_list_str, eqD_list_list, eqD_list_tup, eqD_tup_none, eqD_tup_bool, eqD_tup_int, eqD_tup_str, eqD_tup_list, eqD_tup_tup, eqDs_nn, eqDs_cc, eqDs_nc, eqDs_cn, List.map_cons, List.map_nil, List.map, List.cons_append, List.nil_append, List.replicate, List.length_cons, List.length_nil, Nat.reduceAdd, Nat.reduceSub, List.all_cons, List.all_nil, Bool.and_true, Bool.true_and, true_and, and_true, atI_map, ex_map, ex_some, List.length_map, beq_int, decide_eq_true_eq, if_true, if_false, Bool.false_eq_true, if_pos, reduceIte, at0, at1, at2, at3, dP, mCallX, mCallB, peekA, evA, evAs, eq_self, sRaise0, sRaise1, sTry, caught, unslot, unheld, mXArg, mXIs, runX, List.contains_cons, List.contains_nil, Slot.isExn, String.reduceBEq, ex_arg, ex_valB, Bool.or_false, Bool.false_or, Bool.or_true, Bool.true_or, Bool.not_false, Bool.not_true, ar__law_drawn, ar__law_signed, ar__law_told, ar__law_any_right, ar__law_refused, ar__law_fits, ar__law_draw, ar__law_table, ar__law_long_right, ar_turns_of]
            have la : ∀ y : Int, y.natAbs ≤ 1000 → y.natAbs.log2 < 20 := fun y hy => lg_lt (by omega) (by decide)
            have la1 := la A b1
            have la2 := la B b2
            have la3 := la C b3
            have la4 := la E b4
            refine ⟨by omega, by omega, ?_⟩
            by_cases hd1 : A * E - B * C = 1
            · rw [hd1, if_neg (by decide)]
              split
              · rename_i hf1
                exact ⟨hd1, hf1, hK _ ⟨_, rfl⟩⟩
              · exact hK _ ⟨_, rfl⟩
            · rw [decide_eq_false hd1, if_pos (by decide)]
              exact ⟨low_fits b1 b2, low_fits b3 b4, fun z => hd1 z.1, hK _ ⟨_, rfl⟩⟩
          · rintro _ ⟨x, rfl⟩
            exact hK _ ⟨_, _, _, _, _, _, _, _, _, _, .inr rfl, rfl⟩
        · rintro _ ⟨a, g, t, p, q, r, s, x, m, k, ha, rfl⟩
          exact hK _ ⟨_, _, _, _, _, _, _, _, _, _, rfl⟩
      rintro _ ⟨n, g, t, p, q, r, s, x, m, k, rfl⟩
      refine seq_cut (fun s' => ∃ (e : List Int) (k : Slot) (w' : W), (∀ y ∈ e, y.natAbs < 1024) ∧ e.length ≤ 7 ∧ Wok w' ∧ s' = lst (.val (.int i)) n g t p q r s x (.own (e.map D.int)) k w') ?_ ?_
      · intro K hK
        simp only [run, runF, DL.get, DL.put, puts, back, mC, mVar, mFzV, mFeed, frz, msN, msC, mBin, mUn, dAdd, dSub, dMul, dDiv, dMod, dPow, dNeg, dCmp, dLt, dLe, dGt, dGe, dEq, dNe, dIn, dIsN, dIsNotN, isN, flatD, okT, truth, tV, tB, tAnd, tOr, tNot, mAnd, mOr, mNot, mIf, mChain, mList, mTup, dIx, mSl, oN, oS, mRev, mRevTo, mCall, mCallF, dLen, dAbs, dInt, dMin2, dMax2, dList, dTup, dSum, dMin, dMax, dMinG, dMaxG, dAll, isTy, mIsI, gV, gSkip, gsN, gsC, gT, srcV, srcR1, srcR2, srcEnum, srcRev, mComp, tYes, isS, isL, mMS, mML, dIndexS, dIndexL, dIndexFrom, mMS2, dCount, dSplit, dJoin, sNil, sSeq, sSet, sAsg, sPar, sRet, retK, sRetN, sIf, sPass, sBrk, sCont, sNever, sExpr, sAug, ownAt, feedAt, intD, sApp, sExt, sSetI, sAugI, sFeed, sFeedA, popD, sPop, sAddPop, sFor, DL.W.set, DL.W.at, DL.R.d, okD, eqD_none_none, eqD_none_bool, eqD_none_int, eqD_none_str, eqD_none_list, eqD_none_tup, eqD_bool_none, eqD_bool_bool, eqD_bool_int, eqD_bool_str, eqD_bool_list, eqD_bool_tup, eqD_int_none, eqD_int_bool, eqD_int_int, eqD_int_str, eqD_int_list, eqD_int_tup, eqD_str_none, eqD_str_bool, eqD_str_int, eqD_str_str, eqD_str_list, eqD_str_tup, eqD_list_none, eqD_list_bool, eqD_list_int, eqD_list_str, eqD_list_list, eqD_list_tup, eqD_tup_none, eqD_tup_bool, eqD_tup_int, eqD_tup_str, eqD_tup_list, eqD_tup_tup, eqDs_nn, eqDs_cc, eqDs_nc, eqDs_cn, List.map_cons, List.map_nil, List.map, List.cons_append, List.nil_append, List.replicate, List.length_cons, List.length_nil, Nat.reduceAdd, Nat.reduceSub, List.all_cons, List.all_nil, Bool.and_true, Bool.true_and, true_and, and_true, atI_map, ex_map, ex_some, List.length_map, beq_int, decide_eq_true_eq, if_true, if_false, Bool.false_eq_true, if_pos, reduceIte, at0, at1, at2, at3, dP, mCallX, mCallB, peekA, evA, evAs, eq_self, sRaise0, sRaise1, sTry, caught, unslot, unheld, mXArg, mXIs, runX, List.contains_cons, List.contains_nil, Slot.isExn, String.reduceBEq, ex_arg, ex_valB, Bool.or_false, Bool.false_or, Bool.or_true, Bool.true_or, Bool.not_false, Bool.not_true, ar__law_drawn, ar__law_signed, ar__law_told, ar__law_any_right, ar__law_refused, ar__law_fits, ar__law_draw, ar__law_table, ar__law_long_right, ar_turns_of]
        refine ⟨by decide, by decide, hw1, fun v w2 v0 v1 hw2 => ⟨⟨by omega, by omega⟩, ?_⟩⟩
        refine compL_ix _ _ _ (fun c acc st => ∃ (e : List Int) (k : Slot) (w' : W), acc = e.map D.int ∧ e.length = c ∧ (∀ y ∈ e, y.natAbs < 1024) ∧ Wok w' ∧ st = lst (.val (.int i)) n g t p q r s x m k w') ⟨[], _, w2, rfl, rfl, fun y hy => (by cases hy), hw2, rfl⟩ ?_ ?_
        · rintro c dd acc _ hd ⟨e, k, w', rfl, hel, he, hw', rfl⟩ K hK
          obtain ⟨hc, rfl⟩ := ran_get hd
          simp only [run, runF, DL.get, DL.put, puts, back, mC, mVar, mFzV, mFeed, frz, msN, msC, mBin, mUn, dAdd, dSub, dMul, dDiv, dMod, dPow, dNeg, dCmp, dLt, dLe, dGt, dGe, dEq, dNe, dIn, dIsN, dIsNotN, isN, flatD, okT, truth, tV, tB, tAnd, tOr, tNot, mAnd, mOr, mNot, mIf, mChain, mList, mTup, dIx, mSl, oN, oS, mRev, mRevTo, mCall, mCallF, dLen, dAbs, dInt, dMin2, dMax2, dList, dTup, dSum, dMin, dMax, dMinG, dMaxG, dAll, isTy, mIsI, gV, gSkip, gsN, gsC, gT, srcV, srcR1, srcR2, srcEnum, srcRev, mComp, tYes, isS, isL, mMS, mML, dIndexS, dIndexL, dIndexFrom, mMS2, dCount, dSplit, dJoin, sNil, sSeq, sSet, sAsg, sPar, sRet, retK, sRetN, sIf, sPass, sBrk, sCont, sNever, sExpr, sAug, ownAt, feedAt, intD, sApp, sExt, sSetI, sAugI, sFeed, sFeedA, popD, sPop, sAddPop, sFor, DL.W.set, DL.W.at, DL.R.d, okD, eqD_none_none, eqD_none_bool, eqD_none_int, eqD_none_str, eqD_none_list, eqD_none_tup, eqD_bool_none, eqD_bool_bool, eqD_bool_int, eqD_bool_str, eqD_bool_list, eqD_bool_tup, eqD_int_none, eqD_int_bool, eqD_int_int, eqD_int_str, eqD_int_list, eqD_int_tup, eqD_str_none, eqD_str_bool, eqD_str_int, eqD_str_str, eqD_str_list, eqD_str_tup, eqD_list_none, eqD_list_bool, eqD_list_int, eqD_list_str, eqD_list_list, eqD_list_tup, eqD_tup_none, eqD_tup_bool, eqD_tup_int, eqD_tup_str, eqD_tup_list, eqD_tup_tup, eqDs_nn, eqDs_cc, eqDs_nc, eqDs_cn, List.map_cons, List.map_nil, List.map, List.cons_append, List.nil_append, List.replicate, List.length_cons, List.length_nil, Nat.reduceAdd, Nat.reduceSub, List.all_cons, List.all_nil, Bool.and_true, Bool.true_and, true_and, and_true, atI_map, ex_map, ex_some, List.length_map, beq_int, decide_eq_true_eq, if_true, if_false, Bool.false_eq_true, if_pos, reduceIte, at0, at1, at2, at3, dP, mCallX, mCallB, peekA, evA, evAs, eq_self, sRaise0, sRaise1, sTry, caught, unslot, unheld, mXArg, mXIs, runX, List.contains_cons, List.contains_nil, Slot.isExn, String.reduceBEq, ex_arg, ex_valB, Bool.or_false, Bool.false_or, Bool.or_true, Bool.true_or, Bool.not_false, Bool.not_true, ar__law_drawn, ar__law_signed, ar__law_told, ar__law_any_right, ar__law_refused, ar__law_fits, ar__law_draw, ar__law_table, ar__law_long_right, ar_turns_of]
          refine ⟨by decide, by decide, hw', fun y w3 y0 y1 hw3 => ⟨by omega, ?_⟩⟩
          rw [show [D.int (y - 4)] = [y - 4].map D.int from rfl, ← List.map_append]
          refine hK _ _ ⟨e ++ [y - 4], _, w3, rfl, by rw [List.length_append, hel]; rfl, fun b hb => ?_, hw3, rfl⟩
          rcases List.mem_append.mp hb with z | z
          · exact he b z
          · rw [List.mem_singleton.mp z]; omega
        · rintro acc _ ⟨e, k, w', rfl, hel, he, hw', rfl⟩
          rw [ran_len] at hel
          exact hK _ ⟨e, _, w', he, by omega, hw', rfl⟩
      rintro _ ⟨e, k, w2, he, hel, hw2, rfl⟩
      have oke := Okl.of (by omega : e.length ≤ 1001) he
      have tabe := okl_tab oke
      have dete := tb_det e
      refine seq_cut (fun s' => s' = lst (.val (.int i)) n g (.val (tM (tb e))) p q r s x (.val (.list (e.map D.int))) k w2) ?_ ?_
      · intro K hK
        simp only [run, runF, DL.get, DL.put, puts, back, mC, mVar, mFzV, mFeed, frz, msN, msC, mBin, mUn, dAdd, dSub, dMul, dDiv, dMod, dPow, dNeg, dCmp, dLt, dLe, dGt, dGe, dEq, dNe, dIn, dIsN, dIsNotN, isN, flatD, okT, truth, tV, tB, tAnd, tOr, tNot, mAnd, mOr, mNot, mIf, mChain, mList, mTup, dIx, mSl, oN, oS, mRev, mRevTo, mCall, mCallF, dLen, dAbs, dInt, dMin2, dMax2, dList, dTup, dSum, dMin, dMax, dMinG, dMaxG, dAll, isTy, mIsI, gV, gSkip, gsN, gsC, gT, srcV, srcR1, srcR2, srcEnum, srcRev, mComp, tYes, isS, isL, mMS, mML, dIndexS, dIndexL, dIndexFrom, mMS2, dCount, dSplit, dJoin, sNil, sSeq, sSet, sAsg, sPar, sRet, retK, sRetN, sIf, sPass, sBrk, sCont, sNever, sExpr, sAug, ownAt, feedAt, intD, sApp, sExt, sSetI, sAugI, sFeed, sFeedA, popD, sPop, sAddPop, sFor, DL.W.set, DL.W.at, DL.R.d, okD, eqD_none_none, eqD_none_bool, eqD_none_int, eqD_none_str, eqD_none_list, eqD_none_tup, eqD_bool_none, eqD_bool_bool, eqD_bool_int, eqD_bool_str, eqD_bool_list, eqD_bool_tup, eqD_int_none, eqD_int_bool, eqD_int_int, eqD_int_str, eqD_int_list, eqD_int_tup, eqD_str_none, eqD_str_bool, eqD_str_int, eqD_str_str, eqD_str_list, eqD_str_tup, eqD_list_none, eqD_list_bool, eqD_list_int, eqD_list_str, eqD_list_list, eqD_list_tup, eqD_tup_none, eqD_tup_bool, eqD_tup_int, eqD_tup_str, eqD_tup_list, eqD_tup_tup, eqDs_nn, eqDs_cc, eqDs_nc, eqDs_cn, List.map_cons, List.map_nil, List.map, List.cons_append, List.nil_append, List.replicate, List.length_cons, List.length_nil, Nat.reduceAdd, Nat.reduceSub, List.all_cons, List.all_nil, Bool.and_true, Bool.true_and, true_and, and_true, atI_map, ex_map, ex_some, List.length_map, beq_int, decide_eq_true_eq, if_true, if_false, Bool.false_eq_true, if_pos, reduceIte, at0, at1, at2, at3, dP, mCallX, mCallB, peekA, evA, evAs, eq_self, sRaise0, sRaise1, sTry, caught, unslot, unheld, mXArg, mXIs, runX, List.contains_cons, List.contains_nil, Slot.isExn, String.reduceBEq, ex_arg, ex_valB, Bool.or_false, Bool.false_or, Bool.or_true, Bool.true_or, Bool.not_false, Bool.not_true, ar__law_drawn, ar__law_signed, ar__law_told, ar__law_any_right, ar__law_refused, ar__law_fits, ar__law_draw, ar__law_table, ar__law_long_right, ar_turns_of]
        exact ⟨oke, hK _ rfl⟩
      rintro _ rfl
      generalize tb e = M at *
      obtain ⟨P, Q', R', S'⟩ := M
      refine seq_cut (fun s' => s' = lst (.val (.int i)) n g (.val (tM ⟨P, Q', R', S'⟩)) p q r s x (.val (.list (e.map D.int))) k w2) ?_ ?_
      · intro K hK
        simp only [run, runF, DL.get, DL.put, puts, back, mC, mVar, mFzV, mFeed, frz, msN, msC, mBin, mUn, dAdd, dSub, dMul, dDiv, dMod, dPow, dNeg, dCmp, dLt, dLe, dGt, dGe, dEq, dNe, dIn, dIsN, dIsNotN, isN, flatD, okT, truth, tV, tB, tAnd, tOr, tNot, mAnd, mOr, mNot, mIf, mChain, mList, mTup, dIx, mSl, oN, oS, mRev, mRevTo, mCall, mCallF, dLen, dAbs, dInt, dMin2, dMax2, dList, dTup, dSum, dMin, dMax, dMinG, dMaxG, dAll, isTy, mIsI, gV, gSkip, gsN, gsC, gT, srcV, srcR1, srcR2, srcEnum, srcRev, mComp, tYes, isS, isL, mMS, mML, dIndexS, dIndexL, dIndexFrom, mMS2, dCount, dSplit, dJoin, sNil, sSeq, sSet, sAsg, sPar, sRet, retK, sRetN, sIf, sPass, sBrk, sCont, sNever, sExpr, sAug, ownAt, feedAt, intD, sApp, sExt, sSetI, sAugI, sFeed, sFeedA, popD, sPop, sAddPop, sFor, DL.W.set, DL.W.at, DL.R.d, okD, eqD_none_none, eqD_none_bool, eqD_none_int, eqD_none_str, eqD_none_list, eqD_none_tup, eqD_bool_none, eqD_bool_bool, eqD_bool_int, eqD_bool_str, eqD_bool_list, eqD_bool_tup, eqD_int_none, eqD_int_bool, eqD_int_int, eqD_int_str, eqD_int_list, eqD_int_tup, eqD_str_none, eqD_str_bool, eqD_str_int, eqD_str_str, eqD_str_list, eqD_str_tup, eqD_list_none, eqD_list_bool, eqD_list_int, eqD_list_str, eqD_list_list, eqD_list_tup, eqD_tup_none, eqD_tup_bool, eqD_tup_int, eqD_tup_str, eqD_tup_list, eqD_tup_tup, eqDs_nn, eqDs_cc, eqDs_nc, eqDs_cn, List.map_cons, List.map_nil, List.map, List.cons_append, List.nil_append, List.replicate, List.length_cons, List.length_nil, Nat.reduceAdd, Nat.reduceSub, List.all_cons, List.all_nil, Bool.and_true, Bool.true_and, true_and, and_true, atI_map, ex_map, ex_some, List.length_map, beq_int, decide_eq_true_eq, if_true, if_false, Bool.false_eq_true, if_pos, reduceIte, at0, at1, at2, at3, dP, mCallX, mCallB, peekA, evA, evAs, eq_self, sRaise0, sRaise1, sTry, caught, unslot, unheld, mXArg, mXIs, runX, List.contains_cons, List.contains_nil, Slot.isExn, String.reduceBEq, ex_arg, ex_valB, Bool.or_false, Bool.false_or, Bool.or_true, Bool.true_or, Bool.not_false, Bool.not_true, ar__law_drawn, ar__law_signed, ar__law_told, ar__law_any_right, ar__law_refused, ar__law_fits, ar__law_draw, ar__law_table, ar__law_long_right, ar_turns_of]
        split
        · rename_i hf
          exact ⟨dete, hf, hK _ rfl⟩
        · exact hK _ rfl
      rintro _ rfl
      simp only [run, runF, DL.get, DL.put, puts, back, mC, mVar, mFzV, mFeed, frz, msN, msC, mBin, mUn, dAdd, dSub, dMul, dDiv, dMod, dPow, dNeg, dCmp, dLt, dLe, dGt, dGe, dEq, dNe, dIn, dIsN, dIsNotN, isN, flatD, okT, truth, tV, tB, tAnd, tOr, tNot, mAnd, mOr, mNot, mIf, mChain, mList, mTup, dIx, mSl, oN, oS, mRev, mRevTo, mCall, mCallF, dLen, dAbs, dInt, dMin2, dMax2, dList, dTup, dSum, dMin, dMax, dMinG, dMaxG, dAll, isTy, mIsI, gV, gSkip, gsN, gsC, gT, srcV, srcR1, srcR2, srcEnum, srcRev, mComp, tYes, isS, isL, mMS, mML, dIndexS, dIndexL, dIndexFrom, mMS2, dCount, dSplit, dJoin, sNil, sSeq, sSet, sAsg, sPar, sRet, retK, sRetN, sIf, sPass, sBrk, sCont, sNever, sExpr, sAug, ownAt, feedAt, intD, sApp, sExt, sSetI, sAugI, sFeed, sFeedA, popD, sPop, sAddPop, sFor, DL.W.set, DL.W.at, DL.R.d, okD, eqD_none_none, eqD_none_bool, eqD_none_int, eqD_none_str, eqD_none_list, eqD_none_tup, eqD_bool_none, eqD_bool_bool, eqD_bool_int, eqD_bool_str, eqD_bool_list, eqD_bool_tup, eqD_int_none, eqD_int_bool, eqD_int_int, eqD_int_str, eqD_int_list, eqD_int_tup, eqD_str_none, eqD_str_bool, eqD_str_int, eqD_str_str, eqD_str_list, eqD_str_tup, eqD_list_none, eqD_list_bool, eqD_list_int, eqD_list_str, eqD_list_list, eqD_list_tup, eqD_tup_none, eqD_tup_bool, eqD_tup_int, eqD_tup_str, eqD_tup_list, eqD_tup_tup, eqDs_nn, eqDs_cc, eqDs_nc, eqDs_cn, List.map_cons, List.map_nil, List.map, List.cons_append, List.nil_append, List.replicate, List.length_cons, List.length_nil, Nat.reduceAdd, Nat.reduceSub, List.all_cons, List.all_nil, Bool.and_true, Bool.true_and, true_and, and_true, atI_map, ex_map, ex_some, List.length_map, beq_int, decide_eq_true_eq, if_true, if_false, Bool.false_eq_true, if_pos, reduceIte, at0, at1, at2, at3, dP, mCallX, mCallB, peekA, evA, evAs, eq_self, sRaise0, sRaise1, sTry, caught, unslot, unheld, mXArg, mXIs, runX, List.contains_cons, List.contains_nil, Slot.isExn, String.reduceBEq, ex_arg, ex_valB, Bool.or_false, Bool.false_or, Bool.or_true, Bool.true_or, Bool.not_false, Bool.not_true, ar__law_drawn, ar__law_signed, ar__law_told, ar__law_any_right, ar__law_refused, ar__law_fits, ar__law_draw, ar__law_table, ar__law_long_right, ar_turns_of]
      by_cases hf : fits ⟨P, Q', R', S'⟩
      · rw [decide_eq_true hf, if_neg (by decide)]
        exact hK _ ⟨_, _, _, _, _, _, _, _, _, _, _, _, hw2, rfl⟩
      · rw [decide_eq_false hf, if_pos (by decide)]
        exact ⟨tabe.1, tabe.2, fun z => hf z.2, hK _ ⟨_, _, _, _, _, _, _, _, _, _, _, _, hw2, rfl⟩⟩
    · rintro _ ⟨u, n, g, t, p, q, r, s, x, m, k, w', hw', rfl⟩
      exact hK _ ⟨u, n, g, t, p, q, r, s, x, m, k, w', hw', rfl⟩
  rintro _ ⟨u, n, g, t, p, q, r, s, x, m, k, w1, hw1, rfl⟩
  refine seq_cut (fun s' => ∃ w', Wok w' ∧ s' = lst u n g t p q r s x m k w') ?_ ?_
  · intro K hK
    simp only [run, runF, DL.get, DL.put, puts, back, mC, mVar, mFzV, mFeed, frz, msN, msC, mBin, mUn, dAdd, dSub, dMul, dDiv, dMod, dPow, dNeg, dCmp, dLt, dLe, dGt, dGe, dEq, dNe, dIn, dIsN, dIsNotN, isN, flatD, okT, truth, tV, tB, tAnd, tOr, tNot, mAnd, mOr, mNot, mIf, mChain, mList, mTup, dIx, mSl, oN, oS, mRev, mRevTo, mCall, mCallF, dLen, dAbs, dInt, dMin2, dMax2, dList, dTup, dSum, dMin, dMax, dMinG, dMaxG, dAll, isTy, mIsI, gV, gSkip, gsN, gsC, gT, srcV, srcR1, srcR2, srcEnum, srcRev, mComp, tYes, isS, isL, mMS, mML, dIndexS, dIndexL, dIndexFrom, mMS2, dCount, dSplit, dJoin, sNil, sSeq, sSet, sAsg, sPar, sRet, retK, sRetN, sIf, sPass, sBrk, sCont, sNever, sExpr, sAug, ownAt, feedAt, intD, sApp, sExt, sSetI, sAugI, sFeed, sFeedA, popD, sPop, sAddPop, sFor, DL.W.set, DL.W.at, DL.R.d, okD, eqD_none_none, eqD_none_bool, eqD_none_int, eqD_none_str, eqD_none_list, eqD_none_tup, eqD_bool_none, eqD_bool_bool, eqD_bool_int, eqD_bool_str, eqD_bool_list, eqD_bool_tup, eqD_int_none, eqD_int_bool, eqD_int_int, eqD_int_str, eqD_int_list, eqD_int_tup, eqD_str_none, eqD_str_bool, eqD_str_int, eqD_str_str, eqD_str_list, eqD_str_tup, eqD_list_none, eqD_list_bool, eqD_list_int, eqD_list_str, eqD_list_list, eqD_list_tup, eqD_tup_none, eqD_tup_bool, eqD_tup_int, eqD_tup_str, eqD_tup_list, eqD_tup_tup, eqDs_nn, eqDs_cc, eqDs_nc, eqDs_cn, List.map_cons, List.map_nil, List.map, List.cons_append, List.nil_append, List.replicate, List.length_cons, List.length_nil, Nat.reduceAdd, Nat.reduceSub, List.all_cons, List.all_nil, Bool.and_true, Bool.true_and, true_and, and_true, atI_map, ex_map, ex_some, List.length_map, beq_int, decide_eq_true_eq, if_true, if_false, Bool.false_eq_true, if_pos, reduceIte, at0, at1, at2, at3, dP, mCallX, mCallB, peekA, evA, evAs, eq_self, sRaise0, sRaise1, sTry, caught, unslot, unheld, mXArg, mXIs, runX, List.contains_cons, List.contains_nil, Slot.isExn, String.reduceBEq, ex_arg, ex_valB, Bool.or_false, Bool.false_or, Bool.or_true, Bool.true_or, Bool.not_false, Bool.not_true, ar__law_drawn, ar__law_signed, ar__law_told, ar__law_any_right, ar__law_refused, ar__law_fits, ar__law_draw, ar__law_table, ar__law_long_right, ar_turns_of]
    exact ⟨hw1, fun w' hw' => hK _ ⟨w', hw', rfl⟩⟩
  rintro _ ⟨w2, hw2, rfl⟩
  refine seq_cut (fun s' => ∃ (k : Int) (w' : W), (1 ≤ k ∧ k ≤ 999) ∧ Wok w' ∧ s' = lst u n g t p q r s x m (.val (.int k)) w') ?_ ?_
  · intro K hK
    simp only [run, runF, DL.get, DL.put, puts, back, mC, mVar, mFzV, mFeed, frz, msN, msC, mBin, mUn, dAdd, dSub, dMul, dDiv, dMod, dPow, dNeg, dCmp, dLt, dLe, dGt, dGe, dEq, dNe, dIn, dIsN, dIsNotN, isN, flatD, okT, truth, tV, tB, tAnd, tOr, tNot, mAnd, mOr, mNot, mIf, mChain, mList, mTup, dIx, mSl, oN, oS, mRev, mRevTo, mCall, mCallF, dLen, dAbs, dInt, dMin2, dMax2, dList, dTup, dSum, dMin, dMax, dMinG, dMaxG, dAll, isTy, mIsI, gV, gSkip, gsN, gsC, gT, srcV, srcR1, srcR2, srcEnum, srcRev, mComp, tYes, isS, isL, mMS, mML, dIndexS, dIndexL, dIndexFrom, mMS2, dCount, dSplit, dJoin, sNil, sSeq, sSet, sAsg, sPar, sRet, retK, sRetN, sIf, sPass, sBrk, sCont, sNever, sExpr, sAug, ownAt, feedAt, intD, sApp, sExt, sSetI, sAugI, sFeed, sFeedA, popD, sPop, sAddPop, sFor, DL.W.set, DL.W.at, DL.R.d, okD, eqD_none_none, eqD_none_bool, eqD_none_int, eqD_none_str, eqD_none_list, eqD_none_tup, eqD_bool_none, eqD_bool_bool, eqD_bool_int, eqD_bool_str, eqD_bool_list, eqD_bool_tup, eqD_int_none, eqD_int_bool, eqD_int_int, eqD_int_str, eqD_int_list, eqD_int_tup, eqD_str_none, eqD_str_bool, eqD_str_int, eqD_str_str, eqD_str_list, eqD_str_tup, eqD_list_none, eqD_list_bool, eqD_list_int, eqD_list_str, eqD_list_list, eqD_list_tup, eqD_tup_none, eqD_tup_bool, eqD_tup_int, eqD_tup_str, eqD_tup_list, eqD_tup_tup, eqDs_nn, eqDs_cc, eqDs_nc, eqDs_cn, List.map_cons, List.map_nil, List.map, List.cons_append, List.nil_append, List.replicate, List.length_cons, List.length_nil, Nat.reduceAdd, Nat.reduceSub, List.all_cons, List.all_nil, Bool.and_true, Bool.true_and, true_and, and_true, atI_map, ex_map, ex_some, List.length_map, beq_int, decide_eq_true_eq, if_true, if_false, Bool.false_eq_true, if_pos, reduceIte, at0, at1, at2, at3, dP, mCallX, mCallB, peekA, evA, evAs, eq_self, sRaise0, sRaise1, sTry, caught, unslot, unheld, mXArg, mXIs, runX, List.contains_cons, List.contains_nil, Slot.isExn, String.reduceBEq, ex_arg, ex_valB, Bool.or_false, Bool.false_or, Bool.or_true, Bool.true_or, Bool.not_false, Bool.not_true, ar__law_drawn, ar__law_signed, ar__law_told, ar__law_any_right, ar__law_refused, ar__law_fits, ar__law_draw, ar__law_table, ar__law_long_right, ar_turns_of]
    exact ⟨by decide, by decide, hw2, fun v w' v0 v1 hw' => hK _ ⟨_, _, ⟨by omega, by omega⟩, hw', rfl⟩⟩
  rintro _ ⟨k, w3, hk, hw3, rfl⟩
  refine seq_cut (fun s' => ∃ t, s' = lst u n g t p q r s x m (.val (.int k)) w3) ?_ ?_
  · intro K hK
    refine for_list (n := 6) (P := GoodD) (J := fun s' => s' = lst u n g t p q r s x m (.val (.int k)) w3) (allC ?_ (allC ?_ (allC ?_ (allC ?_ (allC ?_ (allC ?_ allN)))))) (by decide) rfl ?_
    iterate 6
      rintro _ rfl K hK
      simp only [run, runF, DL.get, DL.put, puts, back, mC, mVar, mFzV, mFeed, frz, msN, msC, mBin, mUn, dAdd, dSub, dMul, dDiv, dMod, dPow, dNeg, dCmp, dLt, dLe, dGt, dGe, dEq, dNe, dIn, dIsN, dIsNotN, isN, flatD, okT, truth, tV, tB, tAnd, tOr, tNot, mAnd, mOr, mNot, mIf, mChain, mList, mTup, dIx, mSl, oN, oS, mRev, mRevTo, mCall, mCallF, dLen, dAbs, dInt, dMin2, dMax2, dList, dTup, dSum, dMin, dMax, dMinG, dMaxG, dAll, isTy, mIsI, gV, gSkip, gsN, gsC, gT, srcV, srcR1, srcR2, srcEnum, srcRev, mComp, tYes, isS, isL, mMS, mML, dIndexS, dIndexL, dIndexFrom, mMS2, dCount, dSplit, dJoin, sNil, sSeq, sSet, sAsg, sPar, sRet, retK, sRetN, sIf, sPass, sBrk, sCont, sNever, sExpr, sAug, ownAt, feedAt, intD, sApp, sExt, sSetI, sAugI, sFeed, sFeedA, popD, sPop, sAddPop, sFor, DL.W.set, DL.W.at, DL.R.d, okD, eqD_none_none, eqD_none_bool, eqD_none_int, eqD_none_str, eqD_none_list, eqD_none_tup, eqD_bool_none, eqD_bool_bool, eqD_bool_int, eqD_bool_str, eqD_bool_list, eqD_bool_tup, eqD_int_none, eqD_int_bool, eqD_int_int, eqD_int_str, eqD_int_list, eqD_int_tup, eqD_str_none, eqD_str_bool, eqD_str_int, eqD_str_str, eqD_str_list, eqD_str_tup, eqD_list_none, eqD_list_bool, eqD_list_int, eqD_list_str, eqD_list_list, eqD_list_tup, eqD_tup_none, eqD_tup_bool, eqD_tup_int, eqD_tup_str, eqD_tup_list, eqD_tup_tup, eqDs_nn, eqDs_cc, eqDs_nc, eqDs_cn, List.map_cons, List.map_nil, List.map, List.cons_append, List.nil_append, List.replicate, List.length_cons, List.length_nil, Nat.reduceAdd, Nat.reduceSub, List.all_cons, List.all_nil, Bool.and_true, Bool.true_and, true_and, and_true, atI_map, ex_map, ex_some, List.length_map, beq_int, decide_eq_true_eq, if_true, if_false, Bool.false_eq_true, if_pos, reduceIte, at0, at1, at2, at3, dP, mCallX, mCallB, peekA, evA, evAs, eq_self, sRaise0, sRaise1, sTry, caught, unslot, unheld, mXArg, mXIs, runX, List.contains_cons, List.contains_nil, Slot.isExn, String.reduceBEq, ex_arg, ex_valB, Bool.or_false, Bool.false_or, Bool.or_true, Bool.true_or, Bool.not_false, Bool.not_true, ar__law_drawn, ar__law_signed, ar__law_told, ar__law_any_right, ar__law_refused, ar__law_fits, ar__law_draw, ar__law_table, ar__law_long_right, ar_turns_of]
      refine ⟨by decide, hK _ _ ⟨_, _, _, _, rfl, ?_, ?_⟩ rfl⟩
      · unfold M4.det
        dsimp only
        omega
      · unfold fits
        dsimp only
        omega
    rintro ds _ hdl hds rfl
    refine forL_ix _ (fun _ s' => ∃ t, s' = lst u n g t p q r s x m (.val (.int k)) w3) ?_ (fun s h => hK s h) _ ⟨_, rfl⟩
    rintro j dd _ hdd ⟨t, rfl⟩ K hK
    obtain ⟨A, B, C, E, rfl, b1, b2⟩ := hds dd (List.mem_of_getElem? hdd)
    simp only [run, runF, DL.get, DL.put, puts, back, mC, mVar, mFzV, mFeed, frz, msN, msC, mBin, mUn, dAdd, dSub, dMul, dDiv, dMod, dPow, dNeg, dCmp, dLt, dLe, dGt, dGe, dEq, dNe, dIn, dIsN, dIsNotN, isN, flatD, okT, truth, tV, tB, tAnd, tOr, tNot, mAnd, mOr, mNot, mIf, mChain, mList, mTup, dIx, mSl, oN, oS, mRev, mRevTo, mCall, mCallF, dLen, dAbs, dInt, dMin2, dMax2, dList, dTup, dSum, dMin, dMax, dMinG, dMaxG, dAll, isTy, mIsI, gV, gSkip, gsN, gsC, gT, srcV, srcR1, srcR2, srcEnum, srcRev, mComp, tYes, isS, isL, mMS, mML, dIndexS, dIndexL, dIndexFrom, mMS2, dCount, dSplit, dJoin, sNil, sSeq, sSet, sAsg, sPar, sRet, retK, sRetN, sIf, sPass, sBrk, sCont, sNever, sExpr, sAug, ownAt, feedAt, intD, sApp, sExt, sSetI, sAugI, sFeed, sFeedA, popD, sPop, sAddPop, sFor, DL.W.set, DL.W.at, DL.R.d, okD, eqD_none_none, eqD_none_bool, eqD_none_int, eqD_none_str, eqD_none_list, eqD_none_tup, eqD_bool_none, eqD_bool_bool, eqD_bool_int, eqD_bool_str, eqD_bool_list, eqD_bool_tup, eqD_int_none, eqD_int_bool, eqD_int_int, eqD_int_str, eqD_int_list, eqD_int_tup, eqD_str_none, eqD_str_bool, eqD_str_int, eqD_str_str, eqD_str_list, eqD_str_tup, eqD_list_none, eqD_list_bool, eqD_list_int, eqD_list_str, eqD_list_list, eqD_list_tup, eqD_tup_none, eqD_tup_bool, eqD_tup_int, eqD_tup_str, eqD_tup_list, eqD_tup_tup, eqDs_nn, eqDs_cc, eqDs_nc, eqDs_cn, List.map_cons, List.map_nil, List.map, List.cons_append, List.nil_append, List.replicate, List.length_cons, List.length_nil, Nat.reduceAdd, Nat.reduceSub, List.all_cons, List.all_nil, Bool.and_true, Bool.true_and, true_and, and_true, atI_map, ex_map, ex_some, List.length_map, beq_int, decide_eq_true_eq, if_true, if_false, Bool.false_eq_true, if_pos, reduceIte, at0, at1, at2, at3, dP, mCallX, mCallB, peekA, evA, evAs, eq_self, sRaise0, sRaise1, sTry, caught, unslot, unheld, mXArg, mXIs, runX, List.contains_cons, List.contains_nil, Slot.isExn, String.reduceBEq, ex_arg, ex_valB, Bool.or_false, Bool.false_or, Bool.or_true, Bool.true_or, Bool.not_false, Bool.not_true, ar__law_drawn, ar__law_signed, ar__law_told, ar__law_any_right, ar__law_refused, ar__law_fits, ar__law_draw, ar__law_table, ar__law_long_right, ar_turns_of]
    exact ⟨b1, b2, hK _ ⟨_, rfl⟩⟩
  rintro _ ⟨t, rfl⟩
  refine seq_cut (fun s' => ∃ t, s' = lst u n g t p q r s x m (.val (.int k)) w3) ?_ ?_
  · intro K hK
    refine for_list (n := 6) (P := WrongD) (J := fun s' => s' = lst u n g t p q r s x m (.val (.int k)) w3) (allC ?_ (allC ?_ (allC ?_ (allC ?_ (allC ?_ (allC ?_ allN)))))) (by decide) rfl ?_
    iterate 3
      rintro _ rfl K hK
      simp only [run, runF, DL.get, DL.put, puts, back, mC, mVar, mFzV, mFeed, frz, msN, msC, mBin, mUn, dAdd, dSub, dMul, dDiv, dMod, dPow, dNeg, dCmp, dLt, dLe, dGt, dGe, dEq, dNe, dIn, dIsN, dIsNotN, isN, flatD, okT, truth, tV, tB, tAnd, tOr, tNot, mAnd, mOr, mNot, mIf, mChain, mList, mTup, dIx, mSl, oN, oS, mRev, mRevTo, mCall, mCallF, dLen, dAbs, dInt, dMin2, dMax2, dList, dTup, dSum, dMin, dMax, dMinG, dMaxG, dAll, isTy, mIsI, gV, gSkip, gsN, gsC, gT, srcV, srcR1, srcR2, srcEnum, srcRev, mComp, tYes, isS, isL, mMS, mML, dIndexS, dIndexL, dIndexFrom, mMS2, dCount, dSplit, dJoin, sNil, sSeq, sSet, sAsg, sPar, sRet, retK, sRetN, sIf, sPass, sBrk, sCont, sNever, sExpr, sAug, ownAt, feedAt, intD, sApp, sExt, sSetI, sAugI, sFeed, sFeedA, popD, sPop, sAddPop, sFor, DL.W.set, DL.W.at, DL.R.d, okD, eqD_none_none, eqD_none_bool, eqD_none_int, eqD_none_str, eqD_none_list, eqD_none_tup, eqD_bool_none, eqD_bool_bool, eqD_bool_int, eqD_bool_str, eqD_bool_list, eqD_bool_tup, eqD_int_none, eqD_int_bool, eqD_int_int, eqD_int_str, eqD_int_list, eqD_int_tup, eqD_str_none, eqD_str_bool, eqD_str_int, eqD_str_str, eqD_str_list, eqD_str_tup, eqD_list_none, eqD_list_bool, eqD_list_int, eqD_list_str, eqD_list_list, eqD_list_tup, eqD_tup_none, eqD_tup_bool, eqD_tup_int, eqD_tup_str, eqD_tup_list, eqD_tup_tup, eqDs_nn, eqDs_cc, eqDs_nc, eqDs_cn, List.map_cons, List.map_nil, List.map, List.cons_append, List.nil_append, List.replicate, List.length_cons, List.length_nil, Nat.reduceAdd, Nat.reduceSub, List.all_cons, List.all_nil, Bool.and_true, Bool.true_and, true_and, and_true, atI_map, ex_map, ex_some, List.length_map, beq_int, decide_eq_true_eq, if_true, if_false, Bool.false_eq_true, if_pos, reduceIte, at0, at1, at2, at3, dP, mCallX, mCallB, peekA, evA, evAs, eq_self, sRaise0, sRaise1, sTry, caught, unslot, unheld, mXArg, mXIs, runX, List.contains_cons, List.contains_nil, Slot.isExn, String.reduceBEq, ex_arg, ex_valB, Bool.or_false, Bool.false_or, Bool.or_true, Bool.true_or, Bool.not_false, Bool.not_true, ar__law_drawn, ar__law_signed, ar__law_told, ar__law_any_right, ar__law_refused, ar__law_fits, ar__law_draw, ar__law_table, ar__law_long_right, ar_turns_of]
      exact ⟨by decide, hK _ _ ⟨_, _, _, _, rfl, low_fits (by decide) (by decide), low_fits (by decide) (by decide), by decide⟩ rfl⟩
    · rintro _ rfl K hK
      simp only [run, runF, DL.get, DL.put, puts, back, mC, mVar, mFzV, mFeed, frz, msN, msC, mBin, mUn, dAdd, dSub, dMul, dDiv, dMod, dPow, dNeg, dCmp, dLt, dLe, dGt, dGe, dEq, dNe, dIn, dIsN, dIsNotN, isN, flatD, okT, truth, tV, tB, tAnd, tOr, tNot, mAnd, mOr, mNot, mIf, mChain, mList, mTup, dIx, mSl, oN, oS, mRev, mRevTo, mCall, mCallF, dLen, dAbs, dInt, dMin2, dMax2, dList, dTup, dSum, dMin, dMax, dMinG, dMaxG, dAll, isTy, mIsI, gV, gSkip, gsN, gsC, gT, srcV, srcR1, srcR2, srcEnum, srcRev, mComp, tYes, isS, isL, mMS, mML, dIndexS, dIndexL, dIndexFrom, mMS2, dCount, dSplit, dJoin, sNil, sSeq, sSet, sAsg, sPar, sRet, retK, sRetN, sIf, sPass, sBrk, sCont, sNever, sExpr, sAug, ownAt, feedAt, intD, sApp, sExt, sSetI, sAugI, sFeed, sFeedA, popD, sPop, sAddPop, sFor, DL.W.set, DL.W.at, DL.R.d, okD, eqD_none_none, eqD_none_bool, eqD_none_int, eqD_none_str, eqD_none_list, eqD_none_tup, eqD_bool_none, eqD_bool_bool, eqD_bool_int, eqD_bool_str, eqD_bool_list, eqD_bool_tup, eqD_int_none, eqD_int_bool, eqD_int_int, eqD_int_str, eqD_int_list, eqD_int_tup, eqD_str_none, eqD_str_bool, eqD_str_int, eqD_str_str, eqD_str_list, eqD_str_tup, eqD_list_none, eqD_list_bool, eqD_list_int, eqD_list_str, eqD_list_list, eqD_list_tup, eqD_tup_none, eqD_tup_bool, eqD_tup_int, eqD_tup_str, eqD_tup_list, eqD_tup_tup, eqDs_nn, eqDs_cc, eqDs_nc, eqDs_cn, List.map_cons, List.map_nil, List.map, List.cons_append, List.nil_append, List.replicate, List.length_cons, List.length_nil, Nat.reduceAdd, Nat.reduceSub, List.all_cons, List.all_nil, Bool.and_true, Bool.true_and, true_and, and_true, atI_map, ex_map, ex_some, List.length_map, beq_int, decide_eq_true_eq, if_true, if_false, Bool.false_eq_true, if_pos, reduceIte, at0, at1, at2, at3, dP, mCallX, mCallB, peekA, evA, evAs, eq_self, sRaise0, sRaise1, sTry, caught, unslot, unheld, mXArg, mXIs, runX, List.contains_cons, List.contains_nil, Slot.isExn, String.reduceBEq, ex_arg, ex_valB, Bool.or_false, Bool.false_or, Bool.or_true, Bool.true_or, Bool.not_false, Bool.not_true, ar__law_drawn, ar__law_signed, ar__law_told, ar__law_any_right, ar__law_refused, ar__law_fits, ar__law_draw, ar__law_table, ar__law_long_right, ar_turns_of]
      have hb : lowV 24000 (10 ^ Int.toNat 30, 1) := by
        have : (10 : Nat) ^ 30 ≤ 2 ^ 24000 := Nat.le_trans (show (10 : Nat) ^ 30 ≤ 2 ^ 100 by decide) (Nat.pow_le_pow_right (by decide) (by decide))
        exact ⟨this, Nat.one_le_two_pow⟩
      exact ⟨by decide, by decide, hK _ _ ⟨_, _, _, _, rfl, hb, low_fits (by decide) (by decide), by decide⟩ rfl⟩
    iterate 2
      rintro _ rfl K hK
      simp only [run, runF, DL.get, DL.put, puts, back, mC, mVar, mFzV, mFeed, frz, msN, msC, mBin, mUn, dAdd, dSub, dMul, dDiv, dMod, dPow, dNeg, dCmp, dLt, dLe, dGt, dGe, dEq, dNe, dIn, dIsN, dIsNotN, isN, flatD, okT, truth, tV, tB, tAnd, tOr, tNot, mAnd, mOr, mNot, mIf, mChain, mList, mTup, dIx, mSl, oN, oS, mRev, mRevTo, mCall, mCallF, dLen, dAbs, dInt, dMin2, dMax2, dList, dTup, dSum, dMin, dMax, dMinG, dMaxG, dAll, isTy, mIsI, gV, gSkip, gsN, gsC, gT, srcV, srcR1, srcR2, srcEnum, srcRev, mComp, tYes, isS, isL, mMS, mML, dIndexS, dIndexL, dIndexFrom, mMS2, dCount, dSplit, dJoin, sNil, sSeq, sSet, sAsg, sPar, sRet, retK, sRetN, sIf, sPass, sBrk, sCont, sNever, sExpr, sAug, ownAt, feedAt, intD, sApp, sExt, sSetI, sAugI, sFeed, sFeedA, popD, sPop, sAddPop, sFor, DL.W.set, DL.W.at, DL.R.d, okD, eqD_none_none, eqD_none_bool, eqD_none_int, eqD_none_str, eqD_none_list, eqD_none_tup, eqD_bool_none, eqD_bool_bool, eqD_bool_int, eqD_bool_str, eqD_bool_list, eqD_bool_tup, eqD_int_none, eqD_int_bool, eqD_int_int, eqD_int_str, eqD_int_list, eqD_int_tup, eqD_str_none, eqD_str_bool, eqD_str_int, eqD_str_str, eqD_str_list, eqD_str_tup, eqD_list_none, eqD_list_bool, eqD_list_int, eqD_list_str, eqD_list_list, eqD_list_tup, eqD_tup_none, eqD_tup_bool, eqD_tup_int, eqD_tup_str, eqD_tup_list, eqD_tup_tup, eqDs_nn, eqDs_cc, eqDs_nc, eqDs_cn, List.map_cons, List.map_nil, List.map, List.cons_append, List.nil_append, List.replicate, List.length_cons, List.length_nil, Nat.reduceAdd, Nat.reduceSub, List.all_cons, List.all_nil, Bool.and_true, Bool.true_and, true_and, and_true, atI_map, ex_map, ex_some, List.length_map, beq_int, decide_eq_true_eq, if_true, if_false, Bool.false_eq_true, if_pos, reduceIte, at0, at1, at2, at3, dP, mCallX, mCallB, peekA, evA, evAs, eq_self, sRaise0, sRaise1, sTry, caught, unslot, unheld, mXArg, mXIs, runX, List.contains_cons, List.contains_nil, Slot.isExn, String.reduceBEq, ex_arg, ex_valB, Bool.or_false, Bool.false_or, Bool.or_true, Bool.true_or, Bool.not_false, Bool.not_true, ar__law_drawn, ar__law_signed, ar__law_told, ar__law_any_right, ar__law_refused, ar__law_fits, ar__law_draw, ar__law_table, ar__law_long_right, ar_turns_of]
      exact ⟨by decide, hK _ _ ⟨_, _, _, _, rfl, low_fits (by decide) (by decide), low_fits (by decide) (by decide), by decide⟩ rfl⟩
    rintro ds _ hdl hds rfl
    refine forL_ix _ (fun _ s' => ∃ t, s' = lst u n g t p q r s x m (.val (.int k)) w3) ?_ (fun s h => hK s h) _ ⟨_, rfl⟩
    rintro j dd _ hdd ⟨t, rfl⟩ K hK
    obtain ⟨A, B, C, E, rfl, b1, b2, b3⟩ := hds dd (List.mem_of_getElem? hdd)
    simp only [run, runF, DL.get, DL.put, puts, back, mC, mVar, mFzV, mFeed, frz, msN, msC, mBin, mUn, dAdd, dSub, dMul, dDiv, dMod, dPow, dNeg, dCmp, dLt, dLe, dGt, dGe, dEq, dNe, dIn, dIsN, dIsNotN, isN, flatD, okT, truth, tV, tB, tAnd, tOr, tNot, mAnd, mOr, mNot, mIf, mChain, mList, mTup, dIx, mSl, oN, oS, mRev, mRevTo, mCall, mCallF, dLen, dAbs, dInt, dMin2, dMax2, dList, dTup, dSum, dMin, dMax, dMinG, dMaxG, dAll, isTy, mIsI, gV, gSkip, gsN, gsC, gT, srcV, srcR1, srcR2, srcEnum, srcRev, mComp, tYes, isS, isL, mMS, mML, dIndexS, dIndexL, dIndexFrom, mMS2, dCount, dSplit, dJoin, sNil, sSeq, sSet, sAsg, sPar, sRet, retK, sRetN, sIf, sPass, sBrk, sCont, sNever, sExpr, sAug, ownAt, feedAt, intD, sApp, sExt, sSetI, sAugI, sFeed, sFeedA, popD, sPop, sAddPop, sFor, DL.W.set, DL.W.at, DL.R.d, okD, eqD_none_none, eqD_none_bool, eqD_none_int, eqD_none_str, eqD_none_list, eqD_none_tup, eqD_bool_none, eqD_bool_bool, eqD_bool_int, eqD_bool_str, eqD_bool_list, eqD_bool_tup, eqD_int_none, eqD_int_bool, eqD_int_int, eqD_int_str, eqD_int_list, eqD_int_tup, eqD_str_none, eqD_str_bool, eqD_str_int, eqD_str_str, eqD_str_list, eqD_str_tup, eqD_list_none, eqD_list_bool, eqD_list_int, eqD_list_str, eqD_list_list, eqD_list_tup, eqD_tup_none, eqD_tup_bool, eqD_tup_int, eqD_tup_str, eqD_tup_list, eqD_tup_tup, eqDs_nn, eqDs_cc, eqDs_nc, eqDs_cn, List.map_cons, List.map_nil, List.map, List.cons_append, List.nil_append, List.replicate, List.length_cons, List.length_nil, Nat.reduceAdd, Nat.reduceSub, List.all_cons, List.all_nil, Bool.and_true, Bool.true_and, true_and, and_true, atI_map, ex_map, ex_some, List.length_map, beq_int, decide_eq_true_eq, if_true, if_false, Bool.false_eq_true, if_pos, reduceIte, at0, at1, at2, at3, dP, mCallX, mCallB, peekA, evA, evAs, eq_self, sRaise0, sRaise1, sTry, caught, unslot, unheld, mXArg, mXIs, runX, List.contains_cons, List.contains_nil, Slot.isExn, String.reduceBEq, ex_arg, ex_valB, Bool.or_false, Bool.false_or, Bool.or_true, Bool.true_or, Bool.not_false, Bool.not_true, ar__law_drawn, ar__law_signed, ar__law_told, ar__law_any_right, ar__law_refused, ar__law_fits, ar__law_draw, ar__law_table, ar__law_long_right, ar_turns_of]
    exact ⟨b1, b2, b3, hK _ ⟨_, rfl⟩⟩
  rintro _ ⟨t, rfl⟩
  simp only [run, runF, DL.get, DL.put, puts, back, mC, mVar, mFzV, mFeed, frz, msN, msC, mBin, mUn, dAdd, dSub, dMul, dDiv, dMod, dPow, dNeg, dCmp, dLt, dLe, dGt, dGe, dEq, dNe, dIn, dIsN, dIsNotN, isN, flatD, okT, truth, tV, tB, tAnd, tOr, tNot, mAnd, mOr, mNot, mIf, mChain, mList, mTup, dIx, mSl, oN, oS, mRev, mRevTo, mCall, mCallF, dLen, dAbs, dInt, dMin2, dMax2, dList, dTup, dSum, dMin, dMax, dMinG, dMaxG, dAll, isTy, mIsI, gV, gSkip, gsN, gsC, gT, srcV, srcR1, srcR2, srcEnum, srcRev, mComp, tYes, isS, isL, mMS, mML, dIndexS, dIndexL, dIndexFrom, mMS2, dCount, dSplit, dJoin, sNil, sSeq, sSet, sAsg, sPar, sRet, retK, sRetN, sIf, sPass, sBrk, sCont, sNever, sExpr, sAug, ownAt, feedAt, intD, sApp, sExt, sSetI, sAugI, sFeed, sFeedA, popD, sPop, sAddPop, sFor, DL.W.set, DL.W.at, DL.R.d, okD, eqD_none_none, eqD_none_bool, eqD_none_int, eqD_none_str, eqD_none_list, eqD_none_tup, eqD_bool_none, eqD_bool_bool, eqD_bool_int, eqD_bool_str, eqD_bool_list, eqD_bool_tup, eqD_int_none, eqD_int_bool, eqD_int_int, eqD_int_str, eqD_int_list, eqD_int_tup, eqD_str_none, eqD_str_bool, eqD_str_int, eqD_str_str, eqD_str_list, eqD_str_tup, eqD_list_none, eqD_list_bool, eqD_list_int, eqD_list_str, eqD_list_list, eqD_list_tup, eqD_tup_none, eqD_tup_bool, eqD_tup_int, eqD_tup_str, eqD_tup_list, eqD_tup_tup, eqDs_nn, eqDs_cc, eqDs_nc, eqDs_cn, List.map_cons, List.map_nil, List.map, List.cons_append, List.nil_append, List.replicate, List.length_cons, List.length_nil, Nat.reduceAdd, Nat.reduceSub, List.all_cons, List.all_nil, Bool.and_true, Bool.true_and, true_and, and_true, atI_map, ex_map, ex_some, List.length_map, beq_int, decide_eq_true_eq, if_true, if_false, Bool.false_eq_true, if_pos, reduceIte, at0, at1, at2, at3, dP, mCallX, mCallB, peekA, evA, evAs, eq_self, sRaise0, sRaise1, sTry, caught, unslot, unheld, mXArg, mXIs, runX, List.contains_cons, List.contains_nil, Slot.isExn, String.reduceBEq, ex_arg, ex_valB, Bool.or_false, Bool.false_or, Bool.or_true, Bool.true_or, Bool.not_false, Bool.not_true, ar__law_drawn, ar__law_signed, ar__law_told, ar__law_any_right, ar__law_refused, ar__law_fits, ar__law_draw, ar__law_table, ar__law_long_right, ar_turns_of]
  refine ⟨by decide, low_fits (by decide) (by decide), low_fits (by decide) (by decide), fun z => absurd (by decide) z, fun _ _ k l ht _ => ?_⟩
  obtain ⟨rfl, rfl⟩ := ht.uniq tel1
  refine ⟨by decide, by decide, okInts [0, 0] 6, ?_⟩
  rw [show [D.int 0, D.int 0] = [0, 0].map D.int from rfl, eqDs_refl, if_pos (by decide)]
  refine ⟨by decide, low_fits (by decide) (by decide), low_fits (by decide) (by decide), fun z => absurd (by decide) z, fun _ _ k l ht _ => ?_⟩
  obtain ⟨rfl, rfl⟩ := ht.uniq tel2
  refine ⟨by decide, by decide, okInts [999] 6, ?_⟩
  rw [show [D.int 999] = [999].map D.int from rfl, eqDs_refl]
  rfl

end K49

namespace PySem
namespace LX_BadTable
open PySem.W PySem.Calls PyProof.Rows PySem.HandSPX
def iA (p1 p2 : Pos) : Arguments := { posonlyargs := [], args := [{ arg := "self", annotation := none, pos := p1 }, { arg := "table", annotation := none, pos := p2 }], vararg := none, kwonlyargs := [], kw_defaults := [], kwarg := none, defaults := [] }
def iB (q1 q2 q3 q4 : Pos) : List Stmt := [.Assign [.Attribute (.Name "self" q1) "table" q2] (.Name "table" q3) q4]
def iS : Scope := { kind := .function, names := [(PySem.Str.ofString "self", .local), (PySem.Str.ofString "table", .local)], isGenerator := false, isCoroutine := false, more := [] }
structure Txt (K : Frag) (C fI : Addr) : Prop where
  cls : ∃ nm q N bs bm sn sub ab col dd k0 k1 k2 k3 k5, K.lookup C = some (excClassObj nm q C N bs bm true sn sub ab col dd k0 k1 k2 k3 k5 "ValueError.__new__") ∧ refsVE bm = true
  sa : findIn K (.ref C) "__setattr__" = some (some (.builtin "object.__setattr__"))
  noN : findIn K (.ref C) "table" = some none
  iC : findIn K (.ref C) "__init__" = some (some (.ref fI))
  tC : typeIn K (.ref fI) = some (.type "function")
  kC : keepIn K (.ref C) = true
  exC : subIn K (.ref C) (.type "BaseException") = some true
  tyC : typeIn K (.ref C) = some (.type "type")
  fn : ∃ (oc : Value) (od : Option Addr) (doc pm : Value) (an : Option Addr) (cdv ct : Value) (osl : Array (Option Value)) (p1 p2 q1 q2 q3 q4 : Pos),
    K.lookup fI = some ⟨oc, od, .func (fnOf "__init__" "BadTable.__init__" (iA p1 p2) (iB q1 q2 q3 q4) iS .none .none doc pm an cdv ct), osl⟩ ∧ codeIn K cdv "BadTable.__init__" = true
theorem one_size (v : Value) : [v].length ≤ sizeLine := by
  rw [sizeLine_eq]
  exact (by decide : 1 ≤ 16777216)
theorem kept_but {K : Frag} {h h' : Heap} {x : Addr} (X : K.In h) (hx : K.lookup x = none) (k : ∀ b o, b ≠ x → h.get? b = some o → h'.get? b = some o) : K.In h' := fun a o e =>
  k a o (fun z => by rw [z, hx] at e; cases e) (X a o e)
theorem ldC {M : Model} {s : Shared} {name : Str} {scope : Scope} {L a : Addr} {cd : Value} {m : Str → Option Value} {x : Str} {pos : Pos} {v : Value} {Q : Value → Shared → Prop} {A : Around} {E : Value → Shared → Prop} (hn : s.heap.Ns L m) (hv : m x = some v) (h : Q v s)
    (hk : scope.kind = .function := by rfl) (hl : (envOfC name scope L a cd).kindOf x = some .local := by rfl) (hd : (x == ("__debug__" : Str)) = false := by decide) :
    wpAny M A (eval (.Name x pos) (envOfC name scope L a cd)) Q E s := wpAny_Name (wpAny_loadName_local hk hl hn hv h) hd
structure InitEnd (h h' : Heap) (x C dx t1 : Addr) (v : Value) : Prop where
  keep : ∀ b o, b ≠ x → h.get? b = some o → h'.get? b = some o
  obj : h'.get? x = some { cls := .ref C, dict := some dx, data := .fields #[.ref t1, .none, .none, .none, .bool false, .none] }
  dbig : h.objs.size ≤ dx
  dne : dx ≠ x
  ns : h'.Ns1 dx (fun y => if y = "table" then some v else none)
structure OwnMade (h h' : Heap) (e C d : Addr) (v : Value) : Prop where
  keep : ∀ b o, h.get? b = some o → h'.get? b = some o
  new : h.objs.size ≤ e
  obj : ∃ oe vs, h'.get? e = some oe ∧ oe.cls = .ref C ∧ oe.dict = some d ∧ oe.data = .fields vs ∧ vs[1]? = some .none ∧ vs[2]? = some .none
  dbig : h.objs.size ≤ d
  dne : d ≠ e
  ns : h'.Ns1 d (fun y => if y = "table" then some v else none)
section
variable {prog : Program} {w : World} {A : Around} {E : Value → Shared → Prop} {R : Result → Shared → Prop} {s : Shared} {K : Frag} {C fI : Addr}
theorem low_init (T : Txt K C fI) {x t0 : Addr} {v : Value} (X : K.In s.heap) (hlim : s.heap.NoLimit) (hx : s.heap.get? x = some (excO C t0)) (hnx : K.lookup x = none) (hroom : A.depth < recursionLimit)
    (hq : ∀ h' tk dx, InitEnd s.heap h' x C dx t0 v → R (.ok (.ret .none)) { s with heap := h', toks := tk }) :
    codeAny (model prog w) A (.call (.ref fI) ⟨[.ref x, v], []⟩) R s := by
  obtain ⟨oc, od, doc, pm, an, cdv, ct, osl, p1, p2, q1, q2, q3, q4, ho, hcd⟩ := T.fn
  obtain ⟨nm, q, N, bs, bm, sn, sub, ab, col, dd, k0, k1, k2, k3, k5, hC, hbm⟩ := T.cls
  have hcl : clsIn K C = some { name := nm, bases := bs, mro := .ref C :: bm, ns := N, qualname := q, hasDict := true, slotNames := sn, subclasses := sub, abstract := ab, collection := col, hasDel := false } := by unfold clsIn; rw [hC] <;> rfl
  refine Att.call_fn (binds := [("self", .ref x), ("table", v)]) X hlim ho hcd hroom (BindsTo.of_eq (by first | rfl | with_unfolding_all rfl)) (by first | rfl | decide | with_unfolding_all rfl) (fun s₁ IC => ?_) rfl rfl rfl
  obtain ⟨h₁, tk₁, rfl⟩ := IC.toInCall.same
  have k : ∀ b o, s.heap.get? b = some o → h₁.get? b = some o := IC.toInCall.keep
  have hn := IC.toInCall.ns
  have hxL : s.heap.objs.size ≠ x := Nat.ne_of_gt (Heap.lt_size hx)
  have X₁ : K.In h₁ := X.keeps k
  have hx₁ := k _ _ hx
  show wpAny _ _ (execs _ _) _ _ _
  refine wpAny_execs_cons (plainObj_wpAny_Assign_Attribute ?_)
  refine ldC (v := v) hn (by first | rfl | with_unfolding_all rfl | kernel_rfl) (ldC (v := .ref x) hn (by first | rfl | with_unfolding_all rfl | kernel_rfl) ?_)
  refine set_plain X₁ (ox := excO C t0) (od := none) ⟨hx₁, rfl, rfl, trivial⟩ T.sa ?_
  refine exc_osa X₁ hx₁ hcl (show refsVE (.ref C :: bm) = true from hbm) rfl T.noN (fun h₃ tk₃ dx k₃ dn dne hx₃ hn₃ => ?_)
  show wpAny _ _ (execs _ _) _ _ _
  have z : s.heap.objs.size < h₁.objs.size := hn.lt
  exact wpAny_execs_nil (hq h₃ tk₃ dx ⟨fun b o hb e => k₃ b o hb (k b o e), hx₃, Nat.le_of_lt (Nat.lt_of_lt_of_le z dn), dne, hn₃⟩)
theorem low_made (T : Txt K C fI) {v : Value} (X : K.In s.heap) (hlim : s.heap.NoLimit) (hroom : A.depth + 1 < recursionLimit)
    (hq : ∀ h' tk e d, OwnMade s.heap h' e C d v → R (.ok (.ret (.ref e))) { s with heap := h', toks := tk }) :
    codeAny (model prog w) A (.call (.ref C) ⟨[v], []⟩) R s := by
  obtain ⟨nm, q, N, bs, bm, sn, sub, ab, col, dd, k0, k1, k2, k3, k5, hC, hbm⟩ := T.cls
  obtain ⟨hp, g, dr, tk, os⟩ := s
  have k : ∀ b o, hp.get? b = some o → ((hp.push (kdv_tup [v])).push (excO C hp.objs.size)).get? b = some o := fun b o e => Heap.get?_push_of_some _ (Heap.get?_push_of_some _ e)
  have hget : ((hp.push (kdv_tup [v])).push (excO C hp.objs.size)).get? (hp.objs.size + 1) = some (excO C hp.objs.size) := by heap_get
  have hnx : K.lookup (hp.objs.size + 1) = none := by
    cases e : K.lookup (hp.objs.size + 1) with
    | none => rfl
    | some o =>
      have z : hp.get? (hp.objs.size + 1) = some o := X _ _ e
      exact absurd (Nat.lt_of_succ_lt (Heap.lt_size z)) (Nat.lt_irrefl _)
  refine call_own F.excBase_ValueError (fun X => refsVE_contains X bm hbm) (X _ _ hC) (looks_findIn X T.iC) (fun self => bind_fn X self T.tC) (one_size v) ?_
  refine low_init (s := ⟨(hp.push (kdv_tup [v])).push (excO C hp.objs.size), g, dr, tk, os⟩) T (X.keeps k) (hlim.keeps k) hget hnx ?_ fun h' tk' dx ⟨k', hx, dn, dne, hns⟩ => ?_
  · show A.depth + 1 < recursionLimit
    exact hroom
  · have old : ∀ b o, hp.get? b = some o → h'.get? b = some o := fun b o e => k' b o (Nat.ne_of_lt (Nat.lt_succ_of_lt (Heap.lt_size e))) (k b o e)
    have z : hp.objs.size + 1 + 1 ≤ dx := by
      first
        | (simpa only [Heap.size_push] using dn)
        | exact dn
        | (have q := dn; rw [Heap.size_push, Heap.size_push] at q; exact q)
    exact ⟨rfl, hq h' tk' (hp.objs.size + 1) dx ⟨old, Nat.le_succ _, ⟨_, _, hx, rfl, rfl, rfl, rfl, rfl⟩, Nat.le_trans (Nat.le_trans (Nat.le_succ _) (Nat.le_succ _)) z, dne, hns⟩⟩
end
end LX_BadTable
end PySem
namespace L2
open PySem PySem.Spec PyProof.Rows
theorem relO_BadTable {v : V} {v' : Value} (r : RelV v v') (f : Str) : RelO (List.lookup f [(("table" : Str), v)]) (if f = "table" then some v' else none) := by
  by_cases hw : f = "table"
  · subst hw
    rw [if_pos rfl]
    have q : List.lookup ("table" : Str) [(("table" : Str), v)] = some v := by simp [List.lookup]
    rw [q]
    exact r
  · rw [if_neg hw]
    have qw : (f == ("table" : Str)) = false := by simpa using hw
    have q2 : List.lookup f [(("table" : Str), v)] = none := by simp [List.lookup, qw]
    rw [q2]
    trivial
section
variable {X : Cx} {C fI : Addr}
theorem mk_BadTable {a : Expr} {ta : TA} {p pos : Pos} {k : Nat} (T : PySem.LX_BadTable.Txt X.K C fI) (hC : X.mg "BadTable" = some (.ref C)) (hr : Room k X.A) (ha : PA X [a] ta) (hg : Gl X "BadTable" := by rfl)
    (he : starEach (a :: []) X.env = (false, eval a X.env) :: starEach [] X.env := by rfl) (hpl : (backTo pos (starEach [] X.env)).any (·.1) = false := by rfl) :
    L2N.PMk X (.Call (.Name "BadTable" p) [a] [] pos) (DL.tMk1 C (Str.ofString "table") ta) := by
  intro pins s σ H Q I h
  refine wpAny_Call_Name_kw (ld_glob I hg hC ?_)
  refine PySem.W.callWith_K (h₀ := X.base) I.ok.mod.kin T.kC (thn (ha.run pos pins s σ H _ I h) fun us s1 hh => ?_) he hpl
  obtain ⟨vs, H1, I1, r1, v, ev, q1⟩ := hh
  subst ev
  refine ⟨I1.kIn, ?_⟩
  cases r1 with
  | cons rv rn =>
    rename_i v' us'
    cases rn
    show wpAny _ _ (call (.ref C) [v']) _ _ _
    have hlim := I1.nolimit
    obtain ⟨hp, g, dr, tk, os⟩ := s1
    refine wpAny_call (PySem.LX_BadTable.low_made T I1.kIn hlim (by have := hr.dp; omega) fun h' tk' e d M => ?_)
    show L2N.MkP X pins σ Q (.ref e) ⟨h', g, dr, tk', os⟩
    obtain ⟨oe, fv, hoe, hc, hd, hdat, h1, h2⟩ := M.obj
    have hns := M.ns
    obtain ⟨G', g1, g2⟩ := restrict h' fun b => decide (b ≠ e)
    have gk : ∀ b, b ≠ e → G'.get? b = h'.get? b := fun b hb => g1 b (decide_eq_true hb)
    have ge : G'.get? e = none := g2 e (by simp)
    have old : ∀ b o, hp.get? b = some o → G'.get? b = some o := fun b o q => (gk b (Nat.ne_of_lt (Nat.lt_of_lt_of_le (Heap.lt_size q) M.new))).trans (M.keep b o q)
    have ob : ObjOk X.prog X.w (upd H1 d (.xd [(("table" : Str), v)])) G' d (.xd [(("table" : Str), v)]) :=
      ⟨_, hns.at (fun o q => (gk d M.dne).trans q), fun f => relO_BadTable rv f⟩
    have J : Inv X pins σ (upd H1 d (.xd [(("table" : Str), v)])) ⟨G', g, dr, tk', os⟩ := I1.laid (t' := tk') old M.dbig ob
    refine ⟨e, oe, fv, ⟨G', g, dr, tk', os⟩, _, .ref C, some d, rfl, J, fun b o q => ?_, ge, hoe, ⟨hc, hd, fun vs e => by rw [hdat] at e; cases e; exact h2⟩, hdat, h1, ?_, rfl, I1.bare, raises_own T.exC T.tyC, q1 d (I1.hok.fresh M.dbig)⟩
    · by_cases hb : b = e
      · have q' : G'.get? b = some o := q
        rw [hb, ge] at q'; cases q'
      · exact (gk b hb).symm.trans q
    · rw [upd_ne (Ne.symm M.dne)]
      exact I1.hok.fresh M.new
end
end L2
theorem PySem.LX_BadTable.Txt.mk' {K : PySem.W.Frag} {C f1 : Addr} {nm q : Str} {N : Addr} {bs : List PySem.Value} {bm : List PySem.Value} {sn : List PySem.Str} {sub : List PySem.Value} {ab : Bool} {col : Option Bool} {dd : Option Addr} {m0 m1 m2 m3 m5 : Option PySem.Value} {od1 an1 : Option Addr} {sl1 : Array (Option PySem.Value)} {oc1 dc1 pm1 cd1 ct1 : PySem.Value}
    (a : PySem.W.nsIn K PySem.mainGlobals "BadTable" = some (some (.ref C))) (xL : K.lookup C = some (PySem.excClassObj nm q C N bs bm true sn sub ab col dd m0 m1 m2 m3 m5 "ValueError.__new__")) (hb : PySem.HandSPX.refsVE bm = true)
    (sa : PySem.W.findIn K (.ref C) "__setattr__" = some (some (.builtin "object.__setattr__"))) (nb : PySem.W.findIn K (.ref C) "table" = some none) (a1 : PySem.W.findIn K (.ref C) "__init__" = some (some (.ref f1))) (t1 : PySem.W.typeIn K (.ref f1) = some (.type "function"))
    (l1 : K.lookup f1 = some ⟨oc1, od1, .func (PySem.W.fnOf "__init__" "BadTable.__init__" (PySem.LX_BadTable.iA ⟨14, 17, 14, 21⟩ ⟨14, 23, 14, 28⟩) (PySem.LX_BadTable.iB ⟨15, 8, 15, 12⟩ ⟨15, 8, 15, 18⟩ ⟨15, 21, 15, 26⟩ ⟨15, 8, 15, 26⟩) PySem.LX_BadTable.iS .none .none dc1 pm1 an1 cd1 ct1), sl1⟩) (c1 : PySem.W.codeIn K cd1 "BadTable.__init__" = true)
    (kC : PySem.W.keepIn K (.ref C) = true) (eC : PySem.W.subIn K (.ref C) (.type "BaseException") = some true) (tC : PySem.W.typeIn K (.ref C) = some (.type "type")) : ∃ C fI, PySem.W.nsIn K PySem.mainGlobals "BadTable" = some (some (.ref C)) ∧ PySem.LX_BadTable.Txt K C fI :=
  ⟨C, f1, a, ⟨nm, q, N, bs, _, sn, sub, ab, col, dd, m0, m1, m2, m3, m5, xL, hb⟩, sa, nb, a1, t1, kC, eC, tC, ⟨_, _, _, _, _, _, _, _, _, _, _, _, _, _, l1, c1⟩⟩

/-! The defs walk. -/
namespace K49
open PySem PySem.Spec PyProof.Rows L2 DL

def topS (i : Nat) : Stmt := PySem.Challenge.pw_ringlands_k49_whole_turns_of_tables.main.body.getD i (.Pass ⟨0, 0, 0, 0⟩)
section
variable {P : Program} {w : World} {K : PySem.W.Frag} {mg : Str → Option Value} {base : Heap}
abbrev s__law_feed : Stmt := topS 15
abbrev n__law_feed : List Str := ["script"]
theorem sc__law_feed : FnScope ["script"] ["script"] (defScope s__law_feed) := ⟨rfl, rfl, rfl, by decide +kernel, rfl, by decide +kernel, by decide +kernel⟩
abbrev s__law_draw : Stmt := topS 16
abbrev n__law_draw : List Str := ["feed", "many", "cell", "told", "mixed"]
theorem sc__law_draw : FnScope ["feed", "many", "cell", "told", "mixed"] ["feed", "many"] (defScope s__law_draw) := ⟨rfl, rfl, rfl, by decide +kernel, rfl, by decide +kernel, by decide +kernel⟩
theorem w__law_draw {f : Addr} {cdv : Value} {A : Around} {outer : List PySem.Env} {s : Shared} {H : Hp} {E : XK} {c : Ct} (ok : Ok (bodyCx P w K mg base n__law_draw "_law_draw" (defScope s__law_draw) f cdv A outer s H E) c) :
  PSs (bodyCx P w K mg base n__law_draw "_law_draw" (defScope s__law_draw) f cdv A outer s H E) (defBody s__law_draw) (tS c (b__law_draw)) := by
  exact (dss_cons (ds_if (PW.pt (dw_and (dt_eq (de_feed 0 2) de_int) (dw_and1 (dt_lt (de_feed 0 1) (de_len (de_feed 0 0))))))
  (dss_cons (ds_set 2 (de_abs (de_toInt (de_ix (de_feed 0 0) (de_feed 0 1)))))
  (dss_cons (ds_feedA 0 1)
  (dss_one (ds_if (dt_ge (de_var 2) (de_pow de_int de_int))
  (dss_one (ds_feed 0 2 (de_fz 2)))
  (dss_one (ds_feed 0 3 (de_mod (de_toInt (de_add (de_add (de_mul (de_feed 0 3) de_int) (de_mul (de_var 2) de_int)) (de_feed 0 1))) de_int)))))))
  dss_nil)
  (dss_cons (ds_if (dt_gt (de_feed 0 2) de_int)
  (dss_cons (ds_set 3 (de_mod (de_toInt (de_feed 0 2)) (de_var 1)))
  (dss_cons (ds_feed 0 2 (de_div (de_feed 0 2) (de_var 1)))
  (dss_one (ds_ret (de_var 3)))))
  dss_nil)
  (dss_cons (ds_feed 0 3 (de_mod (de_toInt (de_add (de_mul (de_feed 0 3) de_int) de_int)) de_int))
  (dss_cons (ds_set 4 (de_mod (de_toInt (de_add (de_mul (de_feed 0 3) (de_feed 0 3)) (de_feed 0 3))) de_int))
  (dss_one (ds_ret (de_mod (de_div (de_var 4) de_int) (de_var 1))))))))
abbrev s__law_fits : Stmt := topS 21
abbrev n__law_fits : List Str := ["table", "number"]
theorem sc__law_fits : FnScope ["table", "number"] ["table"] (defScope s__law_fits) := ⟨rfl, rfl, rfl, by decide +kernel, rfl, by decide +kernel, by decide +kernel⟩
theorem w__law_fits {f : Addr} {cdv : Value} {A : Around} {outer : List PySem.Env} {s : Shared} {H : Hp} {E : XK} {c : Ct} (ok : Ok (bodyCx P w K mg base n__law_fits "_law_fits" (defScope s__law_fits) f cdv A outer s H E) c) :
  PSs (bodyCx P w K mg base n__law_fits "_law_fits" (defScope s__law_fits) f cdv A outer s H E) (defBody s__law_fits) (tS c (b__law_fits)) := by
  exact (dss_one (ds_ret (de_le (de_max (de_comp [("number", 1)] (ds_val (de_fz 0)) (show blkC n__law_fits (defScope s__law_fits) _ _ = true by decide +kernel) (fun _ _ _ _ _ _ _ => (dg_name 1)) (fun _ _ _ _ _ _ _ => (tYesT _)) (fun _ _ _ _ _ _ _ => (de_abs (de_var 1))))) de_int)))
abbrev s__law_put : Stmt := topS 18
abbrev n__law_put : List Str := ["numbers", "x", "y", "k", "number", "a"]
theorem sc__law_put : FnScope ["numbers", "x", "y", "k", "number", "a"] ["numbers", "x", "y"] (defScope s__law_put) := ⟨rfl, rfl, rfl, by decide +kernel, rfl, by decide +kernel, by decide +kernel⟩
theorem w__law_put {f : Addr} {cdv : Value} {A : Around} {outer : List PySem.Env} {s : Shared} {H : Hp} {E : XK} {c : Ct} (ok : Ok (bodyCx P w K mg base n__law_put "_law_put" (defScope s__law_put) f cdv A outer s H E) c) :
  PSs (bodyCx P w K mg base n__law_put "_law_put" (defScope s__law_put) f cdv A outer s H E) (defBody s__law_put) (tS c (b__law_put)) := by
  exact (dss_cons (ds_for PassesOwn.never (ds_range1 (de_len (de_var 0))) (dg_name 3)
  (dss_cons (ds_set 4 (de_ix (de_var 0) (de_sub (de_sub (de_len (de_var 0)) de_int) (de_var 3))))
  (dss_cons (ds_set 5 (de_sub (de_mul (de_var 4) (de_var 1)) (de_var 2)))
  (dss_cons (ds_set 2 (de_fz 1))
  (dss_one (ds_set 1 (de_fz 5)))))))
  (dss_one (ds_ret (de_list (da_cons (de_fz 1) (da_cons (de_fz 2) da_nil))))))
abbrev s__law_table : Stmt := topS 19
abbrev n__law_table : List Str := ["numbers", "one", "two"]
theorem sc__law_table : FnScope ["numbers", "one", "two"] ["numbers"] (defScope s__law_table) := ⟨rfl, rfl, rfl, by decide +kernel, rfl, by decide +kernel, by decide +kernel⟩
theorem w__law_table {g__law_put : Sem} {f : Addr} {cdv : Value} {A : Around} {outer : List PySem.Env} {s : Shared} {H : Hp} {E : XK} {c : Ct} (k__law_put : Kn (bodyCx P w K mg base n__law_table "_law_table" (defScope s__law_table) f cdv A outer s H E) "_law_put" (spD K g__law_put)) (ok : Ok (bodyCx P w K mg base n__law_table "_law_table" (defScope s__law_table) f cdv A outer s H E) c) :
  PSs (bodyCx P w K mg base n__law_table "_law_table" (defScope s__law_table) f cdv A outer s H E) (defBody s__law_table) (tS c (b__law_table g__law_put)) := by
  exact (dss_cons (ds_set 1 (de_call k__law_put (da_cons (de_fz 0) (da_cons de_int (da_cons de_int da_nil)))))
  (dss_cons (ds_set 2 (de_call k__law_put (da_cons (de_fz 0) (da_cons de_int (da_cons de_int da_nil)))))
  (dss_one (ds_ret (de_tup (da_cons (de_ix (de_var 1) de_int) (da_cons (de_ix (de_var 2) de_int) (da_cons (de_ix (de_var 1) de_int) (da_cons (de_ix (de_var 2) de_int) da_nil)))))))))
abbrev s__law_drawn : Stmt := topS 25
abbrev n__law_drawn : List Str := ["feed", "numbers", "k", "more", "last"]
theorem sc__law_drawn : FnScope ["feed", "numbers", "k", "more", "last"] ["feed"] (defScope s__law_drawn) := ⟨rfl, rfl, rfl, by decide +kernel, rfl, by decide +kernel, by decide +kernel⟩
theorem w__law_drawn {g__law_draw : Sem} {g__law_fits : Sem} {g__law_table : Sem} {f : Addr} {cdv : Value} {A : Around} {outer : List PySem.Env} {s : Shared} {H : Hp} {E : XK} {c : Ct} (k__law_draw : Kn (bodyCx P w K mg base n__law_drawn "_law_drawn" (defScope s__law_drawn) f cdv A outer s H E) "_law_draw" (spF K g__law_draw)) (k__law_fits : Kn (bodyCx P w K mg base n__law_drawn "_law_drawn" (defScope s__law_drawn) f cdv A outer s H E) "_law_fits" (spD K g__law_fits)) (k__law_table : Kn (bodyCx P w K mg base n__law_drawn "_law_drawn" (defScope s__law_drawn) f cdv A outer s H E) "_law_table" (spD K g__law_table)) (ok : Ok (bodyCx P w K mg base n__law_drawn "_law_drawn" (defScope s__law_drawn) f cdv A outer s H E) c) :
  PSs (bodyCx P w K mg base n__law_drawn "_law_drawn" (defScope s__law_drawn) f cdv A outer s H E) (defBody s__law_drawn) (tS c (b__law_drawn g__law_draw g__law_fits g__law_table)) := by
  exact (dss_cons (ds_set 1 (de_list (da_cons (de_sub (de_callF 0 k__law_draw (da_cons de_int da_nil)) de_int) da_nil)))
  (dss_cons (ds_for PassesOwn.never (ds_range1 (de_callF 0 k__law_draw (da_cons de_int da_nil))) (dg_name 2)
  (dss_cons (ds_set 3 (de_add (de_var 1) (de_list (da_cons (de_add de_int (de_callF 0 k__law_draw (da_cons (de_ix (de_list (da_cons de_int (da_cons de_int da_nil))) (de_callF 0 k__law_draw (da_cons de_int da_nil))) da_nil))) da_nil))))
  (dss_one (ds_if (dt_val (de_call k__law_fits (da_cons (de_call k__law_table (da_cons (de_fz 3) da_nil)) da_nil)))
  (dss_one (ds_set 1 (de_fz 3)))
  dss_nil))))
  (dss_cons (ds_set 4 (de_add (de_var 1) (de_list (da_cons (de_sub (de_callF 0 k__law_draw (da_cons de_int da_nil)) de_int) da_nil))))
  (dss_cons (ds_if (PW.pt (dw_and (dt_gt (de_callF 0 k__law_draw (da_cons de_int da_nil)) de_int) (dw_and1 (dt_val (de_call k__law_fits (da_cons (de_call k__law_table (da_cons (de_fz 4) da_nil)) da_nil))))))
  (dss_one (ds_ret (de_var 4)))
  dss_nil)
  (dss_one (ds_ret (de_var 1)))))))
abbrev s_rounded_up : Stmt := topS 11
abbrev n_rounded_up : List Str := ["part", "whole"]
theorem sc_rounded_up : FnScope ["part", "whole"] ["part", "whole"] (defScope s_rounded_up) := ⟨rfl, rfl, rfl, by decide +kernel, rfl, by decide +kernel, by decide +kernel⟩
theorem w_rounded_up {f : Addr} {cdv : Value} {A : Around} {outer : List PySem.Env} {s : Shared} {H : Hp} {E : XK} {c : Ct} (ok : Ok (bodyCx P w K mg base n_rounded_up "rounded_up" (defScope s_rounded_up) f cdv A outer s H E) c) :
  PSs (bodyCx P w K mg base n_rounded_up "rounded_up" (defScope s_rounded_up) f cdv A outer s H E) (defBody s_rounded_up) (tS c (b_rounded_up)) := by
  exact (dss_one (ds_ret (de_neg (de_div (de_neg (de_var 0)) (de_var 1)))))
abbrev s_minus_list : Stmt := topS 12
abbrev n_minus_list : List Str := ["part", "whole", "numbers", "number"]
theorem sc_minus_list : FnScope ["part", "whole", "numbers", "number"] ["part", "whole"] (defScope s_minus_list) := ⟨rfl, rfl, rfl, by decide +kernel, rfl, by decide +kernel, by decide +kernel⟩
theorem w_minus_list {g_rounded_up : Sem} {f : Addr} {cdv : Value} {A : Around} {outer : List PySem.Env} {s : Shared} {H : Hp} {E : XK} {c : Ct} (k_rounded_up : Kn (bodyCx P w K mg base n_minus_list "minus_list" (defScope s_minus_list) f cdv A outer s H E) "rounded_up" (spD K g_rounded_up)) (ok : Ok (bodyCx P w K mg base n_minus_list "minus_list" (defScope s_minus_list) f cdv A outer s H E) c) :
  PSs (bodyCx P w K mg base n_minus_list "minus_list" (defScope s_minus_list) f cdv A outer s H E) (defBody s_minus_list) (tS c (b_minus_list g_rounded_up)) := by
  exact (dss_cons (ds_set 2 (de_list da_nil))
  (dss_cons (ds_while PassesOwn.never (dt_ne (de_var 1) de_int)
  (dss_cons (ds_set 3 (de_call k_rounded_up (da_cons (de_fz 0) (da_cons (de_fz 1) da_nil))))
  (dss_cons (ds_app 2 (de_fz 3))
  (dss_one (ds_par 0 1 (de_fz 1) (de_sub (de_mul (de_var 3) (de_var 1)) (de_var 0)))))))
  (dss_one (ds_ret (de_var 2)))))
abbrev s_multiplied : Stmt := topS 7
abbrev n_multiplied : List Str := ["one", "other", "p", "q", "r", "s", "t", "u", "v", "w"]
theorem sc_multiplied : FnScope ["one", "other", "p", "q", "r", "s", "t", "u", "v", "w"] ["one", "other"] (defScope s_multiplied) := ⟨rfl, rfl, rfl, by decide +kernel, rfl, by decide +kernel, by decide +kernel⟩
theorem w_multiplied {f : Addr} {cdv : Value} {A : Around} {outer : List PySem.Env} {s : Shared} {H : Hp} {E : XK} {c : Ct} (ok : Ok (bodyCx P w K mg base n_multiplied "multiplied" (defScope s_multiplied) f cdv A outer s H E) c) :
  PSs (bodyCx P w K mg base n_multiplied "multiplied" (defScope s_multiplied) f cdv A outer s H E) (defBody s_multiplied) (tS c (b_multiplied)) := by
  exact (dss_cons (ds_asg (de_fz 0) (dg_tup (dgs_cons (dg_name 2) (dgs_cons (dg_name 3) (dgs_cons (dg_name 4) (dgs_cons (dg_name 5) dgs_nil))))))
  (dss_cons (ds_asg (de_fz 1) (dg_tup (dgs_cons (dg_name 6) (dgs_cons (dg_name 7) (dgs_cons (dg_name 8) (dgs_cons (dg_name 9) dgs_nil))))))
  (dss_one (ds_ret (de_tup (da_cons (de_add (de_mul (de_var 2) (de_var 6)) (de_mul (de_var 3) (de_var 8))) (da_cons (de_add (de_mul (de_var 2) (de_var 7)) (de_mul (de_var 3) (de_var 9))) (da_cons (de_add (de_mul (de_var 4) (de_var 6)) (de_mul (de_var 5) (de_var 8))) (da_cons (de_add (de_mul (de_var 4) (de_var 7)) (de_mul (de_var 5) (de_var 9))) da_nil)))))))))
abbrev s_turned_by : Stmt := topS 8
abbrev n_turned_by : List Str := ["numbers", "table", "number"]
theorem sc_turned_by : FnScope ["numbers", "table", "number"] ["numbers"] (defScope s_turned_by) := ⟨rfl, rfl, rfl, by decide +kernel, rfl, by decide +kernel, by decide +kernel⟩
theorem w_turned_by {g_multiplied : Sem} {f : Addr} {cdv : Value} {A : Around} {outer : List PySem.Env} {s : Shared} {H : Hp} {E : XK} {c : Ct} (hc_NOTHING : KC K mg "NOTHING" c_NOTHING) (k_multiplied : Kn (bodyCx P w K mg base n_turned_by "turned_by" (defScope s_turned_by) f cdv A outer s H E) "multiplied" (spD K g_multiplied)) (ok : Ok (bodyCx P w K mg base n_turned_by "turned_by" (defScope s_turned_by) f cdv A outer s H E) c) :
  PSs (bodyCx P w K mg base n_turned_by "turned_by" (defScope s_turned_by) f cdv A outer s H E) (defBody s_turned_by) (tS c (b_turned_by g_multiplied)) := by
  exact (dss_cons (ds_set 1 (de_globK hc_NOTHING))
  (dss_cons (ds_for PassesOwn.never (ds_val (de_fz 0)) (dg_name 2)
  (dss_one (ds_set 1 (de_call k_multiplied (da_cons (de_fz 1) (da_cons (de_tup (da_cons (de_fz 2) (da_cons (de_neg de_int) (da_cons de_int (da_cons de_int da_nil))))) da_nil))))))
  (dss_one (ds_ret (de_var 1)))))
abbrev s_turns_of : Stmt := topS 13
abbrev n_turns_of : List Str := ["table", "p", "q", "r", "s", "sign", "numbers", "product", "number"]
theorem sc_turns_of : FnScope ["table", "p", "q", "r", "s", "sign", "numbers", "product", "number"] ["table"] (defScope s_turns_of) := ⟨rfl, rfl, rfl, by decide +kernel, rfl, by decide +kernel, by decide +kernel⟩
theorem w_turns_of {g_minus_list : Sem} {g_turned_by : Sem} {f : Addr} {cdv : Value} {A : Around} {outer : List PySem.Env} {s : Shared} {H : Hp} {E : XK} {c : Ct} (hc_MOST_SIZE : KC K mg "MOST_SIZE" c_MOST_SIZE) (k_minus_list : Kn (bodyCxX P w K mg base n_turns_of "turns_of" (defScope s_turns_of) f cdv A outer s H E) "minus_list" (spD K g_minus_list)) (k_turned_by : Kn (bodyCxX P w K mg base n_turns_of "turns_of" (defScope s_turns_of) f cdv A outer s H E) "turned_by" (spD K g_turned_by)) {C_BadTable : Addr} (hC_BadTable : mg "BadTable" = some (.ref C_BadTable)) {fI_BadTable : Addr} (xt_BadTable : PySem.LX_BadTable.Txt K C_BadTable fI_BadTable) {xx : Exn → DL.S → Prop} {kr : Nat} (hr : Room kr (A.deeper (envOfC "turns_of" (defScope s_turns_of) s.heap.objs.size f cdv))) (hxo : XOk c xx (fun cls d _ H => E cls d H)) (ok : Ok (bodyCxX P w K mg base n_turns_of "turns_of" (defScope s_turns_of) f cdv A outer s H E) c) :
  PSs (bodyCxX P w K mg base n_turns_of "turns_of" (defScope s_turns_of) f cdv A outer s H E) (defBody s_turns_of) (tS c (b_turns_of g_minus_list g_turned_by xx)) := by
  exact (dss_cons (ds_asg (de_fz 0) (dg_tup (dgs_cons (dg_name 1) (dgs_cons (dg_name 2) (dgs_cons (dg_name 3) (dgs_cons (dg_name 4) dgs_nil))))))
  (dss_cons (ds_if (PW.pt (dw_or (dt_ne (de_sub (de_mul (de_var 1) (de_var 4)) (de_mul (de_var 2) (de_var 3))) de_int) (dw_or1 (dt_gt (de_max (de_comp [("number", 8)] (ds_val (de_fz 0)) (show blkC n_turns_of (defScope s_turns_of) _ _ = true by decide +kernel) (fun _ _ _ _ _ _ _ => (dg_name 8)) (fun _ _ _ _ _ _ _ => (tYesT _)) (fun _ _ _ _ _ _ _ => (de_abs (de_var 8))))) (de_globK hc_MOST_SIZE)))))
  (dss_one (ds_raise1 (cl := "BadTable") (f := "table") (L2N.takes_of rfl rfl rfl rfl) hxo hC_BadTable (mk_BadTable xt_BadTable hC_BadTable hr (da_cons (de_fz 0) da_nil))))
  dss_nil)
  (dss_cons (ds_if (dt_eq (de_var 4) de_int)
  (dss_one (ds_ret (de_tup (da_cons (de_fz 3) (da_cons (de_list (da_cons (de_mul (de_var 3) (de_var 1)) da_nil)) da_nil)))))
  dss_nil)
  (dss_cons (ds_set 5 (de_if (dt_gt (de_var 4) de_int) (de_neg de_int) de_int))
  (dss_cons (ds_set 6 (de_call k_minus_list (da_cons (de_mul (de_neg (de_var 5)) (de_var 2)) (da_cons (de_abs (de_var 4)) da_nil))))
  (dss_cons (ds_set 7 (de_call k_turned_by (da_cons (de_fz 6) da_nil)))
  (dss_one (ds_ret (de_tup (da_cons (de_fz 5) (da_cons (de_add (de_var 6) (de_list (da_cons (de_mul (de_var 5) (de_sub (de_mul (de_ix (de_var 7) de_int) (de_var 1)) (de_mul (de_ix (de_var 7) de_int) (de_var 3)))) da_nil))) da_nil)))))))))))
abbrev s__law_whole : Stmt := topS 17
abbrev n__law_whole : List Str := ["value"]
theorem sc__law_whole : FnScope ["value"] ["value"] (defScope s__law_whole) := ⟨rfl, rfl, rfl, by decide +kernel, rfl, by decide +kernel, by decide +kernel⟩
theorem w__law_whole {f : Addr} {cdv : Value} {A : Around} {outer : List PySem.Env} {s : Shared} {H : Hp} {E : XK} {c : Ct} (ok : Ok (bodyCx P w K mg base n__law_whole "_law_whole" (defScope s__law_whole) f cdv A outer s H E) c) :
  PSs (bodyCx P w K mg base n__law_whole "_law_whole" (defScope s__law_whole) f cdv A outer s H E) (defBody s__law_whole) (tS c (b__law_whole)) := by
  exact (dss_one (ds_ret (de_and (de_isI .int (de_var 0) (by decide +kernel)) (de_one (de_not (de_isI .bool (de_var 0) (by decide +kernel)))))))
abbrev s__law_told : Stmt := topS 22
abbrev n__law_told : List Str := ["table", "sign", "numbers", "told", "at", "product"]
theorem sc__law_told : FnScope ["table", "sign", "numbers", "told", "at", "product"] ["table", "sign", "numbers"] (defScope s__law_told) := ⟨rfl, rfl, rfl, by decide +kernel, rfl, by decide +kernel, by decide +kernel⟩
theorem w__law_told {g_turns_of : SemX} {g__law_whole : Sem} {g_turned_by : Sem} {g__law_table : Sem} {f : Addr} {cdv : Value} {A : Around} {outer : List PySem.Env} {s : Shared} {H : Hp} {E : XK} {c : Ct} (k_turns_of : KnX (bodyCx P w K mg base n__law_told "_law_told" (defScope s__law_told) f cdv A outer s H E) "turns_of" (spX K mg g_turns_of)) (k__law_whole : Kn (bodyCx P w K mg base n__law_told "_law_told" (defScope s__law_told) f cdv A outer s H E) "_law_whole" (spD K g__law_whole)) (k_turned_by : Kn (bodyCx P w K mg base n__law_told "_law_told" (defScope s__law_told) f cdv A outer s H E) "turned_by" (spD K g_turned_by)) (k__law_table : Kn (bodyCx P w K mg base n__law_told "_law_told" (defScope s__law_told) f cdv A outer s H E) "_law_table" (spD K g__law_table)) (ok : Ok (bodyCx P w K mg base n__law_told "_law_told" (defScope s__law_told) f cdv A outer s H E) c) :
  PSs (bodyCx P w K mg base n__law_told "_law_told" (defScope s__law_told) f cdv A outer s H E) (defBody s__law_told) (tS c (b__law_told g_turns_of g__law_whole g_turned_by g__law_table)) := by
  exact (dss_cons (ds_set 3 (de_callX k_turns_of takes0N xok_none (da_cons (de_fz 0) da_nil)))
  (dss_cons (ds_if (PW.pt (dw_or (dt_not (dt_val (de_isI .tuple (de_var 3) (by decide +kernel)))) (dw_or (dt_ne (de_len (de_var 3)) de_int) (dw_or (dt_not (dt_val (de_call k__law_whole (da_cons (de_ix (de_var 3) de_int) da_nil)))) (dw_or1 (dt_ne (de_ix (de_var 3) de_int) (de_var 1)))))))
  (dss_one (ds_ret de_bool))
  dss_nil)
  (dss_cons (ds_if (PW.pt (dw_or (dt_not (dt_val (de_isI .list (de_ix (de_var 3) de_int) (by decide +kernel)))) (dw_or1 (dt_ne (de_len (de_ix (de_var 3) de_int)) (de_len (de_var 2))))))
  (dss_one (ds_ret de_bool))
  dss_nil)
  (dss_cons (ds_for PassesOwn.never (ds_range1 (de_len (de_var 2))) (dg_name 4)
  (dss_one (ds_if (PW.pt (dw_or (dt_not (dt_val (de_call k__law_whole (da_cons (de_ix (de_ix (de_var 3) de_int) (de_var 4)) da_nil)))) (dw_or1 (dt_ne (de_ix (de_ix (de_var 3) de_int) (de_var 4)) (de_ix (de_var 2) (de_var 4))))))
  (dss_one (ds_ret de_bool))
  dss_nil)))
  (dss_cons (ds_set 5 (de_call k_turned_by (da_cons (de_slice (de_ix (de_var 3) de_int) do_none (do_some de_int)) da_nil)))
  (dss_one (ds_ret (de_or (de_gt (de_len (de_var 2)) de_int) (de_one (de_eq (de_var 5) (de_call k__law_table (da_cons (de_fz 2) da_nil))))))))))))
abbrev s__law_signed : Stmt := topS 20
abbrev n__law_signed : List Str := ["numbers", "sign", "table"]
theorem sc__law_signed : FnScope ["numbers", "sign", "table"] ["numbers", "sign"] (defScope s__law_signed) := ⟨rfl, rfl, rfl, by decide +kernel, rfl, by decide +kernel, by decide +kernel⟩
theorem w__law_signed {g__law_table : Sem} {f : Addr} {cdv : Value} {A : Around} {outer : List PySem.Env} {s : Shared} {H : Hp} {E : XK} {c : Ct} (k__law_table : Kn (bodyCx P w K mg base n__law_signed "_law_signed" (defScope s__law_signed) f cdv A outer s H E) "_law_table" (spD K g__law_table)) (ok : Ok (bodyCx P w K mg base n__law_signed "_law_signed" (defScope s__law_signed) f cdv A outer s H E) c) :
  PSs (bodyCx P w K mg base n__law_signed "_law_signed" (defScope s__law_signed) f cdv A outer s H E) (defBody s__law_signed) (tS c (b__law_signed g__law_table)) := by
  exact (dss_cons (ds_set 2 (de_call k__law_table (da_cons (de_fz 0) da_nil)))
  (dss_one (ds_ret (de_tup (da_cons (de_mul (de_var 1) (de_ix (de_var 2) de_int)) (da_cons (de_mul (de_var 1) (de_ix (de_var 2) de_int)) (da_cons (de_mul (de_var 1) (de_ix (de_var 2) de_int)) (da_cons (de_mul (de_var 1) (de_ix (de_var 2) de_int)) da_nil))))))))
abbrev s__law_long_right : Stmt := topS 26
abbrev n__law_long_right : List Str := ["feed", "many", "twos", "other", "numbers", "sign"]
theorem sc__law_long_right : FnScope ["feed", "many", "twos", "other", "numbers", "sign"] ["feed"] (defScope s__law_long_right) := ⟨rfl, rfl, rfl, by decide +kernel, rfl, by decide +kernel, by decide +kernel⟩
theorem w__law_long_right {g__law_draw : Sem} {g__law_fits : Sem} {g__law_table : Sem} {g__law_told : Sem} {g__law_signed : Sem} {f : Addr} {cdv : Value} {A : Around} {outer : List PySem.Env} {s : Shared} {H : Hp} {E : XK} {c : Ct} (k__law_draw : Kn (bodyCx P w K mg base n__law_long_right "_law_long_right" (defScope s__law_long_right) f cdv A outer s H E) "_law_draw" (spF K g__law_draw)) (k__law_fits : Kn (bodyCx P w K mg base n__law_long_right "_law_long_right" (defScope s__law_long_right) f cdv A outer s H E) "_law_fits" (spD K g__law_fits)) (k__law_table : Kn (bodyCx P w K mg base n__law_long_right "_law_long_right" (defScope s__law_long_right) f cdv A outer s H E) "_law_table" (spD K g__law_table)) (k__law_told : Kn (bodyCx P w K mg base n__law_long_right "_law_long_right" (defScope s__law_long_right) f cdv A outer s H E) "_law_told" (spD K g__law_told)) (k__law_signed : Kn (bodyCx P w K mg base n__law_long_right "_law_long_right" (defScope s__law_long_right) f cdv A outer s H E) "_law_signed" (spD K g__law_signed)) (ok : Ok (bodyCx P w K mg base n__law_long_right "_law_long_right" (defScope s__law_long_right) f cdv A outer s H E) c) :
  PSs (bodyCx P w K mg base n__law_long_right "_law_long_right" (defScope s__law_long_right) f cdv A outer s H E) (defBody s__law_long_right) (tS c (b__law_long_right g__law_draw g__law_fits g__law_table g__law_told g__law_signed)) := by
  exact (dss_cons (ds_set 1 (de_add de_int (de_callF 0 k__law_draw (da_cons de_int da_nil))))
  (dss_cons (ds_set 2 (de_add de_int (de_callF 0 k__law_draw (da_cons de_int da_nil))))
  (dss_cons (ds_set 3 (de_add (de_add (de_mul (de_list (da_cons de_int da_nil)) (de_var 2)) (de_list (da_cons (de_add de_int (de_callF 0 k__law_draw (da_cons de_int da_nil))) da_nil))) (de_mul (de_list (da_cons de_int da_nil)) (de_callF 0 k__law_draw (da_cons de_int da_nil)))))
  (dss_cons (ds_for PassesOwn.never (ds_val (de_list (da_cons (de_mul (de_list (da_cons de_int da_nil)) (de_var 1)) (da_cons (de_fz 3) (da_cons (de_add (de_add (de_list (da_cons (de_sub (de_callF 0 k__law_draw (da_cons de_int da_nil)) de_int) da_nil)) (de_mul (de_list (da_cons de_int da_nil)) (de_var 2))) (de_list (da_cons (de_sub (de_callF 0 k__law_draw (da_cons de_int da_nil)) de_int) da_nil))) da_nil))))) (dg_name 4)
  (dss_one (ds_if (dt_val (de_call k__law_fits (da_cons (de_call k__law_table (da_cons (de_fz 4) da_nil)) da_nil)))
  (dss_one (ds_for PassesOwn.never (ds_val (de_list (da_cons de_int (da_cons (de_neg de_int) da_nil)))) (dg_name 5)
  (dss_one (ds_if (dt_not (dt_val (de_call k__law_told (da_cons (de_call k__law_signed (da_cons (de_fz 4) (da_cons (de_fz 5) da_nil))) (da_cons (de_fz 5) (da_cons (de_fz 4) da_nil))))))
  (dss_one (ds_ret de_bool))
  dss_nil))))
  dss_nil)))
  (dss_one (ds_ret de_bool))))))
abbrev s__law_any_right : Stmt := topS 23
abbrev n__law_any_right : List Str := ["table", "told", "number"]
theorem sc__law_any_right : FnScope ["table", "told", "number"] ["table"] (defScope s__law_any_right) := ⟨rfl, rfl, rfl, by decide +kernel, rfl, by decide +kernel, by decide +kernel⟩
theorem w__law_any_right {g_turns_of : SemX} {g__law_whole : Sem} {g__law_signed : Sem} {f : Addr} {cdv : Value} {A : Around} {outer : List PySem.Env} {s : Shared} {H : Hp} {E : XK} {c : Ct} (k_turns_of : KnX (bodyCx P w K mg base n__law_any_right "_law_any_right" (defScope s__law_any_right) f cdv A outer s H E) "turns_of" (spX K mg g_turns_of)) (k__law_whole : Kn (bodyCx P w K mg base n__law_any_right "_law_any_right" (defScope s__law_any_right) f cdv A outer s H E) "_law_whole" (spD K g__law_whole)) (k__law_signed : Kn (bodyCx P w K mg base n__law_any_right "_law_any_right" (defScope s__law_any_right) f cdv A outer s H E) "_law_signed" (spD K g__law_signed)) (ok : Ok (bodyCx P w K mg base n__law_any_right "_law_any_right" (defScope s__law_any_right) f cdv A outer s H E) c) :
  PSs (bodyCx P w K mg base n__law_any_right "_law_any_right" (defScope s__law_any_right) f cdv A outer s H E) (defBody s__law_any_right) (tS c (b__law_any_right g_turns_of g__law_whole g__law_signed)) := by
  exact (dss_cons (ds_set 1 (de_callX k_turns_of takes0N xok_none (da_cons (de_fz 0) da_nil)))
  (dss_cons (ds_if (PW.pt (dw_or (dt_not (dt_val (de_isI .tuple (de_var 1) (by decide +kernel)))) (dw_or (dt_ne (de_len (de_var 1)) de_int) (dw_or (dt_not (dt_val (de_call k__law_whole (da_cons (de_ix (de_var 1) de_int) da_nil)))) (dw_or1 (dt_notIn (de_ix (de_var 1) de_int) (de_list (da_cons de_int (da_cons (de_neg de_int) da_nil)))))))))
  (dss_one (ds_ret de_bool))
  dss_nil)
  (dss_cons (ds_if (PW.pt (dw_or (dt_not (dt_val (de_isI .list (de_ix (de_var 1) de_int) (by decide +kernel)))) (dw_or1 (dt_eq (de_len (de_ix (de_var 1) de_int)) de_int))))
  (dss_one (ds_ret de_bool))
  dss_nil)
  (dss_cons (ds_for PassesOwn.never (ds_val (de_ix (de_var 1) de_int)) (dg_name 2)
  (dss_one (ds_if (dt_not (dt_val (de_call k__law_whole (da_cons (de_fz 2) da_nil))))
  (dss_one (ds_ret de_bool))
  dss_nil)))
  (dss_cons (ds_for PassesOwn.never (ds_val (de_slice (de_ix (de_var 1) de_int) (do_some de_int) (do_some (de_neg de_int)))) (dg_name 2)
  (dss_one (ds_if (dt_lt (de_var 2) de_int)
  (dss_one (ds_ret de_bool))
  dss_nil)))
  (dss_one (ds_ret (de_eq (de_call k__law_signed (da_cons (de_ix (de_var 1) de_int) (da_cons (de_ix (de_var 1) de_int) da_nil))) (de_var 0)))))))))
abbrev s__law_refused : Stmt := topS 24
abbrev n__law_refused : List Str := ["table", "e"]
theorem sc__law_refused : FnScope ["table", "e"] ["table"] (defScope s__law_refused) := ⟨rfl, rfl, rfl, by decide +kernel, rfl, by decide +kernel, by decide +kernel⟩
theorem w__law_refused {g_turns_of : SemX} {f : Addr} {cdv : Value} {A : Around} {outer : List PySem.Env} {s : Shared} {H : Hp} {E : XK} {c : Ct} (k_turns_of : KnX (bodyCx P w K mg base n__law_refused "_law_refused" (defScope s__law_refused) f cdv A outer s H E) "turns_of" (spX K mg g_turns_of)) {C_FriezeError : Addr} (hC_FriezeError : mg "FriezeError" = some (.ref C_FriezeError)) {C_BadTable : Addr} (hC_BadTable : mg "BadTable" = some (.ref C_BadTable)) {C_BadCuts : Addr} (hC_BadCuts : mg "BadCuts" = some (.ref C_BadCuts)) {C_TooMany : Addr} (hC_TooMany : mg "TooMany" = some (.ref C_TooMany)) (cat_FriezeError : Catches K mg ["BadTable"] ["BadTable"] C_FriezeError) (xi_BadTable : ∀ x C, List.contains ["BadTable"] x = true → mg (Str.ofString x) = some (.ref C) → XCls K C ∧ PySem.W.kitOne K (.ref C) (.ref C_BadTable) = some (List.contains ["BadTable"] x)) (xi_BadCuts : ∀ x C, List.contains ["BadTable"] x = true → mg (Str.ofString x) = some (.ref C) → XCls K C ∧ PySem.W.kitOne K (.ref C) (.ref C_BadCuts) = some (List.contains [] x)) (xi_TooMany : ∀ x C, List.contains ["BadTable"] x = true → mg (Str.ofString x) = some (.ref C) → XCls K C ∧ PySem.W.kitOne K (.ref C) (.ref C_TooMany) = some (List.contains [] x)) (xa_table : ∀ x C, List.contains ["BadTable"] x = true → mg (Str.ofString x) = some (.ref C) → XCls K C ∧ PySem.W.findIn K (.ref C) (Str.ofString "table") = some none) (ok : Ok (bodyCx P w K mg base n__law_refused "_law_refused" (defScope s__law_refused) f cdv A outer s H E) c) :
  PSs (bodyCx P w K mg base n__law_refused "_law_refused" (defScope s__law_refused) f cdv A outer s H E) (defBody s__law_refused) (tS c (b__law_refused g_turns_of)) := by
  exact (dss_cons (ds_try (bm := fun xx => (sExpr (mCallX g_turns_of xx (msC (mFzV 0) msN)))) (fun W pn xe c1 xx tk xo ok1 => (dss_one (ds_expr (de_callX ⟨k_turns_of.ex⟩ tk xo (da_cons (de_fz 0) da_nil)))))
  (HdsOk.named (D := C_FriezeError) (i := 1) (yes := ["BadTable"]) ⟨rfl, by decide, .inl hC_FriezeError⟩ rfl rfl cat_FriezeError (fun a oe cls d pn c1 hz hf hx ok1 => (dss_cons (ds_if (PW.pt (dw_or (dt_not (dt_val (de_xis 1 ["BadTable"] ["BadTable"] hz hf hx hC_BadTable xi_BadTable))) (dw_or (dt_val (de_xis 1 ["BadTable"] [] hz hf hx hC_BadCuts xi_BadCuts)) (dw_or1 (dt_val (de_xis 1 ["BadTable"] [] hz hf hx hC_TooMany xi_TooMany))))))
  (dss_one (ds_ret de_bool))
  dss_nil)
  (dss_one (ds_ret (de_and (de_isI .tuple (de_xarg 1 ["BadTable"] "table" hz hf hx xa_table) (by decide +kernel)) (de_one (de_eq (de_xarg 1 ["BadTable"] "table" hz hf hx xa_table) (de_var 0)))))))) HdsOk.nil))
  (dss_one (ds_ret de_bool)))
abbrev s_law : Stmt := topS 27
abbrev n_law : List Str := ["script", "feed", "turn", "numbers", "sign", "table", "p", "q", "r", "s", "wrong", "small", "k"]
theorem sc_law : FnScope ["script", "feed", "turn", "numbers", "sign", "table", "p", "q", "r", "s", "wrong", "small", "k"] ["script"] (defScope s_law) := ⟨rfl, rfl, rfl, by decide +kernel, rfl, by decide +kernel, by decide +kernel⟩
theorem w_law {g__law_drawn : Sem} {g__law_signed : Sem} {g__law_told : Sem} {g__law_any_right : Sem} {g__law_refused : Sem} {g__law_fits : Sem} {g__law_draw : Sem} {g__law_table : Sem} {g__law_long_right : Sem} {g_turns_of : SemX} {f : Addr} {cdv : Value} {A : Around} {outer : List PySem.Env} {s : Shared} {H : Hp} {E : XK} {c : Ct} (k__law_drawn : Kn (bodyCx P w K mg base n_law "law" (defScope s_law) f cdv A outer s H E) "_law_drawn" (spF K g__law_drawn)) (k__law_signed : Kn (bodyCx P w K mg base n_law "law" (defScope s_law) f cdv A outer s H E) "_law_signed" (spD K g__law_signed)) (k__law_told : Kn (bodyCx P w K mg base n_law "law" (defScope s_law) f cdv A outer s H E) "_law_told" (spD K g__law_told)) (k__law_any_right : Kn (bodyCx P w K mg base n_law "law" (defScope s_law) f cdv A outer s H E) "_law_any_right" (spD K g__law_any_right)) (k__law_refused : Kn (bodyCx P w K mg base n_law "law" (defScope s_law) f cdv A outer s H E) "_law_refused" (spD K g__law_refused)) (k__law_fits : Kn (bodyCx P w K mg base n_law "law" (defScope s_law) f cdv A outer s H E) "_law_fits" (spD K g__law_fits)) (k__law_draw : Kn (bodyCx P w K mg base n_law "law" (defScope s_law) f cdv A outer s H E) "_law_draw" (spF K g__law_draw)) (k__law_table : Kn (bodyCx P w K mg base n_law "law" (defScope s_law) f cdv A outer s H E) "_law_table" (spD K g__law_table)) (k__law_long_right : Kn (bodyCx P w K mg base n_law "law" (defScope s_law) f cdv A outer s H E) "_law_long_right" (spF K g__law_long_right)) (k_turns_of : KnX (bodyCx P w K mg base n_law "law" (defScope s_law) f cdv A outer s H E) "turns_of" (spX K mg g_turns_of)) (ok : Ok (bodyCx P w K mg base n_law "law" (defScope s_law) f cdv A outer s H E) c) :
  PSs (bodyCx P w K mg base n_law "law" (defScope s_law) f cdv A outer s H E) ((defBody s_law).tail) (tS c (b_law g__law_drawn g__law_signed g__law_told g__law_any_right g__law_refused g__law_fits g__law_draw g__law_table g__law_long_right g_turns_of)) := by
  exact (dss_cons (ds_for PassesOwn.never (ds_range1 de_int) (dg_name 2)
  (dss_cons (ds_set 3 (de_callF 1 k__law_drawn da_nil))
  (dss_cons (ds_for PassesOwn.never (ds_val (de_list (da_cons de_int (da_cons (de_neg de_int) da_nil)))) (dg_name 4)
  (dss_cons (ds_set 5 (de_call k__law_signed (da_cons (de_fz 3) (da_cons (de_fz 4) da_nil))))
  (dss_cons (ds_if (PW.pt (dw_or (dt_not (dt_val (de_call k__law_told (da_cons (de_fz 5) (da_cons (de_fz 4) (da_cons (de_fz 3) da_nil)))))) (dw_or1 (dt_not (dt_val (de_call k__law_any_right (da_cons (de_fz 5) da_nil)))))))
  (dss_one (ds_ret de_bool))
  dss_nil)
  (dss_cons (ds_asg (de_fz 5) (dg_tup (dgs_cons (dg_name 6) (dgs_cons (dg_name 7) (dgs_cons (dg_name 8) (dgs_cons (dg_name 9) dgs_nil))))))
  (dss_one (ds_for PassesOwn.never (ds_val (de_list (da_cons (de_tup (da_cons (de_add (de_var 6) de_int) (da_cons (de_fz 7) (da_cons (de_fz 8) (da_cons (de_fz 9) da_nil))))) (da_cons (de_tup (da_cons (de_fz 6) (da_cons (de_fz 7) (da_cons (de_fz 8) (da_cons (de_add (de_var 9) de_int) da_nil))))) (da_cons (de_tup (da_cons (de_fz 6) (da_cons (de_add (de_var 7) de_int) (da_cons (de_fz 8) (da_cons (de_fz 9) da_nil))))) (da_cons (de_tup (da_cons (de_fz 7) (da_cons (de_fz 6) (da_cons (de_fz 9) (da_cons (de_fz 8) da_nil))))) (da_cons (de_tup (da_cons (de_fz 6) (da_cons (de_fz 7) (da_cons (de_add (de_var 8) de_int) (da_cons (de_fz 9) da_nil))))) da_nil))))))) (dg_name 10)
  (dss_one (ds_if (dt_ne (de_sub (de_mul (de_ix (de_var 10) de_int) (de_ix (de_var 10) de_int)) (de_mul (de_ix (de_var 10) de_int) (de_ix (de_var 10) de_int))) de_int)
  (dss_one (ds_if (dt_not (dt_val (de_call k__law_refused (da_cons (de_fz 10) da_nil))))
  (dss_one (ds_ret de_bool))
  dss_nil))
  (dss_one (ds_if (PW.pt (dw_and (dt_val (de_call k__law_fits (da_cons (de_fz 10) da_nil))) (dw_and1 (dt_not (dt_val (de_call k__law_any_right (da_cons (de_fz 10) da_nil)))))))
  (dss_one (ds_ret de_bool))
  dss_nil))))))))))
  (dss_cons (ds_setLc 11 [("k", 12)] (ds_range1 (de_callF 1 k__law_draw (da_cons de_int da_nil))) (show blkC n_law (defScope s_law) _ _ = true by decide +kernel) (fun _ _ _ _ _ _ _ => (dg_name 12)) (fun _ _ _ _ _ _ _ => (tYesT _)) (fun _ _ _ _ _ _ _ => (de_sub (de_callF 1 ⟨k__law_draw.ex⟩ (da_cons de_int da_nil)) de_int)))
  (dss_cons (ds_set 5 (de_call k__law_table (da_cons (de_fz 11) da_nil)))
  (dss_cons (ds_if (PW.pt (dw_and (dt_val (de_call k__law_fits (da_cons (de_fz 5) da_nil))) (dw_and1 (dt_not (dt_val (de_call k__law_any_right (da_cons (de_fz 5) da_nil)))))))
  (dss_one (ds_ret de_bool))
  dss_nil)
  (dss_one (ds_if (PW.pt (dw_and (dt_not (dt_val (de_call k__law_fits (da_cons (de_fz 5) da_nil)))) (dw_and1 (dt_not (dt_val (de_call k__law_refused (da_cons (de_fz 5) da_nil)))))))
  (dss_one (ds_ret de_bool))
  dss_nil))))))))
  (dss_cons (ds_if (dt_not (dt_val (de_callF 1 k__law_long_right da_nil)))
  (dss_one (ds_ret de_bool))
  dss_nil)
  (dss_cons (ds_set 12 (de_add de_int (de_callF 1 k__law_draw (da_cons de_int da_nil))))
  (dss_cons (ds_for PassesOwn.never (ds_val (de_list (da_cons (de_tup (da_cons de_int (da_cons (de_fz 12) (da_cons de_int (da_cons de_int da_nil))))) (da_cons (de_tup (da_cons de_int (da_cons de_int (da_cons (de_fz 12) (da_cons de_int da_nil))))) (da_cons (de_tup (da_cons de_int (da_cons (de_neg (de_var 12)) (da_cons de_int (da_cons de_int da_nil))))) (da_cons (de_tup (da_cons (de_neg de_int) (da_cons de_int (da_cons (de_fz 12) (da_cons (de_neg de_int) da_nil))))) (da_cons (de_tup (da_cons de_int (da_cons (de_neg de_int) (da_cons de_int (da_cons (de_fz 12) da_nil))))) (da_cons (de_tup (da_cons (de_fz 12) (da_cons (de_neg de_int) (da_cons de_int (da_cons de_int da_nil))))) da_nil)))))))) (dg_name 5)
  (dss_one (ds_if (dt_not (dt_val (de_call k__law_any_right (da_cons (de_fz 5) da_nil))))
  (dss_one (ds_ret de_bool))
  dss_nil)))
  (dss_cons (ds_for PassesOwn.never (ds_val (de_list (da_cons (de_tup (da_cons de_int (da_cons de_int (da_cons de_int (da_cons de_int da_nil))))) (da_cons (de_tup (da_cons de_int (da_cons de_int (da_cons (de_neg de_int) (da_cons de_int da_nil))))) (da_cons (de_tup (da_cons de_int (da_cons (de_neg de_int) (da_cons de_int (da_cons de_int da_nil))))) (da_cons (de_tup (da_cons (de_pow de_int de_int) (da_cons de_int (da_cons (de_neg de_int) (da_cons de_int da_nil))))) (da_cons (de_tup (da_cons de_int (da_cons de_int (da_cons de_int (da_cons de_int da_nil))))) (da_cons (de_tup (da_cons de_int (da_cons de_int (da_cons de_int (da_cons de_int da_nil))))) da_nil)))))))) (dg_name 5)
  (dss_one (ds_if (dt_not (dt_val (de_call k__law_refused (da_cons (de_fz 5) da_nil))))
  (dss_one (ds_ret de_bool))
  dss_nil)))
  (dss_one (ds_ret (de_and (de_eq (de_callX k_turns_of takes0N xok_none (da_cons (de_tup (da_cons de_int (da_cons de_int (da_cons de_int (da_cons de_int da_nil))))) da_nil)) (de_tup (da_cons (de_neg de_int) (da_cons (de_list (da_cons de_int (da_cons de_int da_nil))) da_nil)))) (de_one (de_eq (de_callX k_turns_of takes0N xok_none (da_cons (de_tup (da_cons de_int (da_cons (de_neg de_int) (da_cons de_int (da_cons de_int da_nil))))) da_nil)) (de_tup (da_cons de_int (da_cons (de_list (da_cons de_int da_nil)) da_nil)))))))))))))
end
end K49

/-! The end: each def keeps its promise; what the top has written. -/
namespace K49
open PySem PySem.Spec PyProof.Rows L2 DL

section
variable {P : Program} {w : World} {K : PySem.W.Frag} {mg : Str → Option Value} {base hp : Heap}
theorem fk__law_draw (X : K.In hp) (G : hp.Ns mainGlobals mg) (blt : ∀ x ∈ bltNames, mg x = none) (h : FnAt K "_law_draw" s__law_draw) : FK P w K mg base "_law_draw" 1 (spF K (ar 1 spec__law_draw)) :=
  h.fk X G (fun f fd F => fn_okF F sc__law_draw (fun ds w Q h => congrArg (· + 1) h.1) blt (fun cdv A outer s H E c hr ok => w__law_draw ok) (fun ds w Q h => vc__law_draw ds w Q h.2)) (fun _ _ _ _ _ _ us hl => match us, hl with | [_, _], _ => rfl)
theorem fk__law_fits (X : K.In hp) (G : hp.Ns mainGlobals mg) (blt : ∀ x ∈ bltNames, mg x = none) (h : FnAt K "_law_fits" s__law_fits) : FK P w K mg base "_law_fits" 1 (spD K (ar 1 spec__law_fits)) :=
  h.fk X G (fun f fd F => fn_ok F sc__law_fits (fun ds w Q h => h.1) blt (fun cdv A outer s H E c hr ok => w__law_fits ok) (fun ds w Q h => vc__law_fits ds w Q h.2)) (fun _ _ _ _ _ _ us hl => match us, hl with | [_], _ => rfl)
theorem fk__law_put (X : K.In hp) (G : hp.Ns mainGlobals mg) (blt : ∀ x ∈ bltNames, mg x = none) (h : FnAt K "_law_put" s__law_put) : FK P w K mg base "_law_put" 1 (spD K (ar 3 spec__law_put)) :=
  h.fk X G (fun f fd F => fn_ok F sc__law_put (fun ds w Q h => h.1) blt (fun cdv A outer s H E c hr ok => w__law_put ok) (fun ds w Q h => vc__law_put ds w Q h.2)) (fun _ _ _ _ _ _ us hl => match us, hl with | [_, _, _], _ => rfl)
theorem fk__law_table (X : K.In hp) (G : hp.Ns mainGlobals mg) (blt : ∀ x ∈ bltNames, mg x = none) (h : FnAt K "_law_table" s__law_table) (k__law_put : FK P w K mg base "_law_put" 1 (spD K (ar 3 spec__law_put))) : FK P w K mg base "_law_table" 2 (spD K (ar 1 spec__law_table)) :=
  h.fk X G (fun f fd F => fn_ok F sc__law_table (fun ds w Q h => h.1) blt (fun cdv A outer s H E c hr ok => w__law_table (k__law_put.kn hr (by decide)) ok) (fun ds w Q h => vc__law_table ds w Q h.2)) (fun _ _ _ _ _ _ us hl => match us, hl with | [_], _ => rfl)
theorem fk__law_drawn (X : K.In hp) (G : hp.Ns mainGlobals mg) (blt : ∀ x ∈ bltNames, mg x = none) (h : FnAt K "_law_drawn" s__law_drawn) (k__law_draw : FK P w K mg base "_law_draw" 1 (spF K (ar 1 spec__law_draw))) (k__law_fits : FK P w K mg base "_law_fits" 1 (spD K (ar 1 spec__law_fits))) (k__law_table : FK P w K mg base "_law_table" 2 (spD K (ar 1 spec__law_table))) : FK P w K mg base "_law_drawn" 3 (spF K (ar 0 spec__law_drawn)) :=
  h.fk X G (fun f fd F => fn_okF F sc__law_drawn (fun ds w Q h => congrArg (· + 1) h.1) blt (fun cdv A outer s H E c hr ok => w__law_drawn (k__law_draw.kn hr (by decide)) (k__law_fits.kn hr (by decide)) (k__law_table.kn hr (by decide)) ok) (fun ds w Q h => vc__law_drawn ds w Q h.2)) (fun _ _ _ _ _ _ us hl => match us, hl with | [_], _ => rfl)
theorem fk_rounded_up (X : K.In hp) (G : hp.Ns mainGlobals mg) (blt : ∀ x ∈ bltNames, mg x = none) (h : FnAt K "rounded_up" s_rounded_up) : FK P w K mg base "rounded_up" 1 (spD K (ar 2 spec_rounded_up)) :=
  h.fk X G (fun f fd F => fn_ok F sc_rounded_up (fun ds w Q h => h.1) blt (fun cdv A outer s H E c hr ok => w_rounded_up ok) (fun ds w Q h => vc_rounded_up ds w Q h.2)) (fun _ _ _ _ _ _ us hl => match us, hl with | [_, _], _ => rfl)
theorem fk_minus_list (X : K.In hp) (G : hp.Ns mainGlobals mg) (blt : ∀ x ∈ bltNames, mg x = none) (h : FnAt K "minus_list" s_minus_list) (k_rounded_up : FK P w K mg base "rounded_up" 1 (spD K (ar 2 spec_rounded_up))) : FK P w K mg base "minus_list" 2 (spD K (ar 2 spec_minus_list)) :=
  h.fk X G (fun f fd F => fn_ok F sc_minus_list (fun ds w Q h => h.1) blt (fun cdv A outer s H E c hr ok => w_minus_list (k_rounded_up.kn hr (by decide)) ok) (fun ds w Q h => vc_minus_list ds w Q h.2)) (fun _ _ _ _ _ _ us hl => match us, hl with | [_, _], _ => rfl)
theorem fk_multiplied (X : K.In hp) (G : hp.Ns mainGlobals mg) (blt : ∀ x ∈ bltNames, mg x = none) (h : FnAt K "multiplied" s_multiplied) : FK P w K mg base "multiplied" 1 (spD K (ar 2 spec_multiplied)) :=
  h.fk X G (fun f fd F => fn_ok F sc_multiplied (fun ds w Q h => h.1) blt (fun cdv A outer s H E c hr ok => w_multiplied ok) (fun ds w Q h => vc_multiplied ds w Q h.2)) (fun _ _ _ _ _ _ us hl => match us, hl with | [_, _], _ => rfl)
theorem fk_turned_by (X : K.In hp) (G : hp.Ns mainGlobals mg) (blt : ∀ x ∈ bltNames, mg x = none) (h : FnAt K "turned_by" s_turned_by) (hc_NOTHING : KC K mg "NOTHING" c_NOTHING) (k_multiplied : FK P w K mg base "multiplied" 1 (spD K (ar 2 spec_multiplied))) : FK P w K mg base "turned_by" 2 (spD K (ar 1 spec_turned_by)) :=
  h.fk X G (fun f fd F => fn_ok F sc_turned_by (fun ds w Q h => h.1) blt (fun cdv A outer s H E c hr ok => w_turned_by hc_NOTHING (k_multiplied.kn hr (by decide)) ok) (fun ds w Q h => vc_turned_by ds w Q h.2)) (fun _ _ _ _ _ _ us hl => match us, hl with | [_], _ => rfl)
theorem fk_turns_of (X : K.In hp) (G : hp.Ns mainGlobals mg) (blt : ∀ x ∈ bltNames, mg x = none) (h : FnAt K "turns_of" s_turns_of) (hc_MOST_SIZE : KC K mg "MOST_SIZE" c_MOST_SIZE) (k_minus_list : FK P w K mg base "minus_list" 2 (spD K (ar 2 spec_minus_list))) (k_turned_by : FK P w K mg base "turned_by" 2 (spD K (ar 1 spec_turned_by))) {C_BadTable : Addr} (hC_BadTable : mg "BadTable" = some (.ref C_BadTable)) {fI_BadTable : Addr} (xt_BadTable : PySem.LX_BadTable.Txt K C_BadTable fI_BadTable) : FKX P w K mg base "turns_of" 4 (spX K mg (arX 1 spec_turns_of)) :=
  h.fkX X G (fun f fd F => fn_okX F sc_turns_of (fun ds w Q E h => h.1) blt (fun cdv A outer s H E c xx hr ok hxo => w_turns_of hc_MOST_SIZE (k_minus_list.knX hr (by decide)) (k_turned_by.knX hr (by decide)) hC_BadTable xt_BadTable hr hxo ok) (fun ds w Q E h => vc_turns_of ds w Q E h.2)) (fun _ _ _ _ _ _ us hl => match us, hl with | [_], _ => rfl)
theorem fk__law_whole (X : K.In hp) (G : hp.Ns mainGlobals mg) (blt : ∀ x ∈ bltNames, mg x = none) (h : FnAt K "_law_whole" s__law_whole) : FK P w K mg base "_law_whole" 1 (spD K (ar 1 spec__law_whole)) :=
  h.fk X G (fun f fd F => fn_ok F sc__law_whole (fun ds w Q h => h.1) blt (fun cdv A outer s H E c hr ok => w__law_whole ok) (fun ds w Q h => vc__law_whole ds w Q h.2)) (fun _ _ _ _ _ _ us hl => match us, hl with | [_], _ => rfl)
theorem fk__law_told (X : K.In hp) (G : hp.Ns mainGlobals mg) (blt : ∀ x ∈ bltNames, mg x = none) (h : FnAt K "_law_told" s__law_told) (k_turns_of : FKX P w K mg base "turns_of" 4 (spX K mg (arX 1 spec_turns_of))) (k__law_whole : FK P w K mg base "_law_whole" 1 (spD K (ar 1 spec__law_whole))) (k_turned_by : FK P w K mg base "turned_by" 2 (spD K (ar 1 spec_turned_by))) (k__law_table : FK P w K mg base "_law_table" 2 (spD K (ar 1 spec__law_table))) : FK P w K mg base "_law_told" 5 (spD K (ar 3 spec__law_told)) :=
  h.fk X G (fun f fd F => fn_ok F sc__law_told (fun ds w Q h => h.1) blt (fun cdv A outer s H E c hr ok => w__law_told (k_turns_of.kn hr (by decide)) (k__law_whole.kn hr (by decide)) (k_turned_by.kn hr (by decide)) (k__law_table.kn hr (by decide)) ok) (fun ds w Q h => vc__law_told ds w Q h.2)) (fun _ _ _ _ _ _ us hl => match us, hl with | [_, _, _], _ => rfl)
theorem fk__law_signed (X : K.In hp) (G : hp.Ns mainGlobals mg) (blt : ∀ x ∈ bltNames, mg x = none) (h : FnAt K "_law_signed" s__law_signed) (k__law_table : FK P w K mg base "_law_table" 2 (spD K (ar 1 spec__law_table))) : FK P w K mg base "_law_signed" 3 (spD K (ar 2 spec__law_signed)) :=
  h.fk X G (fun f fd F => fn_ok F sc__law_signed (fun ds w Q h => h.1) blt (fun cdv A outer s H E c hr ok => w__law_signed (k__law_table.kn hr (by decide)) ok) (fun ds w Q h => vc__law_signed ds w Q h.2)) (fun _ _ _ _ _ _ us hl => match us, hl with | [_, _], _ => rfl)
theorem fk__law_long_right (X : K.In hp) (G : hp.Ns mainGlobals mg) (blt : ∀ x ∈ bltNames, mg x = none) (h : FnAt K "_law_long_right" s__law_long_right) (k__law_draw : FK P w K mg base "_law_draw" 1 (spF K (ar 1 spec__law_draw))) (k__law_fits : FK P w K mg base "_law_fits" 1 (spD K (ar 1 spec__law_fits))) (k__law_table : FK P w K mg base "_law_table" 2 (spD K (ar 1 spec__law_table))) (k__law_told : FK P w K mg base "_law_told" 5 (spD K (ar 3 spec__law_told))) (k__law_signed : FK P w K mg base "_law_signed" 3 (spD K (ar 2 spec__law_signed))) : FK P w K mg base "_law_long_right" 6 (spF K (ar 0 spec__law_long_right)) :=
  h.fk X G (fun f fd F => fn_okF F sc__law_long_right (fun ds w Q h => congrArg (· + 1) h.1) blt (fun cdv A outer s H E c hr ok => w__law_long_right (k__law_draw.kn hr (by decide)) (k__law_fits.kn hr (by decide)) (k__law_table.kn hr (by decide)) (k__law_told.kn hr (by decide)) (k__law_signed.kn hr (by decide)) ok) (fun ds w Q h => vc__law_long_right ds w Q h.2)) (fun _ _ _ _ _ _ us hl => match us, hl with | [_], _ => rfl)
theorem fk__law_any_right (X : K.In hp) (G : hp.Ns mainGlobals mg) (blt : ∀ x ∈ bltNames, mg x = none) (h : FnAt K "_law_any_right" s__law_any_right) (k_turns_of : FKX P w K mg base "turns_of" 4 (spX K mg (arX 1 spec_turns_of))) (k__law_whole : FK P w K mg base "_law_whole" 1 (spD K (ar 1 spec__law_whole))) (k__law_signed : FK P w K mg base "_law_signed" 3 (spD K (ar 2 spec__law_signed))) : FK P w K mg base "_law_any_right" 5 (spD K (ar 1 spec__law_any_right)) :=
  h.fk X G (fun f fd F => fn_ok F sc__law_any_right (fun ds w Q h => h.1) blt (fun cdv A outer s H E c hr ok => w__law_any_right (k_turns_of.kn hr (by decide)) (k__law_whole.kn hr (by decide)) (k__law_signed.kn hr (by decide)) ok) (fun ds w Q h => vc__law_any_right ds w Q h.2)) (fun _ _ _ _ _ _ us hl => match us, hl with | [_], _ => rfl)
theorem fk__law_refused (X : K.In hp) (G : hp.Ns mainGlobals mg) (blt : ∀ x ∈ bltNames, mg x = none) (h : FnAt K "_law_refused" s__law_refused) (k_turns_of : FKX P w K mg base "turns_of" 4 (spX K mg (arX 1 spec_turns_of))) {C_FriezeError : Addr} (hC_FriezeError : mg "FriezeError" = some (.ref C_FriezeError)) {C_BadTable : Addr} (hC_BadTable : mg "BadTable" = some (.ref C_BadTable)) {C_BadCuts : Addr} (hC_BadCuts : mg "BadCuts" = some (.ref C_BadCuts)) {C_TooMany : Addr} (hC_TooMany : mg "TooMany" = some (.ref C_TooMany)) (cat_FriezeError : Catches K mg ["BadTable"] ["BadTable"] C_FriezeError) (xi_BadTable : ∀ x C, List.contains ["BadTable"] x = true → mg (Str.ofString x) = some (.ref C) → XCls K C ∧ PySem.W.kitOne K (.ref C) (.ref C_BadTable) = some (List.contains ["BadTable"] x)) (xi_BadCuts : ∀ x C, List.contains ["BadTable"] x = true → mg (Str.ofString x) = some (.ref C) → XCls K C ∧ PySem.W.kitOne K (.ref C) (.ref C_BadCuts) = some (List.contains [] x)) (xi_TooMany : ∀ x C, List.contains ["BadTable"] x = true → mg (Str.ofString x) = some (.ref C) → XCls K C ∧ PySem.W.kitOne K (.ref C) (.ref C_TooMany) = some (List.contains [] x)) (xa_table : ∀ x C, List.contains ["BadTable"] x = true → mg (Str.ofString x) = some (.ref C) → XCls K C ∧ PySem.W.findIn K (.ref C) (Str.ofString "table") = some none) : FK P w K mg base "_law_refused" 5 (spD K (ar 1 spec__law_refused)) :=
  h.fk X G (fun f fd F => fn_ok F sc__law_refused (fun ds w Q h => h.1) blt (fun cdv A outer s H E c hr ok => w__law_refused (k_turns_of.kn hr (by decide)) hC_FriezeError hC_BadTable hC_BadCuts hC_TooMany cat_FriezeError xi_BadTable xi_BadCuts xi_TooMany xa_table ok) (fun ds w Q h => vc__law_refused ds w Q h.2)) (fun _ _ _ _ _ _ us hl => match us, hl with | [_], _ => rfl)
theorem all_mk {l : PySem.W.OpenLaw} {w : World} {K : PySem.W.Frag} {h : Heap} {mg : Str → Option Value} {fa : Addr} (X : K.In h) (G : h.Ns mainGlobals mg) (hfa : mg "law" = some (.ref fa))
    (h__law_feed : FnAt K "_law_feed" s__law_feed)
    (h__law_draw : FnAt K "_law_draw" s__law_draw)
    (h__law_fits : FnAt K "_law_fits" s__law_fits)
    (h__law_put : FnAt K "_law_put" s__law_put)
    (h__law_table : FnAt K "_law_table" s__law_table)
    (h__law_drawn : FnAt K "_law_drawn" s__law_drawn)
    (h_rounded_up : FnAt K "rounded_up" s_rounded_up)
    (h_minus_list : FnAt K "minus_list" s_minus_list)
    (h_multiplied : FnAt K "multiplied" s_multiplied)
    (h_turned_by : FnAt K "turned_by" s_turned_by)
    (h_turns_of : FnAt K "turns_of" s_turns_of)
    (h__law_whole : FnAt K "_law_whole" s__law_whole)
    (h__law_told : FnAt K "_law_told" s__law_told)
    (h__law_signed : FnAt K "_law_signed" s__law_signed)
    (h__law_long_right : FnAt K "_law_long_right" s__law_long_right)
    (h__law_any_right : FnAt K "_law_any_right" s__law_any_right)
    (h__law_refused : FnAt K "_law_refused" s__law_refused)
    (h_law : FnAt K "law" s_law)
    (hc_NOTHING : KC K mg "NOTHING" c_NOTHING)
    (hc_MOST_SIZE : KC K mg "MOST_SIZE" c_MOST_SIZE)
    (hx_BadTable : ∃ C, XAt K "BadTable" C)
    (hx_FriezeError : ∃ C, XAt K "FriezeError" C)
    (hx_BadCuts : ∃ C, XAt K "BadCuts" C)
    (hx_TooMany : ∃ C, XAt K "TooMany" C)
    (ht_BadTable : ∃ C fI, PySem.W.nsIn K mainGlobals "BadTable" = some (some (.ref C)) ∧ PySem.LX_BadTable.Txt K C fI)
    (hs_BadTable_FriezeError : XSub K "BadTable" "FriezeError" true)
    (hs_BadTable_BadTable : XSub K "BadTable" "BadTable" true)
    (hs_BadTable_BadCuts : XSub K "BadTable" "BadCuts" false)
    (hs_BadTable_TooMany : XSub K "BadTable" "TooMany" false)
    (hs_BadCuts_BadCuts : XSub K "BadCuts" "BadCuts" true)
    (hs_TooMany_TooMany : XSub K "TooMany" "TooMany" true)
    (hf_BadTable_table : XFld K "BadTable" (Str.ofString "table"))
    (blt : ∀ x ∈ bltNames, mg x = none) :
    ∃ fd : FuncData, (∀ (s : Shared) (v : Value), BindsTo s fd ⟨[v], []⟩ [("script", v)]) ∧ ∀ base : Heap, K.In base → base.Ns mainGlobals mg → FnOk l.prog w K mg base CX0 7 fa fd ["script"] (spLaw K) := by
  obtain ⟨f, fd, a, F⟩ := h_law.ex
  have e := hfa.symm.trans (PySem.W.mg_of X G a)
  cases e
  refine ⟨fd, fun s v => ?_, fun base hb1 hb2 => ?_⟩
  · obtain ⟨oc, od, kV, doc, pm, an, cdv, ct, osl, e, _⟩ := F.ex
    subst e
    exact .of_eq rfl
  · obtain ⟨C_BadTable, a_BadTable, xc_BadTable⟩ := hx_BadTable
    have hC_BadTable := PySem.W.mg_of X G a_BadTable
    obtain ⟨C_FriezeError, a_FriezeError, xc_FriezeError⟩ := hx_FriezeError
    have hC_FriezeError := PySem.W.mg_of X G a_FriezeError
    obtain ⟨C_BadCuts, a_BadCuts, xc_BadCuts⟩ := hx_BadCuts
    have hC_BadCuts := PySem.W.mg_of X G a_BadCuts
    obtain ⟨C_TooMany, a_TooMany, xc_TooMany⟩ := hx_TooMany
    have hC_TooMany := PySem.W.mg_of X G a_TooMany
    obtain ⟨D_BadTable, fI_BadTable, d_BadTable, xt_BadTable⟩ := ht_BadTable
    obtain rfl := cls_same a_BadTable d_BadTable
    have cat_FriezeError : Catches K mg ["BadTable"] ["BadTable"] C_FriezeError := by
      intro x C h hm
      have h : x ∈ (["BadTable"] : List String) := by
        rcases h with h | h <;> (have h := List.contains_iff_mem.mp h; revert h; simp only [List.mem_cons, List.not_mem_nil, or_false]; intro h; simp only [h, true_or, or_true])
      simp only [List.mem_cons, List.not_mem_nil, or_false] at h
      rcases h with rfl
      · have hm : some (Value.ref C_BadTable) = some (.ref C) := hC_BadTable.symm.trans hm
        cases hm
        exact (xc_FriezeError.exm (hs_BadTable_FriezeError.at a_BadTable a_FriezeError)).trans (by decide)
    have xi_BadTable : ∀ x C, List.contains ["BadTable"] x = true → mg (Str.ofString x) = some (.ref C) → XCls K C ∧ PySem.W.kitOne K (.ref C) (.ref C_BadTable) = some (List.contains ["BadTable"] x) := by
      intro x C h hm
      have h := List.contains_iff_mem.mp h
      simp only [List.mem_cons, List.not_mem_nil, or_false] at h
      rcases h with rfl
      · have hm : some (Value.ref C_BadTable) = some (.ref C) := hC_BadTable.symm.trans hm
        cases hm
        exact ⟨xc_BadTable, (xc_BadTable.kit (hs_BadTable_BadTable.at a_BadTable a_BadTable) (fun _ => rfl)).trans (by decide)⟩
    have xi_BadCuts : ∀ x C, List.contains ["BadTable"] x = true → mg (Str.ofString x) = some (.ref C) → XCls K C ∧ PySem.W.kitOne K (.ref C) (.ref C_BadCuts) = some (List.contains [] x) := by
      intro x C h hm
      have h := List.contains_iff_mem.mp h
      simp only [List.mem_cons, List.not_mem_nil, or_false] at h
      rcases h with rfl
      · have hm : some (Value.ref C_BadTable) = some (.ref C) := hC_BadTable.symm.trans hm
        cases hm
        exact ⟨xc_BadTable, (xc_BadCuts.kit (hs_BadTable_BadCuts.at a_BadTable a_BadCuts) (fun e => by have z := hs_BadTable_BadCuts.at a_BadTable a_BadCuts; have y := hs_BadCuts_BadCuts.at a_BadCuts a_BadCuts; rw [e, y] at z; cases z)).trans (by decide)⟩
    have xi_TooMany : ∀ x C, List.contains ["BadTable"] x = true → mg (Str.ofString x) = some (.ref C) → XCls K C ∧ PySem.W.kitOne K (.ref C) (.ref C_TooMany) = some (List.contains [] x) := by
      intro x C h hm
      have h := List.contains_iff_mem.mp h
      simp only [List.mem_cons, List.not_mem_nil, or_false] at h
      rcases h with rfl
      · have hm : some (Value.ref C_BadTable) = some (.ref C) := hC_BadTable.symm.trans hm
        cases hm
        exact ⟨xc_BadTable, (xc_TooMany.kit (hs_BadTable_TooMany.at a_BadTable a_TooMany) (fun e => by have z := hs_BadTable_TooMany.at a_BadTable a_TooMany; have y := hs_TooMany_TooMany.at a_TooMany a_TooMany; rw [e, y] at z; cases z)).trans (by decide)⟩
    have xa_table : ∀ x C, List.contains ["BadTable"] x = true → mg (Str.ofString x) = some (.ref C) → XCls K C ∧ PySem.W.findIn K (.ref C) (Str.ofString "table") = some none := by
      intro x C h hm
      have h := List.contains_iff_mem.mp h
      simp only [List.mem_cons, List.not_mem_nil, or_false] at h
      rcases h with rfl
      · have hm : some (Value.ref C_BadTable) = some (.ref C) := hC_BadTable.symm.trans hm
        cases hm
        exact ⟨xc_BadTable, hf_BadTable_table.at a_BadTable⟩
    have k__law_feed : FK l.prog w K mg base "_law_feed" 1 (spFeed K) := h__law_feed.fk X G (fun f fd F => feed_fn F sc__law_feed (blt _ (by decide +kernel)) rfl (fun _ _ _ _ => rfl) rfl) (fun _ _ _ _ _ _ us hl => match us, hl with | [_], _ => rfl)
    have k__law_draw := fk__law_draw (P := l.prog) (w := w) (base := base) X G blt h__law_draw
    have k__law_fits := fk__law_fits (P := l.prog) (w := w) (base := base) X G blt h__law_fits
    have k__law_put := fk__law_put (P := l.prog) (w := w) (base := base) X G blt h__law_put
    have k__law_table := fk__law_table (P := l.prog) (w := w) (base := base) X G blt h__law_table k__law_put
    have k__law_drawn := fk__law_drawn (P := l.prog) (w := w) (base := base) X G blt h__law_drawn k__law_draw k__law_fits k__law_table
    have k_rounded_up := fk_rounded_up (P := l.prog) (w := w) (base := base) X G blt h_rounded_up
    have k_minus_list := fk_minus_list (P := l.prog) (w := w) (base := base) X G blt h_minus_list k_rounded_up
    have k_multiplied := fk_multiplied (P := l.prog) (w := w) (base := base) X G blt h_multiplied
    have k_turned_by := fk_turned_by (P := l.prog) (w := w) (base := base) X G blt h_turned_by hc_NOTHING k_multiplied
    have k_turns_of := fk_turns_of (P := l.prog) (w := w) (base := base) X G blt h_turns_of hc_MOST_SIZE k_minus_list k_turned_by hC_BadTable xt_BadTable
    have k__law_whole := fk__law_whole (P := l.prog) (w := w) (base := base) X G blt h__law_whole
    have k__law_told := fk__law_told (P := l.prog) (w := w) (base := base) X G blt h__law_told k_turns_of k__law_whole k_turned_by k__law_table
    have k__law_signed := fk__law_signed (P := l.prog) (w := w) (base := base) X G blt h__law_signed k__law_table
    have k__law_long_right := fk__law_long_right (P := l.prog) (w := w) (base := base) X G blt h__law_long_right k__law_draw k__law_fits k__law_table k__law_told k__law_signed
    have k__law_any_right := fk__law_any_right (P := l.prog) (w := w) (base := base) X G blt h__law_any_right k_turns_of k__law_whole k__law_signed
    have k__law_refused := fk__law_refused (P := l.prog) (w := w) (base := base) X G blt h__law_refused k_turns_of hC_FriezeError hC_BadTable hC_BadCuts hC_TooMany cat_FriezeError xi_BadTable xi_BadCuts xi_TooMany xa_table
    exact law_fn (k := 6) F sc_law blt k__law_feed (by decide) rfl rfl rfl rfl (by first | exact .inl rfl | exact .inr rfl) (fun _ _ _ _ => rfl) (fun cdv A outer s H E c hr ok => w_law (k__law_drawn.kn hr (by decide)) (k__law_signed.kn hr (by decide)) (k__law_told.kn hr (by decide)) (k__law_any_right.kn hr (by decide)) (k__law_refused.kn hr (by decide)) (k__law_fits.kn hr (by decide)) (k__law_draw.kn hr (by decide)) (k__law_table.kn hr (by decide)) (k__law_long_right.kn hr (by decide)) (k_turns_of.kn hr (by decide)) ok) vc_law
end
end K49
open PySem PySem.W PyProof.Rows


theorem PySem.Challenge.cw_ringlands_k49_whole_turns_of_tables_holds : PySem.Challenge.rw_ringlands_k49_whole_turns_of_tables.Holds := by
  w_on; o_law; k_head; (case hw => w_witness2)
  k_fill
  refine L2.walk_of (l := PySem.Challenge.rw_ringlands_k49_whole_turns_of_tables) (n := 63) (k := 7) (x := "script") (CX := fun _ => L2.CX0) (sp := fun w => DL.spLaw _) rfl (by decide) rfl ⟨rfl, by decide, by decide⟩ (fun w h Y => PySem.W.kIn_of Y) ?F (fun _ _ a ns hl _ hS => ⟨a, ns, rfl, hS, hl, fun _ => rfl⟩) (fun _ _ _ _ _ h => h)
  case F =>
    intro w mg fa h KX G hmg
    refine' K49.all_mk KX G hmg ?f__law_feed ?f__law_draw ?f__law_fits ?f__law_put ?f__law_table ?f__law_drawn ?f_rounded_up ?f_minus_list ?f_multiplied ?f_turned_by ?f_turns_of ?f__law_whole ?f__law_told ?f__law_signed ?f__law_long_right ?f__law_any_right ?f__law_refused ?f_law ?c_NOTHING ?c_MOST_SIZE ?x_BadTable ?x_FriezeError ?x_BadCuts ?x_TooMany ?t_BadTable ?s_BadTable_FriezeError ?s_BadTable_BadTable ?s_BadTable_BadCuts ?s_BadTable_TooMany ?s_BadCuts_BadCuts ?s_TooMany_TooMany ?d_BadTable_table ?blt
    (case f__law_feed => (refine' DL.FnAt.mk' ?a ?l ?c ?k; (case a => k_is); (case l => k_is); (case c => k_is); (case k => k_is)))
    (case f__law_draw => (refine' DL.FnAt.mk' ?a ?l ?c ?k; (case a => k_is); (case l => k_is); (case c => k_is); (case k => k_is)))
    (case f__law_fits => (refine' DL.FnAt.mk' ?a ?l ?c ?k; (case a => k_is); (case l => k_is); (case c => k_is); (case k => k_is)))
    (case f__law_put => (refine' DL.FnAt.mk' ?a ?l ?c ?k; (case a => k_is); (case l => k_is); (case c => k_is); (case k => k_is)))
    (case f__law_table => (refine' DL.FnAt.mk' ?a ?l ?c ?k; (case a => k_is); (case l => k_is); (case c => k_is); (case k => k_is)))
    (case f__law_drawn => (refine' DL.FnAt.mk' ?a ?l ?c ?k; (case a => k_is); (case l => k_is); (case c => k_is); (case k => k_is)))
    (case f_rounded_up => (refine' DL.FnAt.mk' ?a ?l ?c ?k; (case a => k_is); (case l => k_is); (case c => k_is); (case k => k_is)))
    (case f_minus_list => (refine' DL.FnAt.mk' ?a ?l ?c ?k; (case a => k_is); (case l => k_is); (case c => k_is); (case k => k_is)))
    (case f_multiplied => (refine' DL.FnAt.mk' ?a ?l ?c ?k; (case a => k_is); (case l => k_is); (case c => k_is); (case k => k_is)))
    (case f_turned_by => (refine' DL.FnAt.mk' ?a ?l ?c ?k; (case a => k_is); (case l => k_is); (case c => k_is); (case k => k_is)))
    (case f_turns_of => (refine' DL.FnAt.mk' ?a ?l ?c ?k; (case a => k_is); (case l => k_is); (case c => k_is); (case k => k_is)))
    (case f__law_whole => (refine' DL.FnAt.mk' ?a ?l ?c ?k; (case a => k_is); (case l => k_is); (case c => k_is); (case k => k_is)))
    (case f__law_told => (refine' DL.FnAt.mk' ?a ?l ?c ?k; (case a => k_is); (case l => k_is); (case c => k_is); (case k => k_is)))
    (case f__law_signed => (refine' DL.FnAt.mk' ?a ?l ?c ?k; (case a => k_is); (case l => k_is); (case c => k_is); (case k => k_is)))
    (case f__law_long_right => (refine' DL.FnAt.mk' ?a ?l ?c ?k; (case a => k_is); (case l => k_is); (case c => k_is); (case k => k_is)))
    (case f__law_any_right => (refine' DL.FnAt.mk' ?a ?l ?c ?k; (case a => k_is); (case l => k_is); (case c => k_is); (case k => k_is)))
    (case f__law_refused => (refine' DL.FnAt.mk' ?a ?l ?c ?k; (case a => k_is); (case l => k_is); (case c => k_is); (case k => k_is)))
    (case f_law => (refine' DL.FnAt.mk' ?a ?l ?c ?k; (case a => k_is); (case l => k_is); (case c => k_is); (case k => k_is)))
    (case c_NOTHING => (refine' DL.KC.tup KX G ?a ?l ?v ?z; (case a => k_is); (case l => k_is); (case v => exact (.cons (.int _ _) (.cons (.int _ _) (.cons (.int _ _) (.cons (.int _ _) .nil))))); (case z => decide)))
    (case c_MOST_SIZE => (refine' DL.KC.int KX G ?a; (case a => k_is)))
    (case x_BadTable => (refine' DL.XAt.mk' ?a ?b0 ?b1 ?b2 ?b3 ?b4 ?b5 ?b6 ?b7 ?b8 ?b9; (case a => k_is); (case b0 => k_is); (case b1 => k_is); (case b2 => k_is); (case b3 => k_is); (case b4 => k_is); (case b5 => k_is); (case b6 => k_is); (case b7 => k_is); (case b8 => k_is); (case b9 => k_is)))
    (case x_FriezeError => (refine' DL.XAt.mk' ?a ?b0 ?b1 ?b2 ?b3 ?b4 ?b5 ?b6 ?b7 ?b8 ?b9; (case a => k_is); (case b0 => k_is); (case b1 => k_is); (case b2 => k_is); (case b3 => k_is); (case b4 => k_is); (case b5 => k_is); (case b6 => k_is); (case b7 => k_is); (case b8 => k_is); (case b9 => k_is)))
    (case x_BadCuts => (refine' DL.XAt.mk' ?a ?b0 ?b1 ?b2 ?b3 ?b4 ?b5 ?b6 ?b7 ?b8 ?b9; (case a => k_is); (case b0 => k_is); (case b1 => k_is); (case b2 => k_is); (case b3 => k_is); (case b4 => k_is); (case b5 => k_is); (case b6 => k_is); (case b7 => k_is); (case b8 => k_is); (case b9 => k_is)))
    (case x_TooMany => (refine' DL.XAt.mk' ?a ?b0 ?b1 ?b2 ?b3 ?b4 ?b5 ?b6 ?b7 ?b8 ?b9; (case a => k_is); (case b0 => k_is); (case b1 => k_is); (case b2 => k_is); (case b3 => k_is); (case b4 => k_is); (case b5 => k_is); (case b6 => k_is); (case b7 => k_is); (case b8 => k_is); (case b9 => k_is)))
    (case t_BadTable => (refine' PySem.LX_BadTable.Txt.mk' ?a ?xL ?hb ?sa ?nb ?a1 ?t1 ?l1 ?c1 ?kC ?eC ?tC; (case a => k_is); (case xL => k_is); (case hb => decide +kernel); (case sa => k_is); (case nb => k_is); (case a1 => k_is); (case t1 => k_is); (case l1 => k_is); (case c1 => k_is); (case kC => k_is); (case eC => k_is); (case tC => k_is)))
    (case s_BadTable_FriezeError => (refine' DL.XSub.mk' ?a ?d ?s; (case a => k_is); (case d => k_is); (case s => first | k_is | rfl)))
    (case s_BadTable_BadTable => (refine' DL.XSub.mk' ?a ?d ?s; (case a => k_is); (case d => k_is); (case s => first | k_is | rfl)))
    (case s_BadTable_BadCuts => (refine' DL.XSub.mk' ?a ?d ?s; (case a => k_is); (case d => k_is); (case s => first | k_is | rfl)))
    (case s_BadTable_TooMany => (refine' DL.XSub.mk' ?a ?d ?s; (case a => k_is); (case d => k_is); (case s => first | k_is | rfl)))
    (case s_BadCuts_BadCuts => (refine' DL.XSub.mk' ?a ?d ?s; (case a => k_is); (case d => k_is); (case s => first | k_is | rfl)))
    (case s_TooMany_TooMany => (refine' DL.XSub.mk' ?a ?d ?s; (case a => k_is); (case d => k_is); (case s => first | k_is | rfl)))
    (case d_BadTable_table => (refine' DL.XFld.mk' ?a ?s; (case a => k_is); (case s => k_is)))
    (case blt => (refine' DL.blt_of KX G ?b0 ?b1 ?b2 ?b3 ?b4 ?b5 ?b6 ?b7 ?b8 ?b9 ?b10 ?b11 ?b12 ?b13 ?b14 ?b15 ?b16; (case b0 => k_is); (case b1 => k_is); (case b2 => k_is); (case b3 => k_is); (case b4 => k_is); (case b5 => k_is); (case b6 => k_is); (case b7 => k_is); (case b8 => k_is); (case b9 => k_is); (case b10 => k_is); (case b11 => k_is); (case b12 => k_is); (case b13 => k_is); (case b14 => k_is); (case b15 => k_is); (case b16 => k_is)))
