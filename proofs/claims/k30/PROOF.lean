import PyProof.Rows.All
import Wide.All
import OpenK.AllK
import Wide.FinOn
import HandS.ForMost
import HandS.Wide
import HandS.Deep
import HandS.TupMul
import HandS.IsInst
import HandS.Style
import HandS.Replace
import HandS.StrMore
import KE.GoesMore
import KE.DatumOrd
import HandS.ExcCtx
import HandS.HotCalls
import HandS.ExcField
import HandS.WordsExc
import KE.KExcIs
import HandS.ExcInit
import HandS.TupLe
import HandS.More
import HandS.Dict
import HandS.WordsDict
import HandS.TupSets
import HandS.TupAny
import HandS.Gcd
import KE.KMathGC
import PySem.Challenge.RW_ringlands_k30_whole_rests_of_rings
set_option Elab.async false
set_option linter.all false
set_option maxRecDepth 100000
set_option maxHeartbeats 4000000

/-! DLCore: Python's plain data, the slots of a frame, and the meaning of the language's pieces over them, as predicate transformers. No model here. -/
namespace DL

/-- plain data; a text is the list of its code points -/
inductive D where
  | none
  | bool (b : Bool)
  | int (i : Int)
  | str (s : List Nat)
  | list (ds : List D)
  | tup (ds : List D)

mutual
/-- == -/
def eqD : D → D → Bool
  | .none, .none => true
  | .bool a, .bool b => a == b
  | .bool a, .int j => (if a then (1 : Int) else 0) == j
  | .int i, .bool b => i == (if b then (1 : Int) else 0)
  | .int i, .int j => i == j
  | .str x, .str y => x == y
  | .list xs, .list ys => eqDs xs ys
  | .tup xs, .tup ys => eqDs xs ys
  | .none, .bool _ | .none, .int _ | .none, .str _ | .none, .list _ | .none, .tup _ => false
  | .bool _, .none | .bool _, .str _ | .bool _, .list _ | .bool _, .tup _ => false
  | .int _, .none | .int _, .str _ | .int _, .list _ | .int _, .tup _ => false
  | .str _, .none | .str _, .bool _ | .str _, .int _ | .str _, .list _ | .str _, .tup _ => false
  | .list _, .none | .list _, .bool _ | .list _, .int _ | .list _, .str _ | .list _, .tup _ => false
  | .tup _, .none | .tup _, .bool _ | .tup _, .int _ | .tup _, .str _ | .tup _, .list _ => false
def eqDs : List D → List D → Bool
  | [], [] => true
  | x :: xs, y :: ys => eqD x y && eqDs xs ys
  | [], _ :: _ => false
  | _ :: _, [] => false
end
/-- data of a depth at most n, texts of code points -/
def okD : Nat → D → Bool
  | _, .none => true
  | _, .bool _ => true
  | _, .int _ => true
  | _, .str s => s.all fun c => decide (c < 1114112)
  | 0, .list _ => false
  | 0, .tup _ => false
  | n + 1, .list ds => ds.all (okD n)
  | n + 1, .tup ds => ds.all (okD n)

/-- the longest list or text -/
abbrev LINE : Nat := 16777216

/-- an error: its class's name, its field -/
structure Exn where
  cls : String
  arg : Option (String × D)
inductive Slot where
  | gone
  /-- a value that nobody changes any more -/
  | val (d : D)
  /-- a list that only this name holds -/
  | own (ds : List D)
  /-- the law's feed -/
  | feed
  /-- the error that an except suite holds -/
  | exn (e : Exn)
/-- the state of the feed -/
structure W where
  sc : List Int
  ix : Int
  big : Int
  seed : Int
structure S where
  v : List Slot
  w : W
/-- what an expression gives: a value; a new list; the list of a name, read only -/
inductive R where
  | val (d : D)
  | own (ds : List D)
  | bor (ds : List D)
def R.d : R → D
  | .val d => d
  | .own ds => .list ds
  | .bor ds => .list ds

def get : List Slot → Nat → Slot
  | [], _ => .gone
  | x :: _, 0 => x
  | _ :: r, n + 1 => get r n
def put : List Slot → Nat → Slot → List Slot
  | [], _, _ => []
  | _ :: r, 0, y => y :: r
  | x :: r, n + 1, y => x :: put r n y
def puts : List Slot → List Nat → Slot → List Slot
  | v, [], _ => v
  | v, i :: r, y => put (puts v r y) i y

abbrev M := S → (R → S → Prop) → Prop
abbrev T := S → (Bool → S → Prop) → Prop
abbrev Ms := S → (List D → S → Prop) → Prop
structure Outs where
  nx : S → Prop
  rt : R → W → Prop
  bk : S → Prop := fun _ => False
  ct : S → Prop := fun _ => False
abbrev MS := S → Outs → Prop
/-- a def's meaning: its arguments, the feed ahead, what is wanted -/
abbrev Sem := List D → W → (R → W → Prop) → Prop

/-! ### expressions -/
def mC (d : D) (s : S) (Q : R → S → Prop) : Prop := Q (.val d) s
/-- a name, read only -/
def mVar (i : Nat) (s : S) (Q : R → S → Prop) : Prop := match get s.v i with
  | .val d => Q (.val d) s
  | .own ds => Q (.bor ds) s
  | _ => False
/-- a name whose value goes elsewhere: nobody changes it from here on -/
def mFzV (i : Nat) (s : S) (Q : R → S → Prop) : Prop := match get s.v i with
  | .val d => Q (.val d) s
  | .own ds => Q (.val (.list ds)) { s with v := put s.v i (.val (.list ds)) }
  | _ => False
/-- feed[0], feed[1], feed[2], feed[3] -/
def mFeed (i k : Nat) (s : S) (Q : R → S → Prop) : Prop := match get s.v i with
  | .feed => (match k with
    | 0 => Q (.val (.list (s.w.sc.map D.int))) s
    | 1 => Q (.val (.int s.w.ix)) s
    | 2 => Q (.val (.int s.w.big)) s
    | 3 => Q (.val (.int s.w.seed)) s
    | _ => False)
  | _ => False
/-- a value for good -/
def frz (r : R) (k : D → Prop) : Prop := match r with
  | .val d => k d
  | .own ds => k (.list ds)
  | .bor _ => False
def msN (s : S) (Q : List D → S → Prop) : Prop := Q [] s
def msC (a : M) (r : Ms) (s : S) (Q : List D → S → Prop) : Prop := a s fun x s1 => frz x fun d => r s1 fun ds s2 => Q (d :: ds) s2
def mBin (f : D → D → (R → Prop) → Prop) (a b : M) (s : S) (Q : R → S → Prop) : Prop := a s fun x s1 => b s1 fun y s2 => f x.d y.d fun r => Q r s2
def mUn (f : D → (R → Prop) → Prop) (a : M) (s : S) (Q : R → S → Prop) : Prop := a s fun x s1 => f x.d fun r => Q r s1

def dAdd : D → D → (R → Prop) → Prop
  | .int i, .int j, k => k (.val (.int (i + j)))
  | .str a, .str b, k => a.length + b.length ≤ LINE ∧ k (.val (.str (a ++ b)))
  | .list a, .list b, k => a.length + b.length ≤ LINE ∧ k (.own (a ++ b))
  | _, _, _ => False
def dSub : D → D → (R → Prop) → Prop
  | .int i, .int j, k => k (.val (.int (i - j)))
  | _, _, _ => False
def dMul : D → D → (R → Prop) → Prop
  | .int i, .int j, k => i.natAbs.log2 + j.natAbs.log2 < 1000000 ∧ k (.val (.int (i * j)))
  | .list a, .int n, k => (-(2 ^ 63) ≤ n ∧ n < 2 ^ 63) ∧ a.length * n.toNat ≤ LINE ∧ k (.own (List.replicate n.toNat a).flatten)
  | .str a, .int n, k => (-(2 ^ 63) ≤ n ∧ n < 2 ^ 63) ∧ a.length * n.toNat ≤ LINE ∧ k (.val (.str (List.replicate n.toNat a).flatten))
  | _, _, _ => False
def dDiv : D → D → (R → Prop) → Prop
  | .int i, .int j, k => 0 < j ∧ j.natAbs.log2 < 9000 ∧ k (.val (.int (i / j)))
  | _, _, _ => False
def dMod : D → D → (R → Prop) → Prop
  | .int i, .int j, k => 0 < j ∧ k (.val (.int (i % j)))
  | _, _, _ => False
def dPow : D → D → (R → Prop) → Prop
  | .int i, .int j, k => (0 ≤ j ∧ j ≤ 1000000 ∧ i.natAbs < 2 ^ 64) ∧ k (.val (.int (i ^ j.toNat)))
  | _, _, _ => False
def dNeg : D → (R → Prop) → Prop
  | .int i, k => k (.val (.int (-i)))
  | _, _ => False
def dCmp (p : Int → Int → Bool) : D → D → (R → Prop) → Prop
  | .int i, .int j, k => k (.val (.bool (p i j)))
  | _, _, _ => False
def dLt : D → D → (R → Prop) → Prop
  | .int i, .int j, k => k (.val (.bool (decide (i < j))))
  | .str a, .str b, k => k (.val (.bool (decide (a < b))))
  | _, _, _ => False
abbrev dLe := dCmp fun i j => decide (i ≤ j)
abbrev dGt := dCmp fun i j => decide (j < i)
abbrev dGe := dCmp fun i j => decide (j ≤ i)
def dEq (x y : D) (k : R → Prop) : Prop := okD 8 x = true ∧ okD 8 y = true ∧ k (.val (.bool (eqD x y)))
def dNe (x y : D) (k : R → Prop) : Prop := okD 8 x = true ∧ okD 8 y = true ∧ k (.val (.bool (!eqD x y)))
def flatD : D → Bool
  | .list _ => false
  | .tup _ => false
  | _ => true
/-- x in ys -/
def dIn (neg : Bool) (x y : D) (k : R → Prop) : Prop := match y with
  | .list ds => okD 8 x = true ∧ ds.all (okD 8) = true ∧ k (.val (.bool (xor neg (ds.any fun d => eqD d x))))
  | .tup ds => flatD x = true ∧ ds.all flatD = true ∧ k (.val (.bool (xor neg (ds.any fun d => eqD d x))))
  | .str s => (match x with
    | .str [c] => k (.val (.bool (xor neg (s.any fun d => d == c))))
    | _ => False)
  | _ => False
def isN : D → Bool
  | .none => true
  | _ => false
def dIsN (d : D) (k : R → Prop) : Prop := k (.val (.bool (isN d)))
def dIsNotN (d : D) (k : R → Prop) : Prop := k (.val (.bool (!isN d)))
/-- is, of two truth values -/
def dIs : D → D → (R → Prop) → Prop
  | .bool a, .bool b, k => k (.val (.bool (decide (a = b))))
  | _, _, _ => False
def dIsNot : D → D → (R → Prop) → Prop
  | .bool a, .bool b, k => k (.val (.bool (!decide (a = b))))
  | _, _, _ => False
/-- truth -/
def truth : D → Bool
  | .none => false
  | .bool b => b
  | .int i => i != 0
  | .str s => !s.isEmpty
  | .list ds => !ds.isEmpty
  | .tup ds => !ds.isEmpty
def okT : D → Prop
  | .str x => x.length ≤ LINE
  | _ => True
def tV (m : M) (s : S) (Q : Bool → S → Prop) : Prop := m s fun r s1 => okT r.d ∧ Q (truth r.d) s1
/-- a value that is True or False -/
def tB (m : M) (s : S) (Q : Bool → S → Prop) : Prop := m s fun r s1 => match r.d with
  | .bool b => Q b s1
  | _ => False
def tAnd (a b : T) (s : S) (Q : Bool → S → Prop) : Prop := a s fun c s1 => if c = true then b s1 Q else Q false s1
def tOr (a b : T) (s : S) (Q : Bool → S → Prop) : Prop := a s fun c s1 => if c = true then Q true s1 else b s1 Q
def tNot (a : T) (s : S) (Q : Bool → S → Prop) : Prop := a s fun c s1 => Q (!c) s1
def mAnd (a b : M) (s : S) (Q : R → S → Prop) : Prop := a s fun r s1 => match r.d with
  | .bool c => if c = true then b s1 Q else Q (.val (.bool false)) s1
  | _ => False
def mOr (a b : M) (s : S) (Q : R → S → Prop) : Prop := a s fun r s1 => match r.d with
  | .bool c => if c = true then Q (.val (.bool true)) s1 else b s1 Q
  | _ => False
def mNot (a : M) (s : S) (Q : R → S → Prop) : Prop := a s fun r s1 => match r.d with
  | .bool c => Q (.val (.bool (!c))) s1
  | _ => False
def mIf (c : T) (a b : M) (s : S) (Q : R → S → Prop) : Prop := c s fun t s1 => if t = true then a s1 Q else b s1 Q
/-- a < b < c -/
def mChain (f g : D → D → (R → Prop) → Prop) (a b c : M) (s : S) (Q : R → S → Prop) : Prop := a s fun x s1 => b s1 fun y s2 => f x.d y.d fun r => match r.d with
  | .bool t => if t = true then c s2 fun z s3 => g y.d z.d fun q => Q q s3 else Q (.val (.bool false)) s2
  | _ => False
def mList (es : Ms) (s : S) (Q : R → S → Prop) : Prop := es s fun ds s1 => ds.length ≤ LINE ∧ Q (.own ds) s1
def mTup (es : Ms) (s : S) (Q : R → S → Prop) : Prop := es s fun ds s1 => ds.length ≤ LINE ∧ Q (.val (.tup ds)) s1
/-- the place that an index of any sign means -/
def ixN (n : Nat) (i : Int) : Option Nat := if 0 ≤ i then (if i < n then some i.toNat else none) else if -(n : Int) ≤ i then some (i + n).toNat else none
def atI {α : Type} (xs : List α) (i : Int) : Option α := (ixN xs.length i).bind fun j => xs[j]?
def dIx : D → D → (R → Prop) → Prop
  | .list ds, .int i, k => ∃ d, atI ds i = some d ∧ k (.val d)
  | .tup ds, .int i, k => ∃ d, atI ds i = some d ∧ k (.val d)
  | .str s, .int i, k => s.length ≤ LINE ∧ ∃ c, atI s i = some c ∧ k (.val (.str [c]))
  | _, _, _ => False
/-- a table of the module: a dict whose keys are texts -/
def lookS : List (List Nat × D) → List Nat → Option D
  | [], _ => none
  | (k, d) :: r, s => if k = s then some d else lookS r s
def dTab (es : List (List Nat × D)) : D → (R → Prop) → Prop
  | .str s, k => ∃ d, lookS es s = some d ∧ k (.val d)
  | _, _ => False
/-- a bound of a slice -/
def sIx (n d : Nat) : Option Int → Nat
  | none => d
  | some v => if v < 0 then (v + (n : Int)).toNat else min v.toNat n
def cut {α : Type} (xs : List α) (lo hi : Option Int) : List α := (xs.drop (sIx xs.length 0 lo)).take (sIx xs.length xs.length hi - sIx xs.length 0 lo)
abbrev MO := S → (Option Int → S → Prop) → Prop
def oN (s : S) (Q : Option Int → S → Prop) : Prop := Q none s
def oS (m : M) (s : S) (Q : Option Int → S → Prop) : Prop := m s fun r s1 => match r.d with
  | .int i => Q (some i) s1
  | _ => False
def mSl (a : M) (lo hi : MO) (s : S) (Q : R → S → Prop) : Prop := a s fun r s1 => lo s1 fun l s2 => hi s2 fun h s3 => match r.d with
  | .list ds => Q (.own (cut ds l h)) s3
  | .str x => x.length ≤ LINE ∧ Q (.val (.str (cut x l h))) s3
  | _ => False
/-- a[::-1] -/
def mRev (a : M) (s : S) (Q : R → S → Prop) : Prop := a s fun r s1 => match r.d with
  | .list ds => Q (.own ds.reverse) s1
  | .str x => x.length ≤ LINE ∧ Q (.val (.str x.reverse)) s1
  | _ => False
def mCall (g : Sem) (es : Ms) (s : S) (Q : R → S → Prop) : Prop := es s fun ds s1 => g ds s1.w fun r _ => Q r s1
/-- a call with the feed ahead of its arguments -/
def mCallF (g : Sem) (i : Nat) (es : Ms) (s : S) (Q : R → S → Prop) : Prop := match get s.v i with
  | .feed => es s fun ds s1 => g ds s1.w fun r w => Q r { s1 with w := w }
  | _ => False

/-! ### built-in functions -/
def dLen : D → (R → Prop) → Prop
  | .list ds, k => k (.val (.int ds.length))
  | .tup ds, k => k (.val (.int ds.length))
  | .str s, k => s.length ≤ LINE ∧ k (.val (.int s.length))
  | _, _ => False
def dAbs : D → (R → Prop) → Prop
  | .int i, k => k (.val (.int (if i < 0 then -i else i)))
  | _, _ => False
def dInt : D → (R → Prop) → Prop
  | .int i, k => k (.val (.int i))
  | .bool b, k => k (.val (.int (if b then 1 else 0)))
  | _, _ => False
def dMin2 : D → D → (R → Prop) → Prop
  | .int i, .int j, k => k (.val (.int (if j < i then j else i)))
  | _, _, _ => False
def dMax2 : D → D → (R → Prop) → Prop
  | .int i, .int j, k => k (.val (.int (if j > i then j else i)))
  | _, _, _ => False
/-- list(x) -/
def dList : D → (R → Prop) → Prop
  | .list ds, k => k (.own ds)
  | .tup ds, k => k (.own ds)
  | _, _ => False
def dTup : D → (R → Prop) → Prop
  | .list ds, k => k (.val (.tup ds))
  | .tup ds, k => k (.val (.tup ds))
  | _, _ => False
/-- all numbers -/
def ints? : List D → Option (List Int)
  | [] => some []
  | .int i :: r => (ints? r).map (i :: ·)
  | _ :: _ => none
def dSum : D → (R → Prop) → Prop
  | .list ds, k => ∃ ns : List Int, ds = ns.map D.int ∧ k (.val (.int ns.sum))
  | _, _ => False
/-- min(xs), max(xs) of whole numbers -/
def dMin : D → (R → Prop) → Prop
  | .list ds, k => ∃ ns : List Int, ds = ns.map D.int ∧ 0 < ns.length ∧ ∀ m, m ∈ ns → (∀ y, y ∈ ns → m ≤ y) → k (.val (.int m))
  | _, _ => False
def dMax : D → (R → Prop) → Prop
  | .list ds, k => ∃ ns : List Int, ds = ns.map D.int ∧ 0 < ns.length ∧ ∀ m, m ∈ ns → (∀ y, y ∈ ns → y ≤ m) → k (.val (.int m))
  | _, _ => False
mutual
/-- the two are of one make, so that < tells -/
def likeD : D → D → Bool
  | .int _, .int _ => true
  | .str _, .str _ => true
  | .list xs, .list ys => likeDs xs ys
  | .tup xs, .tup ys => likeDs xs ys
  | _, _ => false
def likeDs : List D → List D → Bool
  | x :: xs, y :: ys => likeD x y && likeDs xs ys
  | _, _ => true
end
mutual
/-- < of two of one make -/
def ltD : D → D → Bool
  | .int i, .int j => decide (i < j)
  | .str a, .str b => decide (a < b)
  | .list xs, .list ys => ltDs xs ys
  | .tup xs, .tup ys => ltDs xs ys
  | _, _ => false
def ltDs : List D → List D → Bool
  | _, [] => false
  | [], _ :: _ => true
  | x :: xs, y :: ys => if eqD x y = true then ltDs xs ys else ltD x y
end
/-- min(xs), max(xs) of data of one make -/
def dMinG : D → (R → Prop) → Prop
  | .list ds, k => (∀ x, x ∈ ds → ∀ y, y ∈ ds → likeD x y = true) ∧ ds.all (okD 8) = true ∧ 0 < ds.length ∧ ∀ m, m ∈ ds → (∀ y, y ∈ ds → ltD y m = false) → k (.val m)
  | _, _ => False
def dMaxG : D → (R → Prop) → Prop
  | .list ds, k => (∀ x, x ∈ ds → ∀ y, y ∈ ds → likeD x y = true) ∧ ds.all (okD 8) = true ∧ 0 < ds.length ∧ ∀ m, m ∈ ds → (∀ y, y ∈ ds → ltD m y = false) → k (.val m)
  | _, _ => False
/-- all([..]) of truth values -/
def dAll : D → (R → Prop) → Prop
  | .list ds, k => ∃ bs : List Bool, ds = bs.map D.bool ∧ k (.val (.bool (bs.all id)))
  | _, _ => False
/-- the first place of c -/
def fstIx (c : Nat) : List Nat → Nat
  | [] => 0
  | x :: r => if x = c then 0 else fstIx c r + 1
/-- s.split(c) -/
def splitC (c : Nat) : List Nat → List (List Nat)
  | [] => [[]]
  | x :: r => if x = c then [] :: splitC c r else match splitC c r with
    | [] => [[x]]
    | p :: ps => (x :: p) :: ps
def joinS (sep : List Nat) : List (List Nat) → List Nat
  | [] => []
  | [p] => p
  | p :: q :: r => p ++ (sep ++ joinS sep (q :: r))
def dIndexS : D → D → (R → Prop) → Prop
  | .str s, .str [c], k => c ∈ s ∧ k (.val (.int (fstIx c s)))
  | _, _, _ => False
/-- s.index(c, i) -/
def dIndexFrom : D → D → D → (R → Prop) → Prop
  | .str s, .str [c], .int i, k => 0 ≤ i ∧ ∃ j : Nat, i ≤ j ∧ s[j]? = some c ∧ (∀ m : Nat, i ≤ m → m < j → s[m]? ≠ some c) ∧ k (.val (.int (j : Nat)))
  | _, _, _, _ => False
def dIndexL : D → D → (R → Prop) → Prop
  | .list ds, x, k => okD 8 x = true ∧ okD 9 (.list ds) = true ∧ ∃ j z, ds[j]? = some z ∧ eqD z x = true ∧ (∀ i y, i < j → ds[i]? = some y → eqD y x = false) ∧ k (.val (.int (j : Nat)))
  | _, _, _ => False
def dCount : D → D → (R → Prop) → Prop
  | .str s, .str [c], k => s.length + 2 ≤ LINE ∧ c < 256 ∧ k (.val (.int ((splitC c s).length - 1 : Nat)))
  | _, _, _ => False
def dSplit : D → D → (R → Prop) → Prop
  | .str s, .str [c], k => s.length + 2 ≤ LINE ∧ c < 256 ∧ k (.own ((splitC c s).map D.str))
  | _, _, _ => False
def dJoin : D → D → (R → Prop) → Prop
  | .str a, .list ds, k => ∃ ls : List (List Nat), ds = ls.map D.str ∧ (ls.map List.length).sum + ls.length * a.length ≤ LINE ∧ k (.val (.str (joinS a ls)))
  | _, _, _ => False
/-- a[:k:-1] of a list -/
def mRevTo (a : M) (k : Nat) (s : S) (Q : R → S → Prop) : Prop := a s fun r s1 => match r.d with
  | .list ds => k < ds.length ∧ Q (.own (ds.drop (k + 1)).reverse) s1
  | _ => False
/-- methods of texts, of lists -/
def isS (d : D) (k : Prop) : Prop := match d with
  | .str _ => k
  | _ => False
def isL (d : D) (k : Prop) : Prop := match d with
  | .list _ => k
  | _ => False
def mMS (f : D → D → (R → Prop) → Prop) (a b : M) (s : S) (Q : R → S → Prop) : Prop := a s fun x s1 => isS x.d (b s1 fun y s2 => f x.d y.d fun r => Q r s2)
def mML (f : D → D → (R → Prop) → Prop) (a b : M) (s : S) (Q : R → S → Prop) : Prop := a s fun x s1 => isL x.d (b s1 fun y s2 => f x.d y.d fun r => Q r s2)
/-- a text's method of two arguments -/
def mMS2 (f : D → D → D → (R → Prop) → Prop) (a b e : M) (s : S) (Q : R → S → Prop) : Prop := a s fun x s1 => isS x.d (b s1 fun y s2 => e s2 fun z s3 => f x.d y.d z.d fun r => Q r s3)
inductive Ty where
  | int | bool | str | list | tuple
def isTy : D → Ty → Bool
  | .int _, .int => true
  | .bool _, .int => true
  | .bool _, .bool => true
  | .str _, .str => true
  | .list _, .list => true
  | .tup _, .tuple => true
  | _, _ => false
def mIsI (a : M) (t : Ty) (s : S) (Q : R → S → Prop) : Prop := a s fun r s1 => Q (.val (.bool (isTy r.d t))) s1

/-! ### targets -/
/-- what a target does with a value for good -/
abbrev Gt := D → S → (S → Prop) → Prop
def gV (i : Nat) (d : D) (s : S) (Q : S → Prop) : Prop := Q { s with v := put s.v i (.val d) }
def gSkip (_ : D) (s : S) (Q : S → Prop) : Prop := Q s
abbrev Gts := List D → S → (S → Prop) → Prop
def gsN (ds : List D) (s : S) (Q : S → Prop) : Prop := match ds with
  | [] => Q s
  | _ => False
def gsC (g : Gt) (r : Gts) (ds : List D) (s : S) (Q : S → Prop) : Prop := match ds with
  | d :: ds => g d s fun s1 => r ds s1 Q
  | [] => False
def gT (n : Nat) (r : Gts) (d : D) (s : S) (Q : S → Prop) : Prop := match d with
  | .tup ds => ds.length = n ∧ r ds s Q
  | _ => False

/-! ### what is walked -/
abbrev Src := S → (List D → S → Prop) → Prop
/-- a list, a tuple, a text -/
def srcV (m : M) (s : S) (Q : List D → S → Prop) : Prop := m s fun r s1 => match r with
  | .val (.list ds) => Q ds s1
  | .val (.tup ds) => Q ds s1
  | .val (.str x) => Q (x.map fun c => .str [c]) s1
  | .own ds => Q ds s1
  | _ => False
def ran (lo : Int) (n : Nat) : List D := (List.range n).map fun (k : Nat) => D.int (lo + k)
def srcR1 (m : M) (s : S) (Q : List D → S → Prop) : Prop := m s fun r s1 => match r.d with
  | .int j => (-(2 ^ 62) ≤ j ∧ j < 2 ^ 62) ∧ Q (ran 0 j.toNat) s1
  | _ => False
def srcR2 (a b : M) (s : S) (Q : List D → S → Prop) : Prop := a s fun x s1 => b s1 fun y s2 => match x.d, y.d with
  | .int i, .int j => (-(2 ^ 62) ≤ i ∧ i < 2 ^ 62 ∧ -(2 ^ 62) ≤ j ∧ j < 2 ^ 62) ∧ Q (ran i (j - i).toNat) s2
  | _, _ => False
def enumFrom (i : Nat) : List D → List D
  | [] => []
  | d :: r => .tup [.int i, d] :: enumFrom (i + 1) r
def srcEnum (m : M) (s : S) (Q : List D → S → Prop) : Prop := m s fun r s1 => match r with
  | .val (.list ds) => Q (enumFrom 0 ds) s1
  | .val (.str x) => Q (enumFrom 0 (x.map fun c => .str [c])) s1
  | .own ds => Q (enumFrom 0 ds) s1
  | _ => False
def srcRev (m : M) (s : S) (Q : List D → S → Prop) : Prop := m s fun r s1 => match r with
  | .val (.list ds) => Q ds.reverse s1
  | .own ds => Q ds.reverse s1
  | _ => False

/-! ### comprehensions -/
/-- the slots of the comprehension's own names are empty ahead of each turn -/
def compL (own : List Nat) (g : Gt) (t : T) (e : M) : List D → List D → S → (List D → S → Prop) → Prop
  | [], acc, s, Q => Q acc s
  | d :: r, acc, s, Q => g d { s with v := puts s.v own .gone } fun s1 => t s1 fun c s2 =>
      if c = true then e s2 fun x s3 => frz x fun y => acc.length < LINE ∧ compL own g t e r (acc ++ [y]) s3 Q
      else compL own g t e r acc s2 Q
def tYes (s : S) (Q : Bool → S → Prop) : Prop := Q true s
/-- behind it the own names' slots are as they were (but for an own list, which is lost) -/
def back (v0 : List Slot) : List Slot → List Nat → List Slot
  | v, [] => v
  | v, i :: r => put (back v0 v r) i (match get v0 i with
    | .val d => .val d
    | _ => .gone)
def mComp (own : List Nat) (src : Src) (g : Gt) (t : T) (e : M) (s : S) (Q : R → S → Prop) : Prop := src s fun ds s1 => compL own g t e ds [] s1 fun acc s2 => Q (.own acc) { s2 with v := back s1.v s2.v own }

/-! ### statements -/
def sNil (s : S) (O : Outs) : Prop := O.nx s
def sSeq (a b : MS) (s : S) (O : Outs) : Prop := a s { O with nx := fun s1 => b s1 O }
def sSet (i : Nat) (m : M) (s : S) (O : Outs) : Prop := m s fun r s1 => match r with
  | .val d => O.nx { s1 with v := put s1.v i (.val d) }
  | .own ds => O.nx { s1 with v := put s1.v i (.own ds) }
  | .bor _ => False
/-- a target of another form -/
def sAsg (g : Gt) (m : M) (s : S) (O : Outs) : Prop := m s fun r s1 => frz r fun d => g d s1 O.nx
/-- i, j = a, b -/
def sPar (i j : Nat) (a b : M) (s : S) (O : Outs) : Prop := a s fun x s1 => frz x fun d => b s1 fun y s2 => frz y fun e => O.nx { s2 with v := put (put s2.v i (.val d)) j (.val e) }
def retK (r : R) (rt : R → W → Prop) (w : W) : Prop := match r with
  | .val d => rt (.val d) w
  | .own ds => rt (.own ds) w
  | .bor ds => rt (.own ds) w
def sRet (m : M) (s : S) (O : Outs) : Prop := m s fun r s1 => retK r O.rt s1.w
def sRetN (s : S) (O : Outs) : Prop := O.rt (.val .none) s.w
def sIf (c : T) (a b : MS) (s : S) (O : Outs) : Prop := c s fun t s1 => if t = true then a s1 O else b s1 O
def sPass (s : S) (O : Outs) : Prop := O.nx s
def sBrk (s : S) (O : Outs) : Prop := O.bk s
def sCont (s : S) (O : Outs) : Prop := O.ct s
def sNever (_ : S) (_ : Outs) : Prop := False
def sExpr (m : M) (s : S) (O : Outs) : Prop := m s fun _ s1 => O.nx s1
def sAug (i : Nat) (f : Int → Int → Int) (m : M) (s : S) (O : Outs) : Prop := match get s.v i with
  | .val (.int x) => m s fun y s1 => (match y.d with
    | .int y => O.nx { s1 with v := put s1.v i (.val (.int (f x y))) }
    | _ => False)
  | _ => False
/-- slot i holds an own list -/
def ownAt (s : S) (i : Nat) (k : List D → Prop) : Prop := match get s.v i with
  | .own ds => k ds
  | _ => False
/-- slot i holds the feed -/
def feedAt (s : S) (i : Nat) (k : Prop) : Prop := match get s.v i with
  | .feed => k
  | _ => False
def intD (d : D) (k : Int → Prop) : Prop := match d with
  | .int n => k n
  | _ => False
/-- xs.append(e), xs an own list at slot i -/
def sApp (i : Nat) (m : M) (s : S) (O : Outs) : Prop := ownAt s i fun _ => m s fun r s1 => frz r fun d => ownAt s1 i fun ds => ds.length < LINE ∧ O.nx { s1 with v := put s1.v i (.own (ds ++ [d])) }
/-- xs.extend(e) -/
def sExt (i : Nat) (m : M) (s : S) (O : Outs) : Prop := ownAt s i fun _ => m s fun r s1 => ownAt s1 i fun ds => match r.d with
  | .list es => ds.length + es.length ≤ LINE ∧ O.nx { s1 with v := put s1.v i (.own (ds ++ es)) }
  | _ => False
/-- xs[k] = e -/
def sSetI (i : Nat) (k m : M) (s : S) (O : Outs) : Prop := m s fun r s1 => frz r fun d => ownAt s1 i fun _ => k s1 fun x s2 => ownAt s2 i fun ds => intD x.d fun n => ∃ j, ixN ds.length n = some j ∧ O.nx { s2 with v := put s2.v i (.own (ds.set j d)) }
/-- xs[k] op= e -/
def sAugI (i : Nat) (f : Int → Int → Int) (k m : M) (s : S) (O : Outs) : Prop := ownAt s i fun _ => k s fun x s1 => ownAt s1 i fun ds => intD x.d fun n => ∃ j z, ixN ds.length n = some j ∧ ds[j]? = some (.int z) ∧
  m s1 fun y s2 => ownAt s2 i fun ds2 => intD y.d fun y => ds2.length = ds.length ∧ O.nx { s2 with v := put s2.v i (.own (ds2.set j (.int (f z y)))) }
/-- feed[1] += e, feed[k] = e -/
def W.set (w : W) (k : Nat) (n : Int) : W := match k with
  | 1 => { w with ix := n }
  | 2 => { w with big := n }
  | _ => { w with seed := n }
def W.at (w : W) (k : Nat) : Int := match k with
  | 1 => w.ix
  | 2 => w.big
  | _ => w.seed
def sFeed (i k : Nat) (m : M) (s : S) (O : Outs) : Prop := (1 ≤ k ∧ k ≤ 3) ∧ m s fun r s1 => feedAt s1 i (intD r.d fun n => O.nx { s1 with w := s1.w.set k n })
/-- feed[k] += n, n a constant -/
def sFeedA (i k : Nat) (n : Int) (s : S) (O : Outs) : Prop := (1 ≤ k ∧ k ≤ 3) ∧ feedAt s i (O.nx { s with w := s.w.set k (s.w.at k + n) })
/-- xs.pop(k) -/
def popD (i : Nat) (k : M) (s : S) (Q : D → S → Prop) : Prop := ownAt s i fun _ => k s fun x s1 => ownAt s1 i fun ds => intD x.d fun n => ∃ j d, ixN ds.length n = some j ∧ ds[j]? = some d ∧ (-(2 ^ 63) ≤ n ∧ n < 2 ^ 63) ∧ Q d { s1 with v := put s1.v i (.own (ds.eraseIdx j)) }
def sPop (i : Nat) (k : M) (s : S) (O : Outs) : Prop := popD i k s fun _ s1 => O.nx s1
/-- x = x + xs.pop(k), x a text -/
def sAddPop (j i : Nat) (k : M) (s : S) (O : Outs) : Prop := match get s.v j with
  | .val (.str a) => popD i k s fun d s1 => (match d with
    | .str b => a.length + b.length ≤ LINE ∧ O.nx { s1 with v := put s1.v j (.val (.str (a ++ b))) }
    | _ => False)
  | _ => False
def forL (g : Gt) (body : MS) : List D → S → Outs → Prop
  | [], s, O => O.nx s
  | d :: r, s, O => g d s fun s1 => body s1 { nx := fun s2 => forL g body r s2 O, ct := fun s2 => forL g body r s2 O, bk := O.nx, rt := O.rt }
def sFor (src : Src) (g : Gt) (body : MS) (s : S) (O : Outs) : Prop := src s fun ds s1 => forL g body ds s1 O
def sWhile (c : T) (body : MS) (s : S) (O : Outs) : Prop := ∃ I : Nat → S → Prop, (∃ m, I m s) ∧ ∀ m s, I m s → c s fun t s1 =>
  if t = true then body s1 { nx := fun s2 => ∃ m', m' < m ∧ I m' s2, ct := fun s2 => ∃ m', m' < m ∧ I m' s2, bk := O.nx, rt := O.rt } else O.nx s1

/-- a def's body as a meaning: n names in all -/
def run (n : Nat) (body : MS) (ds : List D) (w : W) (Q : R → W → Prop) : Prop := body ⟨ds.map Slot.val ++ List.replicate (n - ds.length) .gone, w⟩ { nx := fun s => Q (.val .none) s.w, rt := Q }
/-- .. whose first parameter is the feed -/
def runF (n : Nat) (body : MS) (ds : List D) (w : W) (Q : R → W → Prop) : Prop := body ⟨.feed :: ds.map Slot.val ++ List.replicate (n - 1 - ds.length) .gone, w⟩ { nx := fun s => Q (.val .none) s.w, rt := Q }
def ar (n : Nat) (g : Sem) : Sem := fun ds w Q => ds.length = n ∧ g ds w Q
def lawTrue (n : Nat) (body : MS) (ns : List Int) : Prop := body ⟨.gone :: .feed :: List.replicate (n - 2) .gone, ⟨ns, 0, 0, 1⟩⟩ { nx := fun _ => False, rt := fun r _ => r = .val (.bool true) }
theorem enum_len : ∀ (n : Nat) (ds : List D), (enumFrom n ds).length = ds.length
  | _, [] => rfl
  | n, _ :: r => congrArg (· + 1) (enum_len (n + 1) r)
theorem enum_get : ∀ (n : Nat) (ds : List D) (i : Nat) (d : D), (enumFrom n ds)[i]? = some d → ∃ z, ds[i]? = some z ∧ d = .tup [.int ((n + i : Nat) : Int), z]
  | n, [], i, d, h => by simp [enumFrom] at h
  | n, x :: r, 0, d, h => ⟨x, rfl, by simp only [enumFrom, List.getElem?_cons_zero, Option.some.injEq] at h; rw [← h]; rfl⟩
  | n, x :: r, i + 1, d, h => by
    obtain ⟨z, h1, h2⟩ := enum_get (n + 1) r i d h
    exact ⟨z, h1, by rw [h2, show n + 1 + i = n + (i + 1) by omega]⟩

/-! ### errors -/
/-- a def's meaning that may raise: its arguments, the feed ahead, what is wanted, what is wanted of an error -/
abbrev SemX := List D → W → (R → W → Prop) → (Exn → W → Prop) → Prop
/-- a call of a def that may raise; x: what is wanted of an error here -/
def mCallX (g : SemX) (x : Exn → S → Prop) (es : Ms) (s : S) (Q : R → S → Prop) : Prop := es s fun ds s1 => g ds s1.w (fun r _ => Q r s1) fun e _ => x e s1
def sRaise0 (x : Exn → S → Prop) (c : String) (s : S) (_ : Outs) : Prop := x ⟨c, none⟩ s
def sRaise1 (x : Exn → S → Prop) (c f : String) (m : M) (s : S) (_ : Outs) : Prop := m s fun r s1 => frz r fun d => x ⟨c, some (f, d)⟩ s1
/-- the suites of a try, one after the other: the names of the classes that are caught, the slot of the name, the suite -/
structure Hd where
  yes : List String
  i : Nat
  nm : Bool
  suite : MS
def Slot.isExn : Slot → Bool
  | .exn _ => true
  | _ => false
/-- behind a suite: the name is gone, no error is held -/
def unheld (h : Hd) (K : S → Prop) (s : S) : Prop := if h.nm = true then (put s.v h.i .gone).all (fun x => !x.isExn) = true ∧ K { s with v := put s.v h.i .gone } else s.v.all (fun x => !x.isExn) = true ∧ K s
def unslot (h : Hd) (O : Outs) : Outs := { nx := unheld h O.nx, rt := O.rt, bk := unheld h O.bk, ct := unheld h O.ct }
def caught (no : List String) : List Hd → Exn → S → Outs → Prop
  | [], _, _, _ => False
  | h :: r, e, s, O => if h.yes.contains e.cls = true then h.suite (if h.nm = true then { s with v := put s.v h.i (.exn e) } else s) (unslot h O) else no.contains e.cls = true ∧ caught no r e s O
/-- try: .. except ..; all: the classes that are known -/
def sTry (all : List String) (body : (Exn → S → Prop) → MS) (hs : List Hd) (s : S) (O : Outs) : Prop := body (fun e s1 => caught all hs e s1 O) s O
/-- e.f, e the error of slot i -/
def mXArg (i : Nat) (all : List String) (f : String) (s : S) (Q : R → S → Prop) : Prop := match get s.v i with
  | .exn e => all.contains e.cls = true ∧ ∃ d, e.arg = some (f, d) ∧ Q (.val d) s
  | _ => False
/-- isinstance(e, C) -/
def mXIs (i : Nat) (all yes : List String) (s : S) (Q : R → S → Prop) : Prop := match get s.v i with
  | .exn e => all.contains e.cls = true ∧ Q (.val (.bool (yes.contains e.cls))) s
  | _ => False
/-- a body that may raise -/
def runX (n : Nat) (body : (Exn → S → Prop) → MS) (ds : List D) (w : W) (Q : R → W → Prop) (E : Exn → W → Prop) : Prop := body (fun e s => E e s.w) ⟨ds.map Slot.val ++ List.replicate (n - ds.length) .gone, w⟩ { nx := fun s => Q (.val .none) s.w, rt := Q }
def arX (n : Nat) (g : SemX) : SemX := fun ds w Q E => ds.length = n ∧ g ds w Q E
/-- an argument that is only looked at: a name; what leaves all as it is -/
inductive Ar where
  | nm (i : Nat)
  | ex (m : M)
def peekA (v : List Slot) (i : Nat) : Option D := match get v i with
  | .val d => some d
  | .own ds => some (.list ds)
  | _ => none
def evA (a : Ar) (s : S) (k : D → Prop) : Prop := match a with
  | .nm i => ∃ d, peekA s.v i = some d ∧ k d
  | .ex m => m s fun r s1 => s1 = s ∧ frz r k
def evAs : List Ar → S → (List D → Prop) → Prop
  | [], _, k => k []
  | a :: r, s, k => evA a s fun d => evAs r s fun ds => k (d :: ds)
/-- a call whose result holds nothing of the arguments -/
def mCallB (g : Sem) (as : List Ar) (s : S) (Q : R → S → Prop) : Prop := evAs as s fun ds => g ds s.w fun r _ => match r with
  | .val d => flatD d = true ∧ Q (.val d) s
  | _ => False
end DL

/-! DLS1: the pieces' meanings hold in the model: expressions. -/
namespace DL
open PySem PySem.Spec PyProof.Rows L2

abbrev sT (s : List Nat) : Str := ⟨s.toArray⟩
abbrev St := L2.St
mutual
/-- the value v, read in G, is the data d -/
inductive Dg (K : PySem.W.Frag) (G : Hp) : V → D → Prop
  | non : Dg K G .non .none
  | bl (b : Bool) : Dg K G (.bl b) (.bool b)
  | int (i : Int) : Dg K G (.int i) (.int i)
  | str (s : List Nat) : Dg K G (.str (sT s)) (.str s)
  | lst {a : Addr} {xs : List V} {ds : List D} : G a = some (.lst xs) → Dgs K G xs ds → Dg K G (.ref a) (.list ds)
  | tup {a : Addr} {xs : List V} {ds : List D} : SqT K G a xs → Dgs K G xs ds → Dg K G (.ref a) (.tup ds)
inductive Dgs (K : PySem.W.Frag) (G : Hp) : List V → List D → Prop
  | nil : Dgs K G [] []
  | cons {v : V} {vs : List V} {d : D} {ds : List D} : Dg K G v d → Dgs K G vs ds → Dgs K G (v :: vs) (d :: ds)
end
theorem same_seqT {K : PySem.W.Frag} {H H' : Hp} {a : Addr} {xs : List V} (e : Same H H') (h : SqT K H a xs) : SqT K H' a xs := by
  rcases h with (h | ⟨o, h⟩) | h
  · exact .inl (.inl (e _ _ h))
  · exact .inl (.inr ⟨o, e _ _ h⟩)
  · exact .inr h
mutual
theorem Dg.mono {K : PySem.W.Frag} {G G' : Hp} (e : Same G G') : ∀ {v : V} {d : D}, Dg K G v d → Dg K G' v d
  | _, _, .non => .non
  | _, _, .bl b => .bl b
  | _, _, .int i => .int i
  | _, _, .str s => .str s
  | _, _, .lst h r => .lst (e _ _ h) (Dgs.mono e r)
  | _, _, .tup h r => .tup (same_seqT e h) (Dgs.mono e r)
theorem Dgs.mono {K : PySem.W.Frag} {G G' : Hp} (e : Same G G') : ∀ {v : List V} {d : List D}, Dgs K G v d → Dgs K G' v d
  | _, _, .nil => .nil
  | _, _, .cons h r => .cons (Dg.mono e h) (Dgs.mono e r)
end
section
variable {K : PySem.W.Frag} {G : Hp}
theorem Dgs.length : ∀ {v : List V} {d : List D}, Dgs K G v d → v.length = d.length
  | _, _, .nil => rfl
  | _, _, .cons _ r => congrArg (· + 1) r.length
theorem Dgs.append : ∀ {v w : List V} {d e : List D}, Dgs K G v d → Dgs K G w e → Dgs K G (v ++ w) (d ++ e)
  | _, _, _, _, .nil, h => h
  | _, _, _, _, .cons h r, q => .cons h (Dgs.append r q)
theorem Dgs.get : ∀ {v : List V} {d : List D} {i : Nat} {x : D}, Dgs K G v d → d[i]? = some x → ∃ u, v[i]? = some u ∧ Dg K G u x
  | _, _, _, _, .nil, e => by simp at e
  | _, _, 0, _, .cons h _, e => by simp at e; subst e; exact ⟨_, rfl, h⟩
  | _, _, i + 1, x, .cons _ r, e => by
    obtain ⟨u, h1, h2⟩ := Dgs.get (i := i) (x := x) r (by simpa using e)
    exact ⟨u, by simpa using h1, h2⟩
theorem Dgs.get' : ∀ {v : List V} {d : List D} {i : Nat} {u : V}, Dgs K G v d → v[i]? = some u → ∃ x, d[i]? = some x ∧ Dg K G u x
  | _, _, _, _, .nil, e => by simp at e
  | _, _, 0, _, .cons h _, e => by simp at e; subst e; exact ⟨_, rfl, h⟩
  | _, _, i + 1, x, .cons _ r, e => by
    obtain ⟨u, h1, h2⟩ := Dgs.get' (i := i) (u := x) r (by simpa using e)
    exact ⟨u, by simpa using h1, h2⟩
theorem Dgs.take : ∀ {v : List V} {d : List D} (n : Nat), Dgs K G v d → Dgs K G (v.take n) (d.take n)
  | _, _, 0, _ => .nil
  | _, _, _ + 1, .nil => .nil
  | _, _, n + 1, .cons r t => .cons r (Dgs.take n t)
theorem Dgs.drop : ∀ {v : List V} {d : List D} (n : Nat), Dgs K G v d → Dgs K G (v.drop n) (d.drop n)
  | _, _, 0, r => r
  | _, _, _ + 1, .nil => .nil
  | _, _, n + 1, .cons _ t => Dgs.drop n t
theorem Dgs.set : ∀ {v : List V} {d : List D} {u : V} {x : D} (i : Nat), Dgs K G v d → Dg K G u x → Dgs K G (v.set i u) (d.set i x)
  | _, _, _, _, _, .nil, _ => .nil
  | _, _, _, _, 0, .cons _ t, q => .cons q t
  | _, _, _, _, i + 1, .cons r t, q => .cons r (Dgs.set i t q)
theorem Dgs.eraseIdx : ∀ {v : List V} {d : List D} (i : Nat), Dgs K G v d → Dgs K G (v.eraseIdx i) (d.eraseIdx i)
  | _, _, _, .nil => .nil
  | _, _, 0, .cons _ t => t
  | _, _, i + 1, .cons r t => .cons r (Dgs.eraseIdx i t)
theorem Dgs.reverse : ∀ {v : List V} {d : List D}, Dgs K G v d → Dgs K G v.reverse d.reverse
  | _, _, .nil => .nil
  | _, _, .cons r t => by
    rw [List.reverse_cons, List.reverse_cons]
    exact (Dgs.reverse t).append (.cons r .nil)
theorem Dgs.rep {v : List V} {d : List D} (h : Dgs K G v d) : ∀ n : Nat, Dgs K G (List.replicate n v).flatten (List.replicate n d).flatten
  | 0 => .nil
  | n + 1 => by
    rw [List.replicate_succ, List.replicate_succ, List.flatten_cons, List.flatten_cons]
    exact h.append (Dgs.rep h n)
theorem Dgs.ints : ∀ {v : List V} {ns : List Int}, Dgs K G v (ns.map D.int) → v = ns.map V.int
  | [], [], _ => rfl
  | _, n :: ns, h => by
    rw [List.map_cons] at h
    cases h with
    | cons h r => cases h; rw [Dgs.ints r]; rfl
theorem Dgs.ofInts : ∀ (ns : List Int), Dgs K G (ns.map V.int) (ns.map D.int)
  | [] => .nil
  | n :: ns => .cons (.int n) (Dgs.ofInts ns)
theorem Dgs.bools : ∀ {v : List V} {ns : List Bool}, Dgs K G v (ns.map D.bool) → v = ns.map V.bl
  | [], [], _ => rfl
  | _, n :: ns, h => by
    rw [List.map_cons] at h
    cases h with
    | cons h r => cases h; rw [Dgs.bools r]; rfl
end
/-- what stays the same through a def's body: the written part, the heap that may be read, the heap at the entry, the feed's address, the lists that comprehensions around are making -/
structure Ct where
  K : PySem.W.Frag
  G0 : Hp
  H0 : Hp
  fa : Option Addr
  rs : Addr → Prop := fun _ => False
  mg : Str → Option Value := fun _ => none
  xe : Option (Addr × Value × Option Addr) := none
/-- the error e, of the class cls, with the dict d -/
def ExcK (K : PySem.W.Frag) (mg : Str → Option Value) (G : Hp) (cls : Value) (d : Option Addr) (e : Exn) : Prop :=
  ∃ C, mg (Str.ofString e.cls) = some (.ref C) ∧ cls = .ref C ∧ match e.arg with
    | none => d = none
    | some (f, x) => ∃ dd v, d = some dd ∧ G dd = some (.xd [(Str.ofString f, v)]) ∧ Dg K G v x
theorem ExcK.mono {K : PySem.W.Frag} {mg : Str → Option Value} {G G' : Hp} {cls : Value} {d : Option Addr} {e : Exn} (sm : Same G G') (h : ExcK K mg G cls d e) : ExcK K mg G' cls d e := by
  obtain ⟨C, h1, h2, h3⟩ := h
  refine ⟨C, h1, h2, ?_⟩
  cases q : e.arg with
  | none => rw [q] at h3; exact h3
  | some p =>
    obtain ⟨f, x⟩ := p
    rw [q] at h3
    obtain ⟨dd, v, e1, e2, e3⟩ := h3
    exact ⟨dd, v, e1, sm _ _ e2, e3.mono sm⟩
def Slot.isOwn : Slot → Bool
  | .own _ => true
  | _ => false
def SlotOk (c : Ct) (H G : Hp) (o : Option (Option V)) : Slot → Prop
  | .gone => True
  | .val d => ∃ v, o = some (some v) ∧ Dg c.K G v d
  | .own ds => ∃ a vs, o = some (some (.ref a)) ∧ H a = some (.lst vs) ∧ Dgs c.K G vs ds ∧ G a = none ∧ c.H0 a = none ∧ c.fa ≠ some a ∧ ¬ c.rs a
  | .feed => ∃ a, o = some (some (.ref a)) ∧ c.fa = some a
  | .exn e => ∃ a cls d, c.xe = some (a, cls, d) ∧ o = some (some (.ref a)) ∧ ExcK c.K c.mg G cls d e
def FeedOk (fa : Option Addr) (H G : Hp) (w : W) : Prop := ∀ a, fa = some a → G a = none ∧ ∃ sa, H a = some (.lst [.ref sa, .int w.ix, .int w.big, .int w.seed]) ∧ G sa = some (.lst (w.sc.map V.int))
structure Rel (c : Ct) (σ : St) (H G : Hp) (s : S) : Prop where
  g0 : Same c.G0 G
  gH : Same G H
  kH : ∀ b o, c.H0 b = some o → c.fa ≠ some b → H b = some o
  gN : ∀ a o, G a = some o → c.G0 a = some o ∨ c.H0 a = none
  len : s.v.length = σ.length
  sl : ∀ i, SlotOk c H G σ[i]? (get s.v i)
  ap : ∀ i j a, i ≠ j → (get s.v i).isOwn = true → (get s.v j).isOwn = true → σ[i]? = some (some (.ref a)) → σ[j]? = some (some (.ref a)) → False
  fd : FeedOk c.fa H G s.w
  rs : ∀ a, c.rs a → G a = none ∧ c.fa ≠ some a ∧ ∃ o, H a = some o
def Keep (c : Ct) (H H' : Hp) : Prop := ∀ b o, H b = some o → c.fa ≠ some b → H' b = some o
theorem Keep.refl {c : Ct} {H : Hp} : Keep c H H := fun _ _ e _ => e
theorem Keep.trans {c : Ct} {H H1 H2 : Hp} (a : Keep c H H1) (b : Keep c H1 H2) : Keep c H H2 := fun x o e n => b x o (a x o e n) n
def ResOk (c : Ct) (σ : St) (H G : Hp) (s : S) (v : V) : R → Prop
  | .val d => Dg c.K G v d
  | .own ds => ∃ a vs, v = .ref a ∧ H a = some (.lst vs) ∧ Dgs c.K G vs ds ∧ G a = none ∧ c.H0 a = none ∧ c.fa ≠ some a ∧ ¬ c.rs a ∧ ∀ i, (get s.v i).isOwn = true → σ[i]? ≠ some (some (.ref a))
  | .bor ds => ∃ a vs, v = .ref a ∧ H a = some (.lst vs) ∧ Dgs c.K G vs ds ∧ G a = none ∧ c.H0 a = none ∧ c.fa ≠ some a ∧ ¬ c.rs a
/-- what may be read of a value right now -/
def Peek (c : Ct) (H G : Hp) (v : V) : D → Prop
  | .list ds => ∃ a vs, v = .ref a ∧ H a = some (.lst vs) ∧ Dgs c.K G vs ds ∧ c.fa ≠ some a
  | d => Dg c.K G v d
section
variable {c : Ct} {σ : St} {H G H' G' : Hp} {s : S} {v : V} {r : R}
theorem Rel.fa (R : Rel c σ H G s) {a : Addr} {o : HO} (h : G a = some o) : c.fa ≠ some a := fun e => by
  have q := (R.fd a e).1
  rw [h] at q; cases q
theorem Peek.ofDg (R : Rel c σ H G s) {d : D} (h : Dg c.K G v d) : Peek c H G v d := by
  cases d with
  | list ds =>
    cases h with
    | lst h r => exact ⟨_, _, rfl, R.gH _ _ h, r, R.fa h⟩
  | _ => exact h
theorem ResOk.peek (R : Rel c σ H G s) (h : ResOk c σ H G s v r) : Peek c H G v r.d := by
  cases r with
  | val d => exact .ofDg R h
  | own ds =>
    obtain ⟨a, vs, e, h1, h2, h3, h4, h5, h6⟩ := h
    exact ⟨a, vs, e, h1, h2, h5⟩
  | bor ds =>
    obtain ⟨a, vs, e, h1, h2, h3, h4, h5, _⟩ := h
    exact ⟨a, vs, e, h1, h2, h5⟩
theorem Peek.keep {d : D} (h : Peek c H G v d) (sm : Same G G') (k : Keep c H H') : Peek c H' G' v d := by
  cases d with
  | list ds =>
    obtain ⟨a, vs, e, h1, h2, h3⟩ := h
    exact ⟨a, vs, e, k _ _ h1 h3, h2.mono sm, h3⟩
  | _ => exact Dg.mono sm (show Dg c.K G v _ from h)
theorem Rel.nrs (R : Rel c σ H G s) {p : Addr} (n : H p = none) : ¬ c.rs p := fun h => by
  obtain ⟨_, _, o, q⟩ := R.rs p h
  rw [n] at q; cases q
theorem Rel.h0 (R : Rel c σ H G s) {p : Addr} (n : H p = none) : c.H0 p = none ∧ c.fa ≠ some p ∧ G p = none := by
  have f : c.fa ≠ some p := fun e => by
    obtain ⟨_, sa, h, _⟩ := R.fd p e
    rw [n] at h; cases h
  refine ⟨?_, f, R.gH.free n⟩
  cases e : c.H0 p with
  | none => rfl
  | some o =>
    have q := R.kH p o e f
    rw [n] at q; cases q
theorem same_upd {H : Hp} {p : Addr} {o : HO} (h : H p = none) : Same H (upd H p o) := fun b x e => by
  rw [upd_ne (ne_of_none e h)]
  exact e
theorem Keep.upd {p : Addr} {o : HO} (n : H p = none) : Keep c H (L2.upd H p o) := fun b x e _ => same_upd n b x e
/-- the heap has grown, the readable heap too (by new objects alone) -/
theorem Rel.grow (R : Rel c σ H G s) (sm : Same G G') (gH : Same G' H') (k : Keep c H H') (gN : ∀ a o, G' a = some o → G a = some o ∨ H a = none) (fd : ∀ a, c.fa = some a → H' a = H a) : Rel c σ H' G' s where
  g0 := R.g0.trans sm
  gH := gH
  kH := fun b o e n => k b o (R.kH b o e n) n
  gN := fun a o e => by
    rcases gN a o e with h | h
    · exact R.gN a o h
    · exact .inr (R.h0 h).1
  len := R.len
  sl := fun i => by
    have h := R.sl i
    cases e : get s.v i with
    | gone => trivial
    | val d =>
      rw [e] at h
      obtain ⟨v, h1, h2⟩ := h
      exact ⟨v, h1, h2.mono sm⟩
    | own ds =>
      rw [e] at h
      obtain ⟨a, vs, h1, h2, h3, h4, h5, h6, h7⟩ := h
      refine ⟨a, vs, h1, k _ _ h2 h6, h3.mono sm, ?_, h5, h6, h7⟩
      cases q : G' a with
      | none => rfl
      | some o =>
        rcases gN a o q with z | z
        · rw [h4] at z; cases z
        · rw [h2] at z; cases z
    | feed =>
      rw [e] at h
      exact h
    | exn x =>
      rw [e] at h
      obtain ⟨a, cls, d, q1, q2, q3⟩ := h
      exact ⟨a, cls, d, q1, q2, q3.mono sm⟩
  ap := R.ap
  fd := fun a e => by
    obtain ⟨h1, sa, h2, h3⟩ := R.fd a e
    refine ⟨?_, sa, by rw [fd a e]; exact h2, sm _ _ h3⟩
    cases q : G' a with
    | none => rfl
    | some o =>
      rcases gN a o q with z | z
      · rw [h1] at z; cases z
      · rw [h2] at z; cases z
  rs := fun a e => by
    obtain ⟨h1, h2, o, h3⟩ := R.rs a e
    refine ⟨?_, h2, o, k _ _ h3 h2⟩
    cases q : G' a with
    | none => rfl
    | some o =>
      rcases gN a o q with z | z
      · rw [h1] at z; cases z
      · rw [h3] at z; cases z
theorem Rel.newL (R : Rel c σ H G s) {p : Addr} {o : HO} (n : H p = none) : Rel c σ (upd H p o) G s :=
  R.grow (fun _ _ e => e) (fun b x e => same_upd n b x (R.gH b x e)) (Keep.upd n) (fun _ _ e => .inl e) fun a e => upd_ne fun z => (R.h0 n).2.1 (z ▸ e)
theorem Rel.newG (R : Rel c σ H G s) {p : Addr} {o : HO} (n : H p = none) : Rel c σ (upd H p o) (upd G p o) s ∧ Same G (upd G p o) := by
  have sm : Same G (upd G p o) := same_upd (R.h0 n).2.2
  refine ⟨R.grow sm (fun b x e => ?_) (Keep.upd n) (fun a x e => ?_) fun a e => upd_ne fun z => (R.h0 n).2.1 (z ▸ e), sm⟩
  · by_cases hb : b = p
    · subst hb; rw [upd_same] at e ⊢; exact e
    · rw [upd_ne hb] at e ⊢; exact R.gH b x e
  · by_cases hb : a = p
    · subst hb; exact .inr n
    · rw [upd_ne hb] at e; exact .inl e
theorem Rel.own_new (R : Rel c σ H G s) {p : Addr} {vs : List V} {ds : List D} (n : H p = none) (h : Dgs c.K G vs ds) : ResOk c σ (upd H p (.lst vs)) G s (.ref p) (.own ds) := by
  obtain ⟨h1, h2, h3⟩ := R.h0 n
  refine ⟨p, vs, rfl, upd_same, h, h3, h1, h2, R.nrs n, fun i hi e => ?_⟩
  have q := R.sl i
  cases z : get s.v i with
  | own es =>
    rw [z] at q
    obtain ⟨a, us, e1, e2, _⟩ := q
    rw [e] at e1
    cases e1
    rw [n] at e2; cases e2
  | _ => rw [z] at hi; cases hi
/-- a list of one's own that goes elsewhere is frozen -/
theorem Rel.freeze (R : Rel c σ H G s) {a : Addr} {vs : List V} (h1 : H a = some (.lst vs)) (h3 : G a = none) (h4 : c.H0 a = none) (h5 : c.fa ≠ some a) (h7 : ¬ c.rs a) (h6 : ∀ i, (get s.v i).isOwn = true → σ[i]? ≠ some (some (.ref a))) :
    Rel c σ H (upd G a (.lst vs)) s ∧ Same G (upd G a (.lst vs)) := by
  have sm : Same G (upd G a (.lst vs)) := same_upd h3
  refine ⟨⟨R.g0.trans sm, fun b x e => ?_, R.kH, fun b x e => ?_, R.len, fun i => ?_, R.ap, fun b e => ?_, fun b e => ?_⟩, sm⟩
  · by_cases hb : b = a
    · subst hb; rw [upd_same] at e; cases e; exact h1
    · rw [upd_ne hb] at e; exact R.gH b x e
  · by_cases hb : b = a
    · subst hb; exact .inr h4
    · rw [upd_ne hb] at e; exact R.gN b x e
  · have h := R.sl i
    cases e : get s.v i with
    | gone => trivial
    | val d =>
      rw [e] at h
      obtain ⟨v, q1, q2⟩ := h
      exact ⟨v, q1, q2.mono sm⟩
    | own ds =>
      rw [e] at h
      obtain ⟨b, us, q1, q2, q3, q4, q5, q6, q7⟩ := h
      have hb : b ≠ a := fun z => h6 i (by rw [e]; rfl) (z ▸ q1)
      exact ⟨b, us, q1, q2, q3.mono sm, by rw [upd_ne hb]; exact q4, q5, q6, q7⟩
    | feed =>
      rw [e] at h
      exact h
    | exn x =>
      rw [e] at h
      obtain ⟨a, cls, d, q1, q2, q3⟩ := h
      exact ⟨a, cls, d, q1, q2, q3.mono sm⟩
  · obtain ⟨q1, sa, q2, q3⟩ := R.fd b e
    exact ⟨by rw [upd_ne (fun z : b = a => h5 (z ▸ e))]; exact q1, sa, q2, sm _ _ q3⟩
  · obtain ⟨q1, q2, q3⟩ := R.rs b e
    exact ⟨by rw [upd_ne (fun z : b = a => h7 (z ▸ e))]; exact q1, q2, q3⟩
/-- a result made good -/
theorem ResOk.frz (R : Rel c σ H G s) (h : ResOk c σ H G s v r) {k : D → Prop} (q : DL.frz r k) : ∃ d G1, k d ∧ Rel c σ H G1 s ∧ Same G G1 ∧ Dg c.K G1 v d := by
  cases r with
  | val d => exact ⟨d, G, q, R, Same.refl _, h⟩
  | own ds =>
    obtain ⟨a, vs, e, h1, h2, h3, h4, h5, h7, h6⟩ := h
    obtain ⟨R1, sm⟩ := R.freeze h1 h3 h4 h5 h7 h6
    subst e
    exact ⟨.list ds, _, q, R1, sm, .lst upd_same (h2.mono sm)⟩
  | bor ds => exact False.elim q
end
/-! ### slots -/
theorem get_put : ∀ (v : List Slot) (i j : Nat) (y : Slot), i < v.length → get (put v i y) j = if j = i then y else get v j
  | [], i, j, y, h => by simp at h
  | x :: r, 0, 0, y, _ => rfl
  | x :: r, 0, j + 1, y, _ => rfl
  | x :: r, i + 1, 0, y, _ => rfl
  | x :: r, i + 1, j + 1, y, h => by
    have ih := get_put r i j y (by simpa using h)
    show get (put r i y) j = _
    rw [ih]
    by_cases e : j = i
    · rw [if_pos e, if_pos (by omega)]
    · rw [if_neg e, if_neg (by omega)]
      rfl
theorem put_length : ∀ (v : List Slot) (i : Nat) (y : Slot), (put v i y).length = v.length
  | [], _, _ => rfl
  | _ :: _, 0, _ => rfl
  | _ :: r, i + 1, y => congrArg (· + 1) (put_length r i y)
theorem put_out : ∀ (v : List Slot) (i : Nat) (y : Slot), ¬ i < v.length → put v i y = v
  | [], _, _, _ => rfl
  | _ :: _, 0, _, h => absurd (Nat.succ_pos _) h
  | x :: r, i + 1, y, h => by
    show x :: put r i y = x :: r
    rw [put_out r i y (by simpa using h)]
theorem get_out : ∀ (v : List Slot) (i : Nat), ¬ i < v.length → get v i = .gone
  | [], _, _ => rfl
  | _ :: _, 0, h => absurd (Nat.succ_pos _) h
  | _ :: r, i + 1, h => get_out r i (by simpa using h)
theorem get_lt {v : List Slot} {i : Nat} (h : get v i ≠ .gone) : i < v.length := by
  by_cases q : i < v.length
  · exact q
  · exact absurd (get_out v i q) h
end DL

/-! DLS2: expressions. -/
namespace DL
open PySem PySem.Spec PyProof.Rows L2
/-- the built-in names that no module shadows -/
def bltNames : List Str := ["len", "abs", "int", "min", "max", "list", "tuple", "sum", "all", "range", "enumerate", "reversed", "isinstance", "sorted", "zip", "str", "bool"]
/-- what the pieces ask of where they stand -/
class Ok (X : Cx) (c : Ct) : Prop where
  K : X.K = c.K
  blt : ∀ x ∈ bltNames, X.mg x = none
  hu : X.A.units + 66 < cLine
  nd : X.N.Nodup
  mg : X.mg = c.mg
  xe : X.calm = true → c.xe = none
/-- no error is handled -/
class Calm (X : Cx) : Prop where
  calm : X.calm = true
instance {X : Cx} [o : Calm X] {s : Shared} {H : Hp} {sc : Scope} {ce : PySem.Env} {fp : List Addr} : Calm (X.blk s H sc ce fp) := ⟨o.calm⟩
instance {CX : CXT} {P : Program} {w : World} {K : PySem.W.Frag} {mg : Str → Option Value} {base : Heap} {N : List Str} {qual : Str} {scope : Scope} {f : Addr} {cd : Value} {A : Around} {outer : List PySem.Env} {s : Shared} {H : Hp} {E : XK} : Calm (cxOf CX P w K mg base N qual scope f cd A outer s H E) := ⟨rfl⟩
instance {X : Cx} [o : Calm X] {E : Value → Shared → Prop} : Calm (X.wish E) := ⟨o.calm⟩
instance {X : Cx} {c : Ct} [o : Ok X c] {s : Shared} {H : Hp} {sc : Scope} {ce : PySem.Env} {fp : List Addr} : Ok (X.blk s H sc ce fp) c := ⟨o.K, o.blt, o.hu, o.nd, o.mg, o.xe⟩

def tE (c : Ct) (m : M) : TE := fun σ H Q => ∃ G s Q0, Rel c σ H G s ∧ m s Q0 ∧ ∀ r s' v H' G', Q0 r s' → Rel c σ H' G' s' → Same G G' → Keep c H H' → ResOk c σ H' G' s' v r → Q v H'
def tT (c : Ct) (t : T) : TT := fun σ H Q => ∃ G s Q0, Rel c σ H G s ∧ t s Q0 ∧ ∀ b s' H' G', Q0 b s' → Rel c σ H' G' s' → Same G G' → Keep c H H' → Q b H'
def tAs (c : Ct) (ms : Ms) : TA := fun σ H Q => ∃ G s Q0, Rel c σ H G s ∧ ms s Q0 ∧ ∀ ds s' vs H' G', Q0 ds s' → Rel c σ H' G' s' → Same G G' → Keep c H H' → Dgs c.K G' vs ds → Q vs H'
theorem pe_imp {X : Cx} {e : Expr} {t t' : TE} (h : PE X e t) (i : ∀ σ H Q, t' σ H Q → t σ H Q) : PE X e t' := ⟨fun pins s σ H Q I q => h.run pins s σ H Q I (i σ H Q q)⟩
theorem pt_imp {X : Cx} {e : Expr} {t t' : TT} (h : PT X e t) (i : ∀ σ H Q, t' σ H Q → t σ H Q) : PT X e t' := ⟨fun pins s σ H Q I q => h.run pins s σ H Q I (i σ H Q q)⟩
theorem pw_imp {X : Cx} {e : Expr} {t t' : TT} (h : PW X e t) (i : ∀ σ H Q, t' σ H Q → t σ H Q) : PW X e t' := ⟨fun w pins s σ H Q I q => h.run w pins s σ H Q I (i σ H Q q)⟩
theorem pa_imp {X : Cx} {e : List Expr} {t t' : TA} (h : PA X e t) (i : ∀ σ H Q, t' σ H Q → t σ H Q) : PA X e t' := ⟨fun pos pins s σ H Q I q => h.run pos pins s σ H Q I (i σ H Q q)⟩

section
variable {X : Cx} {c : Ct} {a b e : Expr} {m m1 m2 m3 : M} {pos : Pos}
/-! ### constants and names -/
theorem tE_const {d : D} {v : V} (h : ∀ G, Dg c.K G v d) : ∀ σ H Q, tE c (mC d) σ H Q → tC v σ H Q := by
  rintro σ H Q ⟨G, s, Q0, R, hm, hQ⟩
  exact hQ _ s v H G hm R (Same.refl _) Keep.refl (h G)
theorem de_int {i : Int} {j pos} : PE X (.Constant (.int i) j pos) (tE c (mC (.int i))) := pe_imp pe_int (tE_const fun _ => .int i)
theorem de_bool {i : Bool} {j pos} : PE X (.Constant (.bool i) j pos) (tE c (mC (.bool i))) := pe_imp pe_bl (tE_const fun _ => .bl i)
theorem de_none {j pos} : PE X (.Constant .none j pos) (tE c (mC .none)) := pe_imp pe_non (tE_const fun _ => .non)
theorem de_str {x : Str} {l : List Nat} {j pos} (h : x.cps.toList = l := by decide +kernel) : PE X (.Constant (.str x) j pos) (tE c (mC (.str l))) := by
  have e : x = sT l := by
    subst h
    cases x
    rfl
  subst e
  exact pe_imp pe_str (tE_const fun _ => .str l)
/-- a module's constant -/
theorem de_glob {x : Str} {u : Value} {v : V} {d : D} (hg : Gl X x) (hm : X.mg x = some u) (r : RelV v u) (h : ∀ G, Dg c.K G v d) (hd : (x == ("__debug__" : Str)) = false := by decide) : PE X (.Name x pos) (tE c (mC d)) := pe_imp (pe_glob hg hm r hd) (tE_const h)
theorem Rel.at {σ : St} {H G : Hp} {s : S} (R : Rel c σ H G s) {i : Nat} {x : Slot} (h : get s.v i = x) : SlotOk c H G σ[i]? x := h ▸ R.sl i
theorem de_var (i : Nat) {x : Str} (hN : X.N[i]? = some x := by rfl) (hv : Vis X.env.scope x := by first | exact Or.inl rfl | exact Or.inr (Or.inl rfl) | exact Or.inr (Or.inr rfl)) (hd : (x == ("__debug__" : Str)) = false := by decide)
    (hcd : (x == ("__classdict__" : Str)) = false := by decide) : PE X (.Name x pos) (tE c (mVar i)) := by
  refine pe_imp (pe_var hN hv hd hcd) ?_
  rintro σ H Q ⟨G, s, Q0, R, hm, hQ⟩
  unfold mVar at hm
  split at hm
  · rename_i d e
    obtain ⟨v, h1, h2⟩ := R.at e
    exact ⟨v, h1, hQ _ s v H G hm R (Same.refl _) Keep.refl h2⟩
  · rename_i ds e
    obtain ⟨a, vs, h1, h2, h3, h4, h5, h6, h7⟩ := R.at e
    exact ⟨_, h1, hQ _ s _ H G hm R (Same.refl _) Keep.refl ⟨a, vs, rfl, h2, h3, h4, h5, h6, h7⟩⟩
  · exact hm.elim
/-- a slot is stored anew -/
theorem Rel.put_val {σ : St} {H G : Hp} {s : S} (R : Rel c σ H G s) {i : Nat} {v : V} {d : D} (h : Dg c.K G v d) : Rel c (σ.set i (some v)) H G { s with v := put s.v i (.val d) } := by
  by_cases hi : i < s.v.length
  · have hi2 : i < σ.length := by rw [← R.len]; exact hi
    refine ⟨R.g0, R.gH, R.kH, R.gN, by rw [List.length_set]; show (put s.v i _).length = _; rw [put_length]; exact R.len, fun j => ?_, fun j k a hjk h1 h2 e1 e2 => ?_, R.fd, R.rs⟩
    · show SlotOk c H G (σ.set i (some v))[j]? (get (put s.v i (.val d)) j)
      rw [get_put _ _ _ _ hi]
      by_cases hj : j = i
      · subst hj
        rw [if_pos rfl, List.getElem?_set_self hi2]
        exact ⟨v, rfl, h⟩
      · rw [if_neg hj, List.getElem?_set_ne (Ne.symm hj)]
        exact R.sl j
    · have g : ∀ j, (get (put s.v i (.val d)) j).isOwn = true → j ≠ i ∧ (get s.v j).isOwn = true := fun j h => by
        rw [get_put _ _ _ _ hi] at h
        by_cases hj : j = i
        · rw [if_pos hj] at h; cases h
        · rw [if_neg hj] at h; exact ⟨hj, h⟩
      obtain ⟨n1, o1⟩ := g j h1
      obtain ⟨n2, o2⟩ := g k h2
      rw [List.getElem?_set_ne (Ne.symm n1)] at e1
      rw [List.getElem?_set_ne (Ne.symm n2)] at e2
      exact R.ap j k a hjk o1 o2 e1 e2
  · rw [put_out _ _ _ hi, List.set_eq_of_length_le (by rw [← R.len]; omega)]
    exact R
/-- a slot is looked at in another way: the same V -/
theorem Rel.reslot {σ : St} {H G : Hp} {s : S} (R : Rel c σ H G s) {i : Nat} {y : Slot} (hy : y.isOwn = false) (h : SlotOk c H G σ[i]? y) : Rel c σ H G { s with v := put s.v i y } := by
  by_cases hi : i < s.v.length
  · refine ⟨R.g0, R.gH, R.kH, R.gN, by show (put s.v i _).length = _; rw [put_length]; exact R.len, fun j => ?_, fun j k a hjk h1 h2 e1 e2 => ?_, R.fd, R.rs⟩
    · show SlotOk c H G σ[j]? (get (put s.v i y) j)
      rw [get_put _ _ _ _ hi]
      by_cases hj : j = i
      · subst hj
        rw [if_pos rfl]
        exact h
      · rw [if_neg hj]
        exact R.sl j
    · have g : ∀ j, (get (put s.v i y) j).isOwn = true → (get s.v j).isOwn = true := fun j h => by
        rw [get_put _ _ _ _ hi] at h
        by_cases hj : j = i
        · rw [if_pos hj, hy] at h; cases h
        · rw [if_neg hj] at h; exact h
      exact R.ap j k a hjk (g j h1) (g k h2) e1 e2
  · rw [put_out _ _ _ hi]
    exact R
theorem Rel.lose {σ : St} {H G : Hp} {s : S} (R : Rel c σ H G s) (i : Nat) : Rel c σ H G { s with v := put s.v i .gone } := R.reslot rfl trivial
/-- the own list at slot i is frozen -/
theorem Rel.freezeAt {σ : St} {H G : Hp} {s : S} (R : Rel c σ H G s) {i : Nat} {ds : List D} (e : get s.v i = .own ds) : ∃ a vs, σ[i]? = some (some (.ref a)) ∧ Rel c σ H (upd G a (.lst vs)) { s with v := put s.v i (.val (.list ds)) } ∧ Same G (upd G a (.lst vs)) ∧ Dg c.K (upd G a (.lst vs)) (.ref a) (.list ds) := by
  obtain ⟨a, vs, h1, h2, h3, h4, h5, h6, h7⟩ := R.at e
  have R1 := R.lose i
  have hi : i < s.v.length := get_lt (by rw [e]; intro z; cases z)
  obtain ⟨R2, sm⟩ := R1.freeze h2 h4 h5 h6 h7 fun j hj ej => by
    have q : get (put s.v i .gone) j = if j = i then .gone else get s.v j := get_put _ _ _ _ hi
    have hj' : (get (put s.v i .gone) j).isOwn = true := hj
    rw [q] at hj'
    by_cases hji : j = i
    · rw [if_pos hji] at hj'; cases hj'
    · rw [if_neg hji] at hj'
      exact R.ap j i a hji hj' (by rw [e]; rfl) ej h1
  have dg : Dg c.K (upd G a (.lst vs)) (.ref a) (.list ds) := .lst upd_same (h3.mono sm)
  refine ⟨a, vs, h1, ?_, sm, dg⟩
  have R3 := R2.reslot (i := i) (y := .val (.list ds)) rfl ⟨_, h1, dg⟩
  have e2 : put (put s.v i .gone) i (.val (.list ds)) = put s.v i (.val (.list ds)) := by
    clear R R1 R2 R3 h1 e
    revert hi
    generalize s.v = w
    intro hi
    induction w generalizing i with
    | nil => rfl
    | cons x r ih => cases i with
      | zero => rfl
      | succ i =>
        show x :: put (put r i .gone) i _ = x :: put r i _
        rw [ih (by simpa using hi)]
  have e3 : ({ s with v := put (put s.v i .gone) i (.val (.list ds)) } : S) = { s with v := put s.v i (.val (.list ds)) } := by rw [e2]
  rw [← e3]
  exact R3
theorem de_fz (i : Nat) {x : Str} (hN : X.N[i]? = some x := by rfl) (hv : Vis X.env.scope x := by first | exact Or.inl rfl | exact Or.inr (Or.inl rfl) | exact Or.inr (Or.inr rfl)) (hd : (x == ("__debug__" : Str)) = false := by decide)
    (hcd : (x == ("__classdict__" : Str)) = false := by decide) : PE X (.Name x pos) (tE c (mFzV i)) := by
  refine pe_imp (pe_var hN hv hd hcd) ?_
  rintro σ H Q ⟨G, s, Q0, R, hm, hQ⟩
  unfold mFzV at hm
  split at hm
  · rename_i d e
    obtain ⟨v, h1, h2⟩ := R.at e
    exact ⟨v, h1, hQ _ s v H G hm R (Same.refl _) Keep.refl h2⟩
  · rename_i ds e
    obtain ⟨a, vs, h1, R1, sm, dg⟩ := R.freezeAt e
    exact ⟨_, h1, hQ _ _ _ H _ hm R1 sm Keep.refl dg⟩
  · exact hm.elim
/-! ### operators -/
def Fin (c : Ct) (σ : St) (H G : Hp) (s : S) (Qr : R → Prop) (Q : VK) : Prop := ∀ r v H' G', Qr r → Rel c σ H' G' s → Same G G' → Keep c H H' → ResOk c σ H' G' s v r → Q v H'
def OpD (c : Ct) (f : D → D → (R → Prop) → Prop) (r : R2) : Prop := ∀ {σ : St} {H G : Hp} {s : S} {x y : D} {v u : V} {Qr : R → Prop} {Q : VK}, Rel c σ H G s → Peek c H G v x → Peek c H G u y → f x y Qr → Fin c σ H G s Qr Q → r v u H Q
theorem Fin.val {σ : St} {H G : Hp} {s : S} {Qr : R → Prop} {Q : VK} (F : Fin c σ H G s Qr Q) (R : Rel c σ H G s) {v : V} {d : D} (q : Qr (.val d)) (h : Dg c.K G v d) : Q v H := F _ v H G q R (Same.refl _) Keep.refl h
theorem Fin.own {σ : St} {H G : Hp} {s : S} {Qr : R → Prop} {Q : VK} (F : Fin c σ H G s Qr Q) (R : Rel c σ H G s) {vs : List V} {ds : List D} (q : Qr (.own ds)) (h : Dgs c.K G vs ds) {p : Addr} (n : H p = none) : Q (.ref p) (upd H p (.lst vs)) :=
  F _ _ _ G q (R.newL n) (Same.refl _) (Keep.upd n) (R.own_new n h)
theorem Fin.tup {σ : St} {H G : Hp} {s : S} {Qr : R → Prop} {Q : VK} (F : Fin c σ H G s Qr Q) (R : Rel c σ H G s) {vs : List V} {ds : List D} (q : Qr (.val (.tup ds))) (h : Dgs c.K G vs ds) {p : Addr} (n : H p = none) : Q (.ref p) (upd H p (.tup vs)) := by
  obtain ⟨R1, sm⟩ := R.newG (o := .tup vs) n
  exact F _ _ _ _ q R1 sm (Keep.upd n) (.tup (SqT.of upd_same) (h.mono sm))
theorem mBin_run {f : D → D → (R → Prop) → Prop} {r : R2} (ho : OpD c f r) {ta tb : TE} : ∀ σ H Q, tE c (mBin f m1 m2) σ H Q → tOp r (tE c m1) (tE c m2) σ H Q := by
  rintro σ H Q ⟨G, s, Q0, R, hm, hQ⟩
  refine ⟨G, s, _, R, hm, fun r1 s1 v1 H1 G1 q1 R1 S1 K1 O1 => ⟨G1, s1, _, R1, q1, fun r2 s2 v2 H2 G2 q2 R2 S2 K2 O2 => ?_⟩⟩
  refine ho R2 ((O1.peek R1).keep S2 K2) (O2.peek R2) q2 fun r v H' G' q R' S' K' O' => hQ r s2 v H' G' q R' ((S1.trans S2).trans S') ((K1.trans K2).trans K') O'
theorem de_bin {op : Operator} {f : D → D → (R → Prop) → Prop} {r : R2} (hr : OpR X (binaryOp op) r) (ho : OpD c f r) (ha : PE X a (tE c m1)) (hb : PE X b (tE c m2)) : PE X (.BinOp a op b pos) (tE c (mBin f m1 m2)) :=
  pe_imp (pe_op hr ha hb) (mBin_run ho (ta := tE c m1) (tb := tE c m2))
theorem opR_or {f : Value → Value → PySem.Sem Value} {r r' : R2} (h : OpR X f r) (h' : OpR X f r') : OpR X f (fun x y H Q => r x y H Q ∨ r' x y H Q) := fun pins s σ H x y v u Q I rx ry q => q.elim (h pins s σ H x y v u Q I rx ry) (h' pins s σ H x y v u Q I rx ry)
theorem lineEq : LINE = sizeLine := by rw [sizeLine_eq]
theorem len_sT (s : List Nat) : (sT s).length = s.length := by simp [Str.length]
theorem sT_append (s t : List Nat) : sT s ++ sT t = sT (s ++ t) := by
  show Str.append _ _ = _
  simp [Str.append]
theorem Peek.int {H G : Hp} {v : V} {i : Int} (h : Peek c H G v (.int i)) : v = .int i := by cases (show Dg c.K G v (.int i) from h); rfl
theorem Peek.bool {H G : Hp} {v : V} {i : Bool} (h : Peek c H G v (.bool i)) : v = .bl i := by cases (show Dg c.K G v (.bool i) from h); rfl
theorem Peek.str {H G : Hp} {v : V} {i : List Nat} (h : Peek c H G v (.str i)) : v = .str (sT i) := by cases (show Dg c.K G v (.str i) from h); rfl
theorem Peek.non {H G : Hp} {v : V} (h : Peek c H G v .none) : v = .non := by cases (show Dg c.K G v .none from h); rfl
theorem Peek.tup {H G : Hp} {v : V} {ds : List D} (h : Peek c H G v (.tup ds)) : ∃ a xs, v = .ref a ∧ SqT c.K G a xs ∧ Dgs c.K G xs ds := by
  cases (show Dg c.K G v (.tup ds) from h) with
  | tup h1 r1 => exact ⟨_, _, rfl, h1, r1⟩
theorem op_dAdd : OpR X (binaryOp .Add) (fun x y H Q => (∃ i j, x = .int i ∧ y = .int j ∧ Q (.int (i + j)) H) ∨ (∃ i j, x = .str i ∧ y = .str j ∧ i.length + j.length ≤ sizeLine ∧ Q (.str (i ++ j)) H) ∨ rCat x y H Q) := opR_or op_add (opR_or op_add_str op_cat)
theorem od_add : OpD c dAdd (fun x y H Q => (∃ i j, x = .int i ∧ y = .int j ∧ Q (.int (i + j)) H) ∨ (∃ i j, x = .str i ∧ y = .str j ∧ i.length + j.length ≤ sizeLine ∧ Q (.str (i ++ j)) H) ∨ rCat x y H Q) := by
  intro σ H G s x y v u Qr Q R hx hy h F
  unfold dAdd at h
  split at h
  · exact .inl ⟨_, _, hx.int, hy.int, F.val R h (.int _)⟩
  · obtain ⟨h1, h2⟩ := h
    refine .inr (.inl ⟨_, _, hx.str, hy.str, by rw [len_sT, len_sT, ← lineEq]; exact h1, ?_⟩)
    rw [sT_append]
    exact F.val R h2 (.str _)
  · obtain ⟨h1, h2⟩ := h
    obtain ⟨a, xs, e1, q1, q2, _⟩ := hx
    obtain ⟨b, ys, e2, q3, q4, _⟩ := hy
    exact .inr (.inr ⟨a, b, xs, ys, e1, e2, q1, q3, by rw [q2.length, q4.length, ← lineEq]; exact h1, fun p n => F.own R h2 (q2.append q4) n⟩)
  · exact h.elim
theorem de_add (ha : PE X a (tE c m1)) (hb : PE X b (tE c m2)) : PE X (.BinOp a .Add b pos) (tE c (mBin dAdd m1 m2)) := de_bin op_dAdd od_add ha hb
theorem de_sub (ha : PE X a (tE c m1)) (hb : PE X b (tE c m2)) : PE X (.BinOp a .Sub b pos) (tE c (mBin dSub m1 m2)) := de_bin op_sub (by
  intro σ H G s x y v u Qr Q R hx hy h F
  unfold dSub at h
  split at h
  · exact ⟨_, _, hx.int, hy.int, F.val R h (.int _)⟩
  · exact h.elim) ha hb
theorem rep_flat (l : List Nat) : ∀ (n : Nat) (acc : Array Nat), ((List.replicate n (sT l).cps).foldl (· ++ ·) acc).toList = acc.toList ++ (List.replicate n l).flatten
  | 0, acc => by simp
  | n + 1, acc => by
    rw [List.replicate_succ, List.foldl_cons, rep_flat l n, List.replicate_succ, List.flatten_cons]
    simp
theorem txt_mul (l : List Nat) (n : Int) : Txt.mul (sT l) n = sT (List.replicate n.toNat l).flatten := by
  unfold Txt.mul
  by_cases h1 : n < 1
  · rw [if_pos h1, show n.toNat = 0 by omega]
    rfl
  · rw [if_neg h1]
    by_cases h2 : (n == 1 || (sT l).length == 0) = true
    · rw [if_pos h2]
      rw [Bool.or_eq_true, beq_iff_eq, beq_iff_eq] at h2
      rcases h2 with h2 | h2
      · subst h2
        simp
      · rw [len_sT] at h2
        have : l = [] := List.eq_nil_of_length_eq_zero h2
        subst this
        simp
    · rw [if_neg h2]
      have := rep_flat l n.toNat #[]
      unfold sT
      congr 1
      rw [← Array.toList_inj, this]
      simp
theorem op_mul_str : OpR X (binaryOp .Mult) (fun x y H Q => ∃ (l : List Nat) (n : Int), x = .str (sT l) ∧ y = .int n ∧ -(2 ^ 63) ≤ n ∧ n < 2 ^ 63 ∧ l.length * n.toNat ≤ sizeLine ∧ Q (.str (sT (List.replicate n.toNat l).flatten)) H) := by
  intro pins s σ H x y v u Q I rx ry h
  obtain ⟨l, n, rfl, rfl, h1, h2, h3, q⟩ := h
  obtain ⟨t, rfl⟩ := rx
  obtain ⟨t', rfl⟩ := ry
  have line : sizeLine = 16777216 := by rw [sizeLine_eq]
  refine SB.mul (x := sT l) ⟨?_, fun n1 n2 => ?_, fun n1 n2 => ?_⟩ fun t' k => ⟨.str (sT (List.replicate n.toNat l).flatten), H, I.kept (t' := k) fun _ _ z => z, ⟨t', by rw [txt_mul]⟩, q⟩
  · rw [decide_eq_false (by omega), decide_eq_false (by omega)]; rfl
  · rw [len_sT]
    refine Int.not_lt.mpr (Int.le_ediv_of_mul_le (by omega) ?_)
    have e : (l.length : Int) * n = ((l.length * n.toNat : Nat) : Int) := by rw [Int.natCast_mul, Int.toNat_of_nonneg (by omega)]
    rw [e]
    omega
  · rw [len_sT]
    unfold Builtin.Str.tooLong
    exact decide_eq_false (by omega)
theorem de_mul (ha : PE X a (tE c m1)) (hb : PE X b (tE c m2)) : PE X (.BinOp a .Mult b pos) (tE c (mBin dMul m1 m2)) := de_bin (opR_or op_mulW (opR_or op_rep op_mul_str)) (by
  intro σ H G s x y v u Qr Q R hx hy h F
  unfold dMul at h
  split at h
  · exact Or.inl ⟨_, _, hx.int, hy.int, h.1, F.val R h.2 (.int _)⟩
  · obtain ⟨⟨h1, h2⟩, h3, h4⟩ := h
    obtain ⟨a, xs, e1, q1, q2, _⟩ := hx
    exact Or.inr (Or.inl ⟨a, _, xs, e1, hy.int, q1, h1, h2, by rw [q2.length, ← lineEq]; exact h3, fun p n => F.own R h4 (q2.rep _) n⟩)
  · obtain ⟨⟨h1, h2⟩, h3, h4⟩ := h
    exact Or.inr (Or.inr ⟨_, _, hx.str, hy.int, h1, h2, by rw [← lineEq]; exact h3, F.val R h4 (.str _)⟩)
  · exact h.elim) ha hb
theorem de_div (ha : PE X a (tE c m1)) (hb : PE X b (tE c m2)) : PE X (.BinOp a .FloorDiv b pos) (tE c (mBin dDiv m1 m2)) := de_bin op_fdivW (by
  intro σ H G s x y v u Qr Q R hx hy h F
  unfold dDiv at h
  split at h
  · exact ⟨_, _, hx.int, hy.int, ⟨h.1, h.2.1⟩, F.val R h.2.2 (.int _)⟩
  · exact h.elim) ha hb
theorem de_mod (ha : PE X a (tE c m1)) (hb : PE X b (tE c m2)) : PE X (.BinOp a .Mod b pos) (tE c (mBin dMod m1 m2)) := de_bin op_mod (by
  intro σ H G s x y v u Qr Q R hx hy h F
  unfold dMod at h
  split at h
  · exact ⟨_, _, hx.int, hy.int, h.1, F.val R h.2 (.int _)⟩
  · exact h.elim) ha hb
theorem de_pow (ha : PE X a (tE c m1)) (hb : PE X b (tE c m2)) : PE X (.BinOp a .Pow b pos) (tE c (mBin dPow m1 m2)) := de_bin op_pow (by
  intro σ H G s x y v u Qr Q R hx hy h F
  unfold dPow at h
  split at h
  · exact ⟨_, _, hx.int, hy.int, h.1, F.val R h.2 (.int _)⟩
  · exact h.elim) ha hb
/-! ### one place -/
def UnD (c : Ct) (f : D → (R → Prop) → Prop) (r : V → Hp → VK → Prop) : Prop := ∀ {σ : St} {H G : Hp} {s : S} {x : D} {v : V} {Qr : R → Prop} {Q : VK}, Rel c σ H G s → Peek c H G v x → f x Qr → Fin c σ H G s Qr Q → r v H Q
theorem mUn_run {f : D → (R → Prop) → Prop} {r : V → Hp → VK → Prop} (ho : UnD c f r) : ∀ σ H Q, tE c (mUn f m) σ H Q → tUn r (tE c m) σ H Q := by
  rintro σ H Q ⟨G, s, Q0, R, hm, hQ⟩
  refine ⟨G, s, _, R, hm, fun r1 s1 v1 H1 G1 q1 R1 S1 K1 O1 => ?_⟩
  exact ho R1 (O1.peek R1) q1 fun r v H' G' q R' S' K' O' => hQ r s1 v H' G' q R' (S1.trans S') (K1.trans K') O'
theorem de_neg (ha : PE X a (tE c m)) : PE X (.UnaryOp .USub a pos) (tE c (mUn dNeg m)) := pe_imp (pe_un un_neg ha) (mUn_run (by
  intro σ H G s x v Qr Q R hx h F
  unfold dNeg at h
  split at h
  · exact ⟨_, hx.int, F.val R h (.int _)⟩
  · exact h.elim))
/-! ### comparisons -/
theorem de_cmpR {op : CmpOp} {f : D → D → (R → Prop) → Prop} {r : R2} (hr : OpR X (compareOp op) r) (ho : OpD c f r) (ha : PE X a (tE c m1)) (hb : PE X b (tE c m2)) (hm : behindInMarks op b = false) : PE X (.Compare a [op] [b] pos) (tE c (mBin f m1 m2)) :=
  pe_imp (pe_cmpR hr ha hb hm) (mBin_run ho (ta := tE c m1) (tb := tE c m2))
theorem od_cmp {p : Int → Int → Bool} : OpD c (dCmp p) (rI0 fun i j => .bl (p i j)) := by
  intro σ H G s x y v u Qr Q R hx hy h F
  unfold dCmp at h
  split at h
  · exact ⟨_, _, hx.int, hy.int, F.val R h (.bl _)⟩
  · exact h.elim
theorem od_lt : OpD c dLt (fun x y H Q => (∃ i j, x = .int i ∧ y = .int j ∧ Q (.bl (decide (i < j))) H) ∨ (∃ i j, x = .str i ∧ y = .str j ∧ Q (.bl (decide (i.cps.toList < j.cps.toList))) H)) := by
  intro σ H G s x y v u Qr Q R hx hy h F
  unfold dLt at h
  split at h
  · exact .inl ⟨_, _, hx.int, hy.int, F.val R h (.bl _)⟩
  · exact .inr ⟨_, _, hx.str, hy.str, F.val R h (.bl _)⟩
  · exact h.elim
theorem de_lt (ha : PE X a (tE c m1)) (hb : PE X b (tE c m2)) : PE X (.Compare a [.Lt] [b] pos) (tE c (mBin dLt m1 m2)) := de_cmpR (opR_or op_lt op_lt_str) od_lt ha hb (nomark _)
theorem de_le (ha : PE X a (tE c m1)) (hb : PE X b (tE c m2)) : PE X (.Compare a [.LtE] [b] pos) (tE c (mBin dLe m1 m2)) := de_cmpR op_le od_cmp ha hb (nomark _)
theorem de_gt (ha : PE X a (tE c m1)) (hb : PE X b (tE c m2)) : PE X (.Compare a [.Gt] [b] pos) (tE c (mBin dGt m1 m2)) := de_cmpR op_gt od_cmp ha hb (nomark _)
theorem de_ge (ha : PE X a (tE c m1)) (hb : PE X b (tE c m2)) : PE X (.Compare a [.GtE] [b] pos) (tE c (mBin dGe m1 m2)) := de_cmpR op_ge od_cmp ha hb (nomark _)
end
end DL

/-! DLS3: equality, in, tests, displays, subscripts, calls. -/
namespace DL
open PySem PySem.Spec PyProof.Rows L2
mutual
def toP : D → PyData
  | .none => .none
  | .bool b => .bool b
  | .int i => .int i
  | .str s => .str (sT s)
  | .list ds => .list (toPs ds)
  | .tup ds => .tuple (toPs ds)
def toPs : List D → List PyData
  | [] => []
  | d :: ds => toP d :: toPs ds
end
theorem toPs_map : ∀ ds : List D, toPs ds = ds.map toP
  | [] => rfl
  | d :: ds => by rw [toPs, toPs_map ds]; rfl
theorem sT_beq (x y : List Nat) : (sT x == sT y) = (x == y) := by
  rw [Bool.eq_iff_iff]
  simp
mutual
theorem eqv_toP : ∀ d e : D, PyData.eqv (toP d) (toP e) = eqD d e
  | .none, e => by cases e <;> simp [toP, PyData.eqv, eqD]
  | .bool a, e => by cases e <;> simp [toP, PyData.eqv, eqD]
  | .int a, e => by cases e <;> simp [toP, PyData.eqv, eqD]
  | .str a, e => by
    cases e with
    | str b => simp only [toP, PyData.eqv, eqD]; exact sT_beq a b
    | _ => simp [toP, PyData.eqv, eqD]
  | .list xs, e => by
    cases e with
    | list ys => simp only [toP, PyData.eqv, eqD]; exact eqvs_toP xs ys
    | _ => simp [toP, PyData.eqv, eqD]
  | .tup xs, e => by
    cases e with
    | tup ys => simp only [toP, PyData.eqv, eqD]; exact eqvs_toP xs ys
    | _ => simp [toP, PyData.eqv, eqD]
theorem eqvs_toP : ∀ d e : List D, PyData.eqvAll (toPs d) (toPs e) = eqDs d e
  | [], [] => by simp [toPs, PyData.eqvAll, eqDs]
  | [], _ :: _ => by simp [toPs, PyData.eqvAll, eqDs]
  | _ :: _, [] => by simp [toPs, PyData.eqvAll, eqDs]
  | x :: xs, y :: ys => by
    simp only [toPs, PyData.eqvAll, eqDs]
    rw [eqv_toP x y, eqvs_toP xs ys]
end
theorem strOk_sT {s : List Nat} (h : (s.all fun c => decide (c < 1114112)) = true) : PyData.strOk (sT s) = true := by
  unfold PyData.strOk
  rw [← Array.all_toList]
  exact h
mutual
theorem okD_lay : ∀ (n : Nat) (d : D), okD n d = true → (toP d).canLay0 = true ∧ (toP d).depth ≤ n
  | n, .none, _ => by simp [toP, PyData.canLay0, PyData.depth]
  | n, .bool _, _ => by simp [toP, PyData.canLay0, PyData.depth]
  | n, .int _, _ => by simp [toP, PyData.canLay0, PyData.depth]
  | n, .str s, h => by
    have h' : (s.all fun c => decide (c < 1114112)) = true := by cases n <;> exact h
    refine ⟨?_, by simp [toP, PyData.depth]⟩
    simp only [toP, PyData.canLay0]
    exact strOk_sT h'
  | 0, .list _, h => by cases h
  | 0, .tup _, h => by cases h
  | n + 1, .list ds, h => by
    have q := okDs_lay n ds h
    simp only [toP, PyData.canLay0, PyData.depth]
    exact ⟨q.1, by omega⟩
  | n + 1, .tup ds, h => by
    have q := okDs_lay n ds h
    simp only [toP, PyData.canLay0, PyData.depth]
    exact ⟨q.1, by omega⟩
theorem okDs_lay : ∀ (n : Nat) (ds : List D), ds.all (okD n) = true → PyData.canLayAll0 (toPs ds) = true ∧ PyData.depthAll (toPs ds) ≤ n
  | n, [], _ => by simp [toPs, PyData.canLayAll0, PyData.depthAll]
  | n, d :: ds, h => by
    rw [List.all_cons, Bool.and_eq_true] at h
    have q1 := okD_lay n d h.1
    have q2 := okDs_lay n ds h.2
    simp only [toPs, PyData.canLayAll0, PyData.depthAll]
    exact ⟨by rw [q1.1, q2.1]; rfl, by omega⟩
end
theorem shaped_of {n : Nat} {d : D} (h : okD n d = true) (hn : n ≤ 64) : SeqAt.shaped (toP d) = true := by
  have q := okD_lay n d h
  unfold SeqAt.shaped
  rw [q.1, decide_eq_true (show (toP d).depth ≤ 64 by omega)]
  rfl
mutual
theorem Dg.dp {K : PySem.W.Frag} {G : Hp} : ∀ {v : V} {d : D}, Dg K G v d → Dp K G v (toP d)
  | _, _, .non => by simp only [toP]; exact .non
  | _, _, .bl b => by simp only [toP]; exact .bl b
  | _, _, .int b => by simp only [toP]; exact .int b
  | _, _, .str b => by simp only [toP]; exact .str _
  | _, _, .lst h r => by simp only [toP]; exact .lst (SqL.of h) (Dgs.dp r)
  | _, _, .tup h r => by simp only [toP]; exact .tup h (Dgs.dp r)
theorem Dgs.dp {K : PySem.W.Frag} {G : Hp} : ∀ {v : List V} {d : List D}, Dgs K G v d → DpAll K G v (toPs d)
  | _, _, .nil => by simp only [toPs]; exact .nil
  | _, _, .cons h r => by simp only [toPs]; exact .cons (Dg.dp h) (Dgs.dp r)
end
section
variable {X : Cx} {c : Ct} {a b e : Expr} {m m1 m2 m3 : M} {t t1 t2 : T} {pos : Pos} {σ : St} {H G : Hp} {s : S}
theorem Peek.dp (R : Rel c σ H G s) {v : V} {d : D} (h : Peek c H G v d) : Dp c.K H v (toP d) := by
  have go : ∀ {d : D}, Dg c.K G v d → Dp c.K H v (toP d) := fun h => (h.mono R.gH).dp
  cases d with
  | list ds =>
    obtain ⟨a, vs, e, h1, h2, _⟩ := h
    subst e
    exact (Dg.lst (ds := ds) h1 (h2.mono R.gH)).dp
  | _ => exact go h
theorem de_eq [o : Ok X c] (ha : PE X a (tE c m1)) (hb : PE X b (tE c m2)) : PE X (.Compare a [.Eq] [b] pos) (tE c (mBin dEq m1 m2)) := de_cmpR (op_eqD (X := X) (by have := o.hu; omega)) (by
  intro σ H G s x y v u Qr Q R hx hy h F
  obtain ⟨h1, h2, h3⟩ := h
  refine ⟨toP x, toP y, o.K ▸ hx.dp R, o.K ▸ hy.dp R, shaped_of h1 (by decide), shaped_of h2 (by decide), ?_⟩
  rw [eqv_toP]
  exact F.val R h3 (.bl _)) ha hb (nomark _)
theorem de_ne [o : Ok X c] (ha : PE X a (tE c m1)) (hb : PE X b (tE c m2)) : PE X (.Compare a [.NotEq] [b] pos) (tE c (mBin dNe m1 m2)) := de_cmpR (op_neD (X := X) (by have := o.hu; omega)) (by
  intro σ H G s x y v u Qr Q R hx hy h F
  obtain ⟨h1, h2, h3⟩ := h
  refine ⟨toP x, toP y, o.K ▸ hx.dp R, o.K ▸ hy.dp R, shaped_of h1 (by decide), shaped_of h2 (by decide), ?_⟩
  rw [eqv_toP]
  exact F.val R h3 (.bl _)) ha hb (nomark _)
theorem any_toP (x : D) : ∀ ds : List D, (toPs ds).any (fun z => PyData.eqv z (toP x)) = ds.any fun d => eqD d x
  | [] => rfl
  | d :: ds => by
    simp only [toPs, List.any_cons]
    rw [eqv_toP, any_toP x ds]
/-- x in (..), flat values -/
theorem flat_V {K : PySem.W.Frag} {v : V} {d : D} (h : Dg K G v d) (f : flatD d = true) : flatV v = true := by
  cases h with
  | lst _ _ => cases f
  | tup _ _ => cases f
  | _ => rfl
theorem flat_eq {K : PySem.W.Frag} {v u : V} {d e : D} (h : Dg K G v d) (h' : Dg K G u e) (f : flatD d = true) (f' : flatD e = true) : eqV v u = eqD d e := by
  cases h with
  | lst _ _ => cases f
  | tup _ _ => cases f
  | str x =>
    cases h' with
    | str y => simp only [eqV, eqD]; exact sT_beq _ _
    | lst _ _ => cases f'
    | tup _ _ => cases f'
    | _ => simp [eqV, eqD]
  | _ =>
    cases h' with
    | lst _ _ => cases f'
    | tup _ _ => cases f'
    | _ => simp [eqV, eqD]
theorem flat_Vs {K : PySem.W.Frag} : ∀ {v : List V} {d : List D}, Dgs K G v d → d.all flatD = true → v.all flatV = true
  | _, _, .nil, _ => rfl
  | _, _, .cons h r, f => by
    rw [List.all_cons, Bool.and_eq_true] at f
    rw [List.all_cons, flat_V h f.1, flat_Vs r f.2]
    rfl
theorem flat_in {K : PySem.W.Frag} {u : V} {x : D} (hu : Dg K G u x) (fx : flatD x = true) : ∀ {v : List V} {d : List D}, Dgs K G v d → d.all flatD = true → inV u v = d.any fun d => eqD d x
  | _, _, .nil, _ => rfl
  | _, _, .cons h r, f => by
    rw [List.all_cons, Bool.and_eq_true] at f
    unfold inV
    rw [List.any_cons, List.any_cons, flat_eq h hu f.1 fx]
    have ih := flat_in hu fx r f.2
    unfold inV at ih
    rw [ih]
theorem any_mem (c : Nat) (s : List Nat) : (s.any fun d => d == c) = decide (c ∈ s) := by
  rw [Bool.eq_iff_iff]
  simp
theorem Peek.dg {v : V} {d : D} (h : Peek c H G v d) (f : flatD d = true) : Dg c.K G v d := by
  cases d with
  | list _ => cases f
  | _ => exact h
theorem od_in [o : Ok X c] : OpD c (dIn false) (fun x y H Q => rInD X.K x y H Q ∨ rIn X.K false x y H Q ∨ ∃ (c : Nat) (z : Str), x = .str ⟨#[c]⟩ ∧ y = .str z ∧ Q (.bl (decide (c ∈ z.cps.toList))) H) := by
  intro σ H G s x y v u Qr Q R hx hy h F
  unfold dIn at h
  split at h
  · obtain ⟨h1, h2, h3⟩ := h
    rename_i ds
    refine .inl ⟨toP x, toPs ds, o.K ▸ hx.dp R, ?_, shaped_of h1 (by decide), shaped_of (n := 9) (d := .list ds) h2 (by decide), ?_⟩
    · have q := hy.dp R
      simp only [toP] at q
      exact o.K ▸ q
    · rw [any_toP]
      simpa using F.val R h3 (.bl _)
  · obtain ⟨h1, h2, h3⟩ := h
    obtain ⟨a, xs, e, q1, q2⟩ := hy.tup
    refine .inr (.inl ⟨a, xs, e, .inr (o.K ▸ same_seqT R.gH q1), flat_V (hx.dg h1) h1, flat_Vs q2 h2, ?_⟩)
    rw [if_neg Bool.false_ne_true, flat_in (hx.dg h1) h1 q2 h2]
    simpa using F.val R h3 (.bl _)
  · split at h
    · rename_i ch
      rename_i z _
      refine .inr (.inr ⟨ch, sT z, hx.str, hy.str, ?_⟩)
      rw [any_mem] at h
      simpa using F.val R h (.bl _)
    · exact h.elim
  · exact h.elim
theorem de_in [o : Ok X c] (ha : PE X a (tE c m1)) (hb : PE X b (tE c m2)) (hm : behindInMarks .In b = false := by with_unfolding_all rfl) : PE X (.Compare a [.In] [b] pos) (tE c (mBin (dIn false) m1 m2)) :=
  de_cmpR (opR_or (op_inD (X := X) (by have := o.hu; omega)) (opR_or op_in_seq op_in_sign)) od_in ha hb hm
theorem od_notIn [o : Ok X c] : OpD c (dIn true) (fun x y H Q => rNotInD X.K x y H Q ∨ rIn X.K true x y H Q ∨ ∃ (c : Nat) (z : Str), x = .str ⟨#[c]⟩ ∧ y = .str z ∧ Q (.bl (!decide (c ∈ z.cps.toList))) H) := by
  intro σ H G s x y v u Qr Q R hx hy h F
  unfold dIn at h
  split at h
  · obtain ⟨h1, h2, h3⟩ := h
    rename_i ds
    refine .inl ⟨toP x, toPs ds, o.K ▸ hx.dp R, ?_, shaped_of h1 (by decide), shaped_of (n := 9) (d := .list ds) h2 (by decide), ?_⟩
    · have q := hy.dp R
      simp only [toP] at q
      exact o.K ▸ q
    · rw [any_toP]
      simpa using F.val R h3 (.bl _)
  · obtain ⟨h1, h2, h3⟩ := h
    obtain ⟨a, xs, e, q1, q2⟩ := hy.tup
    refine .inr (.inl ⟨a, xs, e, .inr (o.K ▸ same_seqT R.gH q1), flat_V (hx.dg h1) h1, flat_Vs q2 h2, ?_⟩)
    rw [if_pos rfl, flat_in (hx.dg h1) h1 q2 h2]
    simpa using F.val R h3 (.bl _)
  · split at h
    · rename_i ch
      rename_i z _
      refine .inr (.inr ⟨ch, sT z, hx.str, hy.str, ?_⟩)
      rw [any_mem] at h
      simpa using F.val R h (.bl _)
    · exact h.elim
  · exact h.elim
theorem de_notIn [o : Ok X c] (ha : PE X a (tE c m1)) (hb : PE X b (tE c m2)) (hm : behindInMarks .NotIn b = false := by with_unfolding_all rfl) : PE X (.Compare a [.NotIn] [b] pos) (tE c (mBin (dIn true) m1 m2)) :=
  de_cmpR (opR_or (op_notInD (X := X) (by have := o.hu; omega)) (opR_or op_notIn_seq op_notIn_sign)) od_notIn ha hb hm
theorem Peek.nonIff {v : V} {d : D} (h : Peek c H G v d) : decide (v = V.non) = isN d := by
  cases d with
  | none => simp [h.non, isN]
  | bool b => simp [h.bool, isN]
  | int b => simp [h.int, isN]
  | str b => simp [h.str, isN]
  | list ds => obtain ⟨a, vs, e, _⟩ := h; simp [e, isN]
  | tup ds => obtain ⟨a, vs, e, _⟩ := h.tup; simp [e, isN]
theorem de_isN {j pos'} (ha : PE X a (tE c m)) : PE X (.Compare a [.Is] [.Constant .none j pos'] pos) (tE c (mUn dIsN m)) := by
  refine pe_imp (pe_cmp (pc_isN ha) (nobehind _ (by decide) (by decide))) ?_
  refine mUn_run (r := fun x H Q => Q (.bl (decide (x = .non))) H) ?_
  intro σ H G s x v Qr Q R hx h F
  rw [hx.nonIff]
  exact F.val R h (.bl _)
theorem de_isNotN {j pos'} (ha : PE X a (tE c m)) : PE X (.Compare a [.IsNot] [.Constant .none j pos'] pos) (tE c (mUn dIsNotN m)) := by
  refine pe_imp (pe_cmp (pc_notN ha) (nobehind _ (by decide) (by decide))) ?_
  refine mUn_run (r := fun x H Q => Q (.bl (!decide (x = .non))) H) ?_
  intro σ H G s x v Qr Q R hx h F
  rw [hx.nonIff]
  exact F.val R h (.bl _)
/-! ### tests -/
theorem Peek.truV (R : Rel c σ H G s) {v : V} {d : D} (h : Peek c H G v d) (hz : okT d) : TruV c.K v H (truth d) := by
  cases d with
  | none => rw [h.non]; rfl
  | bool b => rw [h.bool]; rfl
  | int b => rw [h.int]; rfl
  | str s =>
    rw [h.str]
    refine ⟨by rw [len_sT, ← lineEq]; exact hz, ?_⟩
    rw [len_sT]
    cases s with
    | nil => rfl
    | cons x r =>
      show true = (((r.length + 1 : Nat) : Int) != 0)
      symm
      rw [bne_iff_ne]
      omega
  | list ds =>
    obtain ⟨a, vs, e, h1, h2, _⟩ := h
    subst e
    refine .inl ⟨vs, SqL.of h1, ?_⟩
    cases h2 <;> rfl
  | tup ds =>
    obtain ⟨a, vs, e, h1, h2⟩ := h.tup
    subst e
    refine .inr (.inl ⟨vs, same_seqT R.gH h1, ?_⟩)
    cases h2 <;> rfl
end
end DL

/-! DLS4: tests, displays, subscripts, slices. -/
namespace DL
open PySem PySem.Spec PyProof.Rows L2
section
variable {X : Cx} {c : Ct} {a b e : Expr} {es : List Expr} {m m1 m2 m3 : M} {ms : Ms} {t t1 t2 : T} {pos : Pos} {σ : St} {H G : Hp} {s : S}
/-! ### tests -/
theorem pt_impX {X : Cx} {e : Expr} {t t' : TT} (h : PT X e t) (i : ∀ σ H Q, t' σ H Q → t σ H Q) : PT X e t' := pt_imp h i
theorem dt_val [o : Ok X c] (ha : PE X a (tE c m)) (he : ∀ whole, isTrue a X.env whole = (do let v ← whole; standAt a.pos; holding [v] (truthy v)) := by intro _; rfl) : PT X a (tT c (tV m)) := by
  refine pt_imp (pt_truth ha he) ?_
  rintro σ H Q ⟨G, s, Q0, R, hm, hQ⟩
  refine ⟨G, s, _, R, hm, fun r s' v H' G' q R' S' K' O' => ⟨truth r.d, o.K ▸ (O'.peek R').truV R' q.1, hQ _ s' H' G' q.2 R' S' K'⟩⟩
theorem tB_test : ∀ σ H Q, tT c (tB m) σ H Q → tTest (tE c m) σ H Q := by
  rintro σ H Q ⟨G, s, Q0, R, hm, hQ⟩
  refine ⟨G, s, _, R, hm, fun r s' v H' G' q R' S' K' O' => ?_⟩
  have p := O'.peek R'
  split at q
  · rename_i b e
    rw [e] at p
    exact ⟨b, p.bool, hQ _ s' H' G' q R' S' K'⟩
  · exact q.elim
theorem dt_cmpR {op : CmpOp} {f : D → D → (R → Prop) → Prop} {r : R2} (hr : OpR X (compareOp op) r) (ho : OpD c f r) (ha : PE X a (tE c m1)) (hb : PE X b (tE c m2)) (hm : behindInMarks op b = false) : PT X (.Compare a [op] [b] pos) (tT c (tB (mBin f m1 m2))) :=
  pt_imp (pt_cmpR hr ha hb hm) fun σ H Q h => mBin_run ho (ta := tE c m1) (tb := tE c m2) _ _ _ (tB_test _ _ _ h)
theorem dt_lt (ha : PE X a (tE c m1)) (hb : PE X b (tE c m2)) : PT X (.Compare a [.Lt] [b] pos) (tT c (tB (mBin dLt m1 m2))) := dt_cmpR (opR_or op_lt op_lt_str) od_lt ha hb (nomark _)
theorem dt_le (ha : PE X a (tE c m1)) (hb : PE X b (tE c m2)) : PT X (.Compare a [.LtE] [b] pos) (tT c (tB (mBin dLe m1 m2))) := dt_cmpR op_le od_cmp ha hb (nomark _)
theorem dt_gt (ha : PE X a (tE c m1)) (hb : PE X b (tE c m2)) : PT X (.Compare a [.Gt] [b] pos) (tT c (tB (mBin dGt m1 m2))) := dt_cmpR op_gt od_cmp ha hb (nomark _)
theorem dt_ge (ha : PE X a (tE c m1)) (hb : PE X b (tE c m2)) : PT X (.Compare a [.GtE] [b] pos) (tT c (tB (mBin dGe m1 m2))) := dt_cmpR op_ge od_cmp ha hb (nomark _)
theorem od_eq [o : Ok X c] : OpD c dEq (rEqD X.K) := by
  intro σ H G s x y v u Qr Q R hx hy h F
  obtain ⟨h1, h2, h3⟩ := h
  refine ⟨toP x, toP y, o.K ▸ hx.dp R, o.K ▸ hy.dp R, shaped_of h1 (by decide), shaped_of h2 (by decide), ?_⟩
  rw [eqv_toP]
  exact F.val R h3 (.bl _)
theorem od_ne [o : Ok X c] : OpD c dNe (rNeD X.K) := by
  intro σ H G s x y v u Qr Q R hx hy h F
  obtain ⟨h1, h2, h3⟩ := h
  refine ⟨toP x, toP y, o.K ▸ hx.dp R, o.K ▸ hy.dp R, shaped_of h1 (by decide), shaped_of h2 (by decide), ?_⟩
  rw [eqv_toP]
  exact F.val R h3 (.bl _)
theorem dt_eq [o : Ok X c] (ha : PE X a (tE c m1)) (hb : PE X b (tE c m2)) : PT X (.Compare a [.Eq] [b] pos) (tT c (tB (mBin dEq m1 m2))) := dt_cmpR (op_eqD (X := X) (by have := o.hu; omega)) od_eq ha hb (nomark _)
theorem dt_ne [o : Ok X c] (ha : PE X a (tE c m1)) (hb : PE X b (tE c m2)) : PT X (.Compare a [.NotEq] [b] pos) (tT c (tB (mBin dNe m1 m2))) := dt_cmpR (op_neD (X := X) (by have := o.hu; omega)) od_ne ha hb (nomark _)
theorem dt_in [o : Ok X c] (ha : PE X a (tE c m1)) (hb : PE X b (tE c m2)) (hm : behindInMarks .In b = false := by with_unfolding_all rfl) : PT X (.Compare a [.In] [b] pos) (tT c (tB (mBin (dIn false) m1 m2))) :=
  dt_cmpR (opR_or (op_inD (X := X) (by have := o.hu; omega)) (opR_or op_in_seq op_in_sign)) od_in ha hb hm
theorem dt_notIn [o : Ok X c] (ha : PE X a (tE c m1)) (hb : PE X b (tE c m2)) (hm : behindInMarks .NotIn b = false := by with_unfolding_all rfl) : PT X (.Compare a [.NotIn] [b] pos) (tT c (tB (mBin (dIn true) m1 m2))) :=
  dt_cmpR (opR_or (op_notInD (X := X) (by have := o.hu; omega)) (opR_or op_notIn_seq op_notIn_sign)) od_notIn ha hb hm
theorem dt_isN {j pos'} (ha : PE X a (tE c m)) : PT X (.Compare a [.Is] [.Constant .none j pos'] pos) (tT c (tB (mUn dIsN m))) := by
  refine pt_imp (pt_cmp (pc_isN ha) (nobehind _ (by decide) (by decide))) fun σ H Q h => ?_
  refine mUn_run (r := fun x H Q => Q (.bl (decide (x = .non))) H) ?_ _ _ _ (tB_test _ _ _ h)
  intro σ H G s x v Qr Q R hx h F
  rw [hx.nonIff]
  exact F.val R h (.bl _)
theorem dt_isNotN {j pos'} (ha : PE X a (tE c m)) : PT X (.Compare a [.IsNot] [.Constant .none j pos'] pos) (tT c (tB (mUn dIsNotN m))) := by
  refine pt_imp (pt_cmp (pc_notN ha) (nobehind _ (by decide) (by decide))) fun σ H Q h => ?_
  refine mUn_run (r := fun x H Q => Q (.bl (!decide (x = .non))) H) ?_ _ _ _ (tB_test _ _ _ h)
  intro σ H G s x v Qr Q R hx h F
  rw [hx.nonIff]
  exact F.val R h (.bl _)
variable {rest : List Expr}
theorem dw_and1 (ha : PT X a (tT c t)) : PW X (.BoolOp .And [a] pos) (tT c t) := pw_and1 ha
theorem dw_or1 (ha : PT X a (tT c t)) : PW X (.BoolOp .Or [a] pos) (tT c t) := pw_or1 ha
theorem dw_and (ha : PT X a (tT c t1)) (hb : PW X (.BoolOp .And (b :: rest) pos) (tT c t2)) : PW X (.BoolOp .And (a :: b :: rest) pos) (tT c (tAnd t1 t2)) := by
  refine pw_imp (pw_and ha hb) ?_
  rintro σ H Q ⟨G, s, Q0, R, hm, hQ⟩
  refine ⟨G, s, _, R, hm, fun k s1 H1 G1 q R1 S1 K1 => ?_⟩
  cases k with
  | true =>
    rw [if_pos rfl] at q ⊢
    exact ⟨G1, s1, Q0, R1, q, fun b s' H' G' q R' S' K' => hQ b s' H' G' q R' (S1.trans S') (K1.trans K')⟩
  | false =>
    rw [if_neg Bool.false_ne_true] at q ⊢
    exact hQ _ _ _ _ q R1 S1 K1
theorem dw_or (ha : PT X a (tT c t1)) (hb : PW X (.BoolOp .Or (b :: rest) pos) (tT c t2)) : PW X (.BoolOp .Or (a :: b :: rest) pos) (tT c (tOr t1 t2)) := by
  refine pw_imp (pw_or ha hb) ?_
  rintro σ H Q ⟨G, s, Q0, R, hm, hQ⟩
  refine ⟨G, s, _, R, hm, fun k s1 H1 G1 q R1 S1 K1 => ?_⟩
  cases k with
  | true =>
    rw [if_pos rfl] at q ⊢
    exact hQ _ _ _ _ q R1 S1 K1
  | false =>
    rw [if_neg Bool.false_ne_true] at q ⊢
    exact ⟨G1, s1, Q0, R1, q, fun b s' H' G' q R' S' K' => hQ b s' H' G' q R' (S1.trans S') (K1.trans K')⟩
theorem dt_not (ha : PT X a (tT c t)) : PT X (.UnaryOp .Not a pos) (tT c (tNot t)) := by
  refine pt_imp (pt_not ha) ?_
  rintro σ H Q ⟨G, s, Q0, R, hm, hQ⟩
  exact ⟨G, s, _, R, hm, fun k s1 H1 G1 q R1 S1 K1 => hQ _ _ _ _ q R1 S1 K1⟩
/-! ### and, or, not, if as values -/
theorem de_and (ha : PE X a (tE c m1)) (hb : PE X (.BoolOp .And (b :: rest) pos) (tE c m2)) : PE X (.BoolOp .And (a :: b :: rest) pos) (tE c (mAnd m1 m2)) := by
  refine pe_imp (pe_and ha hb) ?_
  rintro σ H Q ⟨G, s, Q0, R, hm, hQ⟩
  refine ⟨G, s, _, R, hm, fun r s1 v H1 G1 q R1 S1 K1 O1 => ?_⟩
  have p := O1.peek R1
  split at q
  · rename_i k e
    rw [e] at p
    refine ⟨k, p.bool, ?_⟩
    cases k with
    | true =>
      rw [if_pos rfl] at q ⊢
      exact ⟨G1, s1, Q0, R1, q, fun r s' v H' G' q R' S' K' O' => hQ r s' v H' G' q R' (S1.trans S') (K1.trans K') O'⟩
    | false =>
      rw [if_neg Bool.false_ne_true] at q ⊢
      exact hQ _ _ _ _ _ q R1 S1 K1 (.bl _)
  · exact q.elim
theorem de_or (ha : PE X a (tE c m1)) (hb : PE X (.BoolOp .Or (b :: rest) pos) (tE c m2)) : PE X (.BoolOp .Or (a :: b :: rest) pos) (tE c (mOr m1 m2)) := by
  refine pe_imp (pe_or ha hb) ?_
  rintro σ H Q ⟨G, s, Q0, R, hm, hQ⟩
  refine ⟨G, s, _, R, hm, fun r s1 v H1 G1 q R1 S1 K1 O1 => ?_⟩
  have p := O1.peek R1
  split at q
  · rename_i k e
    rw [e] at p
    refine ⟨k, p.bool, ?_⟩
    cases k with
    | true =>
      rw [if_pos rfl] at q ⊢
      exact hQ _ _ _ _ _ q R1 S1 K1 (.bl _)
    | false =>
      rw [if_neg Bool.false_ne_true] at q ⊢
      exact ⟨G1, s1, Q0, R1, q, fun r s' v H' G' q R' S' K' O' => hQ r s' v H' G' q R' (S1.trans S') (K1.trans K') O'⟩
  · exact q.elim
theorem de_one {op} (ha : PE X a (tE c m)) : PE X (.BoolOp op [a] pos) (tE c m) := pe_one ha
theorem de_not (ha : PE X a (tE c m)) : PE X (.UnaryOp .Not a pos) (tE c (mNot m)) := by
  refine pe_imp (pe_not ha) ?_
  rintro σ H Q ⟨G, s, Q0, R, hm, hQ⟩
  refine ⟨G, s, _, R, hm, fun r s1 v H1 G1 q R1 S1 K1 O1 => ?_⟩
  have p := O1.peek R1
  split at q
  · rename_i k e
    rw [e] at p
    exact ⟨k, p.bool, hQ _ _ _ _ _ q R1 S1 K1 (.bl _)⟩
  · exact q.elim
theorem de_if {d : Expr} (hc : PT X d (tT c t)) (ha : PE X a (tE c m1)) (hb : PE X b (tE c m2)) : PE X (.IfExp d a b pos) (tE c (mIf t m1 m2)) := by
  refine pe_imp (pe_ifExp hc ha hb) ?_
  rintro σ H Q ⟨G, s, Q0, R, hm, hQ⟩
  refine ⟨G, s, _, R, hm, fun k s1 H1 G1 q R1 S1 K1 => ?_⟩
  cases k with
  | true =>
    rw [if_pos rfl] at q ⊢
    exact ⟨G1, s1, Q0, R1, q, fun r s' v H' G' q R' S' K' O' => hQ r s' v H' G' q R' (S1.trans S') (K1.trans K') O'⟩
  | false =>
    rw [if_neg Bool.false_ne_true] at q ⊢
    exact ⟨G1, s1, Q0, R1, q, fun r s' v H' G' q R' S' K' O' => hQ r s' v H' G' q R' (S1.trans S') (K1.trans K') O'⟩
/-- a < b < c, by the operators' rules -/
theorem mChain_run {f g : D → D → (R → Prop) → Prop} {r r' : R2} (ho : OpD c f r) (ho' : OpD c g r') : ∀ σ H Q, tE c (mChain f g m1 m2 m3) σ H Q → tChain r r' (tE c m1) (tE c m2) (tE c m3) σ H Q := by
  rintro σ H Q ⟨G, s, Q0, R, hm, hQ⟩
  refine ⟨G, s, _, R, hm, fun r1 s1 v1 H1 G1 q1 R1 S1 K1 O1 => ⟨G1, s1, _, R1, q1, fun r2 s2 v2 H2 G2 q2 R2 S2 K2 O2 => ?_⟩⟩
  refine ho R2 ((O1.peek R1).keep S2 K2) (O2.peek R2) q2 fun r v H3 G3 q R3 S3 K3 O3 => ?_
  have p := O3.peek R3
  split at q
  · rename_i k e
    rw [e] at p
    refine ⟨k, p.bool, ?_⟩
    cases k with
    | true =>
      rw [if_pos rfl] at q ⊢
      refine ⟨G3, s2, _, R3, q, fun r4 s4 v4 H4 G4 q4 R4 S4 K4 O4 => ?_⟩
      refine ho' R4 (((O2.peek R2).keep S3 K3).keep S4 K4) (O4.peek R4) q4 fun r v H' G' q R' S' K' O' => hQ r s4 v H' G' q R' ((((S1.trans S2).trans S3).trans S4).trans S') ((((K1.trans K2).trans K3).trans K4).trans K') O'
    | false =>
      rw [if_neg Bool.false_ne_true] at q ⊢
      exact hQ _ _ _ _ _ q R3 ((S1.trans S2).trans S3) ((K1.trans K2).trans K3) (.bl _)
  · exact q.elim
theorem de_chainI {op op' : CmpOp} {p p' : Int → Int → Bool} {d : Expr} (h1 : OpR X (compareOp op) (rI0 fun i j => .bl (p i j))) (h2 : OpR X (compareOp op') (rI0 fun i j => .bl (p' i j))) (ha : PE X a (tE c m1)) (hb : PE X b (tE c m2)) (hd : PE X d (tE c m3))
    (hm : lastMarks [op, op'] [b, d] = false := by with_unfolding_all rfl) : PE X (.Compare a [op, op'] [b, d] pos) (tE c (mChain (dCmp p) (dCmp p') m1 m2 m3)) := pe_imp (pe_chain h1 h2 ha hb hd hm) (mChain_run od_cmp od_cmp)
theorem dt_chainI {op op' : CmpOp} {p p' : Int → Int → Bool} {d : Expr} (h1 : OpR X (compareOp op) (rI0 fun i j => .bl (p i j))) (h2 : OpR X (compareOp op') (rI0 fun i j => .bl (p' i j))) (ha : PE X a (tE c m1)) (hb : PE X b (tE c m2)) (hd : PE X d (tE c m3))
    (hm : lastMarks [op, op'] [b, d] = false := by with_unfolding_all rfl) : PT X (.Compare a [op, op'] [b, d] pos) (tT c (tB (mChain (dCmp p) (dCmp p') m1 m2 m3))) := pt_imp (pt_chain h1 h2 ha hb hd hm) fun σ H Q h => mChain_run od_cmp od_cmp _ _ _ (tB_test _ _ _ h)
/-! ### argument lists, displays -/
theorem da_nil : PA X [] (tAs c msN) := pa_imp pa_nil fun σ H Q ⟨G, s, Q0, R, hm, hQ⟩ => hQ _ _ _ _ _ hm R (Same.refl _) Keep.refl .nil
theorem da_cons (ha : PE X e (tE c m)) (hr : PA X es (tAs c ms)) (hs : starEach (e :: es) X.env = (false, eval e X.env) :: starEach es X.env := by rfl) : PA X (e :: es) (tAs c (msC m ms)) := by
  refine pa_imp (pa_cons ha hr hs) ?_
  rintro σ H Q ⟨G, s, Q0, R, hm, hQ⟩
  refine ⟨G, s, _, R, hm, fun r s1 v H1 G1 q R1 S1 K1 O1 => ?_⟩
  obtain ⟨d, G2, q, R2, S2, dg⟩ := O1.frz R1 q
  exact ⟨G2, s1, _, R2, q, fun ds s' vs H' G' q R' S' K' dgs => hQ _ _ _ _ _ q R' ((S1.trans S2).trans S') (K1.trans K') (.cons (dg.mono S') dgs)⟩
theorem de_list (h : PA X es (tAs c ms)) : PE X (.List es pos) (tE c (mList ms)) := by
  refine pe_imp (pe_lst h) ?_
  rintro σ H Q ⟨G, s, Q0, R, hm, hQ⟩
  refine ⟨G, s, _, R, hm, fun ds s1 vs H1 G1 q R1 S1 K1 dgs => ⟨by rw [dgs.length, ← lineEq]; exact q.1, fun p n => ?_⟩⟩
  exact hQ _ _ _ _ _ q.2 (R1.newL n) S1 (K1.trans (Keep.upd n)) (R1.own_new n dgs)
theorem de_tup {x1} (h : PA X es (tAs c ms)) : PE X (.Tuple es x1 pos) (tE c (mTup ms)) := by
  refine pe_imp (pe_tup h) ?_
  rintro σ H Q ⟨G, s, Q0, R, hm, hQ⟩
  refine ⟨G, s, _, R, hm, fun ds s1 vs H1 G1 q R1 S1 K1 dgs => ⟨by rw [dgs.length, ← lineEq]; exact q.1, fun p n => ?_⟩⟩
  obtain ⟨R2, sm⟩ := R1.newG (o := .tup vs) n
  exact hQ _ _ _ _ _ q.2 R2 (S1.trans sm) (K1.trans (Keep.upd n)) (.tup (SqT.of upd_same) (dgs.mono sm))
/-! ### subscripts -/
theorem at_dgs {K : PySem.W.Frag} {vs : List V} {ds : List D} {i : Int} {d : D} (h : Dgs K G vs ds) (e : atI ds i = some d) : ∃ v, L2.atI vs i = some v ∧ Dg K G v d := by
  unfold atI at e
  unfold L2.atI
  rw [show L2.ixN vs.length i = ixN ds.length i by rw [h.length]; rfl]
  cases q : ixN ds.length i with
  | none => rw [q] at e; cases e
  | some j =>
    rw [q] at e
    obtain ⟨v, h1, h2⟩ := h.get (i := j) e
    exact ⟨v, h1, h2⟩
theorem od_ix [o : Ok X c] : OpD c dIx (rIx X.K) := by
  intro σ H G s x y v u Qr Q R hx hy h F
  unfold dIx at h
  split at h
  · obtain ⟨d, e, q⟩ := h
    obtain ⟨a, vs, e1, h1, h2, _⟩ := hx
    obtain ⟨w, e2, dg⟩ := at_dgs h2 e
    exact .inl ⟨a, vs, _, w, e1, hy.int, SqL.of h1, e2, F.val R q dg⟩
  · obtain ⟨d, e, q⟩ := h
    obtain ⟨a, vs, e1, h1, h2⟩ := hx.tup
    obtain ⟨w, e2, dg⟩ := at_dgs h2 e
    exact .inr (.inl ⟨a, vs, _, w, e1, hy.int, o.K ▸ same_seqT R.gH h1, e2, F.val R q dg⟩)
  · obtain ⟨h0, ch, e, q⟩ := h
    exact .inr (.inr ⟨_, _, ch, hx.str, hy.int, by rw [len_sT, ← lineEq]; exact h0, e, F.val R q (.str [ch])⟩)
  · exact h.elim
theorem de_ix [o : Ok X c] (ha : PE X a (tE c m1)) (hb : PE X b (tE c m2)) (hs : PlainIx b := by intro _ _; rfl) : PE X (.Subscript a b pos) (tE c (mBin dIx m1 m2)) := pe_imp (pe_ix ix_seq ha hb hs) (mBin_run od_ix (ta := tE c m1) (tb := tE c m2))
/-- slices -/
def tO (c : Ct) (mo : MO) : TO := fun σ H Q => ∃ G s Q0, Rel c σ H G s ∧ mo s Q0 ∧ ∀ o s' H' G', Q0 o s' → Rel c σ H' G' s' → Same G G' → Keep c H H' → Q o H'
theorem po_imp {X : Cx} {e : Option Expr} {t t' : TO} (h : PO X e t) (i : ∀ σ H Q, t' σ H Q → t σ H Q) : PO X e t' := ⟨fun pins s σ H Q I q => h.run pins s σ H Q I (i σ H Q q)⟩
theorem do_none : PO X none (tO c oN) := po_imp po_none fun σ H Q ⟨G, s, Q0, R, hm, hQ⟩ => hQ _ _ _ _ hm R (Same.refl _) Keep.refl
theorem do_some (h : PE X e (tE c m)) : PO X (some e) (tO c (oS m)) := by
  refine po_imp (po_some h) ?_
  rintro σ H Q ⟨G, s, Q0, R, hm, hQ⟩
  refine ⟨G, s, _, R, hm, fun r s1 v H1 G1 q R1 S1 K1 O1 => ?_⟩
  have p := O1.peek R1
  split at q
  · rename_i i e
    rw [e] at p
    exact ⟨i, p.int, hQ _ _ _ _ q R1 S1 K1⟩
  · exact q.elim
variable {lo hi : Option Expr} {ol oh : MO} {p2 : Pos}
theorem Dgs.cut {K : PySem.W.Frag} {vs : List V} {ds : List D} (h : Dgs K G vs ds) (l u : Option Int) : Dgs K G (cutV vs l u) (DL.cut ds l u) := by
  unfold cutV DL.cut
  rw [h.length]
  exact (h.drop _).take _
theorem cutS_sT (z : List Nat) (l u : Option Int) : cutS (sT z) l u = sT (DL.cut z l u) := by
  unfold cutS DL.cut
  rw [len_sT]
  rfl
theorem de_slice [o : Ok X c] (he : PE X e (tE c m)) (hl : PO X lo (tO c ol)) (hu : PO X hi (tO c oh)) : PE X (.Subscript e (.Slice lo hi none p2) pos) (tE c (mSl m ol oh)) := by
  refine pe_imp (pe_slice (sl_list.or sl_str) he hl hu) ?_
  rintro σ H Q ⟨G, s, Q0, R, hm, hQ⟩
  refine ⟨G, s, _, R, hm, fun r s1 v H1 G1 q1 R1 S1 K1 O1 => ⟨G1, s1, _, R1, q1, fun l s2 H2 G2 q2 R2 S2 K2 => ⟨G2, s2, _, R2, q2, fun u s3 H3 G3 q R3 S3 K3 => ?_⟩⟩⟩
  have p := ((O1.peek R1).keep S2 K2).keep S3 K3
  have sm := (S1.trans S2).trans S3
  have kp := (K1.trans K2).trans K3
  split at q
  · rename_i ds e
    rw [e] at p
    obtain ⟨a, vs, e1, h1, h2, _⟩ := p
    refine .inl ⟨a, vs, e1, SqL.of h1, fun x n => ?_⟩
    exact hQ _ _ _ _ _ q (R3.newL n) sm (kp.trans (Keep.upd n)) (R3.own_new n (h2.cut l u))
  · rename_i z e
    rw [e] at p
    refine .inr ⟨_, p.str, by rw [len_sT, ← lineEq]; exact q.1, ?_⟩
    rw [cutS_sT]
    exact hQ _ _ _ _ _ q.2 R3 sm kp (.str _)
  · exact q.elim
end
end DL

/-! DLS5: [::-1], calls, built-in functions. -/
namespace DL
open PySem PySem.Spec PyProof.Rows L2
section
variable {X : Cx} {c : Ct} {a b e : Expr} {es : List Expr} {m m1 m2 m3 : M} {ms : Ms} {t t1 t2 : T} {pos : Pos} {σ : St} {H G : Hp} {s : S}
theorem slice_rev (x : Str) : ((Builtin.Str.strSliceIndices none none (-1) x.length).filterMap (x.cps[·]?)) = x.cps.toList.reverse := by
  have e : Builtin.Str.strSliceIndices none none (-1) x.length = (List.range x.length).reverse := by
    unfold Builtin.Str.strSliceIndices
    simp only [show ¬ ((-1 : Int) > 0) by decide, if_false]
    rw [PySem.W.krv_sliceRange, PySem.W.krv_range]
  rw [e, List.filterMap_reverse]
  show ((List.range x.cps.size).filterMap (x.cps[·]?)).reverse = _
  rw [PySem.W.krv_all]
def tRevS (K : PySem.W.Frag) (te : TE) : TE := fun σ H Q => te σ H fun x H1 => (∃ a xs, x = .ref a ∧ SqL K H1 a xs ∧ ∀ p, H1 p = none → Q (.ref p) (upd H1 p (.lst xs.reverse))) ∨
  ∃ z : List Nat, x = .str (sT z) ∧ z.length ≤ LINE ∧ Q (.str (sT z.reverse)) H1
theorem pe_revX {e : Expr} {te : TE} {k : Nat} {p1 p2 p3 pos : Pos} (he : PE X e te) : PE X (.Subscript e (.Slice none none (some (.UnaryOp .USub (.Constant (.int 1) k p1) p2)) p3) pos) (tRevS X.K te) := by
  refine ⟨fun pins s σ H Q I h => ?_⟩
  refine Subscript_ (thn (he.run pins s σ H _ I h) fun v s1 ⟨x, H1, I1, r1, q1⟩ => ?_)
  have hst : PO X (some (.UnaryOp .USub (.Constant (.int 1) k p1) p2)) (tPart (tUn (rU fun i => .int (-i)) (tC (.int 1)))) := po_some (pe_un un_neg pe_int)
  refine wpAny_Slice (thn (po_none.run pins s1 σ H1 (fun o H2 => o = none ∧ H2 = H1) I1 ⟨rfl, rfl⟩) fun vl s2 ⟨l, H2, I2, pl, el, e2⟩ => ?_)
  subst el e2
  refine thn (po_none.run pins s2 σ H2 (fun o H3 => o = none ∧ H3 = H2) I2 ⟨rfl, rfl⟩) fun vu s3 ⟨u, H3, I3, pu, eu, e3⟩ => ?_
  subst eu e3
  refine thn (hst.run pins s3 σ H3 (fun o H4 => o = some (-1) ∧ H4 = H3) I3 ⟨1, rfl, -1, rfl, rfl, rfl⟩) fun vs s4 ⟨o, H4, I4, ps, eo, e4⟩ => ?_
  subst eo e4
  have I5 : Inv X pins σ H4 { s4 with heap := s4.heap.push { cls := .type "slice", data := .fields #[vl, vu, vs] } } := I4.kept (t' := s4.toks) fun b ob q => Heap.get?_push_of_some _ q
  rcases q1 with ⟨a, xs, ex, hx, q⟩ | ⟨z, ex, hz, q⟩
  · subst ex
    cases r1
    obtain ⟨its, r, ht, hz⟩ := I5.list hx
    have hlen := r.length
    show wpAny (model X.prog X.w) X.A (subscriptTail e (.Slice none none (some (.UnaryOp .USub (.Constant (.int 1) k p1) p2)) p3) (.ref a) (.ref s4.heap.objs.size)) (EP X pins σ Q) X.xe { s4 with heap := s4.heap.push { cls := .type "slice", data := .fields #[vl, vu, vs] } }
    refine tail_any (ops := [.ref a, .ref s4.heap.objs.size]) ht.isList.typeIs (PySem.slot_list_getitem.lookup) ?_ (by with_unfolding_all rfl)
    refine wpAny_getItem_list_slice ht.isList (Heap.IsSliceOf.new _ vl vu vs) pl pu ps (by decide) ?_ (by rw [List.size_toArray]; omega)
    rw [PySem.W.krv_pick]
    refine ⟨.ref _, _, I5.laid (t' := s4.toks) (o := .lst xs.reverse) (fun b ob q => Heap.get?_push_of_some _ q) (Nat.le_refl _) ?_, rfl, q _ (I5.hok.fresh (Nat.le_refl _))⟩
    exact ⟨by rw [List.length_reverse]; exact hz, _, 0, r.reverse, Heap.get?_push_size _ rfl⟩
  · subst ex
    obtain ⟨tk, rfl⟩ := r1
    show wpAny (model X.prog X.w) X.A (subscriptTail e (.Slice none none (some (.UnaryOp .USub (.Constant (.int 1) k p1) p2)) p3) (.str (sT z) tk) (.ref s4.heap.objs.size)) (EP X pins σ Q) X.xe { s4 with heap := s4.heap.push { cls := .type "slice", data := .fields #[vl, vu, vs] } }
    refine tail_any (ops := [.str (sT z) tk, .ref s4.heap.objs.size]) (typeIs_str _ _ _) (F.slot_str_getitem.lookup) ?_ (by with_unfolding_all rfl)
    obtain ⟨l, rfl, el⟩ := IsPart.raw pl
    obtain ⟨u, rfl, eu⟩ := IsPart.raw pu
    obtain ⟨st, rfl, es⟩ := IsPart.raw ps
    have e1 : st.map (·.1) = some (-1) := es
    have e2 : l.map (·.1) = none := el
    have e3 : u.map (·.1) = none := eu
    refine wpAny_getItem_str_slice (l := l) (u := u) (st := st) (Heap.IsSliceOf.new _ _ _ _) (by rw [e1]; rfl) ?_
    unfold sliceMade slicePicked
    rw [e1, e2, e3]
    show Made.post (if ((-1 : Int) == 1 && _) = true then _ else _) _ _
    rw [if_neg (by intro z; rw [show ((-1 : Int) == 1) = false by decide, Bool.false_and] at z; cases z)]
    have er : ((Builtin.Str.strSliceIndices none none ((some (-1 : Int)).getD 1) (sT z).length).filterMap ((sT z).cps[·]?)) = z.reverse := slice_rev (sT z)
    rw [er]
    exact ⟨by show z.reverse.toArray.size ≤ sizeLine; rw [List.size_toArray, List.length_reverse, ← lineEq]; exact hz, .str _, H4, I5.tok _, ⟨_, rfl⟩, q⟩
theorem de_rev [o : Ok X c] {k : Nat} {p1 p2 p3 : Pos} (he : PE X e (tE c m)) : PE X (.Subscript e (.Slice none none (some (.UnaryOp .USub (.Constant (.int 1) k p1) p2)) p3) pos) (tE c (mRev m)) := by
  refine pe_imp (pe_revX he) ?_
  rintro σ H Q ⟨G, s, Q0, R, hm, hQ⟩
  refine ⟨G, s, _, R, hm, fun r s1 v H1 G1 q R1 S1 K1 O1 => ?_⟩
  have p := O1.peek R1
  split at q
  · rename_i ds e
    rw [e] at p
    obtain ⟨a, vs, e1, h1, h2, _⟩ := p
    exact .inl ⟨a, vs, e1, SqL.of h1, fun x n => hQ _ _ _ _ _ q (R1.newL n) S1 (K1.trans (Keep.upd n)) (R1.own_new n h2.reverse)⟩
  · rename_i z e
    rw [e] at p
    exact .inr ⟨z, p.str, q.1, hQ _ _ _ _ _ q.2 R1 S1 K1 (.str _)⟩
  · exact q.elim
/-! ### calls of defs -/
def ResR (K : PySem.W.Frag) (fa : Option Addr) (H H' G' : Hp) (v : V) : R → Prop
  | .val d => Dg K G' v d
  | .own ds => ∃ a vs, v = .ref a ∧ H' a = some (.lst vs) ∧ Dgs K G' vs ds ∧ G' a = none ∧ H a = none
  | .bor _ => False
structure Ret (K : PySem.W.Frag) (fa : Option Addr) (G0 H G' H' : Hp) (r : R) (v : V) : Prop where
  g0 : Same G0 G'
  gH : Same G' H'
  kH : ∀ b o, H b = some o → fa ≠ some b → H' b = some o
  gN : ∀ a o, G' a = some o → G0 a = some o ∨ H a = none
  res : ResR K fa H H' G' v r
/-- the promise of a def that has the meaning g -/
def spD (K : PySem.W.Frag) (g : Sem) : Sp := fun vs H Q _ => ∃ G0 ds w Qd, Same G0 H ∧ Dgs K G0 vs ds ∧ g ds w Qd ∧ ∀ r w' v H' G', Qd r w' → Ret K none G0 H G' H' r v → Q v H'
/-- .. whose first argument is the feed -/
def spF (K : PySem.W.Frag) (g : Sem) : Sp := fun vs H Q _ => ∃ fa us G0 ds w Qd, vs = .ref fa :: us ∧ Same G0 H ∧ FeedOk (some fa) H G0 w ∧ Dgs K G0 us ds ∧ g ds w Qd ∧
  ∀ r w' v H' G', Qd r w' → Ret K (some fa) G0 H G' H' r v → FeedOk (some fa) H' G' w' → Q v H'
/-- a def of the module that may be called here -/
structure Kn (X : Cx) (x : Str) (sp : Sp) : Prop where
  ex : ∃ (k : Nat) (f : Addr) (fd : FuncData) (ps : List Str), FnOk X.prog X.w X.K X.mg X.base CX0 k f fd ps sp ∧ Room k X.A ∧ X.mg x = some (.ref f) ∧ PySem.W.keepIn X.K (.ref f) = true ∧ Binds X.K fd ps []
theorem Rel.called (R : Rel c σ H G s) {r : DL.R} {v : V} {H' G' : Hp} (h : Ret c.K none G H G' H' r v) : Rel c σ H' G' s ∧ ResOk c σ H' G' s v r := by
  have R' : Rel c σ H' G' s := R.grow h.g0 h.gH (fun b o e _ => h.kH b o e (by simp)) h.gN fun a e => by
    obtain ⟨_, sa, q, _⟩ := R.fd a e
    rw [q]
    exact h.kH a _ q (by simp)
  refine ⟨R', ?_⟩
  have q := h.res
  cases r with
  | val d => exact q
  | own ds =>
    obtain ⟨a, vs, e, h1, h2, h3, h4⟩ := q
    obtain ⟨n1, n2, n3⟩ := R.h0 h4
    refine ⟨a, vs, e, h1, h2, h3, n1, n2, R.nrs h4, fun i hi ei => ?_⟩
    have z := R.sl i
    cases y : get s.v i with
    | own es =>
      rw [y] at z
      obtain ⟨b, us, e1, e2, _⟩ := z
      rw [ei] at e1
      cases e1
      rw [h4] at e2; cases e2
    | _ => rw [y] at hi; cases hi
  | bor ds => exact q.elim
theorem de_call {x : Str} {g : Sem} {p : Pos} [o : Ok X c] (F : Kn X x (spD X.K g)) (ha : PA X (e :: es) (tAs c ms)) (hg : Gl X x := by rfl) (hdb : (x == ("__debug__" : Str)) = false := by decide)
    (he : starEach (e :: es) X.env = (false, eval e X.env) :: starEach es X.env := by rfl) (hpl : (backTo pos (starEach es X.env)).any (·.1) = false := by rfl) : PE X (.Call (.Name x p) (e :: es) [] pos) (tE c (mCall g ms)) := by
  obtain ⟨k, f, fd, ps, F, hr, hm, hk, hb⟩ := F.ex
  refine pe_imp (pe_call F hr hg hm hk hb .nil pass0 ha hdb he hpl) ?_
  rintro σ H Q ⟨G, s, Q0, R, hm, hQ⟩
  refine ⟨G, s, _, R, hm, fun ds s1 vs H1 G1 q R1 S1 K1 dgs => ?_⟩
  show spD X.K g (vs ++ []) H1 Q _
  rw [List.append_nil]
  refine ⟨G1, ds, s1.w, _, R1.gH, o.K ▸ dgs, q, fun r w' v H' G' q2 h => ?_⟩
  have h' : Ret c.K none G1 H1 G' H' r v := o.K ▸ h
  obtain ⟨R', O'⟩ := R1.called h'
  have k2 : Keep c H1 H' := fun b o e _ => h.kH b o e (by simp)
  exact hQ _ _ _ _ _ q2 R' (S1.trans h.g0) (K1.trans k2) O'
theorem de_call0 {x : Str} {g : Sem} {p : Pos} [o : Ok X c] (F : Kn X x (spD X.K g)) (hg : Gl X x := by rfl) (hdb : (x == ("__debug__" : Str)) = false := by decide) : PE X (.Call (.Name x p) [] [] pos) (tE c (mCall g msN)) := by
  obtain ⟨k, f, fd, ps, F, hr, hm, hk, hb⟩ := F.ex
  refine pe_imp (pe_call0 F hr hg hm hk hb .nil pass0 hdb) ?_
  rintro σ H Q ⟨G, s, Q0, R, hm, hQ⟩
  refine ⟨G, [], s.w, _, R.gH, .nil, hm, fun r w' v H' G' q2 h => ?_⟩
  have h' : Ret c.K none G H G' H' r v := o.K ▸ h
  obtain ⟨R', O'⟩ := R.called h'
  have k2 : Keep c H H' := fun b o e _ => h.kH b o e (by simp)
  exact hQ _ _ _ _ _ q2 R' h.g0 k2 O'
/-- behind a call that has the feed -/
theorem Rel.calledF (R : Rel c σ H G s) {fa : Addr} (hfa : c.fa = some fa) {r : DL.R} {v : V} {w' : W} {H' G' : Hp} (h : Ret c.K (some fa) G H G' H' r v) (fd : FeedOk (some fa) H' G' w') : Rel c σ H' G' { s with w := w' } ∧ ResOk c σ H' G' { s with w := w' } v r := by
  have kp : Keep c H H' := fun b o e n => h.kH b o e (hfa ▸ n)
  have gnone : ∀ {a : Addr} {o : HO}, G a = none → H a = some o → G' a = none := fun {a o} n e => by
    cases q : G' a with
    | none => rfl
    | some u =>
      rcases h.gN a u q with z | z
      · rw [n] at z; cases z
      · rw [e] at z; cases z
  have R' : Rel c σ H' G' { s with w := w' } := by
    refine ⟨R.g0.trans h.g0, h.gH, fun b o e n => kp b o (R.kH b o e n) n, fun a o e => ?_, R.len, fun i => ?_, R.ap, hfa ▸ fd, fun a e => ?_⟩
    · rcases h.gN a o e with z | z
      · exact R.gN a o z
      · exact .inr (R.h0 z).1
    · have q := R.sl i
      show SlotOk c H' G' σ[i]? (get s.v i)
      cases e : get s.v i with
      | gone => trivial
      | val d =>
        rw [e] at q
        obtain ⟨v, h1, h2⟩ := q
        exact ⟨v, h1, h2.mono h.g0⟩
      | own ds =>
        rw [e] at q
        obtain ⟨a, vs, h1, h2, h3, h4, h5, h6, h7⟩ := q
        exact ⟨a, vs, h1, kp _ _ h2 h6, h3.mono h.g0, gnone h4 h2, h5, h6, h7⟩
      | feed => rw [e] at q; exact q
      | exn x =>
        rw [e] at q
        obtain ⟨a, cls, d, q1, q2, q3⟩ := q
        exact ⟨a, cls, d, q1, q2, q3.mono h.g0⟩
    · obtain ⟨q1, q2, o, q3⟩ := R.rs a e
      exact ⟨gnone q1 q3, q2, o, kp _ _ q3 q2⟩
  refine ⟨R', ?_⟩
  have q := h.res
  cases r with
  | val d => exact q
  | own ds =>
    obtain ⟨a, vs, e, h1, h2, h3, h4⟩ := q
    obtain ⟨n1, n2, n3⟩ := R.h0 h4
    refine ⟨a, vs, e, h1, h2, h3, n1, n2, R.nrs h4, fun i hi ei => ?_⟩
    have z := R.sl i
    have hi : (get s.v i).isOwn = true := hi
    cases y : get s.v i with
    | own es =>
      rw [y] at z
      obtain ⟨b, us, e1, e2, _⟩ := z
      rw [ei] at e1
      cases e1
      rw [h4] at e2; cases e2
    | _ => rw [y] at hi; cases hi
  | bor ds => exact q.elim
theorem de_callF {x y : Str} {g : Sem} {p p1 : Pos} (i : Nat) [o : Ok X c] (F : Kn X x (spF X.K g)) (ha : PA X es (tAs c ms)) (hN : X.N[i]? = some y := by rfl)
    (hv : Vis X.env.scope y := by first | exact Or.inl rfl | exact Or.inr (Or.inl rfl) | exact Or.inr (Or.inr rfl)) (hg : Gl X x := by rfl) (hdb : (x == ("__debug__" : Str)) = false := by decide) (hd : (y == ("__debug__" : Str)) = false := by decide)
    (hcd : (y == ("__classdict__" : Str)) = false := by decide) (he : starEach (Expr.Name y p1 :: es) X.env = (false, eval (Expr.Name y p1) X.env) :: starEach es X.env := by rfl) (hpl : (backTo pos (starEach es X.env)).any (·.1) = false := by rfl) :
    PE X (.Call (.Name x p) (.Name y p1 :: es) [] pos) (tE c (mCallF g i ms)) := by
  obtain ⟨k, f, fd, ps, F, hr, hm, hk, hb⟩ := F.ex
  refine pe_imp (pe_call F hr hg hm hk hb .nil pass0 (pa_cons (pe_var hN hv hd hcd) ha he) hdb he hpl) ?_
  rintro σ H Q ⟨G, s, Q0, R, hm, hQ⟩
  unfold mCallF at hm
  split at hm
  · rename_i ei
    obtain ⟨fa, e1, e2⟩ := R.at ei
    refine ⟨_, e1, G, s, _, R, hm, fun ds s1 vs H1 G1 q R1 S1 K1 dgs => ?_⟩
    show spF X.K g (.ref fa :: vs ++ []) H1 Q _
    rw [List.append_nil]
    refine ⟨fa, vs, G1, ds, s1.w, _, rfl, R1.gH, e2 ▸ R1.fd, o.K ▸ dgs, q, fun r w' v H' G' q2 h fd => ?_⟩
    have h' : Ret c.K (some fa) G1 H1 G' H' r v := o.K ▸ h
    obtain ⟨R', O'⟩ := R1.calledF e2 h' fd
    have k2 : Keep c H1 H' := fun b o e n => h.kH b o e (e2 ▸ n)
    exact hQ _ _ _ _ _ q2 R' (S1.trans h.g0) (K1.trans k2) O'
  · exact hm.elim
/-- feed[k] -/
theorem de_feed {y : Str} {p1 p2 : Pos} {j : Nat} (i k : Nat) [o : Ok X c] (hN : X.N[i]? = some y := by rfl)
    (hv : Vis X.env.scope y := by first | exact Or.inl rfl | exact Or.inr (Or.inl rfl) | exact Or.inr (Or.inr rfl)) (hd : (y == ("__debug__" : Str)) = false := by decide)
    (hcd : (y == ("__classdict__" : Str)) = false := by decide) : PE X (.Subscript (.Name y p1) (.Constant (.int k) j p2) pos) (tE c (mFeed i k)) := by
  refine pe_imp (pe_ix ix_list (pe_var hN hv hd hcd) pe_int (fun _ _ => rfl)) ?_
  rintro σ H Q ⟨G, s, Q0, R, hm, hQ⟩
  unfold mFeed at hm
  split at hm
  · rename_i ei
    obtain ⟨fa, e1, e2⟩ := R.at ei
    obtain ⟨h1, sa, h2, h3⟩ := R.fd fa e2
    refine ⟨_, e1, ?_⟩
    split at hm
    · exact ⟨fa, _, 0, .ref sa, rfl, rfl, SqL.of h2, rfl, hQ _ _ _ _ _ hm R (Same.refl _) Keep.refl (.lst h3 (Dgs.ofInts _))⟩
    · exact ⟨fa, _, 1, _, rfl, rfl, SqL.of h2, rfl, hQ _ _ _ _ _ hm R (Same.refl _) Keep.refl (.int _)⟩
    · exact ⟨fa, _, 2, _, rfl, rfl, SqL.of h2, rfl, hQ _ _ _ _ _ hm R (Same.refl _) Keep.refl (.int _)⟩
    · exact ⟨fa, _, 3, _, rfl, rfl, SqL.of h2, rfl, hQ _ _ _ _ _ hm R (Same.refl _) Keep.refl (.int _)⟩
    · exact hm.elim
  · exact hm.elim
end
end DL

/-! DLS6: built-in functions. -/
namespace DL
open PySem PySem.Spec PyProof.Rows L2
section
variable {X : Cx} {c : Ct} {a b e : Expr} {es : List Expr} {m m1 m2 m3 : M} {ms : Ms} {t t1 t2 : T} {pos p : Pos} {σ : St} {H G : Hp} {s : S} {x : Str} {id ty : String}
theorem mArg_run {f : D → (R → Prop) → Prop} {r : List V → Hp → VK → Prop} (ho : UnD c f (fun x H Q => r [x] H Q)) : ∀ σ H Q, tE c (mUn f m) σ H Q → tCB r (tCons (tE c m) tNil) σ H Q := by
  rintro σ H Q ⟨G, s, Q0, R, hm, hQ⟩
  refine ⟨G, s, _, R, hm, fun r1 s1 v1 H1 G1 q1 R1 S1 K1 O1 => ?_⟩
  exact ho R1 (O1.peek R1) q1 fun r v H' G' q R' S' K' O' => hQ r s1 v H' G' q R' (S1.trans S') (K1.trans K') O'
theorem mArg2_run {f : D → D → (R → Prop) → Prop} {r : List V → Hp → VK → Prop} (ho : OpD c f (fun x y H Q => r [x, y] H Q)) : ∀ σ H Q, tE c (mBin f m1 m2) σ H Q → tCB r (tCons (tE c m1) (tCons (tE c m2) tNil)) σ H Q := by
  rintro σ H Q ⟨G, s, Q0, R, hm, hQ⟩
  refine ⟨G, s, _, R, hm, fun r1 s1 v1 H1 G1 q1 R1 S1 K1 O1 => ⟨G1, s1, _, R1, q1, fun r2 s2 v2 H2 G2 q2 R2 S2 K2 O2 => ?_⟩⟩
  exact ho R2 ((O1.peek R1).keep S2 K2) (O2.peek R2) q2 fun r v H' G' q R' S' K' O' => hQ r s2 v H' G' q R' ((S1.trans S2).trans S') ((K1.trans K2).trans K') O'
theorem de_b1 {f : D → (R → Prop) → Prop} {r : List V → Hp → VK → Prop} [o : Ok X c] (hc : CallR X (.builtin id) r) (ho : UnD c f (fun x H Q => r [x] H Q)) (hb : x ∈ bltNames) (hv : bootBuiltins x = some (.builtin id)) (hn : x ≠ "__name__") (hdb : (x == ("__debug__" : Str)) = false)
    (ha : PE X a (tE c m)) (hg : Gl X x) (he : starEach [a] X.env = (false, eval a X.env) :: starEach [] X.env) : PE X (.Call (.Name x p) [a] [] pos) (tE c (mUn f m)) :=
  pe_imp (pe_callB hc hg (o.blt x hb) hv (pa_cons ha pa_nil he) hn hdb he rfl) (mArg_run ho)
theorem de_b2 {f : D → D → (R → Prop) → Prop} {r : List V → Hp → VK → Prop} [o : Ok X c] (hc : CallR X (.builtin id) r) (ho : OpD c f (fun x y H Q => r [x, y] H Q)) (hb : x ∈ bltNames) (hv : bootBuiltins x = some (.builtin id)) (hn : x ≠ "__name__") (hdb : (x == ("__debug__" : Str)) = false)
    (ha : PE X a (tE c m1)) (h2 : PE X b (tE c m2)) (hg : Gl X x) (he : starEach [a, b] X.env = (false, eval a X.env) :: starEach [b] X.env) (he2 : starEach [b] X.env = (false, eval b X.env) :: starEach [] X.env) (hpl : (backTo pos (starEach [b] X.env)).any (·.1) = false) :
    PE X (.Call (.Name x p) [a, b] [] pos) (tE c (mBin f m1 m2)) :=
  pe_imp (pe_callB hc hg (o.blt x hb) hv (pa_cons ha (pa_cons h2 pa_nil he2) he) hn hdb he hpl) (mArg2_run ho)
theorem de_t1 {f : D → (R → Prop) → Prop} {r : List V → Hp → VK → Prop} [o : Ok X c] (hc : CallR X (.type ty) r) (ho : UnD c f (fun x H Q => r [x] H Q)) (hb : x ∈ bltNames) (hv : bootBuiltins x = some (.type ty)) (hn : x ≠ "__name__") (hdb : (x == ("__debug__" : Str)) = false)
    (ha : PE X a (tE c m)) (hg : Gl X x) (he : starEach [a] X.env = (false, eval a X.env) :: starEach [] X.env) : PE X (.Call (.Name x p) [a] [] pos) (tE c (mUn f m)) :=
  pe_imp (pe_callTy hc hg (o.blt x hb) hv (pa_cons ha pa_nil he) hn hdb he rfl) (mArg_run ho)
theorem Peek.list {v : V} {ds : List D} (h : Peek c H G v (.list ds)) : ∃ a vs, v = .ref a ∧ H a = some (.lst vs) ∧ Dgs c.K G vs ds := by
  obtain ⟨a, vs, e, h1, h2, _⟩ := h
  exact ⟨a, vs, e, h1, h2⟩
theorem de_len [o : Ok X c] (ha : PE X a (tE c m)) (hg : Gl X "len" := by rfl) (he : starEach [a] X.env = (false, eval a X.env) :: starEach [] X.env := by rfl) : PE X (.Call (.Name "len" p) [a] [] pos) (tE c (mUn dLen m)) :=
  de_b1 call_len (by
    intro σ H G s x v Qr Q R hx h F
    unfold dLen at h
    split at h
    · obtain ⟨a, vs, e, h1, h2⟩ := hx.list
      exact ⟨v, _, rfl, by subst e; exact .inl ⟨vs, SqL.of h1, h2.length.symm⟩, F.val R h (.int _)⟩
    · obtain ⟨a, vs, e, h1, h2⟩ := hx.tup
      exact ⟨v, _, rfl, by subst e; exact .inr ⟨vs, o.K ▸ same_seqT R.gH h1, h2.length.symm⟩, F.val R h (.int _)⟩
    · exact ⟨v, _, rfl, by rw [hx.str]; exact ⟨by rw [len_sT, ← lineEq]; exact h.1, (len_sT _).symm⟩, F.val R h.2 (.int _)⟩
    · exact h.elim) (by decide +kernel) (by decide +kernel) (by decide +kernel) (by decide +kernel) ha hg he
theorem de_abs [o : Ok X c] (ha : PE X a (tE c m)) (hg : Gl X "abs" := by rfl) (he : starEach [a] X.env = (false, eval a X.env) :: starEach [] X.env := by rfl) : PE X (.Call (.Name "abs" p) [a] [] pos) (tE c (mUn dAbs m)) :=
  de_b1 call_abs (by
    intro σ H G s x v Qr Q R hx h F
    unfold dAbs at h
    split at h
    · exact ⟨_, by rw [hx.int], F.val R h (.int _)⟩
    · exact h.elim) (by decide +kernel) (by decide +kernel) (by decide +kernel) (by decide +kernel) ha hg he
theorem de_toInt [o : Ok X c] (ha : PE X a (tE c m)) (hg : Gl X "int" := by rfl) (he : starEach [a] X.env = (false, eval a X.env) :: starEach [] X.env := by rfl) : PE X (.Call (.Name "int" p) [a] [] pos) (tE c (mUn dInt m)) :=
  de_t1 call_int1 (by
    intro σ H G s x v Qr Q R hx h F
    unfold dInt at h
    split at h
    · exact .inl ⟨_, by rw [hx.int], F.val R h (.int _)⟩
    · exact .inr ⟨_, by rw [hx.bool], F.val R h (.int _)⟩
    · exact h.elim) (by decide +kernel) (by decide +kernel) (by decide +kernel) (by decide +kernel) ha hg he
theorem de_min2 [o : Ok X c] [cm : Calm X] (ha : PE X a (tE c m1)) (h2 : PE X b (tE c m2)) (hg : Gl X "min" := by rfl) (he : starEach [a, b] X.env = (false, eval a X.env) :: starEach [b] X.env := by rfl) (he2 : starEach [b] X.env = (false, eval b X.env) :: starEach [] X.env := by rfl)
    (hpl : (backTo pos (starEach [b] X.env)).any (·.1) = false := by rfl) : PE X (.Call (.Name "min" p) [a, b] [] pos) (tE c (mBin dMin2 m1 m2)) :=
  de_b2 (call_min2 cm.calm) (by
    intro σ H G s x y v u Qr Q R hx hy h F
    unfold dMin2 at h
    split at h
    · exact ⟨_, _, by rw [hx.int, hy.int], F.val R h (.int _)⟩
    · exact h.elim) (by decide +kernel) (by decide +kernel) (by decide +kernel) (by decide +kernel) ha h2 hg he he2 hpl
theorem de_max2 [o : Ok X c] [cm : Calm X] (ha : PE X a (tE c m1)) (h2 : PE X b (tE c m2)) (hg : Gl X "max" := by rfl) (he : starEach [a, b] X.env = (false, eval a X.env) :: starEach [b] X.env := by rfl) (he2 : starEach [b] X.env = (false, eval b X.env) :: starEach [] X.env := by rfl)
    (hpl : (backTo pos (starEach [b] X.env)).any (·.1) = false := by rfl) : PE X (.Call (.Name "max" p) [a, b] [] pos) (tE c (mBin dMax2 m1 m2)) :=
  de_b2 (call_max2 cm.calm) (by
    intro σ H G s x y v u Qr Q R hx hy h F
    unfold dMax2 at h
    split at h
    · exact ⟨_, _, by rw [hx.int, hy.int], F.val R h (.int _)⟩
    · exact h.elim) (by decide +kernel) (by decide +kernel) (by decide +kernel) (by decide +kernel) ha h2 hg he he2 hpl
theorem de_toList [o : Ok X c] (ha : PE X a (tE c m)) (hg : Gl X "list" := by rfl) (he : starEach [a] X.env = (false, eval a X.env) :: starEach [] X.env := by rfl) : PE X (.Call (.Name "list" p) [a] [] pos) (tE c (mUn dList m)) :=
  de_t1 call_list_of (by
    intro σ H G s x v Qr Q R hx h F
    unfold dList at h
    split at h
    · obtain ⟨a, vs, e, h1, h2⟩ := hx.list
      exact ⟨a, vs, by rw [e], .inl (SqL.of h1), fun p n => F.own R h h2 n⟩
    · obtain ⟨a, vs, e, h1, h2⟩ := hx.tup
      exact ⟨a, vs, by rw [e], .inr (o.K ▸ same_seqT R.gH h1), fun p n => F.own R h h2 n⟩
    · exact h.elim) (by decide +kernel) (by decide +kernel) (by decide +kernel) (by decide +kernel) ha hg he
theorem de_toTup [o : Ok X c] (ha : PE X a (tE c m)) (hg : Gl X "tuple" := by rfl) (he : starEach [a] X.env = (false, eval a X.env) :: starEach [] X.env := by rfl) : PE X (.Call (.Name "tuple" p) [a] [] pos) (tE c (mUn dTup m)) :=
  de_t1 call_tuple_of (by
    intro σ H G s x v Qr Q R hx h F
    unfold dTup at h
    split at h
    · obtain ⟨a, vs, e, h1, h2⟩ := hx.list
      exact ⟨a, vs, by rw [e], .inl ⟨SqL.of h1, fun p n => F.tup R h h2 n⟩⟩
    · have hx' := hx
      obtain ⟨a, vs, e, h1, h2⟩ := hx.tup
      exact ⟨a, vs, by rw [e], .inr ⟨o.K ▸ same_seqT R.gH h1, by subst e; exact F.val R h hx'⟩⟩
    · exact h.elim) (by decide +kernel) (by decide +kernel) (by decide +kernel) (by decide +kernel) ha hg he
theorem de_sum [o : Ok X c] [cm : Calm X] (ha : PE X a (tE c m)) (hg : Gl X "sum" := by rfl) (he : starEach [a] X.env = (false, eval a X.env) :: starEach [] X.env := by rfl) : PE X (.Call (.Name "sum" p) [a] [] pos) (tE c (mUn dSum m)) :=
  de_b1 (cr_sum cm.calm) (by
    intro σ H G s x v Qr Q R hx h F
    unfold dSum at h
    split at h
    · obtain ⟨ns, e0, q⟩ := h
      subst e0
      obtain ⟨a, vs, e, h1, h2⟩ := hx.list
      rw [h2.ints] at h1
      exact ⟨a, ns, by rw [e], SqL.of h1, F.val R q (.int _)⟩
    · exact h.elim) (by decide +kernel) (by decide +kernel) (by decide +kernel) (by decide +kernel) ha hg he
theorem de_min [o : Ok X c] [cm : Calm X] (ha : PE X a (tE c m)) (hg : Gl X "min" := by rfl) (he : starEach [a] X.env = (false, eval a X.env) :: starEach [] X.env := by rfl) : PE X (.Call (.Name "min" p) [a] [] pos) (tE c (mUn dMin m)) :=
  de_b1 (cr_min cm.calm) (by
    intro σ H G s x v Qr Q R hx h F
    unfold dMin at h
    split at h
    · obtain ⟨ns, e0, hl, q⟩ := h
      subst e0
      obtain ⟨a, vs, e, h1, h2⟩ := hx.list
      rw [h2.ints] at h1
      exact ⟨a, ns, by rw [e], SqL.of h1, hl, fun m h3 h4 => F.val R (q m h3 h4) (.int _)⟩
    · exact h.elim) (by decide +kernel) (by decide +kernel) (by decide +kernel) (by decide +kernel) ha hg he
theorem de_max [o : Ok X c] [cm : Calm X] (ha : PE X a (tE c m)) (hg : Gl X "max" := by rfl) (he : starEach [a] X.env = (false, eval a X.env) :: starEach [] X.env := by rfl) : PE X (.Call (.Name "max" p) [a] [] pos) (tE c (mUn dMax m)) :=
  de_b1 (cr_max cm.calm) (by
    intro σ H G s x v Qr Q R hx h F
    unfold dMax at h
    split at h
    · obtain ⟨ns, e0, hl, q⟩ := h
      subst e0
      obtain ⟨a, vs, e, h1, h2⟩ := hx.list
      rw [h2.ints] at h1
      exact ⟨a, ns, by rw [e], SqL.of h1, hl, fun m h3 h4 => F.val R (q m h3 h4) (.int _)⟩
    · exact h.elim) (by decide +kernel) (by decide +kernel) (by decide +kernel) (by decide +kernel) ha hg he
theorem de_all [o : Ok X c] [cm : Calm X] (ha : PE X a (tE c m)) (hg : Gl X "all" := by rfl) (he : starEach [a] X.env = (false, eval a X.env) :: starEach [] X.env := by rfl) : PE X (.Call (.Name "all" p) [a] [] pos) (tE c (mUn dAll m)) :=
  de_b1 (cr_all cm.calm) (by
    intro σ H G s x v Qr Q R hx h F
    unfold dAll at h
    split at h
    · obtain ⟨ns, e0, q⟩ := h
      subst e0
      obtain ⟨a, vs, e, h1, h2⟩ := hx.list
      rw [h2.bools] at h1
      exact ⟨a, ns, by rw [e], SqL.of h1, F.val R q (.bl _)⟩
    · exact h.elim) (by decide +kernel) (by decide +kernel) (by decide +kernel) (by decide +kernel) ha hg he
/-! ### isinstance -/
def tyN : D → String
  | .none => "NoneType"
  | .bool _ => "bool"
  | .int _ => "int"
  | .str _ => "str"
  | .list _ => "list"
  | .tup _ => "tuple"
def Ty.name : Ty → String
  | .int => "int"
  | .bool => "bool"
  | .str => "str"
  | .list => "list"
  | .tuple => "tuple"
theorem Peek.tyX [o : Ok X c] (R : Rel c σ H G s) {v : V} {d : D} (h : Peek c H G v d) : TyX X.K H v (.type (tyN d)) := by
  cases d with
  | none => rw [h.non]; exact .base .non
  | bool b => rw [h.bool]; exact .base (.bl b)
  | int b => rw [h.int]; exact .base (.int b)
  | str b => rw [h.str]; exact .base (.str _)
  | list ds =>
    obtain ⟨a, vs, e, h1, _⟩ := h
    rw [e]
    exact .base (.lst h1)
  | tup ds =>
    obtain ⟨a, vs, e, h1, _⟩ := h.tup
    rw [e]
    rcases same_seqT R.gH h1 with (z | ⟨ob, z⟩) | ⟨ob, its, n, z, z2, _⟩
    · exact .base (.tup z)
    · exact .fTuple z
    · exact .kTuple (o.K.symm ▸ z) z2
theorem kit_isTy {K : PySem.W.Frag} (d : D) (t : Ty) : PySem.W.kitOne K (.type (tyN d)) (.type t.name) = some (isTy d t) := by
  have tab : ∀ n ∈ (["NoneType", "bool", "int", "str", "list", "tuple"] : List String), ∀ t ∈ (["int", "bool", "str", "list", "tuple"] : List String), kitB n t = some (n == t || (n == "bool" && t == "int")) := by decide +kernel
  have h1 : tyN d ∈ (["NoneType", "bool", "int", "str", "list", "tuple"] : List String) := by cases d <;> simp [tyN]
  have h2 : t.name ∈ (["int", "bool", "str", "list", "tuple"] : List String) := by cases t <;> simp [Ty.name]
  have h3 : isTy d t = (tyN d == t.name || (tyN d == "bool" && t.name == "int")) := by
    cases d <;> cases t <;> (simp only [isTy, tyN, Ty.name]; decide +kernel)
  rw [h3]
  exact kit_ty (tab _ h1 _ h2)
theorem de_isI {y : Str} {p2 : Pos} (t : Ty) [o : Ok X c] (ha : PE X a (tE c m)) (hy : bootBuiltins y = some (.type t.name)) (hyb : y ∈ bltNames := by decide +kernel) (hg : Gl X "isinstance" := by rfl) (hgy : Gl X y := by rfl) (hn : y ≠ "__name__" := by decide +kernel) (hdb : (y == ("__debug__" : Str)) = false := by decide +kernel)
    (he : starEach [a, .Name y p2] X.env = (false, eval a X.env) :: starEach [.Name y p2] X.env := by rfl) (he2 : starEach [Expr.Name y p2] X.env = (false, eval (.Name y p2) X.env) :: starEach [] X.env := by rfl) (hpl : (backTo pos (starEach [Expr.Name y p2] X.env)).any (·.1) = false := by rfl) :
    PE X (.Call (.Name "isinstance" p) [a, .Name y p2] [] pos) (tE c (mIsI m t)) := by
  refine pe_imp (pe_callB call_isi hg (o.blt _ (by decide +kernel)) (by decide +kernel) (pa_cons ha (pa_cons (pe_bltn (v := .ty t.name) hgy (o.blt y hyb) hy rfl hn hdb) pa_nil he2) he) (by decide +kernel) (by decide +kernel) he hpl) ?_
  rintro σ H Q ⟨G, s, Q0, R, hm, hQ⟩
  refine ⟨G, s, _, R, hm, fun r1 s1 v1 H1 G1 q1 R1 S1 K1 O1 => ?_⟩
  have tx : TyX X.K H1 v1 (.type (tyN r1.d)) := (O1.peek R1).tyX R1
  exact ⟨v1, .ty t.name, _, _, _, rfl, .ty _, tx, kit_isTy _ _, hQ _ _ _ _ _ q1 R1 S1 K1 (.bl _)⟩
end
end DL

/-! DLS7: targets, what is walked, comprehensions. -/
namespace DL
open PySem PySem.Spec PyProof.Rows L2
/-! ### slots -/
theorem puts_length : ∀ (v : List Slot) (vs : List Nat) (y : Slot), (puts v vs y).length = v.length
  | _, [], _ => rfl
  | v, i :: r, y => by
    show (put (puts v r y) i y).length = _
    rw [put_length, puts_length]
theorem get_put_gone (v : List Slot) (i j : Nat) : get (put v i .gone) j = if j = i then .gone else get v j := by
  by_cases h : i < v.length
  · exact get_put v i j _ h
  · rw [put_out _ _ _ h]
    by_cases e : j = i
    · subst e; rw [if_pos rfl, get_out _ _ h]
    · rw [if_neg e]
theorem get_puts : ∀ (v : List Slot) (vs : List Nat) (j : Nat), get (puts v vs .gone) j = if j ∈ vs then .gone else get v j
  | _, [], j => by simp [puts]
  | v, i :: r, j => by
    show get (put (puts v r .gone) i .gone) j = _
    rw [get_put_gone, get_puts v r j]
    by_cases e : j = i
    · subst e; simp
    · by_cases h : j ∈ r
      · rw [if_neg e, if_pos h, if_pos (List.mem_cons_of_mem _ h)]
      · rw [if_neg e, if_neg h, if_neg (by simp [e, h])]
def keepV (x : Slot) : Slot := match x with
  | .val d => .val d
  | _ => .gone
theorem back_length (v0 : List Slot) : ∀ (v : List Slot) (vs : List Nat), (back v0 v vs).length = v.length
  | _, [] => rfl
  | v, i :: r => by
    show (put (back v0 v r) i _).length = _
    rw [put_length, back_length v0 v r]
theorem get_back (v0 : List Slot) : ∀ (v : List Slot) (vs : List Nat) (j : Nat), v.length = v0.length → get (back v0 v vs) j = if j ∈ vs then keepV (get v0 j) else get v j
  | _, [], j, _ => by simp [back]
  | v, i :: r, j, hl => by
    show get (put (back v0 v r) i (keepV (get v0 i))) j = _
    have ih := get_back v0 v r j hl
    by_cases hi : i < v.length
    · rw [get_put _ _ _ _ (by rw [back_length]; exact hi), ih]
      by_cases e : j = i
      · subst e; simp
      · by_cases h : j ∈ r
        · rw [if_neg e, if_pos h, if_pos (List.mem_cons_of_mem _ h)]
        · rw [if_neg e, if_neg h, if_neg (by simp [e, h])]
    · rw [put_out _ _ _ (by rw [back_length]; exact hi), ih]
      by_cases e : j = i
      · subst e
        rw [if_pos List.mem_cons_self]
        by_cases h : j ∈ r
        · rw [if_pos h]
        · rw [if_neg h, get_out _ _ hi, get_out _ _ (by rw [← hl]; exact hi)]
          rfl
      · by_cases h : j ∈ r
        · rw [if_pos h, if_pos (List.mem_cons_of_mem _ h)]
        · rw [if_neg h, if_neg (by simp [e, h])]
/-- the slots is alone may have changed -/
def Chg (is : List Nat) (σ σ' : St) : Prop := σ'.length = σ.length ∧ ∀ i, i ∉ is → σ'[i]? = σ[i]?
theorem Chg.refl {is : List Nat} {σ : St} : Chg is σ σ := ⟨rfl, fun _ _ => rfl⟩
theorem Chg.trans {is js : List Nat} {σ σ1 σ2 : St} (a : Chg is σ σ1) (b : Chg js σ1 σ2) : Chg (is ++ js) σ σ2 := ⟨b.1.trans a.1, fun i h => by
  rw [List.mem_append] at h
  exact (b.2 i fun z => h (.inr z)).trans (a.2 i fun z => h (.inl z))⟩
theorem Chg.set {i : Nat} {σ : St} {v : Option V} : Chg [i] σ (σ.set i v) := ⟨List.length_set, fun j h => List.getElem?_set_ne fun e => h (by simp [e])⟩
theorem wipe_at (σ : St) : ∀ (vs : List Nat) (i : Nat), (wipe σ vs)[i]? = if i ∈ vs then (if i < σ.length then some none else none) else σ[i]?
  | [], i => by simp [wipe]
  | v :: vs, i => by
    show ((wipe σ vs).set v none)[i]? = _
    have ih := wipe_at σ vs i
    by_cases e : v = i
    · subst e
      rw [if_pos List.mem_cons_self]
      by_cases h : v < σ.length
      · rw [if_pos h, List.getElem?_set_self (by rw [wipe_length]; exact h)]
      · rw [if_neg h, List.getElem?_eq_none (by rw [List.length_set, wipe_length]; omega)]
    · rw [List.getElem?_set_ne e, ih]
      by_cases h : i ∈ vs
      · rw [if_pos h, if_pos (List.mem_cons_of_mem _ h)]
      · rw [if_neg h, if_neg (by simp [Ne.symm e, h])]
theorem wipe_chg {σ σ' : St} {vs is : List Nat} (h : Chg is σ σ') (hs : ∀ i ∈ is, i ∈ vs) : wipe σ' vs = wipe σ vs := by
  apply List.ext_getElem?
  intro i
  rw [wipe_at, wipe_at, h.1]
  by_cases e : i ∈ vs
  · rw [if_pos e, if_pos e]
  · rw [if_neg e, if_neg e, h.2 i fun z => e (hs i z)]
theorem wipe_wipe (σ : St) (vs : List Nat) : wipe (wipe σ vs) vs = wipe σ vs := wipe_chg (is := vs) ⟨wipe_length _ _, fun i h => by rw [wipe_at, if_neg h]⟩ fun _ h => h
section
variable {X : Cx} {c : Ct} {a b e : Expr} {es : List Expr} {m m1 m2 m3 : M} {ms : Ms} {t t1 t2 : T} {pos p : Pos} {σ σ1 σ2 : St} {H G : Hp} {s : S} {x : Str} {id ty : String}
theorem Rel.slots (R : Rel c σ2 H G s) {v' : List Slot} (hl : v'.length = σ1.length) (sl : ∀ i, SlotOk c H G σ1[i]? (get v' i)) (ow : ∀ i, (get v' i).isOwn = true → (get s.v i).isOwn = true ∧ σ1[i]? = σ2[i]?) : Rel c σ1 H G { s with v := v' } :=
  ⟨R.g0, R.gH, R.kH, R.gN, hl, sl, fun i j a hij h1 h2 e1 e2 => by
    obtain ⟨o1, q1⟩ := ow i h1
    obtain ⟨o2, q2⟩ := ow j h2
    rw [q1] at e1
    rw [q2] at e2
    exact R.ap i j a hij o1 o2 e1 e2, R.fd, R.rs⟩
theorem Rel.forget (R : Rel c σ2 H G s) {vs : List Nat} (h : Chg vs σ2 σ1) : Rel c σ1 H G { s with v := puts s.v vs .gone } := by
  refine R.slots (by rw [puts_length, R.len, h.1]) (fun i => ?_) fun i hi => ?_
  · rw [get_puts]
    by_cases e : i ∈ vs
    · rw [if_pos e]; trivial
    · rw [if_neg e, h.2 i e]; exact R.sl i
  · rw [get_puts] at hi
    by_cases e : i ∈ vs
    · rw [if_pos e] at hi; cases hi
    · rw [if_neg e] at hi; exact ⟨hi, h.2 i e⟩
theorem Rel.backed {v0 : List Slot} (R : Rel c σ2 H G s) {vs : List Nat} (h : Chg vs σ2 σ1) (hl : v0.length = σ1.length) (h0 : ∀ i, SlotOk c H G σ1[i]? (keepV (get v0 i))) : Rel c σ1 H G { s with v := back v0 s.v vs } := by
  have e0 : s.v.length = v0.length := by rw [R.len, hl, h.1]
  refine R.slots (by rw [back_length, R.len, h.1]) (fun i => ?_) fun i hi => ?_
  · rw [get_back _ _ _ _ e0]
    by_cases e : i ∈ vs
    · rw [if_pos e]; exact h0 i
    · rw [if_neg e, h.2 i e]; exact R.sl i
  · rw [get_back _ _ _ _ e0] at hi
    by_cases e : i ∈ vs
    · rw [if_pos e] at hi
      cases q : get v0 i <;> rw [q] at hi <;> cases hi
    · rw [if_neg e] at hi; exact ⟨hi, h.2 i e⟩
/-- a list that a comprehension makes -/
abbrev Ct.with (c : Ct) (D : Addr) : Ct := { c with rs := fun a => c.rs a ∨ a = D }
instance [o : Ok X c] {D : Addr} : Ok X (c.with D) := ⟨o.K, o.blt, o.hu, o.nd, o.mg, o.xe⟩
theorem Rel.make (R : Rel c σ H G s) {D : Addr} (n : H D = none) : Rel (c.with D) σ (upd H D (.lst [])) G s := by
  have R1 : Rel c σ (upd H D (.lst [])) G s := R.newL n
  obtain ⟨h1, h2, h3⟩ := R.h0 n
  refine ⟨R1.g0, R1.gH, R1.kH, R1.gN, R1.len, fun i => ?_, R1.ap, R1.fd, fun a e => ?_⟩
  · have q := R1.sl i
    have q0 := R.sl i
    cases e : get s.v i with
    | own ds =>
      rw [e] at q q0
      obtain ⟨a, vs, e1, e2, e3, e4, e5, e6, e7⟩ := q
      obtain ⟨a', vs', e1', e2', _⟩ := q0
      rw [e1] at e1'
      cases e1'
      exact ⟨a, vs, e1, e2, e3, e4, e5, e6, fun z => z.elim e7 fun z => by rw [z, n] at e2'; cases e2'⟩
    | gone => trivial
    | val d => rw [e] at q; exact q
    | feed => rw [e] at q; exact q
    | exn x => rw [e] at q; exact q
  · rcases e with e | e
    · exact R1.rs a e
    · subst e
      exact ⟨h3, h2, _, upd_same⟩
theorem Rel.made {D : Addr} (R : Rel (c.with D) σ H G s) : Rel c σ H G s :=
  ⟨R.g0, R.gH, R.kH, R.gN, R.len, fun i => by
    have q := R.sl i
    cases e : get s.v i with
    | own ds =>
      rw [e] at q
      obtain ⟨a, vs, e1, e2, e3, e4, e5, e6, e7⟩ := q
      exact ⟨a, vs, e1, e2, e3, e4, e5, e6, fun z => e7 (.inl z)⟩
    | gone => trivial
    | val d => rw [e] at q; exact q
    | feed => rw [e] at q; exact q
    | exn x => rw [e] at q; exact q, R.ap, R.fd, fun a e => R.rs a (.inl e)⟩
theorem Rel.more {D : Addr} (R : Rel (c.with D) σ H G s) (hD : c.H0 D = none) (o : HO) : Rel (c.with D) σ (upd H D o) G s := by
  obtain ⟨h1, h2, h3⟩ := R.rs D (.inr rfl)
  refine ⟨R.g0, fun b x e => ?_, fun b x e n => ?_, R.gN, R.len, fun i => ?_, R.ap, fun a e => ?_, fun a e => ?_⟩
  · rw [upd_ne (fun z : b = D => by rw [z, h1] at e; cases e)]; exact R.gH b x e
  · rw [upd_ne (fun z : b = D => by
      have e' : c.H0 b = some x := e
      rw [z, hD] at e'; cases e')]
    exact R.kH b x e n
  · have q := R.sl i
    cases e : get s.v i with
    | own ds =>
      rw [e] at q
      obtain ⟨a, vs, e1, e2, e3, e4, e5, e6, e7⟩ := q
      exact ⟨a, vs, e1, by rw [upd_ne (fun z : a = D => e7 (.inr z))]; exact e2, e3, e4, e5, e6, e7⟩
    | gone => trivial
    | val d => rw [e] at q; exact q
    | feed => rw [e] at q; exact q
    | exn x => rw [e] at q; exact q
  · obtain ⟨q1, sa, q2, q3⟩ := R.fd a e
    exact ⟨q1, sa, by rw [upd_ne (fun z : a = D => h2 (z ▸ e))]; exact q2, q3⟩
  · obtain ⟨q1, q2, o', q3⟩ := R.rs a e
    refine ⟨q1, q2, ?_⟩
    by_cases z : a = D
    · subst z; exact ⟨_, upd_same⟩
    · exact ⟨o', by rw [upd_ne z]; exact q3⟩
/-! ### targets -/
def tG (c : Ct) (is : List Nat) (g : Gt) : TG := fun v σ H Q => ∃ G s d Q0, Rel c σ H G s ∧ Dg c.K G v d ∧ g d s Q0 ∧ ∀ s' σ' H' G', Q0 s' → Rel c σ' H' G' s' → Chg is σ σ' → Same G G' → Keep c H H' → Q σ' H'
def tGs (c : Ct) (is : List Nat) (g : Gts) : TGs := fun vs σ H Q => ∃ G s ds Q0, Rel c σ H G s ∧ Dgs c.K G vs ds ∧ g ds s Q0 ∧ ∀ s' σ' H' G', Q0 s' → Rel c σ' H' G' s' → Chg is σ σ' → Same G G' → Keep c H H' → Q σ' H'
theorem pg_imp {X : Cx} {e : Expr} {t t' : TG} (h : PG X e t) (i : ∀ v σ H Q, t' v σ H Q → t v σ H Q) : PG X e t' := ⟨fun pins s σ H v u Q I r q => h.run pins s σ H v u Q I r (i v σ H Q q)⟩
theorem pgs_imp {X : Cx} {e : List Expr} {t t' : TGs} (h : PGs X e t) (i : ∀ v σ H Q, t' v σ H Q → t v σ H Q) : PGs X e t' := ⟨fun pins s σ H v u Q I r q => h.run pins s σ H v u Q I r (i v σ H Q q)⟩
theorem dg_name (i : Nat) [o : Ok X c] (hi : X.N[i]? = some x := by rfl) (hx : Loc X.env.scope x := by first | exact Or.inl rfl | exact Or.inr rfl) (hf : X.fn x = true ∨ X.env.scope.names.lookup x = some .local := by first | exact .inl rfl | exact .inr rfl) : PG X (.Name x pos) (tG c [i] (gV i)) := by
  refine pg_imp (pg_name o.nd hi hx hf) ?_
  rintro v σ H Q ⟨G, s, d, Q0, R, dg, hm, hQ⟩
  exact hQ _ _ H G hm (R.put_val dg) Chg.set (Same.refl _) Keep.refl
theorem dgs_nil : PGs X [] (tGs c [] gsN) := by
  refine pgs_imp pgs_nil ?_
  rintro v σ H Q ⟨G, s, d, Q0, R, dg, hm, hQ⟩
  unfold gsN at hm
  split at hm
  · cases dg
    exact ⟨rfl, hQ _ _ H G hm R Chg.refl (Same.refl _) Keep.refl⟩
  · exact hm.elim
theorem dgs_cons {g : Gt} {gs : Gts} {is js : List Nat} (h1 : PG X e (tG c is g)) (h2 : PGs X es (tGs c js gs)) (hs : (assignEach (e :: es) X.env).map (·.2) = assign e X.env :: (assignEach es X.env).map (·.2) := by rfl) : PGs X (e :: es) (tGs c (is ++ js) (gsC g gs)) := by
  refine pgs_imp (pgs_cons h1 h2 hs) ?_
  rintro v σ H Q ⟨G, s, d, Q0, R, dg, hm, hQ⟩
  unfold gsC at hm
  split at hm
  · cases dg with
    | cons d1 d2 =>
      refine ⟨_, _, rfl, G, s, _, _, R, d1, hm, fun s1 σ1 H1 G1 q R1 C1 S1 K1 => ⟨G1, s1, _, _, R1, d2.mono S1, q, fun s' σ' H' G' q R' C' S' K' => ?_⟩⟩
      exact hQ _ _ _ _ q R' (C1.trans C') (S1.trans S') (K1.trans K')
  · exact hm.elim
theorem dg_tup {gs : Gts} {is : List Nat} {n k : Nat} [o : Ok X c] [cm : Calm X] (h : PGs X es (tGs c is gs)) (hn : (assignEach es X.env).length = n := by rfl) (hst : (assignEach es X.env).findIdx? (·.1) = none := by rfl) : PG X (.Tuple es k pos) (tG c is (gT n gs)) := by
  refine pg_imp (pg_tup cm.calm h hn hst) ?_
  rintro v σ H Q ⟨G, s, d, Q0, R, dg, hm, hQ⟩
  unfold gT at hm
  split at hm
  · cases dg with
    | tup d1 d2 => exact ⟨_, _, rfl, o.K ▸ same_seqT R.gH d1, by rw [d2.length]; exact hm.1, G, s, _, Q0, R, d2, hm.2, hQ⟩
  · exact hm.elim
/-! ### what is walked -/
/-- the iterator J gives the data ds, one after the other -/
structure Walks (c : Ct) (G : Hp) (J : It) (ds : List D) : Prop where
  go : ∀ (i : Nat) (H G1 : Hp), i < ds.length → Same G G1 → Same G1 H → J.go i H
  stop : ∀ (H G1 : Hp), Same G G1 → Same G1 H → J.stop ds.length H
  yld : ∀ (c' : Ct) (σ : St) (i : Nat) (H G1 H' : Hp) (s : S) (v : V) (d : D), c'.K = c.K → Rel c' σ H G1 s → Same G G1 → ds[i]? = some d → J.yld i H v H' → ∃ G2, Rel c' σ H' G2 s ∧ Same G1 G2 ∧ Keep c' H H' ∧ Dg c.K G2 v d
def tI (c : Ct) (src : Src) : TI := fun σ H Q => ∃ G s Q0, Rel c σ H G s ∧ src s Q0 ∧ ∀ ds s' J H' G', Q0 ds s' → Rel c σ H' G' s' → Same G G' → Keep c H H' → Walks c G' J ds → Q J H'
theorem pi_imp {X : Cx} {tg e : Expr} {t t' : TI} (h : PI X tg e t) (i : ∀ σ H Q, t' σ H Q → t σ H Q) : PI X tg e t' := ⟨fun pins s σ H R I q => h.run pins s σ H R I (i σ H R q)⟩
/-- a list, a tuple, a text: which, the value tells -/
def iAny (K : PySem.W.Frag) (tl : TE) : TI := fun σ H R => tl σ H fun x H1 => (∃ a, x = .ref a ∧ (∃ xs, SqL K H1 a xs) ∧ R (Itl K a) H1) ∨ (∃ a, x = .ref a ∧ (∃ xs, SqT K H1 a xs) ∧ R (Itt K a) H1) ∨ ∃ z, x = .str z ∧ R (Its z) H1
theorem pi_any {tg l : Expr} {tl : TE} (hl : PE X l tl) : PI X tg l (iAny X.K tl) := by
  refine ⟨fun pins s σ H R I h => ?_⟩
  refine thn (hl.run pins s σ H _ I h) fun v s1 ⟨x, H1, I1, r1, q1⟩ => ?_
  rcases q1 with ⟨a, e, ⟨xs, hq⟩, q⟩ | ⟨a, e, ⟨xs, hq⟩, q⟩ | ⟨z, e, q⟩
  · subst e
    cases r1
    obtain ⟨its, rv, p, hz⟩ := I1.list hq
    exact wpAny_pyIter_list p.isList (pi_one (tk := s1.toks) I1 _ (turn_list a _) ⟨_, Heap.get?_push_size _ rfl, rfl, rfl⟩ q)
  · subst e
    cases r1
    obtain ⟨its, rv, p, hz⟩ := I1.tuple hq
    exact wpAny_pyIter_tuple (show s1.heap.IsTuple a its.toArray from p) (pi_one (tk := s1.toks) I1 _ (turn_tuple a _) ⟨_, Heap.get?_push_size _ rfl, rfl, rfl⟩ q)
  · subst e
    obtain ⟨t, rfl⟩ := r1
    cases ha : z.cps.all (· < 128)
    · exact wpAny_pyIter_wide ha (pi_one (tk := s1.toks) I1 _ (turn_str _ z t "str_iterator" (.inr rfl)) ⟨_, Heap.get?_push_size _ rfl, rfl, rfl⟩ q)
    · exact wpAny_pyIter_ascii ha (pi_one (tk := s1.toks) I1 _ (turn_str _ z t "str_ascii_iterator" (.inl rfl)) ⟨_, Heap.get?_push_size _ rfl, rfl, rfl⟩ q)
theorem walks_list {K : PySem.W.Frag} (hK : K = c.K) {a : Addr} {vs : List V} {ds : List D} (h : G a = some (.lst vs)) (dg : Dgs c.K G vs ds) : Walks c G (Itl K a) ds where
  go := fun i H G1 hi s1 s2 => by
    have hl := dg.length
    exact ⟨vs, vs[i]'(by omega), SqL.of (s2 _ _ (s1 _ _ h)), by simp⟩
  stop := fun H G1 s1 s2 => ⟨vs, SqL.of (s2 _ _ (s1 _ _ h)), by rw [dg.length]; exact Nat.le_refl _⟩
  yld := fun c' σ i H G1 H' s v d hK R s1 e y => by
    obtain ⟨e1, q⟩ := y
    subst e1
    obtain ⟨u, h1, h2⟩ := dg.get e
    have q2 := q vs (SqL.of (R.gH _ _ (s1 _ _ h)))
    rw [h1] at q2
    cases q2
    exact ⟨G1, R, Same.refl _, Keep.refl, h2.mono s1⟩
theorem walks_tup {K : PySem.W.Frag} (hK : K = c.K) {a : Addr} {vs : List V} {ds : List D} (h : SqT c.K G a vs) (dg : Dgs c.K G vs ds) : Walks c G (Itt K a) ds where
  go := fun i H G1 hi s1 s2 => by
    have hl := dg.length
    subst hK
    exact ⟨vs, vs[i]'(by omega), same_seqT s2 (same_seqT s1 h), by simp⟩
  stop := fun H G1 s1 s2 => by
    subst hK
    exact ⟨vs, same_seqT s2 (same_seqT s1 h), by rw [dg.length]; exact Nat.le_refl _⟩
  yld := fun c' σ i H G1 H' s v d hK' R s1 e y => by
    obtain ⟨e1, q⟩ := y
    subst e1 hK
    obtain ⟨u, h1, h2⟩ := dg.get e
    have q2 := q vs (same_seqT R.gH (same_seqT s1 h))
    rw [h1] at q2
    cases q2
    exact ⟨G1, R, Same.refl _, Keep.refl, h2.mono s1⟩
theorem walks_str (z : List Nat) : Walks c G (Its (sT z)) (z.map fun c => D.str [c]) where
  go := fun i H G1 hi s1 s2 => by
    show i < z.toArray.size
    simpa using hi
  stop := fun H G1 s1 s2 => by
    show z.toArray.size ≤ _
    simp
  yld := fun c' σ i H G1 H' s v d hK' R s1 e y => by
    obtain ⟨e1, ch, q1, q2⟩ := y
    subst e1 q2
    have q1' : z[i]? = some ch := by simpa using q1
    rw [List.getElem?_map, q1'] at e
    cases e
    exact ⟨G1, R, Same.refl _, Keep.refl, .str [ch]⟩
theorem walks_ran (lo : Int) (n : Nat) : Walks c G (Itr lo n) (ran lo n) where
  go := fun i H G1 hi s1 s2 => by
    show i < n
    simpa [ran] using hi
  stop := fun H G1 s1 s2 => by
    show n ≤ _
    simp [ran]
  yld := fun c' σ i H G1 H' s v d hK' R s1 e y => by
    obtain ⟨e1, q2⟩ := y
    subst e1 q2
    have hi : i < n := by
      have := (List.getElem?_eq_some_iff.mp e).1
      simpa [ran] using this
    have e2 : (ran lo n)[i]? = some (.int (lo + i)) := by simp [ran, hi]
    rw [e2] at e
    cases e
    exact ⟨G1, R, Same.refl _, Keep.refl, .int _⟩
theorem ds_val {tg : Expr} [o : Ok X c] (h : PE X e (tE c m)) : PI X tg e (tI c (srcV m)) := by
  refine pi_imp (pi_any h) ?_
  rintro σ H Q ⟨G, s, Q0, R, hm, hQ⟩
  refine ⟨G, s, _, R, hm, fun r s1 v H1 G1 q R1 S1 K1 O1 => ?_⟩
  split at q
  · cases (show Dg c.K G1 v (.list _) from O1) with
    | lst h1 h2 => exact .inl ⟨_, rfl, ⟨_, SqL.of (R1.gH _ _ h1)⟩, hQ _ _ _ _ _ q R1 S1 K1 (walks_list o.K h1 h2)⟩
  · cases (show Dg c.K G1 v (.tup _) from O1) with
    | tup h1 h2 => exact .inr (.inl ⟨_, rfl, ⟨_, o.K ▸ same_seqT R1.gH h1⟩, hQ _ _ _ _ _ q R1 S1 K1 (walks_tup o.K h1 h2)⟩)
  · cases (show Dg c.K G1 v (.str _) from O1) with
    | str _ => exact .inr (.inr ⟨_, rfl, hQ _ _ _ _ _ q R1 S1 K1 (walks_str _)⟩)
  · obtain ⟨a, vs, e, h1, h2, h3, h4, h5, h7, h6⟩ := (show ResOk c σ H1 G1 s1 v (.own _) from O1)
    obtain ⟨R2, sm⟩ := R1.freeze h1 h3 h4 h5 h7 h6
    exact .inl ⟨a, e, ⟨_, SqL.of h1⟩, hQ _ _ _ _ _ q R2 (S1.trans sm) K1 (walks_list o.K upd_same (h2.mono sm))⟩
  · exact q.elim
theorem ds_range1 {tg : Expr} [o : Ok X c] (ha : PE X a (tE c m)) (hg : Gl X "range" := by rfl) (hs : starEach [a] X.env = [(false, eval a X.env)] := by rfl) (he : starEach [a] X.env = (false, eval a X.env) :: starEach [] X.env := by rfl) : PI X tg (.Call (.Name "range" p) [a] [] pos) (tI c (srcR1 m)) := by
  refine pi_imp (pi_range1 hg (o.blt _ (by decide +kernel)) (pa_cons ha pa_nil he) hs) ?_
  rintro σ H Q ⟨G, s, Q0, R, hm, hQ⟩
  refine ⟨G, s, _, R, hm, fun r s1 v H1 G1 q R1 S1 K1 O1 => ?_⟩
  have p := O1.peek R1
  split at q
  · rename_i j e
    rw [e] at p
    exact ⟨j, by rw [p.int], q.1.1, q.1.2, hQ _ _ _ _ _ q.2 R1 S1 K1 (walks_ran 0 _)⟩
  · exact q.elim
theorem ds_range2 {tg : Expr} [o : Ok X c] (ha : PE X a (tE c m1)) (hb : PE X b (tE c m2)) (hg : Gl X "range" := by rfl) (hs : starEach [a, b] X.env = [(false, eval a X.env), (false, eval b X.env)] := by rfl) (hs2 : starEach [b] X.env = [(false, eval b X.env)] := by rfl)
    (he : starEach [a, b] X.env = (false, eval a X.env) :: starEach [b] X.env := by rfl) (he2 : starEach [b] X.env = (false, eval b X.env) :: starEach [] X.env := by rfl) : PI X tg (.Call (.Name "range" p) [a, b] [] pos) (tI c (srcR2 m1 m2)) := by
  refine pi_imp (pi_range2 hg (o.blt _ (by decide +kernel)) (pa_cons ha (pa_cons hb pa_nil he2) he) hs hs2) ?_
  rintro σ H Q ⟨G, s, Q0, R, hm, hQ⟩
  refine ⟨G, s, _, R, hm, fun r s1 v H1 G1 q R1 S1 K1 O1 => ⟨G1, s1, _, R1, q, fun r2 s2 v2 H2 G2 q R2 S2 K2 O2 => ?_⟩⟩
  have p1 := (O1.peek R1).keep S2 K2
  have p2 := O2.peek R2
  split at q
  · rename_i i j e1 e2
    rw [e1] at p1
    rw [e2] at p2
    exact ⟨i, j, by rw [p1.int, p2.int], q.1, hQ _ _ _ _ _ q.2 R2 (S1.trans S2) (K1.trans K2) (walks_ran i _)⟩
  · exact q.elim
/-! ### comprehensions -/
def tYesT (c : Ct) : PTs X [] (tT c tYes) := ⟨fun pins s σ H Q I h => pts_nil.run pins s σ H Q I (by
  obtain ⟨G, s, Q0, R, hm, hQ⟩ := h
  exact hQ _ _ _ _ hm R (Same.refl _) Keep.refl)⟩
theorem dts_one (h : PT X e (tT c t)) : PTs X [e] (tT c t) := pts_one h
theorem comp_run {src : Src} {g : Gt} {is vs0 : List Nat} (his : ∀ i ∈ is, i ∈ vs0) : ∀ σ H Q, tE c (mComp vs0 src g t m) σ H Q → tLc (tI c src) (fun v σ H Q => ∃ D, tG (c.with D) is g v σ H Q) (fun σ H Q => ∃ D, tT (c.with D) t σ H Q) (fun σ H Q => ∃ D, tE (c.with D) m σ H Q) vs0 σ H Q := by
  rintro σ H Q ⟨G, s, Q0, R, hm, hQ⟩
  refine ⟨G, s, _, R, hm, fun ds s1 J H1 G1 q1 R1 S1 K1 Wk D nD => ?_⟩
  obtain ⟨n1, n2, n3⟩ := R1.h0 nD
  have nrs := R1.nrs nD
  have RD := R1.make nD
  -- behind i turns
  refine ⟨fun i k H => ∃ G s acc vs, i + k = ds.length ∧ Rel (c.with D) (wipe σ vs0) H G { s with v := puts s.v vs0 .gone } ∧ Same G1 G ∧ Keep c H1 H ∧ H D = some (.lst vs) ∧ Dgs c.K G vs acc ∧
      (∃ σ2, Chg vs0 σ2 σ ∧ Rel (c.with D) σ2 H G s) ∧ compL vs0 g t m (ds.drop i) acc s (fun acc s2 => Q0 (.own acc) { s2 with v := back s1.v s2.v vs0 }), ⟨ds.length, G1, s1, [], [], by omega, ?_, Same.refl _, Keep.upd nD, upd_same, .nil, ⟨σ, Chg.refl, RD⟩, q1⟩, ?_⟩
  · exact RD.forget ⟨wipe_length _ _, fun i h => by rw [wipe_at, if_neg h]⟩
  rintro i k H2 ⟨G2, s2, acc, vs, ei, Rw, S2, K2, hD, dacc, ⟨σ2, ch2, R2⟩, q⟩
  by_cases hi' : i < ds.length
  · right
    refine ⟨Wk.go i H2 G2 hi' S2 R2.gH, fun H' => ∃ G s acc vs, i + 1 + (k - 1) = ds.length ∧ Rel (c.with D) (wipe σ vs0) H' G { s with v := puts s.v vs0 .gone } ∧ Same G1 G ∧ Keep c H1 H' ∧ H' D = some (.lst vs) ∧ Dgs c.K G vs acc ∧
      (∃ σ2, Chg vs0 σ2 σ ∧ Rel (c.with D) σ2 H' G s) ∧ compL vs0 g t m (ds.drop (i + 1)) acc s (fun acc s2 => Q0 (.own acc) { s2 with v := back s1.v s2.v vs0 }), fun H' h => ⟨k - 1, by omega, h⟩, fun x H3 y => ?_⟩
    obtain ⟨G3, R3, S3, K3, dx⟩ := Wk.yld (c.with D) _ i H2 G2 H3 _ x (ds[i]) rfl Rw S2 (by simp) y
    have ed : ds.drop i = ds[i] :: ds.drop (i + 1) := by rw [← List.drop_eq_getElem_cons hi']
    rw [ed] at q
    refine ⟨D, G3, _, _, _, R3, dx, q, fun s4 σ4 H4 G4 q4 R4 C4 S4 K4 => ?_⟩
    refine ⟨by rw [wipe_chg C4 his, wipe_wipe], D, G4, s4, _, R4, q4, fun b s5 H5 G5 q5 R5 S5 K5 => ?_⟩
    have hch : Chg vs0 σ4 σ := ⟨by rw [C4.1, wipe_length], fun j hj => by rw [C4.2 j fun z => hj (his j z), wipe_at, if_neg hj]⟩
    have hw : Chg vs0 σ4 (wipe σ vs0) := ⟨C4.1.symm, fun j hj => (C4.2 j fun z => hj (his j z)).symm⟩
    have kk : Keep c H1 H5 := ((K2.trans K3).trans K4).trans K5
    have ss : Same G1 G5 := ((S2.trans S3).trans S4).trans S5
    have hD5 : H5 D = some (.lst vs) := K5 _ _ (K4 _ _ (K3 _ _ hD n2) n2) n2
    have da5 : Dgs c.K G5 vs acc := dacc.mono ((S3.trans S4).trans S5)
    cases b with
    | true =>
      rw [if_pos rfl] at q5
      refine iteT ⟨D, G5, s5, _, R5, q5, fun r s6 v6 H6 G6 q6 R6 S6 K6 O6 => ?_⟩
      obtain ⟨d, G7, q7, R7, S7, dg7⟩ := O6.frz R6 q6
      have hD6 : H6 D = some (.lst vs) := K6 _ _ hD5 n2
      refine ⟨vs, hD6, by rw [(dacc.length), ← lineEq]; exact q7.1, ?_⟩
      have R8 := R7.more n1 (.lst (vs ++ [v6]))
      refine ⟨G7, s6, acc ++ [d], vs ++ [v6], by omega, R8.forget hw, ((ss.trans S6).trans S7), fun b o e n => ?_, upd_same, (da5.mono (S6.trans S7)).append (.cons dg7 .nil), ⟨σ4, hch, R8⟩, q7.2⟩
      rw [upd_ne (ne_of_none e nD)]
      exact (kk.trans K6) b o e n
    | false =>
      rw [if_neg Bool.false_ne_true] at q5
      exact iteF ⟨G5, s5, acc, vs, by omega, R5.forget hw, ss, kk, hD5, da5, ⟨σ4, hch, R5⟩, q5⟩
  · left
    have e0 : i = ds.length := by omega
    subst e0
    refine ⟨Wk.stop H2 G2 S2 R2.gH, ?_⟩
    rw [List.drop_length] at q
    have RF : Rel c σ H2 G2 { s2 with v := back s1.v s2.v vs0 } := R2.made.backed ch2 R1.len fun j => by
      have z := R1.sl j
      cases e : get s1.v j with
      | val d =>
        rw [e] at z
        obtain ⟨v, z1, z2⟩ := z
        exact ⟨v, z1, z2.mono S2⟩
      | _ => trivial
    refine hQ _ _ _ _ _ q RF (S1.trans S2) (K1.trans K2) ?_
    obtain ⟨m1, m2, _⟩ := R2.rs D (.inr rfl)
    refine ⟨D, vs, rfl, hD, dacc, m1, n1, n2, nrs, fun j hj ej => ?_⟩
    have e0 : s2.v.length = s1.v.length := by rw [R2.len, R1.len, ch2.1]
    have hj : (get (back s1.v s2.v vs0) j).isOwn = true := hj
    rw [get_back _ _ _ _ e0] at hj
    by_cases z : j ∈ vs0
    · rw [if_pos z] at hj
      cases y : get s1.v j <;> rw [y] at hj <;> cases hj
    · rw [if_neg z] at hj
      have sl := R2.sl j
      cases y : get s2.v j with
      | own es =>
        rw [y] at sl
        obtain ⟨a, us, e1, e2, e3, e4, e5, e6, e7⟩ := sl
        rw [← ch2.2 j z, ej] at e1
        cases e1
        exact e7 (.inr rfl)
      | _ => rw [y] at hj; cases hj
theorem de_comp {elt tg iter : Expr} {ifs : List Expr} {scope : Scope} {src : Src} {g : Gt} {is : List Nat} (own : List (Str × Nat)) [o : Ok X c] [cm : Calm X] (hi : PI X tg iter (tI c src)) (ok : blkC X.N X.env.scope scope own = true)
    (hg : ∀ (c : Ct) [Ok X c] (s : Shared) (H : Hp) (C : Addr) (cl : List (Str × Addr)) (fp : List Addr), PG (X.blk s H scope (compEnvC scope cl C X.env) fp) tg (tG c is g))
    (ht : ∀ (c : Ct) [Ok X c] (s : Shared) (H : Hp) (C : Addr) (cl : List (Str × Addr)) (fp : List Addr), PTs (X.blk s H scope (compEnvC scope cl C X.env) fp) ifs (tT c t))
    (he : ∀ (c : Ct) [Ok X c] (s : Shared) (H : Hp) (C : Addr) (cl : List (Str × Addr)) (fp : List Addr), PE (X.blk s H scope (compEnvC scope cl C X.env) fp) elt (tE c m)) (his : ∀ i ∈ is, i ∈ own.map (·.2) := by decide)
    (hs : ∀ x, foldedSetIterable iter X.env x = pure x := by intro _; rfl) : PE X (.ListComp elt [⟨tg, iter, ifs, 0⟩] scope pos) (tE c (mComp (own.map (·.2)) src g t m)) :=
  pe_imp (pe_lc cm.calm o.nd hi (blkOk_by ok) (fun s H C cl fp => ⟨fun pins s' σ H v u Q I r ⟨D, q⟩ => (hg (c.with D) s _ C cl fp).run pins s' σ H v u Q I r q⟩)
      (fun s H C cl fp => ⟨fun pins s' σ H Q I ⟨D, q⟩ => (ht (c.with D) s _ C cl fp).run pins s' σ H Q I q⟩) (fun s H C cl fp => ⟨fun pins s' σ H Q I ⟨D, q⟩ => (he (c.with D) s _ C cl fp).run pins s' σ H Q I q⟩) hs) (comp_run his)
end
end DL

/-! DLS8: statements. -/
namespace DL
open PySem PySem.Spec PyProof.Rows L2
def RetR (c : Ct) (H G : Hp) (v : V) : R → Prop
  | .val d => Dg c.K G v d
  | .own ds => ∃ a vs, v = .ref a ∧ H a = some (.lst vs) ∧ Dgs c.K G vs ds ∧ G a = none ∧ c.H0 a = none
  | .bor _ => False
structure OutsOk (c : Ct) (G : Hp) (O : Outs) (D : Ends) : Prop where
  nx : ∀ s' σ' H' G', O.nx s' → Rel c σ' H' G' s' → Same G G' → D.nx σ' H'
  bk : ∀ s' σ' H' G', O.bk s' → Rel c σ' H' G' s' → Same G G' → D.bk σ' H'
  ct : ∀ s' σ' H' G', O.ct s' → Rel c σ' H' G' s' → Same G G' → D.ct σ' H'
  rt : ∀ r s' v σ' H' G', O.rt r s'.w → Rel c σ' H' G' s' → Same G G' → RetR c H' G' v r → D.rt v H'
theorem OutsOk.mono {c : Ct} {G G1 : Hp} {O : Outs} {D : Ends} (h : OutsOk c G O D) (sm : Same G G1) : OutsOk c G1 O D :=
  ⟨fun s' σ' H' G' q R S => h.nx s' σ' H' G' q R (sm.trans S), fun s' σ' H' G' q R S => h.bk s' σ' H' G' q R (sm.trans S), fun s' σ' H' G' q R S => h.ct s' σ' H' G' q R (sm.trans S), fun r s' v σ' H' G' q R S => h.rt r s' v σ' H' G' q R (sm.trans S)⟩
def tS (c : Ct) (ms : MS) : TS := fun D σ H => ∃ G s O, Rel c σ H G s ∧ ms s O ∧ OutsOk c G O D
theorem ps_imp {X : Cx} {st : Stmt} {t t' : TS} (h : PS X st t) (i : ∀ D σ H, t' D σ H → t D σ H) : PS X st t' := ⟨fun pins s σ H D I q => h.run pins s σ H D I (i D σ H q)⟩
theorem pss_imp {X : Cx} {st : List Stmt} {t t' : TS} (h : PSs X st t) (i : ∀ D σ H, t' D σ H → t D σ H) : PSs X st t' := ⟨fun pins s σ H D I q => h.run pins s σ H D I (i D σ H q)⟩
section
variable {X : Cx} {c : Ct} {a b e : Expr} {es : List Expr} {st : Stmt} {sts sts' : List Stmt} {m m1 m2 m3 : M} {ms : Ms} {t t1 t2 : T} {u u1 u2 : MS} {pos p : Pos} {σ σ1 σ2 : St} {H G : Hp} {s : S} {x : Str} {id ty : String}
/-! ### slots -/
theorem Rel.put_own (R : Rel c σ H G s) {i : Nat} {v : V} {ds : List D} (h : ResOk c σ H G s v (.own ds)) : Rel c (σ.set i (some v)) H G { s with v := put s.v i (.own ds) } := by
  by_cases hi : i < s.v.length
  · have hi2 : i < σ.length := by rw [← R.len]; exact hi
    obtain ⟨a, vs, e, h1, h2, h3, h4, h5, h7, h6⟩ := h
    have gt : ∀ j, get (put s.v i (.own ds)) j = if j = i then .own ds else get s.v j := fun j => get_put _ _ _ _ hi
    refine ⟨R.g0, R.gH, R.kH, R.gN, by rw [List.length_set]; show (put s.v i _).length = _; rw [put_length]; exact R.len, fun j => ?_, fun j k b hjk o1 o2 e1 e2 => ?_, R.fd, R.rs⟩
    · show SlotOk c H G (σ.set i (some v))[j]? (get (put s.v i (.own ds)) j)
      rw [gt]
      by_cases hj : j = i
      · subst hj
        rw [if_pos rfl, List.getElem?_set_self hi2, e]
        exact ⟨a, vs, rfl, h1, h2, h3, h4, h5, h7⟩
      · rw [if_neg hj, List.getElem?_set_ne (Ne.symm hj)]
        exact R.sl j
    · have o1 : (get (put s.v i (.own ds)) j).isOwn = true := o1
      have o2 : (get (put s.v i (.own ds)) k).isOwn = true := o2
      rw [gt] at o1 o2
      by_cases hj : j = i
      · subst hj
        have hk : k ≠ j := Ne.symm hjk
        rw [if_neg hk] at o2
        rw [List.getElem?_set_self hi2, e] at e1
        rw [List.getElem?_set_ne (Ne.symm hk)] at e2
        cases e1
        exact h6 k o2 e2
      · rw [if_neg hj] at o1
        rw [List.getElem?_set_ne (Ne.symm hj)] at e1
        by_cases hk : k = i
        · subst hk
          rw [List.getElem?_set_self hi2, e] at e2
          cases e2
          exact h6 j (by rw [gt, if_neg hj] at o1; exact o1) e1
        · rw [if_neg hk] at o2
          rw [List.getElem?_set_ne (Ne.symm hk)] at e2
          exact R.ap j k b hjk o1 o2 e1 e2
  · rw [put_out _ _ _ hi, List.set_eq_of_length_le (by rw [← R.len]; omega)]
    exact R
/-- the own list at slot i is changed -/
theorem Rel.change (R : Rel c σ H G s) {i : Nat} {ds ds' : List D} {a : Addr} {vs' : List V} (e : get s.v i = .own ds) (ea : σ[i]? = some (some (.ref a))) (h : Dgs c.K G vs' ds') : Rel c σ (upd H a (.lst vs')) G { s with v := put s.v i (.own ds') } := by
  obtain ⟨a', vs, h1, h2, h3, h4, h5, h6, h7⟩ := R.at e
  rw [ea] at h1
  cases h1
  have hi : i < s.v.length := get_lt (by rw [e]; intro z; cases z)
  have gt : ∀ j, get (put s.v i (.own ds')) j = if j = i then .own ds' else get s.v j := fun j => get_put _ _ _ _ hi
  refine ⟨R.g0, fun b o q => ?_, fun b o q n => ?_, R.gN, by show (put s.v i _).length = _; rw [put_length]; exact R.len, fun j => ?_, fun j k b hjk o1 o2 e1 e2 => ?_, fun b q => ?_, fun b q => ?_⟩
  · rw [upd_ne (fun z : b = a => by rw [z, h4] at q; cases q)]; exact R.gH b o q
  · rw [upd_ne (fun z : b = a => by rw [z, h5] at q; cases q)]; exact R.kH b o q n
  · show SlotOk c (upd H a (.lst vs')) G σ[j]? (get (put s.v i (.own ds')) j)
    rw [gt]
    by_cases hj : j = i
    · subst hj
      rw [if_pos rfl, ea]
      exact ⟨a, vs', rfl, upd_same, h, h4, h5, h6, h7⟩
    · rw [if_neg hj]
      have q := R.sl j
      cases y : get s.v j with
      | own es =>
        rw [y] at q
        obtain ⟨b, us, q1, q2, q3, q4, q5, q6, q7⟩ := q
        have hb : b ≠ a := fun z => R.ap j i a hj (by rw [y]; rfl) (by rw [e]; rfl) (z ▸ q1) ea
        exact ⟨b, us, q1, by rw [upd_ne hb]; exact q2, q3, q4, q5, q6, q7⟩
      | gone => trivial
      | val d => rw [y] at q; exact q
      | feed => rw [y] at q; exact q
      | exn x => rw [y] at q; exact q
  · have o1 : (get (put s.v i (.own ds')) j).isOwn = true := o1
    have o2 : (get (put s.v i (.own ds')) k).isOwn = true := o2
    rw [gt] at o1 o2
    have f : ∀ j, (if j = i then Slot.own ds' else get s.v j).isOwn = true → (get s.v j).isOwn = true := fun j h => by
      by_cases z : j = i
      · subst z; rw [e]; rfl
      · rw [if_neg z] at h; exact h
    exact R.ap j k b hjk (f j o1) (f k o2) e1 e2
  · obtain ⟨q1, sa, q2, q3⟩ := R.fd b q
    exact ⟨q1, sa, by rw [upd_ne (fun z : b = a => h6 (z ▸ q))]; exact q2, q3⟩
  · obtain ⟨q1, q2, o, q3⟩ := R.rs b q
    exact ⟨q1, q2, o, by rw [upd_ne (fun z : b = a => h7 (z ▸ q))]; exact q3⟩
theorem Rel.feed (R : Rel c σ H G s) {fa sa : Addr} {w' : W} (e : c.fa = some fa) (h1 : G sa = some (.lst (s.w.sc.map V.int))) (hw : w'.sc = s.w.sc) : Rel c σ (upd H fa (.lst [.ref sa, .int w'.ix, .int w'.big, .int w'.seed])) G { s with w := w' } := by
  obtain ⟨q1, _⟩ := R.fd fa e
  refine ⟨R.g0, fun b o q => ?_, fun b o q n => ?_, R.gN, R.len, fun j => ?_, R.ap, fun b q => ?_, fun b q => ?_⟩
  · rw [upd_ne (fun z : b = fa => by rw [z, q1] at q; cases q)]; exact R.gH b o q
  · rw [upd_ne (fun z : b = fa => n (z ▸ e))]; exact R.kH b o q n
  · have q := R.sl j
    cases y : get s.v j with
    | own es =>
      rw [y] at q
      obtain ⟨b, us, q1, q2, q3, q4, q5, q6, q7⟩ := q
      exact ⟨b, us, q1, by rw [upd_ne (fun z : b = fa => q6 (z ▸ e))]; exact q2, q3, q4, q5, q6, q7⟩
    | gone => trivial
    | val d => rw [y] at q; exact q
    | feed => rw [y] at q; exact q
    | exn x => rw [y] at q; exact q
  · rw [e] at q
    cases q
    exact ⟨q1, sa, upd_same, by rw [hw]; exact h1⟩
  · obtain ⟨z1, z2, o, z3⟩ := R.rs b q
    exact ⟨z1, z2, o, by rw [upd_ne (fun z : b = fa => z2 (z ▸ e))]; exact z3⟩
/-! ### blocks -/
theorem dss_nil : PSs X [] (tS c sNil) := pss_imp pss_nil fun D σ H ⟨G, s, O, R, h, k⟩ => k.nx _ _ _ _ h R (Same.refl _)
theorem dss_cons (h1 : PS X st (tS c u1)) (h2 : PSs X sts (tS c u2)) : PSs X (st :: sts) (tS c (sSeq u1 u2)) := by
  refine pss_imp (pss_cons h1 h2) ?_
  rintro D σ H ⟨G, s, O, R, h, k⟩
  exact ⟨G, s, _, R, h, ⟨fun s' σ' H' G' q R' S' => ⟨G', s', O, R', q, k.mono S'⟩, k.bk, k.ct, k.rt⟩⟩
theorem dss_one (h1 : PS X st (tS c u)) : PSs X [st] (tS c u) := pss_one h1
theorem ds_pass : PS X (.Pass pos) (tS c sPass) := ps_imp ps_pass fun D σ H ⟨G, s, O, R, h, k⟩ => k.nx _ _ _ _ h R (Same.refl _)
theorem ds_break : PS X (.Break pos) (tS c sBrk) := ps_imp ps_break fun D σ H ⟨G, s, O, R, h, k⟩ => k.bk _ _ _ _ h R (Same.refl _)
theorem ds_continue : PS X (.Continue pos) (tS c sCont) := ps_imp ps_continue fun D σ H ⟨G, s, O, R, h, k⟩ => k.ct _ _ _ _ h R (Same.refl _)
theorem ds_never : PS X st (tS c sNever) := ps_imp ps_never fun D σ H ⟨G, s, O, R, h, k⟩ => h.elim
theorem dss_never : PSs X sts (tS c sNever) := pss_imp pss_never fun D σ H ⟨G, s, O, R, h, k⟩ => h.elim
theorem ds_expr (he : PE X e (tE c m)) (hs : swapsWith e none pos.line X.env = pure false := by rfl) : PS X (.Expr e pos) (tS c (sExpr m)) := by
  refine ps_imp (ps_expr he hs) ?_
  rintro D σ H ⟨G, s, O, R, h, k⟩
  exact ⟨G, s, _, R, h, fun r s' v H' G' q R' S' K' O' => k.nx _ _ _ _ q R' S'⟩
theorem ds_if {d : Expr} (hd : PT X d (tT c t)) (ha : PSs X sts (tS c u1)) (hb : PSs X sts' (tS c u2)) : PS X (.If d sts sts' pos) (tS c (sIf t u1 u2)) := by
  refine ps_imp (ps_if hd ha hb) ?_
  rintro D σ H ⟨G, s, O, R, h, k⟩
  refine ⟨G, s, _, R, h, fun b s1 H1 G1 q R1 S1 K1 => ?_⟩
  cases b with
  | true =>
    rw [if_pos rfl] at q
    exact iteT ⟨G1, s1, O, R1, q, k.mono S1⟩
  | false =>
    rw [if_neg Bool.false_ne_true] at q
    exact iteF ⟨G1, s1, O, R1, q, k.mono S1⟩
/-! ### return -/
theorem RetR.of (R : Rel c σ H G s) {v : V} {r : DL.R} (h : ResOk c σ H G s v r) {rt : DL.R → W → Prop} {w : W} (q : retK r rt w) : ∃ r', rt r' w ∧ RetR c H G v r' := by
  cases r with
  | val d => exact ⟨_, q, h⟩
  | own ds =>
    obtain ⟨a, vs, e, h1, h2, h3, h4, _⟩ := h
    exact ⟨_, q, a, vs, e, h1, h2, h3, h4⟩
  | bor ds =>
    obtain ⟨a, vs, e, h1, h2, h3, h4, _⟩ := h
    exact ⟨_, q, a, vs, e, h1, h2, h3, h4⟩
theorem ds_ret (he : PE X e (tE c m)) : PS X (.Return (some e) pos) (tS c (sRet m)) := by
  refine ps_imp (ps_ret he) ?_
  rintro D σ H ⟨G, s, O, R, h, k⟩
  refine ⟨G, s, _, R, h, fun r s' v H' G' q R' S' K' O' => ?_⟩
  obtain ⟨r', q', hr⟩ := RetR.of R' O' q
  exact k.rt r' s' v _ _ _ q' R' S' hr
theorem ds_retN : PS X (.Return none pos) (tS c sRetN) := by
  refine ps_imp ps_retN ?_
  rintro D σ H ⟨G, s, O, R, h, k⟩
  exact k.rt _ s .non _ _ _ h R (Same.refl _) .non
/-! ### assignments -/
theorem set_run (i : Nat) {D : Ends} : ∀ {σ : St} {H : Hp}, tS c (sSet i m) D σ H → tE c m σ H fun x H1 => gName i x σ H1 D.nx := by
  rintro σ H ⟨G, s, O, R, h, k⟩
  refine ⟨G, s, _, R, h, fun r s' v H' G' q R' S' K' O' => ?_⟩
  cases r with
  | val d => exact k.nx _ _ _ _ q (R'.put_val O') S'
  | own ds => exact k.nx _ _ _ _ q (R'.put_own O') S'
  | bor ds => exact q.elim
theorem ds_set (i : Nat) {pos' : Pos} [o : Ok X c] (he : PE X e (tE c m)) (hi : X.N[i]? = some x := by rfl) (hx : Loc X.env.scope x := by first | exact Or.inl rfl | exact Or.inr rfl) (hs : swapsWith e (some (.Name x pos')) pos.line X.env = pure false := by rfl)
    (hf : X.fn x = true ∨ X.env.scope.names.lookup x = some .local := by first | exact .inl rfl | exact .inr rfl) : PS X (.Assign [.Name x pos'] e pos) (tS c (sSet i m)) :=
  ps_imp (ps_set o.nd hi hx he hs hf) fun D σ H h => set_run i h
theorem ds_setLc (i : Nat) {py : Pos} {elt tg iter : Expr} {ifs : List Expr} {scope : Scope} {src : Src} {g : Gt} {is : List Nat} {spos : Pos} (own : List (Str × Nat)) [o : Ok X c] [cm : Calm X] (hi : PI X tg iter (tI c src)) (ok : blkC X.N X.env.scope scope own = true)
    (hg : ∀ (c : Ct) [Ok X c] (s : Shared) (H : Hp) (C : Addr) (cl : List (Str × Addr)) (fp : List Addr), PG (X.blk s H scope (compEnvC scope cl C X.env) fp) tg (tG c is g))
    (ht : ∀ (c : Ct) [Ok X c] (s : Shared) (H : Hp) (C : Addr) (cl : List (Str × Addr)) (fp : List Addr), PTs (X.blk s H scope (compEnvC scope cl C X.env) fp) ifs (tT c t))
    (he : ∀ (c : Ct) [Ok X c] (s : Shared) (H : Hp) (C : Addr) (cl : List (Str × Addr)) (fp : List Addr), PE (X.blk s H scope (compEnvC scope cl C X.env) fp) elt (tE c m)) (his : ∀ i ∈ is, i ∈ own.map (·.2) := by decide)
    (hy : X.N[i]? = some x := by rfl) (hyl : X.env.scope.names.lookup x = some .local := by rfl) (hsw : swapsWith (.ListComp elt [⟨tg, iter, ifs, 0⟩] scope pos) (some (.Name x py)) spos.line X.env = pure true := by exact sw_true rfl rfl rfl (by decide +kernel))
    (hs : ∀ x, foldedSetIterable iter X.env x = pure x := by intro _; rfl) : PS X (.Assign [.Name x py] (.ListComp elt [⟨tg, iter, ifs, 0⟩] scope pos) spos) (tS c (sSet i (mComp (own.map (·.2)) src g t m))) :=
  ps_imp (ps_setLc cm.calm o.nd hy hyl hsw hi (blkOk_by ok) (fun s H C cl fp => ⟨fun pins s' σ H v u Q I r ⟨D, q⟩ => (hg (c.with D) s _ C cl fp).run pins s' σ H v u Q I r q⟩)
      (fun s H C cl fp => ⟨fun pins s' σ H Q I ⟨D, q⟩ => (ht (c.with D) s _ C cl fp).run pins s' σ H Q I q⟩) (fun s H C cl fp => ⟨fun pins s' σ H Q I ⟨D, q⟩ => (he (c.with D) s _ C cl fp).run pins s' σ H Q I q⟩) hs) fun D σ H h => comp_run his _ _ _ (set_run i h)
theorem ds_asg {tg : Expr} {g : Gt} {is : List Nat} (he : PE X e (tE c m)) (hg : PG X tg (tG c is g)) (hs : swapsWithSole [tg] e pos.line X.env = pure false := by rfl) (hw : swappedStores [tg] e X.env = pure none := by rfl)
    (h1 : (assignEach [tg] X.env).map (·.2) = [assign tg X.env] := by rfl) : PS X (.Assign [tg] e pos) (tS c (sAsg g m)) := by
  refine ps_imp (ps_asg he hg hs hw h1) ?_
  rintro D σ H ⟨G, s, O, R, h, k⟩
  refine ⟨G, s, _, R, h, fun r s' v H' G' q R' S' K' O' => ?_⟩
  obtain ⟨d, G2, q2, R2, S2, dg⟩ := O'.frz R' q
  exact ⟨G2, s', d, _, R2, dg, q2, fun s3 σ3 H3 G3 q3 R3 C3 S3 K3 => k.nx _ _ _ _ q3 R3 ((S'.trans S2).trans S3)⟩
theorem ds_par (i j : Nat) {y : Str} {px py pt : Pos} {kt k2 pt2} [o : Ok X c] [cm : Calm X] (ha : PE X a (tE c m1)) (hb : PE X b (tE c m2)) (hi : X.N[i]? = some x := by rfl) (hj : X.N[j]? = some y := by rfl) (hij : i ≠ j := by decide)
    (hx : X.env.scope.names.lookup x = some .local := by rfl) (hy : X.env.scope.names.lookup y = some .local := by rfl)
    (hw : swappedStores [.Tuple [.Name x px, .Name y py] kt pt] (.Tuple [a, b] k2 pt2) X.env = pure (some [x, y]) := by rfl)
    (hs : swapsWithSole [.Tuple [.Name x px, .Name y py] kt pt] (.Tuple [a, b] k2 pt2) pos.line X.env = pure false := by rfl)
    (he : starEach [a, b] X.env = (false, eval a X.env) :: starEach [b] X.env := by rfl) (he2 : starEach [b] X.env = (false, eval b X.env) :: starEach [] X.env := by rfl) :
    PS X (.Assign [.Tuple [.Name x px, .Name y py] kt pt] (.Tuple [a, b] k2 pt2) pos) (tS c (sPar i j m1 m2)) := by
  refine ps_imp (ps_par cm.calm o.nd hi hj hij hx hy (pa_cons ha (pa_cons hb pa_nil he2) he) hw hs) ?_
  rintro D σ H ⟨G, s, O, R, h, k⟩
  refine ⟨G, s, _, R, h, fun r s1 v H1 G1 q R1 S1 K1 O1 => ?_⟩
  obtain ⟨d, G2, q2, R2, S2, dg⟩ := O1.frz R1 q
  refine ⟨G2, s1, _, R2, q2, fun r2 s3 v2 H3 G3 q3 R3 S3 K3 O3 => ?_⟩
  obtain ⟨d2, G4, q4, R4, S4, dg2⟩ := O3.frz R3 q3
  refine ⟨v, v2, rfl, k.nx _ _ _ _ q4 ?_ (((S1.trans S2).trans S3).trans S4)⟩
  exact (R4.put_val (dg.mono (S3.trans S4))).put_val dg2
theorem ds_aug {op : Operator} {f : Int → Int → Int} (i : Nat) {pos' : Pos} [o : Ok X c] (ho : PIp X op (ipI f)) (he : PE X e (tE c m)) (hi : X.N[i]? = some x := by rfl) (hx : Loc X.env.scope x := by first | exact Or.inl rfl | exact Or.inr rfl)
    (hf : X.fn x = true ∨ X.env.scope.names.lookup x = some .local := by first | exact .inl rfl | exact .inr rfl) : PS X (.AugAssign (.Name x pos') op e pos) (tS c (sAug i f m)) := by
  refine ps_imp (ps_aug o.nd hi hx he ho hf) ?_
  rintro D σ H ⟨G, s, O, R, h, k⟩
  unfold sAug at h
  split at h
  · rename_i n e1
    obtain ⟨v, e2, dg⟩ := R.at e1
    cases dg
    refine ⟨_, e2, G, s, _, R, h, fun r s1 v H1 G1 q R1 S1 K1 O1 => ?_⟩
    have pk := O1.peek R1
    split at q
    · rename_i n2 e3
      rw [e3] at pk
      exact ⟨_, _, rfl, pk.int, k.nx _ _ _ _ q (R1.put_val (.int _)) S1⟩
    · exact q.elim
  · exact h.elim
/-! ### lists that change -/
theorem ownAt_of {i : Nat} {k : List D → Prop} (h : ownAt s i k) : ∃ ds, get s.v i = .own ds ∧ k ds := by
  unfold ownAt at h
  split at h
  · exact ⟨_, by assumption, h⟩
  · exact h.elim
theorem feedAt_of {i : Nat} {k : Prop} (h : feedAt s i k) : get s.v i = .feed ∧ k := by
  unfold feedAt at h
  split at h
  · exact ⟨by assumption, h⟩
  · exact h.elim
theorem intD_of {d : D} {k : Int → Prop} (h : intD d k) : ∃ n, d = .int n ∧ k n := by
  unfold intD at h
  split at h
  · exact ⟨_, rfl, h⟩
  · exact h.elim
theorem ds_app (i : Nat) {y : Pos} {apos cpos : Pos} [o : Ok X c] (he : PE X e (tE c m)) (hN : X.N[i]? = some x := by rfl) (hv : Vis X.env.scope x := by first | exact Or.inl rfl | exact Or.inr (Or.inl rfl) | exact Or.inr (Or.inr rfl))
    (hd : (x == ("__debug__" : Str)) = false := by decide) (hcd : (x == ("__classdict__" : Str)) = false := by decide) (hs0 : starEach [e] X.env = (false, eval e X.env) :: starEach [] X.env := by rfl)
    (hfew : ((backTo cpos (starEach (e :: []) X.env)).all (fun x => !x.1) && (backToKw cpos (keywordEach [] X.env)).all (fun x => x.1.isSome)
      && decide ((e :: []).length + ([] : List Keyword).length + (if ([] : List Keyword).isEmpty then 0 else 1) < 30)) = true := by rfl)
    (hbase : attributeBase (.Name x y) "append" X.env (eval (.Name x y) X.env) = eval (.Name x y) X.env := by rfl) (hline : (apos.endLine == cpos.line) = true := by rfl) (hpl : (backTo cpos (starEach [] X.env)).any (·.1) = false := by rfl)
    (hs : swapsWith (.Call (.Attribute (.Name x y) "append" apos) [e] [] cpos) none pos.line X.env = pure false := by rfl) : PS X (.Expr (.Call (.Attribute (.Name x y) "append" apos) [e] [] cpos) pos) (tS c (sApp i m)) := by
  refine ps_imp (ps_expr (pe_bm PySem.F.plainAttrs_list PySem.F.slot_list_append PySem.F.type_list_append mt_append (pe_var hN hv hd hcd) (pa_cons he pa_nil hs0) hbase hfew hline hs0 hpl) hs) ?_
  rintro D σ H ⟨G, s, O, R, h, k⟩
  obtain ⟨ds0, e0, h⟩ := ownAt_of h
  obtain ⟨a, vs0, e1, e2, _⟩ := R.at e0
  refine ⟨.ref a, e1, .inl ⟨rfl, vs0, SqL.of e2⟩, G, s, _, R, h, fun r s1 v H1 G1 q R1 S1 K1 O1 => ?_⟩
  obtain ⟨d, G2, q2, R2, S2, dg⟩ := O1.frz R1 q
  obtain ⟨ds, e3, hl, q3⟩ := ownAt_of q2
  obtain ⟨a', vs, e4, e5, e6, _⟩ := R2.at e3
  rw [e1] at e4
  cases e4
  exact ⟨a, vs, v, rfl, rfl, e5, by rw [e6.length, ← lineEq]; exact hl, k.nx _ _ _ _ q3 (R2.change e3 e1 (e6.append (.cons dg .nil))) (S1.trans S2)⟩
theorem ds_ext (i : Nat) {y : Pos} {apos cpos : Pos} [o : Ok X c] (he : PE X e (tE c m)) (hN : X.N[i]? = some x := by rfl) (hv : Vis X.env.scope x := by first | exact Or.inl rfl | exact Or.inr (Or.inl rfl) | exact Or.inr (Or.inr rfl))
    (hd : (x == ("__debug__" : Str)) = false := by decide) (hcd : (x == ("__classdict__" : Str)) = false := by decide) (hs0 : starEach [e] X.env = (false, eval e X.env) :: starEach [] X.env := by rfl)
    (hfew : ((backTo cpos (starEach (e :: []) X.env)).all (fun x => !x.1) && (backToKw cpos (keywordEach [] X.env)).all (fun x => x.1.isSome)
      && decide ((e :: []).length + ([] : List Keyword).length + (if ([] : List Keyword).isEmpty then 0 else 1) < 30)) = true := by rfl)
    (hbase : attributeBase (.Name x y) "extend" X.env (eval (.Name x y) X.env) = eval (.Name x y) X.env := by rfl) (hline : (apos.endLine == cpos.line) = true := by rfl) (hpl : (backTo cpos (starEach [] X.env)).any (·.1) = false := by rfl)
    (hs : swapsWith (.Call (.Attribute (.Name x y) "extend" apos) [e] [] cpos) none pos.line X.env = pure false := by rfl) : PS X (.Expr (.Call (.Attribute (.Name x y) "extend" apos) [e] [] cpos) pos) (tS c (sExt i m)) := by
  refine ps_imp (ps_expr (pe_bm PySem.F.plainAttrs_list PySem.F.slot_list_extend PySem.F.type_list_extend mt_extend (pe_var hN hv hd hcd) (pa_cons he pa_nil hs0) hbase hfew hline hs0 hpl) hs) ?_
  rintro D σ H ⟨G, s, O, R, h, k⟩
  obtain ⟨ds0, e0, h⟩ := ownAt_of h
  obtain ⟨a, vs0, e1, e2, _⟩ := R.at e0
  refine ⟨.ref a, e1, .inl ⟨rfl, vs0, SqL.of e2⟩, G, s, _, R, h, fun r s1 v H1 G1 q R1 S1 K1 O1 => ?_⟩
  obtain ⟨ds, e3, q3⟩ := ownAt_of q
  obtain ⟨a', vs, e4, e5, e6, _⟩ := R1.at e3
  rw [e1] at e4
  cases e4
  have pk := O1.peek R1
  split at q3
  · rename_i es e7
    rw [e7] at pk
    obtain ⟨b, us, e8, e9, e10⟩ := pk.list
    subst e8
    exact ⟨a, b, vs, us, rfl, rfl, e5, e9, by rw [e6.length, e10.length, ← lineEq]; exact q3.1, k.nx _ _ _ _ q3.2 (R1.change e3 e1 (e6.append e10)) S1⟩
  · exact q3.elim
theorem ds_setI (i : Nat) {y : Pos} {kx : Expr} {tpos : Pos} [o : Ok X c] (he : PE X e (tE c m)) (hk : PE X kx (tE c m1)) (hN : X.N[i]? = some x := by rfl) (hv : Vis X.env.scope x := by first | exact Or.inl rfl | exact Or.inr (Or.inl rfl) | exact Or.inr (Or.inr rfl))
    (hd : (x == ("__debug__" : Str)) = false := by decide) (hcd : (x == ("__classdict__" : Str)) = false := by decide)
    (ha : ∀ v, assign (.Subscript (.Name x y) kx tpos) X.env v = (do
      let ov ← holding [v] (eval (.Name x y) X.env)
      let iv ← holding [v, ov] (eval kx X.env)
      standAt tpos
      holding [v, ov, iv] (setItem ov iv v)
      release [v, ov, iv] []) := by intro _; rfl)
    (hs : swapsWithSole [.Subscript (.Name x y) kx tpos] e pos.line X.env = pure false := by rfl) (hw : swappedStores [.Subscript (.Name x y) kx tpos] e X.env = pure none := by rfl)
    (h1 : (assignEach [.Subscript (.Name x y) kx tpos] X.env).map (·.2) = [assign (.Subscript (.Name x y) kx tpos) X.env] := by rfl) : PS X (.Assign [.Subscript (.Name x y) kx tpos] e pos) (tS c (sSetI i m1 m)) := by
  refine ps_imp (ps_asg he (pg_sub (pe_var hN hv hd hcd) hk set_list ha) hs hw h1) ?_
  rintro D σ H ⟨G, s, O, R, h, k⟩
  refine ⟨G, s, _, R, h, fun r s1 v H1 G1 q R1 S1 K1 O1 => ?_⟩
  obtain ⟨d, G2, q2, R2, S2, dg⟩ := O1.frz R1 q
  obtain ⟨ds0, e0, q3⟩ := ownAt_of q2
  obtain ⟨a, vs0, e1, e2, _⟩ := R2.at e0
  refine ⟨.ref a, e1, G2, s1, _, R2, q3, fun r2 s2 v2 H3 G3 q4 R3 S3 K3 O3 => ?_⟩
  obtain ⟨ds, e3, q5⟩ := ownAt_of q4
  obtain ⟨n, e4, j, e5, q6⟩ := intD_of q5
  obtain ⟨a', vs, e6, e7, e8, _⟩ := R3.at e3
  rw [e1] at e6
  cases e6
  have pk := O3.peek R3
  rw [e4] at pk
  refine ⟨a, vs, n, j, rfl, pk.int, e7, by rw [e8.length]; exact e5, ?_⟩
  exact k.nx _ _ _ _ q6 (R3.change e3 e1 (e8.set j (dg.mono S3))) ((S1.trans S2).trans S3)
/-- xs[i], by values -/
theorem pget_list : PGet X (rIxL X.K) := by
  intro pins s σ H o i ov iv Q I ro ri h
  obtain ⟨p, xs, k, z, rfl, rfl, hq, he, q⟩ := h
  cases ro
  obtain ⟨t, rfl⟩ := ri
  obtain ⟨its, r, pl, hz⟩ := I.list hq
  obtain ⟨j, h1, h2, h3, h4, h5⟩ := atI_get he
  obtain ⟨w, ew, rw'⟩ := r.get h2
  have hl := r.length
  have hn := line63
  have fin : EP X pins σ Q w s := ⟨z, H, I, rw', q⟩
  have hz' : its.length ≤ sizeLine := by rw [← hl]; exact hz
  by_cases h0 : 0 ≤ k
  · have hj : k.toNat = j := by
      rw [seqIndex_of h0 h5] at h1
      exact Option.some.inj h1
    exact wpAny_getItem_list pl.isList h0 (by omega) (by rw [hj]; simpa using ew) fin
  · have hj : (k + its.length).toNat = j := by
      have := h1
      unfold seqIndex? at this
      rw [← hl]
      simp only [if_neg h0] at this
      first
        | (split at this <;> first | (simp at this; omega) | cases this)
        | (simp at this; omega)
    exact wpAny_getItem_list_neg pl.isList (by omega) (by rw [List.size_toArray]; omega) (by omega) (by rw [List.size_toArray, hj]; simpa using ew) fin
end
end DL

/-! DLS9: statements, further; loops; defs. -/
namespace DL
open PySem PySem.Spec PyProof.Rows L2
section
variable {X : Cx} {c : Ct} {a b e : Expr} {es : List Expr} {st : Stmt} {sts sts' : List Stmt} {m m1 m2 m3 : M} {ms : Ms} {t t1 t2 : T} {u u1 u2 : MS} {pos p : Pos} {σ σ1 σ2 : St} {H G : Hp} {s : S} {x : Str} {id ty : String}
theorem ds_augI {op : Operator} {f : Int → Int → Int} (i : Nat) {y : Pos} {kx : Expr} {tpos : Pos} [o : Ok X c] (ho : PIp X op (ipI f)) (hk : PE X kx (tE c m1)) (he : PE X e (tE c m)) (hN : X.N[i]? = some x := by rfl) (hv : Vis X.env.scope x := by first | exact Or.inl rfl | exact Or.inr (Or.inl rfl) | exact Or.inr (Or.inr rfl))
    (hd : (x == ("__debug__" : Str)) = false := by decide) (hcd : (x == ("__classdict__" : Str)) = false := by decide)
    (ha : ∀ ov iv new, augStore kx ov iv new = (do holding [new, ov, iv] (setItem ov iv new); release [new, ov, iv] []; pure .next) := by intros; rfl) : PS X (.AugAssign (.Subscript (.Name x y) kx tpos) op e pos) (tS c (sAugI i f m1 m)) := by
  refine ps_imp (ps_augS (pe_var hN hv hd hcd) hk pget_list he ho set_list ha) ?_
  rintro D σ H ⟨G, s, O, R, h, k⟩
  obtain ⟨ds0, e0, h⟩ := ownAt_of h
  obtain ⟨a, vs0, e1, e2, _⟩ := R.at e0
  refine ⟨.ref a, e1, G, s, _, R, h, fun r1 s1 v1 H1 G1 q1 R1 S1 K1 O1 => ?_⟩
  obtain ⟨ds, e3, q2⟩ := ownAt_of q1
  obtain ⟨n, e4, j, z, e5, e6, q3⟩ := intD_of q2
  obtain ⟨a', vs, e7, e8, e9, _⟩ := R1.at e3
  rw [e1] at e7
  cases e7
  have pk := O1.peek R1
  rw [e4] at pk
  obtain ⟨vz, g1, g2⟩ := e9.get e6
  cases g2
  refine ⟨a, vs, n, .int z, rfl, pk.int, SqL.of e8, ?_, G1, s1, _, R1, q3, fun r2 s2 v2 H2 G2 q4 R2 S2 K2 O2 => ?_⟩
  · unfold L2.atI
    rw [show L2.ixN vs.length n = ixN ds.length n by rw [e9.length]; rfl, e5]
    exact g1
  obtain ⟨ds2, e10, q5⟩ := ownAt_of q4
  obtain ⟨y, e11, hl, q6⟩ := intD_of q5
  have pk2 := O2.peek R2
  rw [e11] at pk2
  obtain ⟨a', vs2, e12, e13, e14, _⟩ := R2.at e10
  rw [e1] at e12
  cases e12
  refine ⟨_, _, rfl, pk2.int, a, vs2, n, j, rfl, pk.int, e13, by rw [e14.length, hl]; exact e5, ?_⟩
  exact k.nx _ _ _ _ q6 (R2.change e10 e1 (e14.set j (.int _))) (S1.trans S2)
theorem feed_set {fa sa : Addr} {w : W} {kk : Nat} (h1 : 1 ≤ kk) (h3 : kk ≤ 3) (n : Int) : ([V.ref sa, V.int w.ix, V.int w.big, V.int w.seed] : List V).set kk (.int n) = [V.ref sa, V.int (w.set kk n).ix, V.int (w.set kk n).big, V.int (w.set kk n).seed] ∧ (w.set kk n).sc = w.sc := by
  have : kk = 1 ∨ kk = 2 ∨ kk = 3 := by omega
  rcases this with rfl | rfl | rfl <;> exact ⟨rfl, rfl⟩
theorem ixN4 {kk : Nat} (h1 : 1 ≤ kk) (h3 : kk ≤ 3) (l : List V) (hl : l.length = 4) : L2.ixN l.length (kk : Int) = some kk := by
  unfold L2.ixN
  rw [hl, if_pos (by omega), if_pos (by omega)]
  simp
theorem ds_feed (i kk : Nat) {y : Pos} {jj : Nat} {kp tpos : Pos} [o : Ok X c] (he : PE X e (tE c m)) (hN : X.N[i]? = some x := by rfl) (hv : Vis X.env.scope x := by first | exact Or.inl rfl | exact Or.inr (Or.inl rfl) | exact Or.inr (Or.inr rfl))
    (hd : (x == ("__debug__" : Str)) = false := by decide) (hcd : (x == ("__classdict__" : Str)) = false := by decide)
    (hs : swapsWithSole [.Subscript (.Name x y) (.Constant (.int kk) jj kp) tpos] e pos.line X.env = pure false := by rfl) (hw : swappedStores [.Subscript (.Name x y) (.Constant (.int kk) jj kp) tpos] e X.env = pure none := by rfl) :
    PS X (.Assign [.Subscript (.Name x y) (.Constant (.int kk) jj kp) tpos] e pos) (tS c (sFeed i kk m)) := by
  refine ps_imp (ps_asg he (pg_sub (pe_var hN hv hd hcd) pe_int set_list) hs hw) ?_
  rintro D σ H ⟨G, s, O, R, h, k⟩
  obtain ⟨⟨h1, h3⟩, h⟩ := h
  refine ⟨G, s, _, R, h, fun r s1 v H1 G1 q R1 S1 K1 O1 => ?_⟩
  obtain ⟨e0, q2⟩ := feedAt_of q
  obtain ⟨n, e4, q3⟩ := intD_of q2
  obtain ⟨fa, e1, e2⟩ := R1.at e0
  obtain ⟨z1, sa, z2, z3⟩ := R1.fd fa e2
  have pk := O1.peek R1
  rw [e4] at pk
  refine ⟨.ref fa, e1, fa, _, kk, kk, rfl, rfl, z2, ixN4 h1 h3 _ rfl, ?_⟩
  obtain ⟨f1, f2⟩ := feed_set (fa := fa) (sa := sa) (w := s1.w) h1 h3 n
  rw [pk.int, f1]
  exact k.nx _ _ _ _ q3 (R1.feed e2 z3 f2) S1
theorem ds_feedA (i kk : Nat) {n : Int} {y : Pos} {jj jn : Nat} {kp np tpos : Pos} [o : Ok X c] (hN : X.N[i]? = some x := by rfl) (hv : Vis X.env.scope x := by first | exact Or.inl rfl | exact Or.inr (Or.inl rfl) | exact Or.inr (Or.inr rfl))
    (hd : (x == ("__debug__" : Str)) = false := by decide) (hcd : (x == ("__classdict__" : Str)) = false := by decide) :
    PS X (.AugAssign (.Subscript (.Name x y) (.Constant (.int kk) jj kp) tpos) .Add (.Constant (.int n) jn np) pos) (tS c (sFeedA i kk n)) := by
  refine ps_imp (ps_augS (pe_var hN hv hd hcd) pe_int pget_list pe_int ip_add set_list) ?_
  rintro D σ H ⟨G, s, O, R, h, k⟩
  obtain ⟨⟨h1, h3⟩, h⟩ := h
  obtain ⟨e0, q3⟩ := feedAt_of h
  obtain ⟨fa, e1, e2⟩ := R.at e0
  obtain ⟨z1, sa, z2, z3⟩ := R.fd fa e2
  refine ⟨.ref fa, e1, fa, _, kk, .int (s.w.at kk), rfl, rfl, SqL.of z2, ?_, s.w.at kk, n, rfl, rfl, fa, _, kk, kk, rfl, rfl, z2, ixN4 h1 h3 _ rfl, ?_⟩
  · unfold L2.atI
    rw [ixN4 h1 h3 _ rfl]
    have : kk = 1 ∨ kk = 2 ∨ kk = 3 := by omega
    rcases this with rfl | rfl | rfl <;> rfl
  · obtain ⟨f1, f2⟩ := feed_set (fa := fa) (sa := sa) (w := s.w) h1 h3 (s.w.at kk + n)
    rw [f1]
    exact k.nx _ _ _ _ q3 (R.feed e2 z3 f2) (Same.refl _)
/-- xs.pop(k) -/
theorem pop_run {i : Nat} {kx : Expr} {Qd : D → S → Prop} [o : Ok X c] (R : Rel c σ H G s) (h : popD i m s Qd) {Q : VK} (hQ : ∀ d s' v H' G', Qd d s' → Rel c σ H' G' s' → Same G G' → Dg c.K G' v d → Q v H') :
    tBM X.K "list" rPopAt (tVar i) (tCons (tE c m) tNil) σ H Q := by
  unfold popD at h
  obtain ⟨ds0, e0, h⟩ := ownAt_of h
  obtain ⟨a, vs0, e1, e2, _⟩ := R.at e0
  refine ⟨.ref a, e1, .inl ⟨rfl, vs0, SqL.of e2⟩, G, s, _, R, h, fun r s1 v H1 G1 q R1 S1 K1 O1 => ?_⟩
  obtain ⟨ds, e3, q2⟩ := ownAt_of q
  obtain ⟨n, e4, j, d, e5, e6, ⟨b1, b2⟩, q3⟩ := intD_of q2
  obtain ⟨a', vs, e7, e8, e9, _⟩ := R1.at e3
  rw [e1] at e7
  cases e7
  have pk := O1.peek R1
  rw [e4] at pk
  obtain ⟨u, g1, g2⟩ := e9.get e6
  have hj : seqIndex? n vs.length = some j := (ixN_seq (show L2.ixN vs.length n = some j by rw [e9.length]; exact e5)).1
  exact ⟨a, vs, n, j, u, rfl, by rw [pk.int], e8, b1, b2, hj, g1, hQ _ _ _ _ _ q3 (R1.change e3 e1 (e9.eraseIdx j)) S1 g2⟩
theorem ds_pop (i : Nat) {y : Pos} {kx : Expr} {apos cpos : Pos} [o : Ok X c] (hk : PE X kx (tE c m)) (hN : X.N[i]? = some x := by rfl) (hv : Vis X.env.scope x := by first | exact Or.inl rfl | exact Or.inr (Or.inl rfl) | exact Or.inr (Or.inr rfl))
    (hd : (x == ("__debug__" : Str)) = false := by decide) (hcd : (x == ("__classdict__" : Str)) = false := by decide) (hs0 : starEach [kx] X.env = (false, eval kx X.env) :: starEach [] X.env := by rfl)
    (hfew : ((backTo cpos (starEach (kx :: []) X.env)).all (fun x => !x.1) && (backToKw cpos (keywordEach [] X.env)).all (fun x => x.1.isSome)
      && decide ((kx :: []).length + ([] : List Keyword).length + (if ([] : List Keyword).isEmpty then 0 else 1) < 30)) = true := by rfl)
    (hbase : attributeBase (.Name x y) "pop" X.env (eval (.Name x y) X.env) = eval (.Name x y) X.env := by rfl) (hline : (apos.endLine == cpos.line) = true := by rfl) (hpl : (backTo cpos (starEach [] X.env)).any (·.1) = false := by rfl)
    (hs : swapsWith (.Call (.Attribute (.Name x y) "pop" apos) [kx] [] cpos) none pos.line X.env = pure false := by rfl) : PS X (.Expr (.Call (.Attribute (.Name x y) "pop" apos) [kx] [] cpos) pos) (tS c (sPop i m)) := by
  refine ps_imp (ps_expr (pe_bm PySem.F.plainAttrs_list PySem.F.slot_list_pop PySem.F.type_list_pop mt_popAt (pe_var hN hv hd hcd) (pa_cons hk pa_nil hs0) hbase hfew hline hs0 hpl) hs) ?_
  rintro D σ H ⟨G, s, O, R, h, k⟩
  exact pop_run (kx := kx) R h fun d s' v H' G' q R' S' dg => k.nx _ _ _ _ q R' S'
theorem ds_addPop (j i : Nat) {z : Str} {py pz y : Pos} {kx : Expr} {apos cpos bpos : Pos} [o : Ok X c] (hk : PE X kx (tE c m)) (hz : X.N[j]? = some z := by rfl) (hN : X.N[i]? = some x := by rfl)
    (hvz : Vis X.env.scope z := by first | exact Or.inl rfl | exact Or.inr (Or.inl rfl) | exact Or.inr (Or.inr rfl)) (hlz : Loc X.env.scope z := by first | exact Or.inl rfl | exact Or.inr rfl) (hv : Vis X.env.scope x := by first | exact Or.inl rfl | exact Or.inr (Or.inl rfl) | exact Or.inr (Or.inr rfl))
    (hdz : (z == ("__debug__" : Str)) = false := by decide) (hcdz : (z == ("__classdict__" : Str)) = false := by decide)
    (hd : (x == ("__debug__" : Str)) = false := by decide) (hcd : (x == ("__classdict__" : Str)) = false := by decide) (hs0 : starEach [kx] X.env = (false, eval kx X.env) :: starEach [] X.env := by rfl)
    (hfew : ((backTo cpos (starEach (kx :: []) X.env)).all (fun x => !x.1) && (backToKw cpos (keywordEach [] X.env)).all (fun x => x.1.isSome)
      && decide ((kx :: []).length + ([] : List Keyword).length + (if ([] : List Keyword).isEmpty then 0 else 1) < 30)) = true := by rfl)
    (hbase : attributeBase (.Name x y) "pop" X.env (eval (.Name x y) X.env) = eval (.Name x y) X.env := by rfl) (hline : (apos.endLine == cpos.line) = true := by rfl) (hpl : (backTo cpos (starEach [] X.env)).any (·.1) = false := by rfl)
    (hs : swapsWith (.BinOp (.Name z pz) .Add (.Call (.Attribute (.Name x y) "pop" apos) [kx] [] cpos) bpos) (some (.Name z py)) pos.line X.env = pure false := by rfl)
    (hf : X.fn z = true ∨ X.env.scope.names.lookup z = some .local := by first | exact .inl rfl | exact .inr rfl) :
    PS X (.Assign [.Name z py] (.BinOp (.Name z pz) .Add (.Call (.Attribute (.Name x y) "pop" apos) [kx] [] cpos) bpos) pos) (tS c (sAddPop j i m)) := by
  refine ps_imp (ps_set o.nd hz hlz (pe_op op_add_str (pe_var hz hvz hdz hcdz) (pe_bm PySem.F.plainAttrs_list PySem.F.slot_list_pop PySem.F.type_list_pop mt_popAt (pe_var hN hv hd hcd) (pa_cons hk pa_nil hs0) hbase hfew hline hs0 hpl)) hs hf) ?_
  rintro D σ H ⟨G, s, O, R, h, k⟩
  unfold sAddPop at h
  split at h
  · rename_i l e1
    obtain ⟨v, e2, dg⟩ := R.at e1
    cases dg
    refine ⟨_, e2, pop_run (kx := kx) R h fun d s' v H' G' q R' S' dg => ?_⟩
    split at q
    · cases dg
      refine ⟨_, _, rfl, rfl, by rw [len_sT, len_sT, ← lineEq]; exact q.1, ?_⟩
      rw [sT_append]
      exact k.nx _ _ _ _ q.2 (R'.put_val (.str _)) S'
    · exact q.elim
  · exact h.elim
/-! ### loops -/
theorem ds_for {tg iter : Expr} {body : List Stmt} {src : Src} {g : Gt} {is : List Nat} [o : Ok X c] [cm : Calm X] (hp : PassesOwn (model X.prog X.w) X.A X.env X.xe) (hi : PI X tg iter (tI c src)) (hg : PG X tg (tG c is g)) (hb : PSs X body (tS c u))
    (hs : ∀ x, foldedSetIterable iter X.env x = pure x := by intro _; rfl) : PS X (.For tg iter body [] pos) (tS c (sFor src g u)) := by
  refine ps_imp (ps_for hp cm.calm hi hg hb hs) ?_
  rintro D σ H ⟨G, s, O, R, h, k⟩
  refine ⟨G, s, _, R, h, fun ds s1 J H1 G1 q R1 S1 K1 Wk => ?_⟩
  refine ⟨fun i n σ H => ∃ G s, i + n = ds.length ∧ Rel c σ H G s ∧ Same G1 G ∧ forL g u (ds.drop i) s O, ⟨ds.length, G1, s1, by omega, R1, Same.refl _, q⟩, ?_⟩
  rintro i n σ2 H2 ⟨G2, s2, ei, R2, S2, q2⟩
  by_cases hi' : i < ds.length
  · right
    refine ⟨Wk.go i H2 G2 hi' S2 R2.gH, fun σ' H' => ∃ G s, i + 1 + (n - 1) = ds.length ∧ Rel c σ' H' G s ∧ Same G1 G ∧ forL g u (ds.drop (i + 1)) s O, fun σ' H' h => ⟨n - 1, by omega, h⟩, fun x H3 y => ?_⟩
    obtain ⟨G3, R3, S3, K3, dx⟩ := Wk.yld c _ i H2 G2 H3 _ x (ds[i]) rfl R2 S2 (by simp) y
    have ed : ds.drop i = ds[i] :: ds.drop (i + 1) := by rw [← List.drop_eq_getElem_cons hi']
    rw [ed] at q2
    refine ⟨G3, s2, _, _, R3, dx, q2, fun s4 σ4 H4 G4 q4 R4 C4 S4 K4 => ⟨G4, s4, _, R4, q4, ?_⟩⟩
    have ss : Same G1 G4 := (S2.trans S3).trans S4
    refine ⟨fun s' σ' H' G' q R' S' => ⟨G', s', by omega, R', ss.trans S', q⟩, fun s' σ' H' G' q R' S' => k.nx _ _ _ _ q R' ((S1.trans ss).trans S'), fun s' σ' H' G' q R' S' => ⟨G', s', by omega, R', ss.trans S', q⟩, fun r s' v σ' H' G' q R' S' => k.rt _ _ _ _ _ _ q R' ((S1.trans ss).trans S')⟩
  · left
    have e0 : i = ds.length := by omega
    subst e0
    rw [List.drop_length] at q2
    exact ⟨Wk.stop H2 G2 S2 R2.gH, k.nx _ _ _ _ q2 R2 (S1.trans S2)⟩
theorem ds_while {d : Expr} {body : List Stmt} (hp : PassesOwn (model X.prog X.w) X.A X.env X.xe) (hd : PT X d (tT c t)) (hb : PSs X body (tS c u)) : PS X (.While d body [] pos) (tS c (sWhile t u)) := by
  refine ps_imp (ps_while hp hd hb) ?_
  rintro D σ H ⟨G, s, O, R, ⟨I, ⟨m0, i0⟩, turn⟩, k⟩
  refine ⟨fun n σ H => ∃ G1 s, Rel c σ H G1 s ∧ Same G G1 ∧ I n s, ⟨m0, G, s, R, Same.refl _, i0⟩, ?_⟩
  rintro n σ1 H1 ⟨G1, s1, R1, S1, i1⟩
  refine ⟨G1, s1, _, R1, turn n s1 i1, fun b s2 H2 G2 q R2 S2 K2 => ?_⟩
  cases b with
  | true =>
    rw [if_pos rfl] at q
    refine iteT ⟨fun σ' H' => ∃ m', m' < n ∧ ∃ G1 s, Rel c σ' H' G1 s ∧ Same G G1 ∧ I m' s, fun σ' H' h => h, G2, s2, _, R2, q, ?_⟩
    have ss := S1.trans S2
    refine ⟨fun s' σ' H' G' ⟨m', hm, q⟩ R' S' => ⟨m', hm, G', s', R', ss.trans S', q⟩, fun s' σ' H' G' q R' S' => k.nx _ _ _ _ q R' (ss.trans S'), fun s' σ' H' G' ⟨m', hm, q⟩ R' S' => ⟨m', hm, G', s', R', ss.trans S', q⟩, fun r s' v σ' H' G' q R' S' => k.rt _ _ _ _ _ _ q R' (ss.trans S')⟩
  | false =>
    rw [if_neg Bool.false_ne_true] at q
    exact iteF (k.nx _ _ _ _ q R2 (S1.trans S2))
end
end DL

/-! DLS10: defs. -/
namespace DL
open PySem PySem.Spec PyProof.Rows L2
/-! ### defs -/
section
variable {P : Program} {w : World} {K : PySem.W.Frag} {mg : Str → Option Value} {base : Heap}
theorem start_get {N : List Str} {vs : List V} {i : Nat} {v : V} (h : vs[i]? = some v) : (L2.start N vs)[i]? = some (some v) := by
  unfold L2.start
  have hi : i < vs.length := (List.getElem?_eq_some_iff.mp h).1
  rw [List.getElem?_append_left (by simpa using hi), List.getElem?_map, h]
  rfl
theorem get_vals : ∀ (ds : List D) (n i : Nat), get (ds.map Slot.val ++ List.replicate n .gone) i = match ds[i]? with
    | some d => .val d
    | none => .gone
  | [], 0, i => rfl
  | [], n + 1, 0 => rfl
  | [], n + 1, i + 1 => by
    have := get_vals [] n i
    simpa [List.replicate_succ, get] using this
  | d :: ds, n, 0 => rfl
  | d :: ds, n, i + 1 => by
    have := get_vals ds n i
    simpa [get] using this
theorem start_length {N : List Str} {vs : List V} (h : vs.length ≤ N.length) : (L2.start N vs).length = N.length := by
  unfold L2.start
  rw [List.length_append, List.length_map, List.length_replicate]
  omega
/-- at a def's entry: arguments alone -/
theorem rel_start {N : List Str} {vs : List V} {ds : List D} {G0 H : Hp} {w : W} (gH : Same G0 H) (h : Dgs K G0 vs ds) (hl : vs.length ≤ N.length) : Rel ⟨K, G0, H, none, fun _ => False, mg, none⟩ (L2.start N vs) H G0 ⟨ds.map Slot.val ++ List.replicate (N.length - ds.length) .gone, w⟩ := by
  have sl : ∀ i, SlotOk ⟨K, G0, H, none, fun _ => False, mg, none⟩ H G0 (L2.start N vs)[i]? (get (ds.map Slot.val ++ List.replicate (N.length - ds.length) .gone) i) ∧ (get (ds.map Slot.val ++ List.replicate (N.length - ds.length) .gone) i).isOwn = false := fun i => by
    rw [get_vals]
    cases e : ds[i]? with
    | none => exact ⟨trivial, rfl⟩
    | some d =>
      obtain ⟨v, h1, h2⟩ := h.get e
      exact ⟨⟨v, start_get h1, h2⟩, rfl⟩
  refine ⟨Same.refl _, gH, fun b o e _ => e, fun a o e => .inl e, ?_, fun i => (sl i).1, fun i j a hij h1 _ _ _ => ?_, fun a e => (nomatch e), fun a e => e.elim⟩
  · show (ds.map Slot.val ++ List.replicate (N.length - ds.length) Slot.gone).length = _
    rw [start_length hl, List.length_append, List.length_map, List.length_replicate]
    have := h.length
    omega
  · have h1 : (get (ds.map Slot.val ++ List.replicate (N.length - ds.length) .gone) i).isOwn = true := h1
    rw [(sl i).2] at h1
    cases h1
theorem rel_startF {N : List Str} {fa : Addr} {vs : List V} {ds : List D} {G0 H : Hp} {w : W} (gH : Same G0 H) (fd : FeedOk (some fa) H G0 w) (h : Dgs K G0 vs ds) (hl : vs.length + 1 ≤ N.length) :
    Rel ⟨K, G0, H, some fa, fun _ => False, mg, none⟩ (L2.start N (.ref fa :: vs)) H G0 ⟨.feed :: ds.map Slot.val ++ List.replicate (N.length - 1 - ds.length) .gone, w⟩ := by
  have gv : ∀ i, get (Slot.feed :: ds.map Slot.val ++ List.replicate (N.length - 1 - ds.length) .gone) (i + 1) = match ds[i]? with
    | some d => .val d
    | none => .gone := fun i => get_vals ds (N.length - 1 - ds.length) i
  have sl : ∀ i, SlotOk ⟨K, G0, H, some fa, fun _ => False, mg, none⟩ H G0 (L2.start N (.ref fa :: vs))[i]? (get (Slot.feed :: ds.map Slot.val ++ List.replicate (N.length - 1 - ds.length) .gone) i) ∧ (get (Slot.feed :: ds.map Slot.val ++ List.replicate (N.length - 1 - ds.length) .gone) i).isOwn = false := fun i => by
    cases i with
    | zero => exact ⟨⟨fa, start_get rfl, rfl⟩, rfl⟩
    | succ i =>
      rw [gv]
      cases e : ds[i]? with
      | none => exact ⟨trivial, rfl⟩
      | some d =>
        obtain ⟨v, h1, h2⟩ := h.get e
        exact ⟨⟨v, start_get (by simpa using h1), h2⟩, rfl⟩
  refine ⟨Same.refl _, gH, fun b o e _ => e, fun a o e => .inl e, ?_, fun i => (sl i).1, fun i j a hij h1 _ _ _ => ?_, fd, fun a e => e.elim⟩
  · show (Slot.feed :: ds.map Slot.val ++ List.replicate (N.length - 1 - ds.length) Slot.gone).length = _
    rw [start_length (by simpa using hl), List.length_append, List.length_cons, List.length_map, List.length_replicate]
    have := h.length
    omega
  · have h1 : (get (Slot.feed :: ds.map Slot.val ++ List.replicate (N.length - 1 - ds.length) .gone) i).isOwn = true := h1
    rw [(sl i).2] at h1
    cases h1
/-- the context of a def's body -/
abbrev bodyCx (P : Program) (w : World) (K : PySem.W.Frag) (mg : Str → Option Value) (base : Heap) (N : List Str) (qual : Str) (scope : Scope) (f : Addr) (cdv : Value) (A : Around) (outer : List PySem.Env) (s : Shared) (H : Hp) (E : XK) : Cx := (cxOf CX0 P w K mg base N qual scope f cdv A outer s H E).nox
theorem ok_body {N : List Str} {qual : Str} {scope : Scope} {f : Addr} {cdv : Value} {A : Around} {outer : List PySem.Env} {s : Shared} {H : Hp} {E : XK} {k : Nat} {c : Ct} (hr : Room k (A.deeper (envOfC qual scope s.heap.objs.size f cdv))) (nd : N.Nodup) (blt : ∀ x ∈ bltNames, mg x = none) (hK : c.K = K) (hM : c.mg = mg) (hX : c.xe = none) :
    Ok (bodyCx P w K mg base N qual scope f cdv A outer s H E) c := ⟨hK.symm, blt, by have := hr.un; show (A.deeper (envOfC qual scope s.heap.objs.size f cdv)).units + 66 < _; omega, nd, hM.symm, fun _ => hX⟩
/-- a def by its body's meaning -/
theorem fn_ok {x qual : Str} {st : Stmt} {f : Addr} {fd : FuncData} {N ps : List Str} {k : Nat} {body : MS} {spec : Sem} (F : Fun K x qual st f fd) (Sc : FnScope N ps (defScope st)) (len : ∀ ds w Q, spec ds w Q → ds.length = ps.length) (blt : ∀ x ∈ bltNames, mg x = none)
    (hbody : ∀ (cdv : Value) (A : Around) (outer : List PySem.Env) (s : Shared) (H : Hp) (E : XK) (c : Ct), Room k (A.deeper (envOfC qual (defScope st) s.heap.objs.size f cdv)) → Ok (bodyCx P w K mg base N qual (defScope st) f cdv A outer s H E) c → PSs (bodyCx P w K mg base N qual (defScope st) f cdv A outer s H E) (defBody st) (tS c body))
    (vc : ∀ ds w Q, spec ds w Q → run N.length body ds w Q) : FnOk P w K mg base CX0 (k + 1) f fd ps (spD K spec) := by
  refine F.ok Sc (fun vs H Q E h => ?_) (fun cdv A outer s H vs Q E hr h => ?_)
  · obtain ⟨G0, ds, w, Qd, _, h2, h3, _⟩ := h
    rw [h2.length]
    exact len _ _ _ h3
  · obtain ⟨G0, ds, w', Qd, h1, h2, h3, h4⟩ := h
    have hpl : ps.length ≤ N.length := by have := congrArg List.length Sc.pre; rw [List.length_take] at this; omega
    have hl := len _ _ _ h3
    have hl2 := h2.length
    have fin : ∀ {r : DL.R} {s' : S} {v : V} {σ' : St} {H' G' : Hp}, Qd r s'.w → Rel ⟨K, G0, H, none, fun _ => False, mg, none⟩ σ' H' G' s' → RetR ⟨K, G0, H, none, fun _ => False, mg, none⟩ H' G' v r → Q v H' := fun {r s' v σ' H' G'} q R h => by
      refine h4 _ _ _ _ _ q ⟨R.g0, R.gH, R.kH, R.gN, ?_⟩
      cases r with
      | val d => exact h
      | own ds => exact h
      | bor ds => exact h
    refine ⟨_, hbody cdv A outer s H E ⟨K, G0, H, none, fun _ => False, mg, none⟩ hr (ok_body hr Sc.nd blt rfl rfl rfl), G0, _, _, rel_start (w := w') h1 h2 (by omega), vc _ _ _ h3, ?_⟩
    exact ⟨fun s' σ' H' G' q R S => fin q R .non, fun s' σ' H' G' q R S => q.elim, fun s' σ' H' G' q R S => q.elim, fun r s' v σ' H' G' q R S h => fin q R h⟩
theorem fn_okF {x qual : Str} {st : Stmt} {f : Addr} {fd : FuncData} {N ps : List Str} {k : Nat} {body : MS} {spec : Sem} (F : Fun K x qual st f fd) (Sc : FnScope N ps (defScope st)) (len : ∀ ds w Q, spec ds w Q → ds.length + 1 = ps.length) (blt : ∀ x ∈ bltNames, mg x = none)
    (hbody : ∀ (cdv : Value) (A : Around) (outer : List PySem.Env) (s : Shared) (H : Hp) (E : XK) (c : Ct), Room k (A.deeper (envOfC qual (defScope st) s.heap.objs.size f cdv)) → Ok (bodyCx P w K mg base N qual (defScope st) f cdv A outer s H E) c → PSs (bodyCx P w K mg base N qual (defScope st) f cdv A outer s H E) (defBody st) (tS c body))
    (vc : ∀ ds w Q, spec ds w Q → runF N.length body ds w Q) : FnOk P w K mg base CX0 (k + 1) f fd ps (spF K spec) := by
  refine F.ok Sc (fun vs H Q E h => ?_) (fun cdv A outer s H vs Q E hr h => ?_)
  · obtain ⟨fa, us, G0, ds, w, Qd, e, _, _, h2, h3, _⟩ := h
    rw [e, List.length_cons, h2.length]
    exact len _ _ _ h3
  · obtain ⟨fa, us, G0, ds, w', Qd, e, h1, hfd, h2, h3, h4⟩ := h
    subst e
    have hpl : ps.length ≤ N.length := by have := congrArg List.length Sc.pre; rw [List.length_take] at this; omega
    have hl := len _ _ _ h3
    have hl2 := h2.length
    have fin : ∀ {r : DL.R} {s' : S} {v : V} {σ' : St} {H' G' : Hp}, Qd r s'.w → Rel ⟨K, G0, H, some fa, fun _ => False, mg, none⟩ σ' H' G' s' → RetR ⟨K, G0, H, some fa, fun _ => False, mg, none⟩ H' G' v r → Q v H' := fun {r s' v σ' H' G'} q R h => by
      refine h4 _ _ _ _ _ q ⟨R.g0, R.gH, R.kH, R.gN, ?_⟩ R.fd
      cases r with
      | val d => exact h
      | own ds => exact h
      | bor ds => exact h
    refine ⟨_, hbody cdv A outer s H E ⟨K, G0, H, some fa, fun _ => False, mg, none⟩ hr (ok_body hr Sc.nd blt rfl rfl rfl), G0, _, _, rel_startF (w := w') h1 hfd h2 (by omega), vc _ _ _ h3, ?_⟩
    exact ⟨fun s' σ' H' G' q R S => fin q R .non, fun s' σ' H' G' q R S => q.elim, fun s' σ' H' G' q R S => q.elim, fun r s' v σ' H' G' q R S h => fin q R h⟩
end
end DL

/-! DLS11: module constants, defs that are known, methods of texts. -/
namespace DL
open PySem PySem.Spec PyProof.Rows L2
/-- a module's constant -/
def KC (K : PySem.W.Frag) (mg : Str → Option Value) (x : Str) (d : D) : Prop := ∃ u v, mg x = some u ∧ RelV v u ∧ ∀ G, Dg K G v d
/-- a def of the module keeps sp, by at most k levels -/
structure FK (P : Program) (w : World) (K : PySem.W.Frag) (mg : Str → Option Value) (base : Heap) (x : Str) (k : Nat) (sp : Sp) : Prop where
  ex : ∃ (f : Addr) (fd : FuncData) (ps : List Str), FnOk P w K mg base CX0 k f fd ps sp ∧ mg x = some (.ref f) ∧ PySem.W.keepIn K (.ref f) = true ∧ Binds K fd ps []
section
variable {P : Program} {w : World} {K : PySem.W.Frag} {mg : Str → Option Value} {base : Heap}
theorem FK.kn {N : List Str} {qual : Str} {scope : Scope} {f : Addr} {cdv : Value} {A : Around} {outer : List PySem.Env} {s : Shared} {H : Hp} {E : XK} {j k : Nat} {x : Str} {sp : Sp} (F : FK P w K mg base x k sp) (hr : Room j (A.deeper (envOfC qual scope s.heap.objs.size f cdv))) (h : k ≤ j) :
    Kn (bodyCx P w K mg base N qual scope f cdv A outer s H E) x sp := by
  obtain ⟨f', fd, ps, h1, h2, h3, h4⟩ := F.ex
  exact ⟨⟨k, f', fd, ps, h1, hr.mono h, h2, h3, h4⟩⟩
end
section
variable {X : Cx} {c : Ct} {a b e : Expr} {es : List Expr} {m m1 m2 m3 : M} {ms : Ms} {t t1 t2 : T} {pos p : Pos} {σ : St} {H G : Hp} {s : S} {x : Str} {id ty : String}
theorem de_globK {d : D} (h : KC X.K X.mg x d) [o : Ok X c] (hg : Gl X x := by rfl) (hd : (x == ("__debug__" : Str)) = false := by decide) : PE X (.Name x pos) (tE c (mC d)) := by
  obtain ⟨u, v, h1, h2, h3⟩ := h
  exact de_glob hg h1 h2 (fun G => o.K ▸ h3 G) hd
/-! ### methods of texts -/
theorem sT_tl (l : List Nat) : TL.tl (sT l) = l := rfl
theorem one_len (ch : Nat) : (sT [ch]).length = 1 := rfl
theorem fst_lt {ch : Nat} : ∀ {l : List Nat}, ch ∈ l → fstIx ch l < l.length
  | [], h => by simp at h
  | x :: r, h => by
    unfold fstIx
    by_cases e : x = ch
    · rw [if_pos e]; simp
    · rw [if_neg e]
      have := fst_lt (l := r) (ch := ch) (by rcases List.mem_cons.mp h with z | z; exact absurd z.symm e; exact z)
      simp only [List.length_cons]
      omega
theorem fst_at {ch : Nat} : ∀ {l : List Nat}, ch ∈ l → l[fstIx ch l]? = some ch ∧ ∀ k, k < fstIx ch l → l[k]? ≠ some ch
  | [], h => by simp at h
  | x :: r, h => by
    unfold fstIx
    by_cases e : x = ch
    · subst e
      rw [if_pos rfl]
      exact ⟨rfl, fun k hk => absurd hk (Nat.not_lt_zero _)⟩
    · rw [if_neg e]
      obtain ⟨h1, h2⟩ := fst_at (l := r) (ch := ch) (by rcases List.mem_cons.mp h with z | z; exact absurd z.symm e; exact z)
      refine ⟨by simpa using h1, fun k hk => ?_⟩
      cases k with
      | zero => simpa using e
      | succ k => simpa using h2 k (by omega)
theorem at_one {ch : Nat} {l : List Nat} {i : Nat} : PySem.StrLaws.At (sT l) (sT [ch]) (sT l).length i ↔ l[i]? = some ch := by
  have := PySem.StrLaws.subAt_one (sT l) ch i
  simpa [PySem.StrLaws.At] using this
theorem occ_fst {ch : Nat} {l : List Nat} (h : ch ∈ l) : ∃ rest, Builtin.Str.occurrences (sT l) (sT [ch]) 0 (sT l).length 1 = fstIx ch l :: rest := by
  obtain ⟨h1, h2⟩ := fst_at h
  rcases PySem.StrLaws.occ_head (sT l) (sT [ch]) 1 (Nat.le_refl 1) with ⟨_, hn⟩ | ⟨i, r, e, ha, hn⟩
  · exact absurd (at_one.mpr h1) (hn _)
  · have hi : i = fstIx ch l := by
      rcases Nat.lt_trichotomy i (fstIx ch l) with z | z | z
      · exact absurd (at_one.mp ha) (h2 i z)
      · exact z
      · exact absurd (at_one.mpr h1) (hn _ z)
    exact ⟨r, by rw [e, hi]⟩
theorem spl_split {ch : Nat} : ∀ (l acc : List Nat), TL.spl [ch] 0 acc l = match splitC ch l with
    | [] => []
    | p :: ps => (acc ++ p) :: ps
  | [], acc => by simp [TL.spl_nil, splitC]
  | x :: r, acc => by
    unfold splitC
    by_cases e : x = ch
    · subst e
      rw [if_pos rfl, TL.spl_hit (by simp [TL.pre])]
      have ih := spl_split (ch := x) r []
      simp only [List.length_singleton, Nat.sub_self]
      rw [ih]
      cases splitC x r <;> simp
    · rw [if_neg e, TL.spl_miss (by simp [TL.pre, e]), spl_split r (acc ++ [x])]
      cases q : splitC ch r with
      | nil =>
        exfalso
        cases r with
        | nil => simp [splitC] at q
        | cons y r =>
          unfold splitC at q
          split at q
          · cases q
          · split at q <;> cases q
      | cons p ps => simp
theorem split_eq {ch : Nat} (l : List Nat) (hc : ch < 256) : (Txt.split (sT l) (sT [ch])).map TL.tl = splitC ch l := by
  rw [TL.split_spl _ _ (by simp [TL.tl]) (TL.kind_ok (by simpa using hc)), sT_tl, sT_tl, spl_split]
  cases splitC ch l <;> simp
theorem splitC_ne {ch : Nat} : ∀ l : List Nat, splitC ch l ≠ []
  | [] => by simp [splitC]
  | x :: r => by
    unfold splitC
    by_cases e : x = ch
    · rw [if_pos e]; simp
    · rw [if_neg e]
      cases splitC ch r <;> simp
theorem count_eq {ch : Nat} (l : List Nat) (hc : ch < 256) : Txt.count (sT l) (sT [ch]) = (((splitC ch l).length - 1 : Nat) : Int) := by
  have h := congrArg List.length (split_eq l hc)
  rw [List.length_map] at h
  unfold Txt.count
  rw [← h]
  unfold Txt.split
  have hk : decide (Builtin.Str.strKind (sT l) < Builtin.Str.strKind (sT [ch])) = false := decide_eq_false (TL.kind_ok (by simpa using hc))
  rw [hk, Bool.or_false]
  by_cases hl : (sT l).length < (sT [ch]).length
  · rw [if_pos (decide_eq_true hl)]
    rcases PySem.StrLaws.occ_head (sT l) (sT [ch]) ((sT l).length + 1) (by omega) with ⟨e, _⟩ | ⟨i, r, e, ha, _⟩
    · rw [e]; rfl
    · have := ha.1; omega
  · rw [if_neg (by rw [decide_eq_false hl]; exact Bool.false_ne_true)]
    cases e : Builtin.Str.occurrences (sT l) (sT [ch]) 0 (sT l).length ((sT l).length + 1) with
    | nil => rfl
    | cons i r =>
      rw [if_neg (by simp), PySem.length_partsBetween]
      rfl
theorem isS_of {d : D} {k : Prop} (h : isS d k) : (∃ l, d = .str l) ∧ k := by
  unfold isS at h
  split at h
  · exact ⟨⟨_, rfl⟩, h⟩
  · exact h.elim
theorem isL_of {d : D} {k : Prop} (h : isL d k) : (∃ l, d = .list l) ∧ k := by
  unfold isL at h
  split at h
  · exact ⟨⟨_, rfl⟩, h⟩
  · exact h.elim
theorem mMS_run {f : D → D → (R → Prop) → Prop} {r : V → List V → Hp → VK → Prop} (ho : OpD c f (fun x y H Q => r x [y] H Q)) : ∀ σ H Q, tE c (mMS f m1 m2) σ H Q → tM1 r (tE c m1) (tE c m2) σ H Q := by
  rintro σ H Q ⟨G, s, Q0, R, hm, hQ⟩
  refine ⟨G, s, _, R, hm, fun r1 s1 v1 H1 G1 q1 R1 S1 K1 O1 => ?_⟩
  obtain ⟨⟨l, e⟩, q1⟩ := isS_of q1
  have p1 := O1.peek R1
  refine ⟨⟨sT l, by rw [e] at p1; exact p1.str⟩, G1, s1, _, R1, q1, fun r2 s2 v2 H2 G2 q2 R2 S2 K2 O2 => ?_⟩
  exact ho R2 (p1.keep S2 K2) (O2.peek R2) q2 fun r v H' G' q R' S' K' O' => hQ r s2 v H' G' q R' ((S1.trans S2).trans S') ((K1.trans K2).trans K') O'
theorem mML_run {f : D → D → (R → Prop) → Prop} {r : V → List V → Hp → VK → Prop} {K : PySem.W.Frag} (hK : K = c.K) (ho : OpD c f (fun x y H Q => r x [y] H Q)) : ∀ σ H Q, tE c (mML f m1 m2) σ H Q → tBM K "list" r (tE c m1) (tCons (tE c m2) tNil) σ H Q := by
  rintro σ H Q ⟨G, s, Q0, R, hm, hQ⟩
  refine ⟨G, s, _, R, hm, fun r1 s1 v1 H1 G1 q1 R1 S1 K1 O1 => ?_⟩
  obtain ⟨⟨l, e⟩, q1⟩ := isL_of q1
  have p1 := O1.peek R1
  have p1' := p1
  rw [e] at p1'
  obtain ⟨a, vs, e1, h1, h2⟩ := p1'.list
  subst e1
  refine ⟨.inl ⟨rfl, vs, SqL.of h1⟩, G1, s1, _, R1, q1, fun r2 s2 v2 H2 G2 q2 R2 S2 K2 O2 => ?_⟩
  exact ho R2 (p1.keep S2 K2) (O2.peek R2) q2 fun r v H' G' q R' S' K' O' => hQ r s2 v H' G' q R' ((S1.trans S2).trans S') ((K1.trans K2).trans K') O'
theorem de_indexS {apos : Pos} (ha : PE X a (tE c m1)) (hb : PE X b (tE c m2)) (hs : starEach [b] X.env = [(false, eval b X.env)] := by rfl) (hbase : attributeBase a "index" X.env (eval a X.env) = eval a X.env := by rfl) (hline : (apos.endLine == pos.line) = true := by rfl) :
    PE X (.Call (.Attribute a "index" apos) [b] [] pos) (tE c (mMS dIndexS m1 m2)) :=
  pe_imp (pe_m1 F.slot_str_index F.type_str_index mt_sindex ha hb hs hbase hline) (mMS_run (by
    intro σ H G s x y v u Qr Q R hx hy h F
    unfold dIndexS at h
    split at h
    · obtain ⟨rest, e⟩ := occ_fst h.1
      exact ⟨_, _, _, rest, hx.str, by rw [hy.str], e, F.val R h.2 (.int _)⟩
    · exact h.elim))
theorem de_indexL [o : Ok X c] {apos : Pos} (ha : PE X a (tE c m1)) (hb : PE X b (tE c m2)) (hs : starEach [b] X.env = (false, eval b X.env) :: starEach [] X.env := by rfl) (hbase : attributeBase a "index" X.env (eval a X.env) = eval a X.env := by rfl) (hline : (apos.endLine == pos.line) = true := by rfl)
    (hfew : ((backTo pos (starEach (b :: []) X.env)).all (fun x => !x.1) && (backToKw pos (keywordEach [] X.env)).all (fun x => x.1.isSome)
      && decide ((b :: []).length + ([] : List Keyword).length + (if ([] : List Keyword).isEmpty then 0 else 1) < 30)) = true := by rfl) (hpl : (backTo pos (starEach [] X.env)).any (·.1) = false := by rfl) :
    PE X (.Call (.Attribute a "index" apos) [b] [] pos) (tE c (mML dIndexL m1 m2)) :=
  pe_imp (pe_bm PySem.F.plainAttrs_list PySem.F.slot_list_index PySem.F.type_list_index (mt_indexD (by have := o.hu; omega)) ha (pa_cons hb pa_nil hs) hbase hfew hline hs hpl) (mML_run o.K (by
    intro σ H G s x y v u Qr Q R hx hy h F
    unfold dIndexL at h
    split at h
    · obtain ⟨h1, h2, j, z, h3, h4, h5, h6⟩ := h
      rename_i ds
      obtain ⟨a, vs, e, g1, g2⟩ := hx.list
      have hd := hx.dp R
      simp only [toP] at hd
      refine ⟨a, u, toP y, toPs ds, j, toP z, e, rfl, o.K ▸ (e ▸ hd), o.K ▸ hy.dp R, ?_, shaped_of h1 (by decide), ?_, by rw [eqv_toP]; exact h4, fun i w hi hw => ?_, F.val R h6 (.int _)⟩
      · exact shaped_of (n := 9) (d := .list ds) h2 (by decide)
      · rw [toPs_map, List.getElem?_map, h3]; rfl
      · rw [toPs_map, List.getElem?_map] at hw
        cases q : ds[i]? with
        | none => rw [q] at hw; cases hw
        | some w' =>
          rw [q] at hw
          cases hw
          rw [eqv_toP]
          exact h5 i w' hi q
    · exact h.elim))
theorem de_count {apos : Pos} (ha : PE X a (tE c m1)) (hb : PE X b (tE c m2)) (hs : starEach [b] X.env = [(false, eval b X.env)] := by rfl) (hbase : attributeBase a "count" X.env (eval a X.env) = eval a X.env := by rfl) (hline : (apos.endLine == pos.line) = true := by rfl) :
    PE X (.Call (.Attribute a "count" apos) [b] [] pos) (tE c (mMS dCount m1 m2)) :=
  pe_imp (pe_m1 F.slot_str_count F.type_str_count mt_count ha hb hs hbase hline) (mMS_run (by
    intro σ H G s x y v u Qr Q R hx hy h F
    unfold dCount at h
    split at h
    · refine ⟨_, _, hx.str, by rw [hy.str], ?_⟩
      rw [count_eq _ h.2.1]
      exact F.val R h.2.2 (.int _)
    · exact h.elim))
theorem map_tl {ls : List (List Nat)} {ys : List Str} (h : ys.map TL.tl = ls) : ys = ls.map sT := by
  apply TL.map_tl_inj
  rw [h, List.map_map]
  symm
  calc ls.map (TL.tl ∘ sT) = ls.map id := List.map_congr_left fun _ _ => rfl
    _ = ls := List.map_id _
theorem Dgs.strs (ls : List (List Nat)) {K : PySem.W.Frag} {G : Hp} : Dgs K G ((ls.map sT).map V.str) (ls.map D.str) := by
  induction ls with
  | nil => exact .nil
  | cons l r ih => exact .cons (.str l) ih
theorem de_split {apos : Pos} (ha : PE X a (tE c m1)) (hb : PE X b (tE c m2)) (hs : starEach [b] X.env = [(false, eval b X.env)] := by rfl) (hbase : attributeBase a "split" X.env (eval a X.env) = eval a X.env := by rfl) (hline : (apos.endLine == pos.line) = true := by rfl) :
    PE X (.Call (.Attribute a "split" apos) [b] [] pos) (tE c (mMS dSplit m1 m2)) :=
  pe_imp (pe_m1 F.slot_str_split F.type_str_split mt_split ha hb hs hbase hline) (mMS_run (by
    intro σ H G s x y v u Qr Q R hx hy h F
    unfold dSplit at h
    split at h
    · refine ⟨_, _, hx.str, by rw [hy.str], rfl, by rw [len_sT, ← lineEq]; exact h.1, fun p n => ?_⟩
      rw [map_tl (split_eq _ h.2.1)]
      exact F.own R h.2.2 (Dgs.strs _) n
    · exact h.elim))
theorem joinL_S (sep : List Nat) : ∀ ls : List (List Nat), TL.joinL sep ls = joinS sep ls
  | [] => rfl
  | [_] => rfl
  | p :: q :: r => by
    show p ++ (sep ++ TL.joinL sep (q :: r)) = p ++ (sep ++ joinS sep (q :: r))
    rw [joinL_S sep (q :: r)]
theorem join_sT (sep : List Nat) (ls : List (List Nat)) : Txt.join (sT sep) (ls.map sT) = sT (joinS sep ls) := by
  apply TL.ext_tl
  rw [TL.join_eq, TL.tl_join, List.map_map, sT_tl, sT_tl, ← joinL_S]
  congr 1
  calc ls.map (TL.tl ∘ sT) = ls.map id := List.map_congr_left fun _ _ => rfl
    _ = ls := List.map_id _
theorem Dgs.toStrs {K : PySem.W.Frag} {G : Hp} : ∀ {ls : List (List Nat)} {vs : List V}, Dgs K G vs (ls.map D.str) → vs = (ls.map sT).map V.str
  | [], _, .nil => rfl
  | l :: r, _, h => by
    rw [List.map_cons] at h
    cases h with
    | cons h t => cases h; rw [Dgs.toStrs t]; rfl
theorem de_join [o : Ok X c] {apos : Pos} (ha : PE X a (tE c m1)) (hb : PE X b (tE c m2)) (hs : starEach [b] X.env = [(false, eval b X.env)] := by rfl) (hbase : attributeBase a "join" X.env (eval a X.env) = eval a X.env := by rfl) (hline : (apos.endLine == pos.line) = true := by rfl) :
    PE X (.Call (.Attribute a "join" apos) [b] [] pos) (tE c (mMS dJoin m1 m2)) :=
  pe_imp (pe_m1 F.slot_str_join F.type_str_join mt_join ha hb hs hbase hline) (mMS_run (by
    intro σ H G s x y v u Qr Q R hx hy h F
    unfold dJoin at h
    split at h
    · obtain ⟨ls, e, hz, q⟩ := h
      subst e
      obtain ⟨p, vs, e1, h1, h2⟩ := hy.list
      have e2 := h2.toStrs
      subst e2
      refine ⟨_, p, ls.map sT, hx.str, by rw [e1], .inl (SqL.of h1), ?_, ?_⟩
      · rw [List.map_map, List.length_map, len_sT]
        have : ls.map ((fun x => x.length) ∘ sT) = ls.map List.length := List.map_congr_left fun l _ => len_sT l
        rw [this]
        exact hz
      · rw [join_sT]
        exact F.val R q (.str _)
    · exact h.elim))
end
end DL

/-! DLS12: further expressions. -/
namespace DL
open PySem PySem.Spec PyProof.Rows L2
section
variable {X : Cx} {c : Ct} {a b e : Expr} {es : List Expr} {m m1 m2 m3 : M} {ms : Ms} {t t1 t2 : T} {pos p : Pos} {σ : St} {H G : Hp} {s : S} {x : Str} {id ty : String}
theorem fm_of {α β : Type} {f : α → Option β} {l : List α} {ys : List β} (h : l.map f = ys.map some) : l.filterMap f = ys := by
  have e : l.filterMap f = (l.map f).filterMap id := by rw [List.filterMap_map]; rfl
  rw [e, h, List.filterMap_map]
  simp
/-- xs[:k:-1] -/
theorem pick_revTo (items : Array Value) (k : Nat) (h : k < items.size) : slicePick items none (some (k : Int)) (some (-1)) = ((items.toList.drop (k + 1)).reverse).toArray := by
  unfold slicePick
  have hb : sliceBounds none (some (k : Int)) (some (-1)) items.size = ((items.size : Int) - 1, (k : Int), -1) := by
    unfold sliceBounds
    simp only [Option.getD_some, show ¬ ((-1 : Int) > 0) by decide, if_false]
    rw [if_neg (by omega)]
    refine Prod.ext rfl (Prod.ext ?_ rfl)
    show max (-1 : Int) (min (k : Int) ((items.size : Int) - 1)) = k
    omega
  rw [hb]
  have hr : sliceRange ((items.size : Int) - 1) (k : Int) (-1) = (List.range (items.size - 1 - k)).map fun j => items.size - 1 - j := by
    unfold sliceRange
    simp only [show ¬ ((-1 : Int) > 0) by decide, if_false]
    by_cases h2 : (items.size : Int) - 1 > k
    · rw [if_pos h2, show (- -1 : Int) = 1 by decide, Int.ediv_one]
      have e : ((items.size : Int) - 1 - k - -1 - 1).toNat = items.size - 1 - k := by omega
      rw [e]
      apply List.map_congr_left
      intro j hj
      have := List.mem_range.mp hj
      omega
    · rw [if_neg h2]
      have e : items.size - 1 - k = 0 := by omega
      rw [e]
      rfl
  show ((sliceRange ((items.size : Int) - 1) (k : Int) (-1)).filterMap (items[·]?)).toArray = _
  rw [hr]
  congr 1
  rw [List.filterMap_map]
  refine fm_of ?_
  apply List.ext_getElem
  · simp; omega
  · intro i h1 h2
    simp only [List.length_map, List.length_range] at h1
    simp only [List.getElem_map, List.getElem_range, Function.comp]
    rw [Array.getElem?_eq_getElem (by omega)]
    congr 1
    rw [List.getElem_reverse]
    simp
    congr 1
    omega
def tRevTo (K : PySem.W.Frag) (k : Nat) (te : TE) : TE := fun σ H Q => te σ H fun x H1 => ∃ a xs, x = .ref a ∧ SqL K H1 a xs ∧ k < xs.length ∧ ∀ p, H1 p = none → Q (.ref p) (upd H1 p (.lst (xs.drop (k + 1)).reverse))
theorem pe_revTo {e : Expr} {te : TE} {k : Nat} {jk k1 : Nat} {p0 p1 p2 p3 pos : Pos} (he : PE X e te) : PE X (.Subscript e (.Slice none (some (.Constant (.int (k : Int)) jk p0)) (some (.UnaryOp .USub (.Constant (.int 1) k1 p1) p2)) p3) pos) (tRevTo X.K k te) := by
  refine ⟨fun pins s σ H Q I h => ?_⟩
  refine Subscript_ (thn (he.run pins s σ H _ I h) fun v s1 ⟨x, H1, I1, r1, q1⟩ => ?_)
  have hst : PO X (some (.UnaryOp .USub (.Constant (.int 1) k1 p1) p2)) (tPart (tUn (rU fun i => .int (-i)) (tC (.int 1)))) := po_some (pe_un un_neg pe_int)
  have hup : PO X (some (.Constant (.int (k : Int)) jk p0)) (tPart (tC (.int (k : Int)))) := po_some pe_int
  refine wpAny_Slice (thn (po_none.run pins s1 σ H1 (fun o H2 => o = none ∧ H2 = H1) I1 ⟨rfl, rfl⟩) fun vl s2 ⟨l, H2, I2, pl, el, e2⟩ => ?_)
  subst el e2
  refine thn (hup.run pins s2 σ H2 (fun o H3 => o = some (k : Int) ∧ H3 = H2) I2 ⟨_, rfl, rfl, rfl⟩) fun vu s3 ⟨u, H3, I3, pu, eu, e3⟩ => ?_
  subst eu e3
  refine thn (hst.run pins s3 σ H3 (fun o H4 => o = some (-1) ∧ H4 = H3) I3 ⟨1, rfl, -1, rfl, rfl, rfl⟩) fun vs s4 ⟨o, H4, I4, ps, eo, e4⟩ => ?_
  subst eo e4
  have I5 : Inv X pins σ H4 { s4 with heap := s4.heap.push { cls := .type "slice", data := .fields #[vl, vu, vs] } } := I4.kept (t' := s4.toks) fun b ob q => Heap.get?_push_of_some _ q
  obtain ⟨a, xs, ex, hx, hk, q⟩ := q1
  subst ex
  cases r1
  obtain ⟨its, r, ht, hz⟩ := I5.list hx
  have hlen := r.length
  show wpAny (model X.prog X.w) X.A (subscriptTail e (.Slice none (some (.Constant (.int (k : Int)) jk p0)) (some (.UnaryOp .USub (.Constant (.int 1) k1 p1) p2)) p3) (.ref a) (.ref s4.heap.objs.size)) (EP X pins σ Q) X.xe { s4 with heap := s4.heap.push { cls := .type "slice", data := .fields #[vl, vu, vs] } }
  refine tail_any (ops := [.ref a, .ref s4.heap.objs.size]) ht.isList.typeIs (PySem.slot_list_getitem.lookup) ?_ (by with_unfolding_all rfl)
  refine wpAny_getItem_list_slice ht.isList (Heap.IsSliceOf.new _ vl vu vs) pl pu ps (by decide) ?_ (by rw [List.size_toArray]; omega)
  rw [pick_revTo _ _ (by rw [List.size_toArray]; omega)]
  refine ⟨.ref _, _, I5.laid (t' := s4.toks) (o := .lst (xs.drop (k + 1)).reverse) (fun b ob q => Heap.get?_push_of_some _ q) (Nat.le_refl _) ?_, rfl, q _ (I5.hok.fresh (Nat.le_refl _))⟩
  exact ⟨by rw [List.length_reverse, List.length_drop]; omega, _, 0, (r.drop (k + 1)).reverse, Heap.get?_push_size _ rfl⟩
theorem de_revTo (k : Nat) [o : Ok X c] {jk k1 : Nat} {p0 p1 p2 p3 : Pos} (he : PE X e (tE c m)) : PE X (.Subscript e (.Slice none (some (.Constant (.int (k : Int)) jk p0)) (some (.UnaryOp .USub (.Constant (.int 1) k1 p1) p2)) p3) pos) (tE c (mRevTo m k)) := by
  refine pe_imp (pe_revTo he) ?_
  rintro σ H Q ⟨G, s, Q0, R, hm, hQ⟩
  refine ⟨G, s, _, R, hm, fun r s1 v H1 G1 q R1 S1 K1 O1 => ?_⟩
  have p := O1.peek R1
  split at q
  · rename_i ds e
    rw [e] at p
    obtain ⟨a, vs, e1, h1, h2, _⟩ := p
    exact ⟨a, vs, e1, SqL.of h1, by rw [h2.length]; exact q.1, fun x n => hQ _ _ _ _ _ q.2 (R1.newL n) S1 (K1.trans (Keep.upd n)) (R1.own_new n (h2.drop _).reverse)⟩
  · exact q.elim
end
end DL

/-! DLS13: the law's own def, what the top has written. -/
namespace DL
open PySem PySem.Spec PyProof.Rows L2
/-- a def of the module, as it stands -/
structure FnAt (K : PySem.W.Frag) (x : Str) (st : Stmt) : Prop where
  ex : ∃ (f : Addr) (fd : FuncData), PySem.W.nsIn K mainGlobals x = some (some (.ref f)) ∧ Fun K x x st f fd
theorem FnAt.mk' {K : PySem.W.Frag} {x : Str} {st : Stmt} {f : Addr} {oc kV doc pm cdv ct : Value} {od an : Option Addr} {osl : Array (Option Value)} (a : PySem.W.nsIn K mainGlobals x = some (some (.ref f)))
    (l : K.lookup f = some ⟨oc, od, .func (PySem.W.fnOf x x (defArgs st) (defBody st) (defScope st) .none kV doc pm an cdv ct), osl⟩) (c : PySem.W.codeIn K cdv x = true) (k : PySem.W.keepIn K (.ref f) = true) : FnAt K x st :=
  ⟨f, _, a, fun_mk l c k⟩
section
variable {P : Program} {w : World} {K : PySem.W.Frag} {mg : Str → Option Value} {base hp : Heap}
theorem FnAt.fk {x : Str} {st : Stmt} {ps : List Str} {sp : Sp} {k : Nat} (h : FnAt K x st) (X : K.In hp) (G : hp.Ns mainGlobals mg) (hb : ∀ f fd, Fun K x x st f fd → FnOk P w K mg base CX0 k f fd ps sp)
    (bind : ∀ (kV doc pm : Value) (an : Option Addr) (cdv ct : Value) (us : List Value), us.length = ps.length → bindArgs (PySem.W.fnOf x x (defArgs st) (defBody st) (defScope st) .none kV doc pm an cdv ct) ⟨us, []⟩ = pure (ps.zip us)) : FK P w K mg base x k sp := by
  obtain ⟨f, fd, a, F⟩ := h.ex
  exact ⟨f, fd, ps, hb f fd F, PySem.W.mg_of X G a, F.kp, F.binds bind⟩
/-! ### constants of the module -/
theorem KC.int {x : Str} {i : Int} {t : Tok} (X : K.In hp) (G : hp.Ns mainGlobals mg) (a : PySem.W.nsIn K mainGlobals x = some (some (.int i t))) : KC K mg x (.int i) := ⟨_, .int i, PySem.W.mg_of X G a, ⟨t, rfl⟩, fun _ => .int i⟩
theorem KC.str {x y : Str} {l : List Nat} {t : Tok} (X : K.In hp) (G : hp.Ns mainGlobals mg) (a : PySem.W.nsIn K mainGlobals x = some (some (.str y t))) (h : y.cps.toList = l) : KC K mg x (.str l) := by
  have e : y = sT l := by subst h; cases y; rfl
  subst e
  exact ⟨_, .str _, PySem.W.mg_of X G a, ⟨t, rfl⟩, fun _ => .str l⟩
/-- values of the module's own tuples -/
inductive DK : Value → V → D → Prop
  | int (i : Int) (t : Tok) : DK (.int i t) (.int i) (.int i)
  | str (l : List Nat) (t : Tok) : DK (.str (sT l) t) (.str (sT l)) (.str l)
inductive DKs : List Value → List V → List D → Prop
  | nil : DKs [] [] []
  | cons {u : Value} {v : V} {d : D} {us : List Value} {vs : List V} {ds : List D} : DK u v d → DKs us vs ds → DKs (u :: us) (v :: vs) (d :: ds)
theorem DKs.vals : ∀ {us : List Value} {vs : List V} {ds : List D}, DKs us vs ds → Vals vs us
  | _, _, _, .nil => .nil
  | _, _, _, .cons (.int i t) r => .cons ⟨t, rfl⟩ r.vals
  | _, _, _, .cons (.str i t) r => .cons ⟨t, rfl⟩ r.vals
theorem DKs.dgs : ∀ {us : List Value} {vs : List V} {ds : List D} {G : Hp}, DKs us vs ds → Dgs K G vs ds
  | _, _, _, _, .nil => .nil
  | _, _, _, _, .cons (.int i t) r => .cons (.int i) r.dgs
  | _, _, _, _, .cons (.str i t) r => .cons (.str i) r.dgs
theorem KC.tup {x : Str} {a : Addr} {dd : Option Addr} {its : Array Value} {n : Nat} {sl : Array (Option Value)} {vs : List V} {ds : List D} (X : K.In hp) (G : hp.Ns mainGlobals mg) (h1 : PySem.W.nsIn K mainGlobals x = some (some (.ref a)))
    (h2 : K.lookup a = some ⟨.type "tuple", dd, .seq its n, sl⟩) (h3 : DKs its.toList vs ds) (h4 : its.size ≤ 1000) : KC K mg x (.tup ds) :=
  ⟨_, .ref a, PySem.W.mg_of X G h1, rfl, fun G => .tup (.inr ⟨_, its, n, h2, rfl, rfl, Nat.le_of_lt (small1000 h4), h3.vals⟩) h3.dgs⟩
theorem blt_of (X : K.In hp) (G : hp.Ns mainGlobals mg) (b0 : PySem.W.nsIn K mainGlobals "len" = some none) (b1 : PySem.W.nsIn K mainGlobals "abs" = some none) (b2 : PySem.W.nsIn K mainGlobals "int" = some none) (b3 : PySem.W.nsIn K mainGlobals "min" = some none) (b4 : PySem.W.nsIn K mainGlobals "max" = some none) (b5 : PySem.W.nsIn K mainGlobals "list" = some none) (b6 : PySem.W.nsIn K mainGlobals "tuple" = some none) (b7 : PySem.W.nsIn K mainGlobals "sum" = some none) (b8 : PySem.W.nsIn K mainGlobals "all" = some none) (b9 : PySem.W.nsIn K mainGlobals "range" = some none) (b10 : PySem.W.nsIn K mainGlobals "enumerate" = some none) (b11 : PySem.W.nsIn K mainGlobals "reversed" = some none) (b12 : PySem.W.nsIn K mainGlobals "isinstance" = some none) (b13 : PySem.W.nsIn K mainGlobals "sorted" = some none) (b14 : PySem.W.nsIn K mainGlobals "zip" = some none) (b15 : PySem.W.nsIn K mainGlobals "str" = some none) (b16 : PySem.W.nsIn K mainGlobals "bool" = some none) : ∀ x ∈ bltNames, mg x = none := by
  intro x hx
  unfold bltNames at hx
  simp only [List.mem_cons, List.not_mem_nil, or_false] at hx
  rcases hx with rfl | rfl | rfl | rfl | rfl | rfl | rfl | rfl | rfl | rfl | rfl | rfl | rfl | rfl | rfl | rfl | rfl
  · exact PySem.W.mg_none_of X G b0
  · exact PySem.W.mg_none_of X G b1
  · exact PySem.W.mg_none_of X G b2
  · exact PySem.W.mg_none_of X G b3
  · exact PySem.W.mg_none_of X G b4
  · exact PySem.W.mg_none_of X G b5
  · exact PySem.W.mg_none_of X G b6
  · exact PySem.W.mg_none_of X G b7
  · exact PySem.W.mg_none_of X G b8
  · exact PySem.W.mg_none_of X G b9
  · exact PySem.W.mg_none_of X G b10
  · exact PySem.W.mg_none_of X G b11
  · exact PySem.W.mg_none_of X G b12
  · exact PySem.W.mg_none_of X G b13
  · exact PySem.W.mg_none_of X G b14
  · exact PySem.W.mg_none_of X G b15
  · exact PySem.W.mg_none_of X G b16
/-! ### _law_feed and law -/
/-- a new feed -/
def spFeed (K : PySem.W.Frag) : Sp := fun vs H Q _ => ∃ (a : Addr) (ns : List Int), vs = [.ref a] ∧ SqL K H a (ns.map V.int) ∧ ∀ p q, H p = none → H q = none → p ≠ q → Q (.ref q) (upd (upd H p (.lst (ns.map V.int))) q (.lst [.ref p, .int 0, .int 0, .int 1]))
theorem feed_fn {st : Stmt} {f : Addr} {fd : FuncData} {p1 p2 p3 p4 p5 p6 p7 p8 : Pos} {j1 j2 j3 : Nat} (F : Fun K "_law_feed" "_law_feed" st f fd) (Sc : FnScope ["script"] ["script"] (defScope st)) (ml : mg "list" = none)
    (hv : (defScope st).names.lookup ("script" : Str) = some NameKind.local) (hg : ∀ (qual : Str) (L f : Addr) (cd : Value), (envOfC qual (defScope st) L f cd).kindOf ("list" : Str) = some NameKind.globalImplicit)
    (hb : defBody st = [.Return (some (.List [.Call (.Name "list" p1) [.Name "script" p2] [] p3, .Constant (.int 0) j1 p4, .Constant (.int 0) j2 p5, .Constant (.int 1) j3 p6] p7)) p8]) : FnOk P w K mg base CX0 1 f fd ["script"] (spFeed K) := by
  refine F.ok Sc (fun vs H Q E h => ?_) (fun cdv A outer s H vs Q E hr h => ?_)
  · obtain ⟨a, ns, rfl, _⟩ := h
    rfl
  · obtain ⟨a, ns, rfl, hS, kq⟩ := h
    rw [hb]
    refine ⟨_, pss_one (ps_ret (pe_lst (pa_cons (pe_callTy call_list_of (hg _ _ _ _) ml (by decide +kernel) (pa_cons (pe_var (i := 0) rfl (Or.inl hv)) pa_nil)) (pa_cons pe_int (pa_cons pe_int (pa_cons pe_int pa_nil)))))), ?_⟩
    refine ⟨_, rfl, a, _, rfl, .inl hS, fun p np => ⟨by show 4 ≤ sizeLine; decide, fun q nq => ?_⟩⟩
    have hpq : p ≠ q := fun e => by rw [e, upd_same] at nq; cases nq
    rw [upd_ne hpq.symm] at nq
    exact kq p q np nq hpq
def spLaw (K : PySem.W.Frag) : Sp := fun vs H Q _ => ∃ (a : Addr) (ns : List Int), vs = [.ref a] ∧ SqL K H a (ns.map V.int) ∧ ns.length ≤ 63 ∧ ∀ H', Q (.bl true) H'
/-- the law answers True -/
theorem get_rep : ∀ (n i : Nat), get (List.replicate n Slot.gone) i = .gone
  | 0, _ => rfl
  | n + 1, 0 => rfl
  | n + 1, i + 1 => get_rep n i
theorem law_fn {st : Stmt} {f : Addr} {fd : FuncData} {N : List Str} {k : Nat} {rest : List Stmt} {body : MS} {p1 p2 p3 p4 p5 : Pos} (F : Fun K "law" "law" st f fd) (Sc : FnScope N ["script"] (defScope st)) (blt : ∀ x ∈ bltNames, mg x = none) (FF : FK P w K mg base "_law_feed" 1 (spFeed K)) (hk : 1 ≤ k)
    (hb : defBody st = .Assign [.Name "feed" p1] (.Call (.Name "_law_feed" p2) [.Name "script" p3] [] p4) p5 :: rest) (h0 : N[0]? = some ("script" : Str)) (h1 : N[1]? = some ("feed" : Str)) (hv : (defScope st).names.lookup ("script" : Str) = some NameKind.local)
    (hl : (defScope st).names.lookup ("feed" : Str) = some NameKind.local ∨ (defScope st).names.lookup ("feed" : Str) = some NameKind.cell) (hg : ∀ (qual : Str) (L f : Addr) (cd : Value), (envOfC qual (defScope st) L f cd).kindOf ("_law_feed" : Str) = some NameKind.globalImplicit)
    (hbody : ∀ (cdv : Value) (A : Around) (outer : List PySem.Env) (s : Shared) (H : Hp) (E : XK) (c : Ct), Room k (A.deeper (envOfC "law" (defScope st) s.heap.objs.size f cdv)) → Ok (bodyCx P w K mg base N "law" (defScope st) f cdv A outer s H E) c → PSs (bodyCx P w K mg base N "law" (defScope st) f cdv A outer s H E) rest (tS c body))
    (vc : ∀ ns : List Int, ns.length ≤ 63 → lawTrue N.length body ns) : FnOk P w K mg base CX0 (k + 1) f fd ["script"] (spLaw K) := by
  refine F.ok Sc (fun vs H Q E h => ?_) (fun cdv A outer s H vs Q E hr h => ?_)
  · obtain ⟨a, ns, rfl, _⟩ := h
    rfl
  · obtain ⟨a, ns, rfl, hS, hlen, kq⟩ := h
    obtain ⟨ff, fdf, ps, hF, hm, hkp, hbd⟩ := FF.ex
    rw [hb]
    have hN : 2 ≤ N.length := (List.getElem?_eq_some_iff.mp h1).1
    have key : ∀ c, c.K = K → c.mg = mg → c.xe = none → PSs (bodyCx P w K mg base N "law" (defScope st) f cdv A outer s H E) rest (tS c body) := fun c hc hM hX => hbody cdv A outer s H E c hr (ok_body hr Sc.nd blt hc hM hX)
    refine ⟨_, pss_cons (ps_set (i := 1) Sc.nd h1 hl (pe_call hF (hr.mono hk) (hg _ _ _ _) hm hkp hbd .nil pass0 (pa_cons (pe_var (i := 0) h0 (Or.inl hv)) pa_nil)) (hf := .inl rfl))
      (⟨fun pins s' σ' H' D I ⟨c, hc, hM, hX, q⟩ => (key c hc hM hX).run pins s' σ' H' D I q⟩ : PSs _ rest (fun D σ H => ∃ c : Ct, c.K = K ∧ c.mg = mg ∧ c.xe = none ∧ tS c body D σ H)), ?_⟩
    refine ⟨_, start_get rfl, a, ns, rfl, hS, fun p q np nq hpq => ?_⟩
    refine ⟨⟨K, fun b => if b = p then some (.lst (ns.map V.int)) else none, upd (upd H p (.lst (ns.map V.int))) q (.lst [.ref p, .int 0, .int 0, .int 1]), some q, fun _ => False, mg, none⟩, rfl, rfl, rfl, fun b => if b = p then some (.lst (ns.map V.int)) else none, _, _, ?_, vc ns hlen, ?_⟩
    · have hl2 : (L2.start N [V.ref a]).length = N.length := start_length (by simpa using (by omega : 1 ≤ N.length))
      have sl : ∀ i, get (Slot.gone :: Slot.feed :: List.replicate (N.length - 2) .gone) i = if i = 1 then .feed else .gone := fun i => match i with
        | 0 => rfl
        | 1 => rfl
        | i + 2 => by
          rw [if_neg (by omega)]
          exact get_rep _ i
      refine ⟨Same.refl _, fun b o e => ?_, fun b o e _ => e, fun b o e => .inl e, ?_, fun i => ?_, fun i j b hij o1 => ?_, fun b e => ?_, fun b e => e.elim⟩
      · by_cases hb : b = p
        · subst hb
          rw [if_pos rfl] at e
          cases e
          rw [upd_ne hpq, upd_same]
        · rw [if_neg hb] at e; cases e
      · rw [List.length_set, hl2]
        show (Slot.gone :: Slot.feed :: List.replicate (N.length - 2) Slot.gone).length = _
        simp only [List.length_cons, List.length_replicate]
        omega
      · show SlotOk _ _ _ ((L2.start N [V.ref a]).set 1 (some (V.ref q)))[i]? (get (Slot.gone :: Slot.feed :: List.replicate (N.length - 2) .gone) i)
        rw [sl]
        by_cases hi : i = 1
        · subst hi
          rw [if_pos rfl, List.getElem?_set_self (by rw [hl2]; omega)]
          exact ⟨q, rfl, rfl⟩
        · rw [if_neg hi]; trivial
      · have o1 : (get (Slot.gone :: Slot.feed :: List.replicate (N.length - 2) .gone) i).isOwn = true := o1
        rw [sl] at o1
        by_cases hi : i = 1
        · rw [if_pos hi] at o1; cases o1
        · rw [if_neg hi] at o1; cases o1
      · cases e
        refine ⟨by show (if q = p then _ else _) = _; rw [if_neg hpq.symm], p, upd_same, by show (if p = p then _ else _) = _; rw [if_pos rfl]⟩
    · exact ⟨fun s' σ' H' G' q R S => q.elim, fun s' σ' H' G' q R S => q.elim, fun s' σ' H' G' q R S => q.elim, fun r s' v σ' H' G' q R S h => by
        subst q
        cases (show Dg _ _ v (.bool true) from h)
        exact kq _⟩
end
end DL

/-! DLS14: enumerate and reversed. -/
namespace DL
open PySem PySem.Spec PyProof.Rows L2
section
variable {X : Cx} {c : Ct} {a b e : Expr} {es : List Expr} {m m1 m2 m3 : M} {ms : Ms} {t t1 t2 : T} {pos p : Pos} {σ : St} {H G : Hp} {s : S} {x : Str} {id ty : String}
/-! ### enumerate(text) -/
def Ites (x : Str) : It := ⟨fun i _ => i < x.cps.size, fun i H v H' => ∃ T ch, v = .ref T ∧ H T = none ∧ x.cps[i]? = some ch ∧ H' = upd H T (.tup [.int (i : Nat), .str ⟨#[ch]⟩]), fun i _ => x.cps.size ≤ i⟩
theorem turn_enumS {P : Program} {w : World} {K : PySem.W.Frag} {elts : List Expr} {kk : Nat} {tpos : Pos} (x : Str) (t : Tok) (e it : Addr) :
    Turn P w K (.Tuple elts kk tpos) (Ites x) [e, it] e (fun i h => (∃ old, IsEnum h e it ((i : Nat) : Int) old) ∧ h.IsStrIter it (strIterType x) x t i ∧ e ≠ it ∧ i ≤ x.cps.size) where
  mem := by simp
  obj := fun i h st b hb => by
    obtain ⟨⟨old, he⟩, ⟨o, ho, hc, hd⟩, _, _⟩ := st
    have e' : b = e ∨ b = it := by simpa using hb
    rcases e' with z | z
    · rw [z]; exact ⟨_, he, fun v q => nomatch q⟩
    · rw [z]; exact ⟨o, ho, fun v q => by rw [hd] at q; cases q⟩
  keep := fun i h h' st k => let ⟨⟨old, he⟩, ⟨o, ho, r⟩, hne, hle⟩ := st; ⟨⟨old, k e (by simp) _ he⟩, ⟨o, k it (by simp) o ho, r⟩, hne, hle⟩
  item := by
    intro X hP hw hK hc i pins s σ H E I hf st hg
    subst hP hw hK
    obtain ⟨⟨old, he⟩, hit, hne, hle⟩ := st
    have hel : e < s.heap.objs.size := Heap.lt_size he
    have hil : it < s.heap.objs.size := by obtain ⟨_, q, _⟩ := hit; exact Heap.lt_size q
    have DT := Draws.text (prog := X.prog) (w := X.w) (A := X.A.in1) (I.ok.hd hc) it x t
    refine wpAny_pyNext_enum_itemD DT he hit hg hne (by simpa using hne) fun v h' tk hv ho hit' hT hsz hk => ?_
    obtain ⟨ch, u, hcx, rfl⟩ := hv
    refine ⟨_, rfl, wpAny_letOwnedTupleGo_enum (s := { s with heap := h', toks := tk + 1 }) ho fun h'' he' sb => ?_⟩
    have hT2 : h''.get? s.heap.objs.size = some { cls := .type "tuple", data := .seq #[.int i tk, .str ⟨#[ch]⟩ u] } := (sb.2 _ (Nat.ne_of_gt hel)).trans hT
    have new : ObjOk X.prog X.w (upd H s.heap.objs.size (.tup [.int (i : Nat), .str ⟨#[ch]⟩])) h'' s.heap.objs.size (.tup [.int (i : Nat), .str ⟨#[ch]⟩]) :=
      ⟨by show 2 ≤ sizeLine; decide, [.int i tk, .str ⟨#[ch]⟩ u], .cons ⟨_, rfl⟩ (.cons ⟨_, rfl⟩ .nil), ⟨_, hT2, rfl, _, rfl⟩⟩
    have I1 : Inv X pins σ (upd H s.heap.objs.size (.tup [.int (i : Nat), .str ⟨#[ch]⟩])) { s with heap := h'', toks := tk + 1 } :=
      I.turnedNew (ch := [e, it]) (fun b ob hb q => (sb.2 b (fun z => hb (by simp [z]))).trans (hk b ob (fun z => hb (by simp [z])) (fun z => hb (by simp [z])) q)) hf (Nat.le_refl _) new
    refine ⟨.ref s.heap.objs.size, _, I1, rfl, ⟨_, ch, rfl, I.hok.fresh (Nat.le_refl _), hcx, rfl⟩, ⟨⟨.str ⟨#[ch]⟩ u, ?_⟩, ?_, hne, hg⟩, fun b hb => ?_⟩
    · have e1 : ((i + 1 : Nat) : Int) = (i : Int) + 1 := by omega
      rw [e1]; exact he'
    · obtain ⟨o, q, r⟩ := hit'
      exact ⟨o, (sb.2 it (Ne.symm hne)).trans q, r⟩
    · have hb' : b < s.heap.objs.size := by
        have e' : b = e ∨ b = it := by simpa using hb
        rcases e' with z | z
        · rw [z]; exact hel
        · rw [z]; exact hil
      rw [upd_ne (Nat.ne_of_lt hb')]
      exact (hf b hb).1
  done := by
    intro X hP hw hK hc i pins s σ H E I hf st hg
    subst hP hw hK
    obtain ⟨⟨old, he⟩, hit, hne, hle⟩ := st
    obtain ⟨f0, f1, f2, f3, f4, f5⟩ := hf it (by simp)
    have DT := Draws.text (prog := X.prog) (w := X.w) (A := X.A.in1) (I.ok.hd hc) it x t
    have hn : i = x.cps.size := Nat.le_antisymm hle hg
    exact wpAny_pyNext_enum_endD DT he (by rw [← hn]; exact hit) fun h' eb => ⟨rfl, I.turned (t' := s.toks) (fun b o hb q => eb b o hb q) f0 f1 f3 f4 f5⟩
  self := fun A i s Q E st h => let ⟨⟨_, he⟩, _⟩ := st; wpAny_pyIter_enum he h
/-- enumerate(x): x a list or a text -/
def iEnumA (K : PySem.W.Frag) (ta : TA) : TI := fun σ H R => ta σ H fun vs H1 => (∃ a xs, vs = [.ref a] ∧ SqL K H1 a xs ∧ R (Ite K a) H1) ∨ ∃ z, vs = [.str z] ∧ R (Ites z) H1
theorem pi_enumA {ta : TA} {tpos : Pos} {elts : List Expr} {kk : Nat} (hg : Gl X "enumerate") (hm : X.mg "enumerate" = none) (ha : PA X [e] ta) (hs : starEach [e] X.env = [(false, eval e X.env)] := by rfl) :
    PI X (.Tuple elts kk tpos) (.Call (.Name "enumerate" p) [e] [] pos) (iEnumA X.K ta) := by
  refine ⟨fun pins s σ H R I h => ?_⟩
  refine Call_ (ld_blt I hg hm boot_enumerate (PyProof.Rows.callWith_type1 (thn (ha.run pos pins s σ H _ I h) fun us s1 ⟨vs, H1, I1, r1, q1⟩ => ?_) hs rfl))
  rcases q1 with ⟨a, xs, ex, hq, q⟩ | ⟨z, ex, q⟩
  · subst ex
    cases r1 with
    | cons r rr =>
      cases rr
      cases r
      obtain ⟨its, rv, p', hz⟩ := I1.list hq
      refine call_enumerate_list p'.isList fun h' he hit hsz hk => wpAny_pyIter_enum he ?_
      have I2 : Inv X pins σ H1 { s1 with heap := h' } := I1.kept (t' := s1.toks) hk
      refine ⟨s1.heap.objs.size + 1, [s1.heap.objs.size + 1, s1.heap.objs.size], _, _, H1, rfl, I2, turn_enum a (s1.heap.objs.size + 1) s1.heap.objs.size, ⟨⟨.none, he⟩, hit, Nat.succ_ne_self _⟩, fun b hb => ?_, q⟩
      have e' : b = s1.heap.objs.size + 1 ∨ b = s1.heap.objs.size := by simpa using hb
      have hle : s1.heap.objs.size ≤ b := by
        rcases e' with z | z
        · rw [z]; exact Nat.le_add_right _ _
        · rw [z]; exact Nat.le_refl _
      exact I1.fpOk hle (I1.hok.fresh hle)
  · subst ex
    cases r1 with
    | cons r rr =>
      cases rr
      obtain ⟨t, rfl⟩ := r
      refine call_enumerate_str fun h' he hit hsz hk => wpAny_pyIter_enum he ?_
      have I2 : Inv X pins σ H1 { s1 with heap := h' } := I1.kept (t' := s1.toks) hk
      refine ⟨s1.heap.objs.size + 1, [s1.heap.objs.size + 1, s1.heap.objs.size], _, _, H1, rfl, I2, turn_enumS z t (s1.heap.objs.size + 1) s1.heap.objs.size, ⟨⟨.none, he⟩, hit, Nat.succ_ne_self _, Nat.zero_le _⟩, fun b hb => ?_, q⟩
      have e' : b = s1.heap.objs.size + 1 ∨ b = s1.heap.objs.size := by simpa using hb
      have hle : s1.heap.objs.size ≤ b := by
        rcases e' with z | z
        · rw [z]; exact Nat.le_add_right _ _
        · rw [z]; exact Nat.le_refl _
      exact I1.fpOk hle (I1.hok.fresh hle)
theorem walks_enum {K : PySem.W.Frag} (hK : K = c.K) {a : Addr} {vs : List V} {ds : List D} (h : G a = some (.lst vs)) (dg : Dgs c.K G vs ds) : Walks c G (Ite K a) (enumFrom 0 ds) where
  go := fun i H G1 hi s1 s2 => by
    have hl := dg.length
    rw [enum_len] at hi
    exact ⟨vs, vs[i]'(by omega), SqL.of (s2 _ _ (s1 _ _ h)), by simp⟩
  stop := fun H G1 s1 s2 => ⟨vs, SqL.of (s2 _ _ (s1 _ _ h)), by rw [dg.length, enum_len]; exact Nat.le_refl _⟩
  yld := fun c' σ i H G1 H' s v d hK' R s1 e y => by
    obtain ⟨T, x, rfl, nT, rfl, q⟩ := y
    obtain ⟨z, hz, rfl⟩ := enum_get 0 ds i d e
    obtain ⟨u, h1, h2⟩ := dg.get hz
    have q2 := q vs (SqL.of (R.gH _ _ (s1 _ _ h)))
    rw [h1] at q2
    cases q2
    obtain ⟨R', sm⟩ := R.newG (o := .tup [.int (i : Nat), x]) nT
    refine ⟨_, R', sm, Keep.upd nT, .tup (.inl (.inl upd_same)) (.cons ?_ (.cons (h2.mono (s1.trans sm)) .nil))⟩
    rw [Nat.zero_add]
    exact .int _
theorem walks_enumS (z : List Nat) : Walks c G (Ites (sT z)) (enumFrom 0 (z.map fun c => D.str [c])) where
  go := fun i H G1 hi s1 s2 => by
    rw [enum_len] at hi
    show i < z.toArray.size
    simpa using hi
  stop := fun H G1 s1 s2 => by
    rw [enum_len]
    show z.toArray.size ≤ _
    simp
  yld := fun c' σ i H G1 H' s v d hK' R s1 e y => by
    obtain ⟨T, ch, rfl, nT, hc, rfl⟩ := y
    obtain ⟨y, hy, rfl⟩ := enum_get 0 _ i d e
    have hc' : z[i]? = some ch := by simpa using hc
    rw [List.getElem?_map, hc'] at hy
    cases hy
    obtain ⟨R', sm⟩ := R.newG (o := .tup [.int (i : Nat), .str ⟨#[ch]⟩]) nT
    refine ⟨_, R', sm, Keep.upd nT, .tup (.inl (.inl upd_same)) (.cons ?_ (.cons (.str [ch]) .nil))⟩
    rw [Nat.zero_add]
    exact .int _
theorem ds_enum {tpos : Pos} {elts : List Expr} {kk : Nat} [o : Ok X c] (ha : PE X e (tE c m)) (hg : Gl X "enumerate" := by rfl) (hs : starEach [e] X.env = [(false, eval e X.env)] := by rfl) (he : starEach [e] X.env = (false, eval e X.env) :: starEach [] X.env := by rfl) :
    PI X (.Tuple elts kk tpos) (.Call (.Name "enumerate" p) [e] [] pos) (tI c (srcEnum m)) := by
  refine pi_imp (pi_enumA hg (o.blt _ (by decide +kernel)) (pa_cons ha pa_nil he) hs) ?_
  rintro σ H Q ⟨G, s, Q0, R, hm, hQ⟩
  refine ⟨G, s, _, R, hm, fun r s1 v H1 G1 q R1 S1 K1 O1 => ?_⟩
  split at q
  · cases (show Dg c.K G1 v (.list _) from O1) with
    | lst h1 h2 => exact .inl ⟨_, _, rfl, SqL.of (R1.gH _ _ h1), hQ _ _ _ _ _ q R1 S1 K1 (walks_enum o.K h1 h2)⟩
  · cases (show Dg c.K G1 v (.str _) from O1) with
    | str _ => exact .inr ⟨_, rfl, hQ _ _ _ _ _ q R1 S1 K1 (walks_enumS _)⟩
  · obtain ⟨a, vs, e, h1, h2, h3, h4, h5, h7, h6⟩ := (show ResOk c σ H1 G1 s1 v (.own _) from O1)
    obtain ⟨R2, sm⟩ := R1.freeze h1 h3 h4 h5 h7 h6
    subst e
    exact .inl ⟨a, _, rfl, SqL.of h1, hQ _ _ _ _ _ q R2 (S1.trans sm) K1 (walks_enum o.K upd_same (h2.mono sm))⟩
  · exact q.elim
/-! ### reversed(list) -/
theorem walks_rev {K : PySem.W.Frag} (hK : K = c.K) {a : Addr} {vs : List V} {ds : List D} (h : G a = some (.lst vs)) (dg : Dgs c.K G vs ds) : Walks c G (Itv K a vs.length) ds.reverse where
  go := fun i H G1 hi s1 s2 => by
    have hl := dg.length
    rw [List.length_reverse] at hi
    exact ⟨by omega, vs, vs[vs.length - 1 - i]'(by omega), SqL.of (s2 _ _ (s1 _ _ h)), by simp⟩
  stop := fun H G1 s1 s2 => by
    show vs.length ≤ _
    rw [List.length_reverse, dg.length]
    exact Nat.le_refl _
  yld := fun c' σ i H G1 H' s v d hK' R s1 e y => by
    obtain ⟨rfl, q⟩ := y
    have hl := dg.length
    have hi : i < ds.length := by
      have := (List.getElem?_eq_some_iff.mp e).1
      rwa [List.length_reverse] at this
    rw [List.getElem?_reverse hi, ← hl] at e
    obtain ⟨u, h1, h2⟩ := dg.get e
    have q2 := q vs (SqL.of (R.gH _ _ (s1 _ _ h)))
    rw [h1] at q2
    cases q2
    exact ⟨G1, R, Same.refl _, Keep.refl, h2.mono s1⟩
theorem ds_rev {tg : Expr} [o : Ok X c] (ha : PE X e (tE c m)) (hg : Gl X "reversed" := by rfl) (hs : starEach [e] X.env = [(false, eval e X.env)] := by rfl) (he : starEach [e] X.env = (false, eval e X.env) :: starEach [] X.env := by rfl) :
    PI X tg (.Call (.Name "reversed" p) [e] [] pos) (tI c (srcRev m)) := by
  refine pi_imp (pi_reversed hg (o.blt _ (by decide +kernel)) (pa_cons ha pa_nil he) hs) ?_
  rintro σ H Q ⟨G, s, Q0, R, hm, hQ⟩
  refine ⟨G, s, _, R, hm, fun r s1 v H1 G1 q R1 S1 K1 O1 => ?_⟩
  split at q
  · cases (show Dg c.K G1 v (.list _) from O1) with
    | lst h1 h2 => exact ⟨_, _, rfl, SqL.of (R1.gH _ _ h1), hQ _ _ _ _ _ q R1 S1 K1 (walks_rev o.K h1 h2)⟩
  · obtain ⟨a, vs, e, h1, h2, h3, h4, h5, h7, h6⟩ := (show ResOk c σ H1 G1 s1 v (.own _) from O1)
    obtain ⟨R2, sm⟩ := R1.freeze h1 h3 h4 h5 h7 h6
    subst e
    exact ⟨a, _, rfl, SqL.of h1, hQ _ _ _ _ _ q R2 (S1.trans sm) K1 (walks_rev o.K upd_same (h2.mono sm))⟩
  · exact q.elim
end
end DL

/-! DLS15: min and max of data of one make. -/
namespace DL
open PySem PySem.Spec PyProof.Rows L2
mutual
theorem like_toP : ∀ d e : D, likeD d e = true → PySem.W.alike (toP d) (toP e) = true
  | .int _, e, h => by cases e <;> simp_all [likeD, toP, PySem.W.alike]
  | .str _, e, h => by cases e <;> simp_all [likeD, toP, PySem.W.alike]
  | .none, e, h => by cases e <;> simp_all [likeD]
  | .bool _, e, h => by cases e <;> simp_all [likeD]
  | .list xs, e, h => by
    cases e with
    | list ys =>
      simp only [likeD] at h
      simp only [toP, PySem.W.alike]
      exact likes_toP xs ys h
    | _ => simp [likeD] at h
  | .tup xs, e, h => by
    cases e with
    | tup ys =>
      simp only [likeD] at h
      simp only [toP, PySem.W.alike]
      exact likes_toP xs ys h
    | _ => simp [likeD] at h
theorem likes_toP : ∀ d e : List D, likeDs d e = true → PySem.W.alikeAll (toPs d) (toPs e) = true
  | [], e, _ => by simp [toPs, PySem.W.alikeAll]
  | _ :: _, [], _ => by simp [toPs, PySem.W.alikeAll]
  | x :: xs, y :: ys, h => by
    simp only [likeDs, Bool.and_eq_true] at h
    simp only [toPs, PySem.W.alikeAll, Bool.and_eq_true]
    exact ⟨like_toP x y h.1, likes_toP xs ys h.2⟩
end
mutual
theorem lt_toP : ∀ d e : D, likeD d e = true → PySem.W.dataLt (toP d) (toP e) = ltD d e
  | .int a, e, h => by
    cases e with
    | int b => simp only [toP, ltD]; exact PySem.W.dataLt_int a b
    | _ => simp [likeD] at h
  | .str a, e, h => by
    cases e with
    | str b => simp only [toP, ltD]; exact PySem.W.dataLt_str (sT a) (sT b)
    | _ => simp [likeD] at h
  | .none, e, h => by simp [likeD] at h
  | .bool _, e, h => by simp [likeD] at h
  | .list xs, e, h => by
    cases e with
    | list ys =>
      simp only [likeD] at h
      simp only [toP, ltD]
      rw [PySem.W.dataLt_list]
      exact lts_toP xs ys h
    | _ => simp [likeD] at h
  | .tup xs, e, h => by
    cases e with
    | tup ys =>
      simp only [likeD] at h
      simp only [toP, ltD]
      rw [PySem.W.dataLt_tuple]
      exact lts_toP xs ys h
    | _ => simp [likeD] at h
theorem lts_toP : ∀ d e : List D, likeDs d e = true → PyProof.Rows.lexLt itemOrd (PySem.W.keyToksAll (toPs d)) (PySem.W.keyToksAll (toPs e)) = ltDs d e
  | [], [], _ => by simp only [toPs, ltDs]; exact lex_irrefl _
  | x :: xs, [], _ => by
    simp only [toPs, ltDs, PySem.W.keyToksAll]
    rfl
  | [], y :: ys, _ => by
    simp only [toPs, ltDs, PySem.W.keyToksAll]
    rfl
  | x :: xs, y :: ys, h => by
    simp only [likeDs, Bool.and_eq_true] at h
    simp only [toPs, ltDs]
    have ha := like_toP x y h.1
    cases e : eqD x y with
    | true =>
      rw [PySem.W.dataLt_all_yes ha (by rw [eqv_toP]; exact e), lts_toP xs ys h.2]
      rfl
    | false =>
      rw [PySem.W.dataLt_all_no ha (by rw [eqv_toP]; exact e), lt_toP x y h.1]
      rfl
end
section
open PySem.W
theorem min_fold : ∀ (xs : List PyData) (x : PyData), xs.foldl (fun a y => if dataLt y a then y else a) x ∈ x :: xs ∧ ∀ y, y ∈ x :: xs → dataLt y (xs.foldl (fun a y => if dataLt y a then y else a) x) = false
  | [], x => ⟨List.mem_cons_self, fun y hy => by
    rw [List.mem_singleton.mp hy]
    exact dataLt_self x⟩
  | z :: r, x => by
    rw [List.foldl_cons]
    obtain ⟨h1, h2⟩ := min_fold r (if dataLt z x then z else x)
    generalize hm : r.foldl (fun a y => if dataLt y a then y else a) (if dataLt z x then z else x) = m at h1 h2
    refine ⟨?_, fun y hy => ?_⟩
    · rcases List.mem_cons.mp h1 with e | e
      · rw [e]
        split
        · exact List.mem_cons_of_mem _ List.mem_cons_self
        · exact List.mem_cons_self
      · exact List.mem_cons_of_mem _ (List.mem_cons_of_mem _ e)
    · have h3 := h2 _ List.mem_cons_self
      have hxz : dataLt x m = false ∧ dataLt z m = false := by
        by_cases c : dataLt z x = true
        · rw [if_pos c] at h3
          refine ⟨?_, h3⟩
          cases q : dataLt x m with
          | false => rfl
          | true => rw [show dataLt z m = true from lex_trans _ _ _ c q] at h3; cases h3
        · rw [if_neg c] at h3
          refine ⟨h3, ?_⟩
          cases q : dataLt z m with
          | false => rfl
          | true =>
            rcases lex_negTrans _ (keyToks x) _ q with k | k
            · exact absurd k c
            · rw [show dataLt x m = true from k] at h3; cases h3
      rcases List.mem_cons.mp hy with e | e
      · rw [e]; exact hxz.1
      · rcases List.mem_cons.mp e with e | e
        · rw [e]; exact hxz.2
        · exact h2 _ (List.mem_cons_of_mem _ e)
end
section
variable {X : Cx} {c : Ct} {a b e : Expr} {m : M} {pos p : Pos} {σ : St} {H G : Hp}
open PySem.W
/-- min(xs) of data of one make -/
def rMinD (K : PySem.W.Frag) : List V → Hp → VK → Prop := fun vs H Q => ∃ (a : Addr) (xs : List V) (ds : List PyData), vs = [V.ref a] ∧ SqL K H a xs ∧ DpAll K H xs ds ∧ AlikeAll ds ∧ PyData.depthAll ds ≤ 60 ∧ 0 < ds.length ∧
  ∀ (i : Nat) (x : V) (d : PyData), xs[i]? = some x → ds[i]? = some d → (∀ y, y ∈ ds → dataLt y d = false) → Q x H
theorem cr_minD (hc : X.calm = true) (hu : X.A.units + 65 < cLine) : CallR X (.builtin "min") (rMinD X.K) := by
  intro pins s σ H vs us Q I r h
  obtain ⟨a, xs, ds, rfl, hs, hd, ha, hdep, hne, q⟩ := h
  obtain ⟨its, rv, hl, _⟩ := I.list hs
  rw [Vals.ref1 r]
  obtain ⟨as, hr⟩ := Dp.readsAll I ds xs its hd rv
  cases ds with
  | nil => cases hne
  | cons d0 r0 =>
    refine min_list_data (I.ok.hd hc) hl.isList (by simpa using hr) ha (by omega) fun i v h' tk bs hv hrd hk => ?_
    obtain ⟨hm1, hm2⟩ := min_fold r0 d0
    obtain ⟨bs', hr1, hi, hmem, _⟩ := readsAll_atA (vs := its.toArray) (by simpa using hr) i v hv
    have hx : i < xs.length := by
      have := (Array.getElem?_eq_some_iff.mp hv).1
      rw [rv.length]
      simpa using this
    obtain ⟨u, hu1, ru⟩ := rv.get (List.getElem?_eq_getElem hx)
    have hvu : u = v := by
      have : its[i]? = some v := by simpa using hv
      rw [hu1] at this
      exact Option.some.inj this
    subst hvu
    have hdi : (d0 :: r0)[i]? = some ((d0 :: r0).getD i .none) := by
      rw [List.getD_eq_getElem?_getD, List.getElem?_eq_getElem hi]
      rfl
    have he := alike_unique _ _ _ _ _ (ha.1 _ hmem _ hm1) (reads_keeps hk hr1) hrd
    refine ⟨_, H, I.kept hk, ru, q i _ _ (List.getElem?_eq_getElem hx) hdi fun y hy => ?_⟩
    rw [he]
    exact hm2 y hy
theorem max_fold : ∀ (xs : List PyData) (x : PyData), xs.foldl (fun a y => if dataLt a y then y else a) x ∈ x :: xs ∧ ∀ y, y ∈ x :: xs → dataLt (xs.foldl (fun a y => if dataLt a y then y else a) x) y = false
  | [], x => ⟨List.mem_cons_self, fun y hy => by
    rw [List.mem_singleton.mp hy]
    exact dataLt_self x⟩
  | z :: r, x => by
    rw [List.foldl_cons]
    obtain ⟨h1, h2⟩ := max_fold r (if dataLt x z then z else x)
    generalize hm : r.foldl (fun a y => if dataLt a y then y else a) (if dataLt x z then z else x) = m at h1 h2
    refine ⟨?_, fun y hy => ?_⟩
    · rcases List.mem_cons.mp h1 with e | e
      · rw [e]
        split
        · exact List.mem_cons_of_mem _ List.mem_cons_self
        · exact List.mem_cons_self
      · exact List.mem_cons_of_mem _ (List.mem_cons_of_mem _ e)
    · have h3 := h2 _ List.mem_cons_self
      have hxz : dataLt m x = false ∧ dataLt m z = false := by
        by_cases c : dataLt x z = true
        · rw [if_pos c] at h3
          refine ⟨?_, h3⟩
          cases q : dataLt m x with
          | false => rfl
          | true => rw [show dataLt m z = true from lex_trans _ _ _ q c] at h3; cases h3
        · rw [if_neg c] at h3
          refine ⟨h3, ?_⟩
          cases q : dataLt m z with
          | false => rfl
          | true =>
            rcases lex_negTrans _ (keyToks x) _ q with k | k
            · rw [show dataLt m x = true from k] at h3; cases h3
            · exact absurd k c
      rcases List.mem_cons.mp hy with e | e
      · rw [e]; exact hxz.1
      · rcases List.mem_cons.mp e with e | e
        · rw [e]; exact hxz.2
        · exact h2 _ (List.mem_cons_of_mem _ e)
/-- max(xs) of data of one make -/
def rMaxD (K : PySem.W.Frag) : List V → Hp → VK → Prop := fun vs H Q => ∃ (a : Addr) (xs : List V) (ds : List PyData), vs = [V.ref a] ∧ SqL K H a xs ∧ DpAll K H xs ds ∧ AlikeAll ds ∧ PyData.depthAll ds ≤ 60 ∧ 0 < ds.length ∧
  ∀ (i : Nat) (x : V) (d : PyData), xs[i]? = some x → ds[i]? = some d → (∀ y, y ∈ ds → dataLt d y = false) → Q x H
theorem cr_maxD (hc : X.calm = true) (hu : X.A.units + 65 < cLine) : CallR X (.builtin "max") (rMaxD X.K) := by
  intro pins s σ H vs us Q I r h
  obtain ⟨a, xs, ds, rfl, hs, hd, ha, hdep, hne, q⟩ := h
  obtain ⟨its, rv, hl, _⟩ := I.list hs
  rw [Vals.ref1 r]
  obtain ⟨as, hr⟩ := Dp.readsAll I ds xs its hd rv
  cases ds with
  | nil => cases hne
  | cons d0 r0 =>
    refine max_list_data (I.ok.hd hc) hl.isList (by simpa using hr) ha (by omega) fun i v h' tk bs hv hrd hk => ?_
    obtain ⟨hm1, hm2⟩ := max_fold r0 d0
    obtain ⟨bs', hr1, hi, hmem, _⟩ := readsAll_atA (vs := its.toArray) (by simpa using hr) i v hv
    have hx : i < xs.length := by
      have := (Array.getElem?_eq_some_iff.mp hv).1
      rw [rv.length]
      simpa using this
    obtain ⟨u, hu1, ru⟩ := rv.get (List.getElem?_eq_getElem hx)
    have hvu : u = v := by
      have : its[i]? = some v := by simpa using hv
      rw [hu1] at this
      exact Option.some.inj this
    subst hvu
    have hdi : (d0 :: r0)[i]? = some ((d0 :: r0).getD i .none) := by
      rw [List.getD_eq_getElem?_getD, List.getElem?_eq_getElem hi]
      rfl
    have he := alike_unique _ _ _ _ _ (ha.1 _ hmem _ hm1) (reads_keeps hk hr1) hrd
    refine ⟨_, H, I.kept hk, ru, q i _ _ (List.getElem?_eq_getElem hx) hdi fun y hy => ?_⟩
    rw [he]
    exact hm2 y hy
theorem like_all {ds : List D} (h : ∀ x, x ∈ ds → ∀ y, y ∈ ds → likeD x y = true) : AlikeAll (toPs ds) := by
  rw [toPs_map]
  refine ⟨fun x hx y hy => ?_, fun x hx => ?_⟩
  · obtain ⟨a, ha, rfl⟩ := List.mem_map.mp hx
    obtain ⟨b, hb, rfl⟩ := List.mem_map.mp hy
    exact like_toP _ _ (h a ha b hb)
  · obtain ⟨a, ha, rfl⟩ := List.mem_map.mp hx
    have := h a ha a ha
    cases a <;> simp_all [likeD, toP]
theorem de_minG [o : Ok X c] [cm : Calm X] (ha : PE X a (tE c m)) (hg : Gl X "min" := by rfl) (he : starEach [a] X.env = (false, eval a X.env) :: starEach [] X.env := by rfl) : PE X (.Call (.Name "min" p) [a] [] pos) (tE c (mUn dMinG m)) :=
  de_b1 (cr_minD cm.calm (by have := o.hu; omega)) (by
    intro σ H G s x v Qr Q R hx h F
    unfold dMinG at h
    split at h
    · rename_i ds
      obtain ⟨hlk, hok, hl, q⟩ := h
      obtain ⟨a, vs, e, h1, h2⟩ := hx.list
      have hdp := (okDs_lay 8 ds hok).2
      refine ⟨a, vs, toPs ds, by rw [e], SqL.of h1, o.K ▸ (h2.mono R.gH).dp, like_all hlk, by omega, by rw [toPs_map, List.length_map]; exact hl, fun i x d hxi hdi hmin => ?_⟩
      rw [toPs_map, List.getElem?_map] at hdi
      cases hd : ds[i]? with
      | none => rw [hd] at hdi; cases hdi
      | some d0 =>
        rw [hd] at hdi
        cases hdi
        have hm0 := List.mem_of_getElem? hd
        obtain ⟨u, hu1, hu2⟩ := h2.get hd
        rw [hxi] at hu1
        cases hu1
        refine F.val R (q d0 hm0 fun y hy => ?_) hu2
        have := hmin (toP y) (by rw [toPs_map]; exact List.mem_map_of_mem hy)
        rwa [lt_toP _ _ (hlk _ hy _ hm0)] at this
    · exact h.elim) (by decide +kernel) (by decide +kernel) (by decide +kernel) (by decide +kernel) ha hg he
theorem de_maxG [o : Ok X c] [cm : Calm X] (ha : PE X a (tE c m)) (hg : Gl X "max" := by rfl) (he : starEach [a] X.env = (false, eval a X.env) :: starEach [] X.env := by rfl) : PE X (.Call (.Name "max" p) [a] [] pos) (tE c (mUn dMaxG m)) :=
  de_b1 (cr_maxD cm.calm (by have := o.hu; omega)) (by
    intro σ H G s x v Qr Q R hx h F
    unfold dMaxG at h
    split at h
    · rename_i ds
      obtain ⟨hlk, hok, hl, q⟩ := h
      obtain ⟨a, vs, e, h1, h2⟩ := hx.list
      have hdp := (okDs_lay 8 ds hok).2
      refine ⟨a, vs, toPs ds, by rw [e], SqL.of h1, o.K ▸ (h2.mono R.gH).dp, like_all hlk, by omega, by rw [toPs_map, List.length_map]; exact hl, fun i x d hxi hdi hmin => ?_⟩
      rw [toPs_map, List.getElem?_map] at hdi
      cases hd : ds[i]? with
      | none => rw [hd] at hdi; cases hdi
      | some d0 =>
        rw [hd] at hdi
        cases hdi
        have hm0 := List.mem_of_getElem? hd
        obtain ⟨u, hu1, hu2⟩ := h2.get hd
        rw [hxi] at hu1
        cases hu1
        refine F.val R (q d0 hm0 fun y hy => ?_) hu2
        have := hmin (toP y) (by rw [toPs_map]; exact List.mem_map_of_mem hy)
        rwa [lt_toP _ _ (hlk _ hm0 _ hy)] at this
    · exact h.elim) (by decide +kernel) (by decide +kernel) (by decide +kernel) (by decide +kernel) ha hg he
end
end DL

/-! DLS16: s.index(c, i). -/
namespace DL
open PySem PySem.Spec PyProof.Rows L2
theorem split_from {lo n a : Nat} {pre post : List Nat} (h : List.range' lo n = pre ++ a :: post) : lo ≤ a ∧ ∀ k, lo ≤ k → k < a → k ∈ pre := by
  have hL : n = pre.length + (post.length + 1) := by
    have := congrArg List.length h
    simpa using this
  have hlen : lo + pre.length = a := by
    have h1 : (List.range' lo n)[pre.length]? = some a := by rw [h]; simp
    rw [List.getElem?_range' (by omega)] at h1
    simpa using h1
  refine ⟨by omega, fun k hk1 hk => ?_⟩
  have h2 : (List.range' lo n)[k - lo]? = pre[k - lo]? := by rw [h, List.getElem?_append_left (by omega)]
  rw [List.getElem?_range' (by omega)] at h2
  have h3 : pre[k - lo]? = some k := by rw [← h2]; simp; omega
  exact List.mem_of_getElem? h3
theorem occ_from (x y : Str) (lo : Nat) : (Builtin.Str.occurrences x y lo x.length 1 = [] ∧ ∀ i, lo ≤ i → ¬ PySem.StrLaws.At x y x.length i) ∨
    ∃ i r, Builtin.Str.occurrences x y lo x.length 1 = i :: r ∧ lo ≤ i ∧ PySem.StrLaws.At x y x.length i ∧ ∀ k, lo ≤ k → k < i → ¬ PySem.StrLaws.At x y x.length k := by
  rw [PySem.StrLaws.occ_eq]
  rcases PySem.StrLaws.occ_first x y x.length 1 (Nat.le_refl 1) (List.range' lo (x.length + 1 - lo)) lo (fun i hi => by simp [List.mem_range'] at hi; omega) with ⟨h0, hn⟩ | ⟨pre, a, post, e, h0, ha, hn⟩
  · refine .inl ⟨by rw [h0], fun i hlo hi => ?_⟩
    exact hn i (by have := hi.1; rw [List.mem_range'_1]; omega) hi
  · obtain ⟨s1, s2⟩ := split_from e
    refine .inr ⟨a, ((forIn (List.range' lo (x.length + 1 - lo)) ((#[] : Array Nat), lo) (PySem.StrLaws.occBody x y x.length 1)).run.fst.toList).tail, ?_, s1, ha, fun k hk1 hk => hn k (s2 k hk1 hk)⟩
    generalize (forIn (List.range' lo (x.length + 1 - lo)) ((#[] : Array Nat), lo) (PySem.StrLaws.occBody x y x.length 1)).run.fst = arr at h0
    have h1 : arr.toList[0]? = some a := by simpa using h0
    cases hL : arr.toList with
    | nil => rw [hL] at h1; cases h1
    | cons b t => rw [hL] at h1; simp at h1; rw [h1]; rfl
section
variable {X : Cx} {c : Ct} {a b e : Expr} {m m1 m2 m3 : M} {pos p : Pos} {σ : St} {H G : Hp}
theorem mt_sindex2 : MtR X "str.index" (fun x xs H Q => ∃ (a b : Str) (i : Int) (k : Nat) (rest : List Nat), x = .str a ∧ xs = [.str b, .int i] ∧ Builtin.Str.occurrences a b (PySem.fromIndex a.length i) a.length 1 = k :: rest ∧ Q (.int (k : Nat)) H) := by
  intro pins s σ H x xs v us Q I rx rs h
  obtain ⟨a, b, i, k, rest, rfl, rfl, ho, q⟩ := h
  obtain ⟨t, rfl⟩ := rx
  cases rs with
  | cons r1 rs =>
    cases rs with
    | cons r2 rs =>
      cases rs
      obtain ⟨u, rfl⟩ := r1
      obtain ⟨z, rfl⟩ := r2
      exact call_gives PySem.F.slot_str_index (typeIs_str _ _ _) PySem.F.entry_str_index (PySem.F.args_str_index_3 _ _ _) (gives_str_index_from a b i t u z k rest ho) ⟨.int (k : Nat), H, I.tok _, ⟨_, rfl⟩, q⟩
theorem de_indexFrom [o : Ok X c] {apos : Pos} (ha : PE X a (tE c m1)) (hb : PE X b (tE c m2)) (h3 : PE X e (tE c m3)) (hs : starEach [b, e] X.env = (false, eval b X.env) :: starEach [e] X.env := by rfl) (hs2 : starEach [e] X.env = (false, eval e X.env) :: starEach [] X.env := by rfl) (hbase : attributeBase a "index" X.env (eval a X.env) = eval a X.env := by rfl) (hline : (apos.endLine == pos.line) = true := by rfl)
    (hfew : ((backTo pos (starEach (b :: [e]) X.env)).all (fun x => !x.1) && (backToKw pos (keywordEach [] X.env)).all (fun x => x.1.isSome)
      && decide ((b :: [e]).length + ([] : List Keyword).length + (if ([] : List Keyword).isEmpty then 0 else 1) < 30)) = true := by rfl) (hpl : (backTo pos (starEach [e] X.env)).any (·.1) = false := by rfl) :
    PE X (.Call (.Attribute a "index" apos) [b, e] [] pos) (tE c (mMS2 dIndexFrom m1 m2 m3)) := by
  refine pe_imp (pe_bm (T := "str") PySem.F.plainAttrs_str PySem.F.slot_str_index PySem.F.type_str_index mt_sindex2 ha (pa_cons hb (pa_cons h3 pa_nil hs2) hs) hbase hfew hline hs hpl) ?_
  rintro σ H Q ⟨G, s, Q0, R, hm, hQ⟩
  refine ⟨G, s, _, R, hm, fun r1 s1 v1 H1 G1 q1 R1 S1 K1 O1 => ?_⟩
  obtain ⟨⟨l, el⟩, q1⟩ := isS_of q1
  have p1 := O1.peek R1
  have p1' := p1
  rw [el] at p1'
  refine ⟨by rw [p1'.str]; rfl, G1, s1, _, R1, q1, fun r2 s2 v2 H2 G2 q2 R2 S2 K2 O2 => ⟨G2, s2, _, R2, q2, fun r3 s3 v3 H3 G3 q3 R3 S3 K3 O3 => ?_⟩⟩
  have p2 := (O2.peek R2).keep S3 K3
  have p3 := O3.peek R3
  have p1k := (p1.keep S2 K2).keep S3 K3
  unfold dIndexFrom at q3
  split at q3
  · rename_i sl ch i e1 e2 e3
    obtain ⟨h0, j, hj1, hj2, hj3, q⟩ := q3
    rw [e1] at p1k
    rw [e2] at p2
    rw [e3] at p3
    have hf : PySem.fromIndex (sT sl).length i = i.toNat := by
      unfold PySem.fromIndex
      rw [if_neg (by omega)]
      omega
    rcases occ_from (sT sl) (sT [ch]) i.toNat with ⟨_, hn⟩ | ⟨k, rest, eo, hk1, hk2, hk3⟩
    · exact absurd (at_one.mpr hj2) (hn j (by omega))
    · have hkj : k = j := by
        rcases Nat.lt_trichotomy k j with z | z | z
        · exact absurd (at_one.mp hk2) (hj3 k (by omega) z)
        · exact z
        · exact absurd (at_one.mpr hj2) (hk3 j (by omega) z)
      subst hkj
      refine ⟨sT sl, sT [ch], i, k, rest, p1k.str, by rw [p2.str, p3.int], by rw [hf]; exact eo, hQ _ s3 _ _ _ q R3 ((S1.trans S2).trans S3) ((K1.trans K2).trans K3) ?_⟩
      exact .int _
  · exact q3.elim
end
end DL

/-! DLS17: calls that only look at their arguments. -/
namespace DL
open PySem PySem.Spec PyProof.Rows L2
theorem flat_dg {K : PySem.W.Frag} {G G' : Hp} {v : V} {d : D} (h : Dg K G v d) (f : flatD d = true) : Dg K G' v d := by
  cases h with
  | non => exact .non
  | bl b => exact .bl b
  | int i => exact .int i
  | str l => exact .str l
  | lst h r => cases f
  | tup h r => cases f
/-- what has been looked at: a name's value; a value for good -/
inductive EvOk (c : Ct) (σ : St) (G : Hp) (s : S) : List Ar → List V → List D → Prop
  | nil : EvOk c σ G s [] [] []
  | nm {i : Nat} {v : V} {d : D} {r : List Ar} {vs : List V} {ds : List D} : σ[i]? = some (some v) → peekA s.v i = some d → EvOk c σ G s r vs ds → EvOk c σ G s (.nm i :: r) (v :: vs) (d :: ds)
  | ex {m : M} {v : V} {d : D} {r : List Ar} {vs : List V} {ds : List D} : Dg c.K G v d → EvOk c σ G s r vs ds → EvOk c σ G s (.ex m :: r) (v :: vs) (d :: ds)
section
variable {X : Cx} {c : Ct} {e : Expr} {es : List Expr} {σ : St} {H G : Hp} {s : S} {p pos : Pos} {m : M}
theorem peek_put {v : List Slot} {i : Nat} {ds : List D} (h : get v i = .own ds) (j : Nat) : peekA (put v i (.val (.list ds))) j = peekA v j := by
  have hi : i < v.length := get_lt (by rw [h]; intro z; cases z)
  unfold peekA
  rw [get_put _ _ _ _ hi]
  by_cases e : j = i
  · subst e
    rw [if_pos rfl, h]
  · rw [if_neg e]
theorem EvOk.mono {as : List Ar} {vs : List V} {ds : List D} {G' : Hp} (sm : Same G G') (h : EvOk c σ G s as vs ds) : EvOk c σ G' s as vs ds := by
  induction h with
  | nil => exact .nil
  | nm h1 h2 _ ih => exact .nm h1 h2 ih
  | ex h1 _ ih => exact .ex (h1.mono sm) ih
theorem EvOk.put {as : List Ar} {vs : List V} {ds : List D} {i : Nat} {es : List D} (e : get s.v i = .own es) (h : EvOk c σ G s as vs ds) : EvOk c σ G { s with v := DL.put s.v i (.val (.list es)) } as vs ds := by
  induction h with
  | nil => exact .nil
  | nm h1 h2 _ ih => exact .nm h1 ((peek_put e _).trans h2) ih
  | ex h1 _ ih => exact .ex h1 ih
/-- all that was looked at is made good -/
theorem EvOk.frz {as : List Ar} {vs : List V} {ds : List D} (R : Rel c σ H G s) (h : EvOk c σ G s as vs ds) : ∃ G1 s1, Rel c σ H G1 s1 ∧ Same G G1 ∧ Dgs c.K G1 vs ds := by
  suffices h : ∀ (as : List Ar) (vs : List V) (ds : List D) (G : Hp) (s : S), Rel c σ H G s → EvOk c σ G s as vs ds → ∃ G1 s1, Rel c σ H G1 s1 ∧ Same G G1 ∧ Dgs c.K G1 vs ds from h as vs ds G s R ‹_›
  intro as
  induction as with
  | nil =>
    intro vs ds G s R h
    cases h
    exact ⟨G, s, R, Same.refl _, .nil⟩
  | cons a as ih =>
    intro vs ds G s R h
    cases h with
    | ex h1 hr =>
      obtain ⟨G1, s1, R1, sm, dg⟩ := ih _ _ _ _ R hr
      exact ⟨G1, s1, R1, sm, .cons (h1.mono sm) dg⟩
    | @nm i v d _ vs ds h1 h2 hr =>
      unfold peekA at h2
      cases q : get s.v i with
      | val d0 =>
        rw [q] at h2
        cases h2
        obtain ⟨v', q1, q2⟩ := R.at q
        rw [h1] at q1
        cases q1
        obtain ⟨G1, s1, R1, sm, dg⟩ := ih _ _ _ _ R hr
        exact ⟨G1, s1, R1, sm, .cons (q2.mono sm) dg⟩
      | own ds0 =>
        rw [q] at h2
        cases h2
        obtain ⟨a, us, q1, R1, sm1, dg0⟩ := R.freezeAt q
        rw [h1] at q1
        cases q1
        obtain ⟨G1, s1, R2, sm, dg⟩ := ih _ _ _ _ R1 ((hr.mono sm1).put q)
        exact ⟨G1, s1, R2, sm1.trans sm, .cons (dg0.mono sm) dg⟩
      | gone => rw [q] at h2; cases h2
      | feed => rw [q] at h2; cases h2
      | exn x => rw [q] at h2; cases h2
/-- the reading of such arguments -/
def tEv (c : Ct) (as : List Ar) : TA := fun σ H Q => ∃ G s P, Rel c σ H G s ∧ evAs as s P ∧ ∀ ds vs H' G', P ds → Rel c σ H' G' s → Same G G' → Keep c H H' → EvOk c σ G' s as vs ds → Q vs H'
theorem dk_nil : PA X [] (tEv c []) := pa_imp pa_nil fun σ H Q ⟨G, s, P, R, h, k⟩ => k _ _ _ _ h R (Same.refl _) Keep.refl .nil
theorem dk_nm (i : Nat) {x : Str} {as : List Ar} (hr : PA X es (tEv c as)) (hN : X.N[i]? = some x := by rfl) (hv : Vis X.env.scope x := by first | exact Or.inl rfl | exact Or.inr (Or.inl rfl) | exact Or.inr (Or.inr rfl)) (hd : (x == ("__debug__" : Str)) = false := by decide)
    (hcd : (x == ("__classdict__" : Str)) = false := by decide) (hs : starEach (.Name x pos :: es) X.env = (false, eval (.Name x pos) X.env) :: starEach es X.env := by rfl) : PA X (.Name x pos :: es) (tEv c (.nm i :: as)) := by
  refine pa_imp (pa_cons (pe_var (i := i) hN hv hd hcd) hr hs) ?_
  rintro σ H Q ⟨G, s, P, R, ⟨d, h1, h2⟩, k⟩
  have hv : ∃ v, σ[i]? = some (some v) := by
    unfold peekA at h1
    cases q : get s.v i with
    | val d0 =>
      obtain ⟨v, q1, _⟩ := R.at q
      exact ⟨v, q1⟩
    | own ds0 =>
      obtain ⟨a, _, q1, _⟩ := R.at q
      exact ⟨_, q1⟩
    | gone => rw [q] at h1; cases h1
    | feed => rw [q] at h1; cases h1
    | exn x => rw [q] at h1; cases h1
  obtain ⟨v, hv⟩ := hv
  exact ⟨v, hv, G, s, _, R, h2, fun ds vs H' G' q R' S' K' ev => k _ _ _ _ q R' S' K' (.nm hv h1 ev)⟩
theorem dk_ex {as : List Ar} (he : PE X e (tE c m)) (hr : PA X es (tEv c as)) (hs : starEach (e :: es) X.env = (false, eval e X.env) :: starEach es X.env := by rfl) : PA X (e :: es) (tEv c (.ex m :: as)) := by
  refine pa_imp (pa_cons he hr hs) ?_
  rintro σ H Q ⟨G, s, P, R, h, k⟩
  refine ⟨G, s, _, R, h, fun r s1 v H1 G1 q R1 S1 K1 O1 => ?_⟩
  obtain ⟨rfl, q⟩ := q
  obtain ⟨d, G2, q, R2, S2, dg⟩ := O1.frz R1 q
  exact ⟨G2, s1, _, R2, q, fun ds vs H' G' q R' S' K' ev => k _ _ _ _ q R' ((S1.trans S2).trans S') (K1.trans K') (.ex (dg.mono S') ev)⟩
theorem de_callB {x : Str} {g : Sem} {as : List Ar} [o : Ok X c] (F : Kn X x (spD X.K g)) (ha : PA X (e :: es) (tEv c as)) (hg : Gl X x := by rfl) (hdb : (x == ("__debug__" : Str)) = false := by decide)
    (he : starEach (e :: es) X.env = (false, eval e X.env) :: starEach es X.env := by rfl) (hpl : (backTo pos (starEach es X.env)).any (·.1) = false := by rfl) : PE X (.Call (.Name x p) (e :: es) [] pos) (tE c (mCallB g as)) := by
  obtain ⟨k, f, fd, ps, F, hr, hm, hk', hb⟩ := F.ex
  refine pe_imp (pe_call F hr hg hm hk' hb .nil pass0 ha hdb he hpl) ?_
  rintro σ H Q ⟨G, s, Q0, R, h, hQ⟩
  refine ⟨G, s, _, R, h, fun ds vs H1 G1 q R1 S1 K1 ev => ?_⟩
  obtain ⟨G2, s2, R2, sm, dgs⟩ := ev.frz R1
  show spD X.K g (vs ++ []) H1 Q _
  rw [List.append_nil]
  refine ⟨G2, ds, s.w, _, R2.gH, o.K ▸ dgs, q, fun r w' v H' G' q2 h => ?_⟩
  obtain ⟨d, rfl, fl, q3⟩ : ∃ d, r = .val d ∧ flatD d = true ∧ Q0 (.val d) s := by
    cases r with
    | val d => exact ⟨d, rfl, q2.1, q2.2⟩
    | own ds => exact q2.elim
    | bor ds => exact q2.elim
  have kh : ∀ b o, H1 b = some o → H' b = some o := fun b o e => h.kH b o e (by simp)
  have k2 : Keep c H1 H' := fun b o e _ => kh b o e
  have R' : Rel c σ H' G1 s := R1.grow (Same.refl _) (fun b o e => kh b o (R1.gH b o e)) k2 (fun _ _ e => .inl e) fun a e => by
    obtain ⟨_, sa, q, _⟩ := R1.fd a e
    rw [q]
    exact kh a _ q
  have res : Dg X.K G' v d := h.res
  have res' : Dg c.K G1 v d := by
    rw [o.K] at res
    exact flat_dg res fl
  exact hQ _ _ _ _ _ q3 R' S1 (K1.trans k2) res'
end
end DL

/-! DLS18: is, of truth values; a def that calls itself. -/
namespace DL
open PySem PySem.Spec PyProof.Rows L2
section
variable {X : Cx} {c : Ct} {a b e : Expr} {m m1 m2 : M} {pos p : Pos}
theorem od_is : OpD c dIs (fun x y H Q => ∃ a b, x = .bl a ∧ y = .bl b ∧ Q (.bl (decide (a = b))) H) := by
  intro σ H G s x y v u Qr Q R hx hy h F
  unfold dIs at h
  split at h
  · exact ⟨_, _, hx.bool, hy.bool, F.val R h (.bl _)⟩
  · exact h.elim
theorem od_isNot : OpD c dIsNot (fun x y H Q => ∃ a b, x = .bl a ∧ y = .bl b ∧ Q (.bl (!decide (a = b))) H) := by
  intro σ H G s x y v u Qr Q R hx hy h F
  unfold dIsNot at h
  split at h
  · exact ⟨_, _, hx.bool, hy.bool, F.val R h (.bl _)⟩
  · exact h.elim
theorem de_is (ha : PE X a (tE c m1)) (hb : PE X b (tE c m2)) : PE X (.Compare a [.Is] [b] pos) (tE c (mBin dIs m1 m2)) := de_cmpR op_is_bl od_is ha hb (nomark _)
theorem de_isNot (ha : PE X a (tE c m1)) (hb : PE X b (tE c m2)) : PE X (.Compare a [.IsNot] [b] pos) (tE c (mBin dIsNot m1 m2)) := de_cmpR op_isnot_bl od_isNot ha hb (nomark _)
theorem dt_is (ha : PE X a (tE c m1)) (hb : PE X b (tE c m2)) : PT X (.Compare a [.Is] [b] pos) (tT c (tB (mBin dIs m1 m2))) := dt_cmpR op_is_bl od_is ha hb (nomark _)
theorem dt_isNot (ha : PE X a (tE c m1)) (hb : PE X b (tE c m2)) : PT X (.Compare a [.IsNot] [b] pos) (tT c (tB (mBin dIsNot m1 m2))) := dt_cmpR op_isnot_bl od_isNot ha hb (nomark _)
end
/-- a promise that nobody asks for -/
theorem fn_no {P : Program} {w : World} {K : PySem.W.Frag} {mg : Str → Option Value} {base : Heap} {k : Nat} {f : Addr} {fd : FuncData} {ps : List Str} {g : Sem} (hg : ∀ ds w Q, g ds w Q → False) : FnOk P w K mg base CX0 k f fd ps (spD K g) := by
  refine ⟨fun vs H Q E h => ?_, fun A outer s H args us vs Q E _ _ _ _ h => ?_⟩
  · obtain ⟨_, _, _, _, _, _, h, _⟩ := h
    exact (hg _ _ _ h).elim
  · obtain ⟨_, _, _, _, _, _, h, _⟩ := h
    exact (hg _ _ _ h).elim
/-! ### a table of the module -/
def KT (K : PySem.W.Frag) (w : World) (mg : Str → Option Value) (x : Str) (es : List (List Nat × D)) : Prop := ∃ a, mg x = some (.ref a) ∧ ∀ s d, lookS es s = some d → ∃ v, KDct K w a (sT s) v ∧ ∀ G, Dg K G v d
def VD (K : PySem.W.Frag) (u : Value) (d : D) : Prop := ∃ v, RelV v u ∧ ∀ G, Dg K G v d
theorem VD.tup {K : PySem.W.Frag} {a : Addr} {dd : Option Addr} {its : Array Value} {n : Nat} {sl : Array (Option Value)} {vs : List V} {ds : List D} (h2 : K.lookup a = some ⟨.type "tuple", dd, .seq its n, sl⟩) (h3 : DKs its.toList vs ds) (h4 : its.size ≤ 1000) : VD K (.ref a) (.tup ds) :=
  ⟨.ref a, rfl, fun G => .tup (.inr ⟨_, its, n, h2, rfl, rfl, Nat.le_of_lt (small1000 h4), h3.vals⟩) h3.dgs⟩
theorem VD.str {K : PySem.W.Frag} {y : Str} {l : List Nat} {t : Tok} (h : y.cps.toList = l) : VD K (.str y t) (.str l) := by
  have e : y = sT l := by subst h; cases y; rfl
  subst e
  exact ⟨.str _, ⟨t, rfl⟩, fun _ => .str l⟩
theorem VD.int {K : PySem.W.Frag} {i : Int} {t : Tok} : VD K (.int i t) (.int i) := ⟨.int i, ⟨t, rfl⟩, fun _ => .int i⟩
inductive KEs (K : PySem.W.Frag) (a : Addr) : List (List Nat × D) → Prop
  | nil : KEs K a []
  | cons {k : Str} {l : List Nat} {u : Value} {d : D} {r : List (List Nat × D)} : PySem.W.nsIn K a k = some (some u) → k.cps.toList = l → VD K u d → KEs K a r → KEs K a ((l, d) :: r)
theorem KEs.at {K : PySem.W.Frag} {a : Addr} : ∀ {es : List (List Nat × D)}, KEs K a es → ∀ s d, lookS es s = some d → ∃ u, PySem.W.nsIn K a (sT s) = some (some u) ∧ VD K u d
  | _, .nil, _, _, h => by cases h
  | _, .cons (k := k) (l := l) h1 h2 h3 h4, s, d, h => by
    unfold lookS at h
    by_cases e : l = s
    · rw [if_pos e] at h
      cases h
      have ek : k = sT s := by subst e; subst h2; cases k; rfl
      exact ⟨_, ek ▸ h1, h3⟩
    · rw [if_neg e] at h
      exact h4.at s d h
theorem KT.mk' {K : PySem.W.Frag} {w : World} {mg : Str → Option Value} {hp : Heap} {x : Str} {a : Addr} {arr : Array DictEntry} {n : Nat} {es : List (List Nat × D)} (X : K.In hp) (G : hp.Ns mainGlobals mg) (h1 : PySem.W.nsIn K mainGlobals x = some (some (.ref a)))
    (h2 : K.lookup a = some ⟨.type "dict", none, .dict arr n, #[]⟩) (h3 : PySem.W.KeysLit w.params arr.toList) (h4 : KEs K a es) : KT K w mg x es := by
  refine ⟨a, PySem.W.mg_of X G h1, fun s d h => ?_⟩
  obtain ⟨u, e, v, r, g⟩ := h4.at s d h
  exact ⟨v, ⟨arr, n, u, h2, h3, e, r⟩, g⟩
theorem de_tab {X : Cx} {c : Ct} {x : Str} {b : Expr} {m : M} {pos p : Pos} {es : List (List Nat × D)} (h : KT X.K X.w X.mg x es) [o : Ok X c] (hb : PE X b (tE c m)) (hg : Gl X x := by rfl) (hd : (x == ("__debug__" : Str)) = false := by decide) (hs : PlainIx b := by intro _ _; rfl) :
    PE X (.Subscript (.Name x p) b pos) (tE c (mUn (dTab es) m)) := by
  obtain ⟨a, h1, h2⟩ := h
  refine pe_imp (pe_ix ix_kdict (pe_glob (v := .ref a) hg h1 rfl hd) hb hs) ?_
  intro σ H Q h
  show tUn (fun y H Q => rIxD X.K X.w (.ref a) y H Q) (tE c m) σ H Q
  refine mUn_run (f := dTab es) ?_ σ H Q h
  intro σ H G s x v Qr Q R hx h F
  unfold dTab at h
  split at h
  · obtain ⟨d, e, q⟩ := h
    obtain ⟨v', k1, k2⟩ := h2 _ _ e
    exact ⟨a, _, v', rfl, hx.str, k1, F.val R q (o.K ▸ k2 _)⟩
  · exact h.elim
end DL

/-! DLR: gcd; comprehensions with two fors. -/
namespace DL
def dGcd : D → D → (R → Prop) → Prop
  | .int a, .int b, k => k (.val (.int ((Nat.gcd a.natAbs b.natAbs : Nat) : Int)))
  | _, _, _ => False
def compL2 (own own1 : List Nat) (g : Gt) (t : T) (src1 : Src) (g1 : Gt) (t1 : T) (e : M) : List D → List D → S → (List D → S → Prop) → Prop
  | [], acc, s, Q => Q acc s
  | d :: r, acc, s, Q => g d { s with v := puts s.v own .gone } fun s1 => t s1 fun c s2 =>
      if c = true then src1 s2 fun es s3 => compL own1 g1 t1 e es acc s3 fun acc s4 => compL2 own own1 g t src1 g1 t1 e r acc s4 Q
      else compL2 own own1 g t src1 g1 t1 e r acc s2 Q
def mComp2 (own own1 : List Nat) (src : Src) (g : Gt) (t : T) (src1 : Src) (g1 : Gt) (t1 : T) (e : M) (s : S) (Q : R → S → Prop) : Prop := src s fun ds s1 => compL2 own own1 g t src1 g1 t1 e ds [] s1 fun acc s2 => Q (.own acc) { s2 with v := back s1.v s2.v own }
end DL

/-! DLS22: gcd; comprehensions with two fors. -/
namespace DL
open PySem PySem.Spec PyProof.Rows L2
/-- a module's name for a built-in function -/
def KB (mg : Str → Option Value) (x : Str) (id : String) : Prop := mg x = some (.builtin id)
section
variable {X : Cx} {c : Ct} {a b e : Expr} {es : List Expr} {m m1 m2 m3 : M} {ms : Ms} {t t1 t2 : T} {pos p : Pos} {σ : St} {H G : Hp} {s : S} {x : Str} {id ty : String}
theorem KB.mk' {K : PySem.W.Frag} {hp : Heap} {mg : Str → Option Value} (X : K.In hp) (G : hp.Ns mainGlobals mg) (a : PySem.W.nsIn K mainGlobals x = some (some (.builtin id))) : KB mg x id := PySem.W.mg_of X G a
theorem de_gcd {x : Str} [o : Ok X c] (h : KB X.mg x "math.gcd") (ha : PE X a (tE c m1)) (hb : PE X b (tE c m2)) (hg : Gl X x := by rfl) (hdb : (x == ("__debug__" : Str)) = false := by decide)
    (he : starEach [a, b] X.env = (false, eval a X.env) :: starEach [b] X.env := by rfl) (he2 : starEach [b] X.env = (false, eval b X.env) :: starEach [] X.env := by rfl) (hpl : (backTo pos (starEach [b] X.env)).any (·.1) = false := by rfl) : PE X (.Call (.Name x p) [a, b] [] pos) (tE c (mBin dGcd m1 m2)) := by
  refine pe_imp (pe_callBfun cr_gcd hg h (pa_cons ha (pa_cons hb pa_nil he2) he) hdb he hpl) ?_
  rintro σ H Q ⟨G, s, Q0, R, hm, hQ⟩
  refine ⟨G, s, _, R, hm, fun r1 s1 v1 H1 G1 q1 R1 S1 K1 O1 => ⟨G1, s1, _, R1, q1, fun r2 s2 v2 H2 G2 q2 R2 S2 K2 O2 => ?_⟩⟩
  have p1 := (O1.peek R1).keep S2 K2
  have p2 := O2.peek R2
  unfold dGcd at q2
  split at q2
  · rename_i k i j e1 e2
    rw [e1] at p1
    rw [e2] at p2
    exact ⟨i, j, by rw [p1.int, p2.int], hQ _ _ _ _ _ q2 R2 (S1.trans S2) (K1.trans K2) (.int _)⟩
  · exact q2.elim
theorem comp2_run {src src1 : Src} {g g1 : Gt} {is is1 vs0 vs1 : List Nat} (his : ∀ i ∈ is, i ∈ vs0) (his1 : ∀ i ∈ is1, i ∈ vs1) (hv : ∀ i ∈ vs1, i ∈ vs0) : ∀ σ H Q, tE c (mComp2 vs0 vs1 src g t src1 g1 t1 m) σ H Q →
    tLc2 (tI c src) (fun v σ H Q => ∃ D, tG (c.with D) is g v σ H Q) (fun σ H Q => ∃ D, tT (c.with D) t σ H Q) (fun σ H Q => ∃ D, tI (c.with D) src1 σ H Q) (fun v σ H Q => ∃ D, tG (c.with D) is1 g1 v σ H Q) (fun σ H Q => ∃ D, tT (c.with D) t1 σ H Q) (fun σ H Q => ∃ D, tE (c.with D) m σ H Q) vs0 vs1 σ H Q := by
  rintro σ H Q ⟨G, s, Q0, R, hm, hQ⟩
  refine ⟨G, s, _, R, hm, fun ds s1 J H1 G1 q1 R1 S1 K1 Wk D nD => ?_⟩
  obtain ⟨n1, n2, n3⟩ := R1.h0 nD
  have nrs := R1.nrs nD
  have RD := R1.make nD
  refine ⟨fun i k H => ∃ G s acc vs, i + k = ds.length ∧ Rel (c.with D) (wipe σ vs0) H G { s with v := puts s.v vs0 .gone } ∧ Same G1 G ∧ Keep c H1 H ∧ H D = some (.lst vs) ∧ Dgs c.K G vs acc ∧
      (∃ σ2, Chg vs0 σ2 σ ∧ Rel (c.with D) σ2 H G s) ∧ compL2 vs0 vs1 g t src1 g1 t1 m (ds.drop i) acc s (fun acc s2 => Q0 (.own acc) { s2 with v := back s1.v s2.v vs0 }), ⟨ds.length, G1, s1, [], [], by omega, ?_, Same.refl _, Keep.upd nD, upd_same, .nil, ⟨σ, Chg.refl, RD⟩, q1⟩, ?_⟩
  · exact RD.forget ⟨wipe_length _ _, fun i h => by rw [wipe_at, if_neg h]⟩
  rintro i k H2 ⟨G2, s2, acc, vs, ei, Rw, S2, K2, hD, dacc, ⟨σ2, ch2, R2⟩, q⟩
  by_cases hi' : i < ds.length
  · right
    refine ⟨Wk.go i H2 G2 hi' S2 R2.gH, fun H' => ∃ G s acc vs, i + 1 + (k - 1) = ds.length ∧ Rel (c.with D) (wipe σ vs0) H' G { s with v := puts s.v vs0 .gone } ∧ Same G1 G ∧ Keep c H1 H' ∧ H' D = some (.lst vs) ∧ Dgs c.K G vs acc ∧
      (∃ σ2, Chg vs0 σ2 σ ∧ Rel (c.with D) σ2 H' G s) ∧ compL2 vs0 vs1 g t src1 g1 t1 m (ds.drop (i + 1)) acc s (fun acc s2 => Q0 (.own acc) { s2 with v := back s1.v s2.v vs0 }), fun H' h => ⟨k - 1, by omega, h⟩, fun x H3 y => ?_⟩
    obtain ⟨G3, R3, S3, K3, dx⟩ := Wk.yld (c.with D) _ i H2 G2 H3 _ x (ds[i]) rfl Rw S2 (by simp) y
    have ed : ds.drop i = ds[i] :: ds.drop (i + 1) := by rw [← List.drop_eq_getElem_cons hi']
    rw [ed] at q
    refine ⟨D, G3, _, _, _, R3, dx, q, fun s4 σ4 H4 G4 q4 R4 C4 S4 K4 => ?_⟩
    refine ⟨by rw [wipe_chg C4 his, wipe_wipe], D, G4, s4, _, R4, q4, fun b s5 H5 G5 q5 R5 S5 K5 => ?_⟩
    have hch : Chg vs0 σ4 σ := ⟨by rw [C4.1, wipe_length], fun j hj => by rw [C4.2 j fun z => hj (his j z), wipe_at, if_neg hj]⟩
    have hw : Chg vs0 σ4 (wipe σ vs0) := ⟨C4.1.symm, fun j hj => (C4.2 j fun z => hj (his j z)).symm⟩
    have kk : Keep c H1 H5 := ((K2.trans K3).trans K4).trans K5
    have ss : Same G1 G5 := ((S2.trans S3).trans S4).trans S5
    have hD5 : H5 D = some (.lst vs) := K5 _ _ (K4 _ _ (K3 _ _ hD n2) n2) n2
    have da5 : Dgs c.K G5 vs acc := dacc.mono ((S3.trans S4).trans S5)
    cases b with
    | true =>
      rw [if_pos rfl] at q5
      refine iteT ⟨D, G5, s5, _, R5, q5, fun es s6 J1 H6 G6 q6 R6 S6 K6 Wk1 => ?_⟩
      have hD6 : H6 D = some (.lst vs) := K6 _ _ hD5 n2
      have da6 : Dgs c.K G6 vs acc := da5.mono S6
      refine ⟨fun j k H => ∃ G s acc vs, j + k = es.length ∧ Rel (c.with D) (wipe σ4 vs1) H G { s with v := puts s.v vs1 .gone } ∧ Same G6 G ∧ Keep c H1 H ∧ H D = some (.lst vs) ∧ Dgs c.K G vs acc ∧
        (∃ σ2, Chg vs1 σ2 σ4 ∧ Rel (c.with D) σ2 H G s) ∧ compL vs1 g1 t1 m (es.drop j) acc s (fun acc s4 => compL2 vs0 vs1 g t src1 g1 t1 m (ds.drop (i + 1)) acc s4 fun acc s2 => Q0 (.own acc) { s2 with v := back s1.v s2.v vs0 }), ⟨es.length, G6, s6, acc, vs, by omega, ?_, Same.refl _, kk.trans K6, hD6, da6, ⟨σ4, Chg.refl, R6⟩, q6⟩, ?_⟩
      · exact R6.forget ⟨wipe_length _ _, fun i h => by rw [wipe_at, if_neg h]⟩
      rintro j k1 H7 ⟨G7, s7, acc7, vs7, ej, Rw7, S7, K7, hD7, da7, ⟨σ7, ch7, R7⟩, q7⟩
      by_cases hj' : j < es.length
      · right
        refine ⟨Wk1.go j H7 G7 hj' S7 R7.gH, fun H' => ∃ G s acc vs, j + 1 + (k1 - 1) = es.length ∧ Rel (c.with D) (wipe σ4 vs1) H' G { s with v := puts s.v vs1 .gone } ∧ Same G6 G ∧ Keep c H1 H' ∧ H' D = some (.lst vs) ∧ Dgs c.K G vs acc ∧
          (∃ σ2, Chg vs1 σ2 σ4 ∧ Rel (c.with D) σ2 H' G s) ∧ compL vs1 g1 t1 m (es.drop (j + 1)) acc s (fun acc s4 => compL2 vs0 vs1 g t src1 g1 t1 m (ds.drop (i + 1)) acc s4 fun acc s2 => Q0 (.own acc) { s2 with v := back s1.v s2.v vs0 }), fun H' h => ⟨k1 - 1, by omega, h⟩, fun x1 H8 y1 => ?_⟩
        obtain ⟨G8, R8, S8, K8, dx8⟩ := Wk1.yld (c.with D) _ j H7 G7 H8 _ x1 (es[j]) rfl Rw7 S7 (by simp) y1
        have ed1 : es.drop j = es[j] :: es.drop (j + 1) := by rw [← List.drop_eq_getElem_cons hj']
        rw [ed1] at q7
        refine ⟨D, G8, _, _, _, R8, dx8, q7, fun s9 σ9 H9 G9 q9 R9 C9 S9 K9 => ?_⟩
        refine ⟨by rw [wipe_chg C9 his1, wipe_wipe], D, G9, s9, _, R9, q9, fun b1 sa Ha Ga qa Ra Sa Ka => ?_⟩
        have hch1 : Chg vs1 σ9 σ4 := ⟨by rw [C9.1, wipe_length], fun j hj => by rw [C9.2 j fun z => hj (his1 j z), wipe_at, if_neg hj]⟩
        have hw1 : Chg vs1 σ9 (wipe σ4 vs1) := ⟨C9.1.symm, fun j hj => (C9.2 j fun z => hj (his1 j z)).symm⟩
        have kka : Keep c H1 Ha := ((K7.trans K8).trans K9).trans Ka
        have ssa : Same G6 Ga := ((S7.trans S8).trans S9).trans Sa
        have hDa : Ha D = some (.lst vs7) := Ka _ _ (K9 _ _ (K8 _ _ hD7 n2) n2) n2
        have daa : Dgs c.K Ga vs7 acc7 := da7.mono ((S8.trans S9).trans Sa)
        cases b1 with
        | true =>
          rw [if_pos rfl] at qa
          refine iteT ⟨D, Ga, sa, _, Ra, qa, fun r sb vb Hb Gb qb Rb Sb Kb Ob => ?_⟩
          obtain ⟨d, Gc, qc, Rc, Sc, dgc⟩ := Ob.frz Rb qb
          have hDb : Hb D = some (.lst vs7) := Kb _ _ hDa n2
          refine ⟨vs7, hDb, by rw [(da7.length), ← lineEq]; exact qc.1, ?_⟩
          have Rd := Rc.more n1 (.lst (vs7 ++ [vb]))
          refine ⟨Gc, sb, acc7 ++ [d], vs7 ++ [vb], by omega, Rd.forget hw1, ((ssa.trans Sb).trans Sc), fun b o e n => ?_, upd_same, (daa.mono (Sb.trans Sc)).append (.cons dgc .nil), ⟨σ9, hch1, Rd⟩, qc.2⟩
          rw [upd_ne (ne_of_none e nD)]
          exact (kka.trans Kb) b o e n
        | false =>
          rw [if_neg Bool.false_ne_true] at qa
          exact iteF ⟨Ga, sa, acc7, vs7, by omega, Ra.forget hw1, ssa, kka, hDa, daa, ⟨σ9, hch1, Ra⟩, qa⟩
      · left
        have e0 : j = es.length := by omega
        subst e0
        refine ⟨Wk1.stop H7 G7 S7 R7.gH, ?_⟩
        rw [List.drop_length] at q7
        have hch7 : Chg vs0 σ7 σ := ⟨ch7.1 ▸ hch.1, fun j hj => (hch.2 j hj).trans (ch7.2 j fun z => hj (hv j z))⟩
        have hw7 : Chg vs0 σ7 (wipe σ vs0) := ⟨by rw [wipe_length, hch7.1], fun j hj => by rw [wipe_at, if_neg hj]; exact hch7.2 j hj⟩
        exact ⟨G7, s7, acc7, vs7, by omega, R7.forget hw7, (ss.trans S6).trans S7, K7, hD7, da7, ⟨σ7, hch7, R7⟩, q7⟩
    | false =>
      rw [if_neg Bool.false_ne_true] at q5
      exact iteF ⟨G5, s5, acc, vs, by omega, R5.forget hw, ss, kk, hD5, da5, ⟨σ4, hch, R5⟩, q5⟩
  · left
    have e0 : i = ds.length := by omega
    subst e0
    refine ⟨Wk.stop H2 G2 S2 R2.gH, ?_⟩
    rw [List.drop_length] at q
    have RF : Rel c σ H2 G2 { s2 with v := back s1.v s2.v vs0 } := R2.made.backed ch2 R1.len fun j => by
      have z := R1.sl j
      cases e : get s1.v j with
      | val d =>
        rw [e] at z
        obtain ⟨v, z1, z2⟩ := z
        exact ⟨v, z1, z2.mono S2⟩
      | _ => trivial
    refine hQ _ _ _ _ _ q RF (S1.trans S2) (K1.trans K2) ?_
    obtain ⟨m1, m2, _⟩ := R2.rs D (.inr rfl)
    refine ⟨D, vs, rfl, hD, dacc, m1, n1, n2, nrs, fun j hj ej => ?_⟩
    have e0 : s2.v.length = s1.v.length := by rw [R2.len, R1.len, ch2.1]
    have hj : (get (back s1.v s2.v vs0) j).isOwn = true := hj
    rw [get_back _ _ _ _ e0] at hj
    by_cases z : j ∈ vs0
    · rw [if_pos z] at hj
      cases y : get s1.v j <;> rw [y] at hj <;> cases hj
    · rw [if_neg z] at hj
      have sl := R2.sl j
      cases y : get s2.v j with
      | own es =>
        rw [y] at sl
        obtain ⟨a, us, e1, e2, e3, e4, e5, e6, e7⟩ := sl
        rw [← ch2.2 j z, ej] at e1
        cases e1
        exact e7 (.inr rfl)
      | _ => rw [y] at hj; cases hj
theorem de_comp2 {elt tg iter tg1 iter1 : Expr} {ifs ifs1 : List Expr} {scope : Scope} {src src1 : Src} {g g1 : Gt} {is is1 : List Nat} (own : List (Str × Nat)) (vs1 : List Nat) [o : Ok X c] [cm : Calm X] (hi : PI X tg iter (tI c src)) (ok : blkC X.N X.env.scope scope own = true)
    (hg : ∀ (c : Ct) [Ok X c] (s : Shared) (H : Hp) (C : Addr) (cl : List (Str × Addr)) (fp : List Addr), PG (X.blk s H scope (compEnvC scope cl C X.env) fp) tg (tG c is g))
    (ht : ∀ (c : Ct) [Ok X c] (s : Shared) (H : Hp) (C : Addr) (cl : List (Str × Addr)) (fp : List Addr), PTs (X.blk s H scope (compEnvC scope cl C X.env) fp) ifs (tT c t))
    (hi1 : ∀ (c : Ct) [Ok X c] (s : Shared) (H : Hp) (C : Addr) (cl : List (Str × Addr)) (fp : List Addr), PI (X.blk s H scope (compEnvC scope cl C X.env) fp) tg1 iter1 (tI c src1))
    (hg1 : ∀ (c : Ct) [Ok X c] (s : Shared) (H : Hp) (C : Addr) (cl : List (Str × Addr)) (fp : List Addr), PG (X.blk s H scope (compEnvC scope cl C X.env) fp) tg1 (tG c is1 g1))
    (ht1 : ∀ (c : Ct) [Ok X c] (s : Shared) (H : Hp) (C : Addr) (cl : List (Str × Addr)) (fp : List Addr), PTs (X.blk s H scope (compEnvC scope cl C X.env) fp) ifs1 (tT c t1))
    (he : ∀ (c : Ct) [Ok X c] (s : Shared) (H : Hp) (C : Addr) (cl : List (Str × Addr)) (fp : List Addr), PE (X.blk s H scope (compEnvC scope cl C X.env) fp) elt (tE c m)) (his : ∀ i ∈ is, i ∈ own.map (·.2) := by decide) (his1 : ∀ i ∈ is1, i ∈ vs1 := by decide) (hv : ∀ i ∈ vs1, i ∈ own.map (·.2) := by decide)
    (hs : ∀ x, foldedSetIterable iter X.env x = pure x := by intro _; rfl) (hs1 : ∀ env x, foldedSetIterable iter1 env x = pure x := by intro _ _; rfl) : PE X (.ListComp elt [⟨tg, iter, ifs, 0⟩, ⟨tg1, iter1, ifs1, 0⟩] scope pos) (tE c (mComp2 (own.map (·.2)) vs1 src g t src1 g1 t1 m)) :=
  pe_imp (pe_lc2 cm.calm o.nd hi (blkOk_by ok) hv (fun s H C cl fp => ⟨fun pins s' σ H v u Q I r ⟨D, q⟩ => (hg (c.with D) s _ C cl fp).run pins s' σ H v u Q I r q⟩)
      (fun s H C cl fp => ⟨fun pins s' σ H Q I ⟨D, q⟩ => (ht (c.with D) s _ C cl fp).run pins s' σ H Q I q⟩)
      (fun s H C cl fp => ⟨fun pins s' σ H R I ⟨D, q⟩ => (hi1 (c.with D) s _ C cl fp).run pins s' σ H R I q⟩)
      (fun s H C cl fp => ⟨fun pins s' σ H v u Q I r ⟨D, q⟩ => (hg1 (c.with D) s _ C cl fp).run pins s' σ H v u Q I r q⟩)
      (fun s H C cl fp => ⟨fun pins s' σ H Q I ⟨D, q⟩ => (ht1 (c.with D) s _ C cl fp).run pins s' σ H Q I q⟩)
      (fun s H C cl fp => ⟨fun pins s' σ H Q I ⟨D, q⟩ => (he (c.with D) s _ C cl fp).run pins s' σ H Q I q⟩) hs hs1) (comp2_run his his1 hv)
theorem ds_setLc2 (i : Nat) {py : Pos} {elt tg iter tg1 iter1 : Expr} {ifs ifs1 : List Expr} {scope : Scope} {src src1 : Src} {g g1 : Gt} {is is1 : List Nat} {spos : Pos} (own : List (Str × Nat)) (vs1 : List Nat) [o : Ok X c] [cm : Calm X] (hi : PI X tg iter (tI c src)) (ok : blkC X.N X.env.scope scope own = true)
    (hg : ∀ (c : Ct) [Ok X c] (s : Shared) (H : Hp) (C : Addr) (cl : List (Str × Addr)) (fp : List Addr), PG (X.blk s H scope (compEnvC scope cl C X.env) fp) tg (tG c is g))
    (ht : ∀ (c : Ct) [Ok X c] (s : Shared) (H : Hp) (C : Addr) (cl : List (Str × Addr)) (fp : List Addr), PTs (X.blk s H scope (compEnvC scope cl C X.env) fp) ifs (tT c t))
    (hi1 : ∀ (c : Ct) [Ok X c] (s : Shared) (H : Hp) (C : Addr) (cl : List (Str × Addr)) (fp : List Addr), PI (X.blk s H scope (compEnvC scope cl C X.env) fp) tg1 iter1 (tI c src1))
    (hg1 : ∀ (c : Ct) [Ok X c] (s : Shared) (H : Hp) (C : Addr) (cl : List (Str × Addr)) (fp : List Addr), PG (X.blk s H scope (compEnvC scope cl C X.env) fp) tg1 (tG c is1 g1))
    (ht1 : ∀ (c : Ct) [Ok X c] (s : Shared) (H : Hp) (C : Addr) (cl : List (Str × Addr)) (fp : List Addr), PTs (X.blk s H scope (compEnvC scope cl C X.env) fp) ifs1 (tT c t1))
    (he : ∀ (c : Ct) [Ok X c] (s : Shared) (H : Hp) (C : Addr) (cl : List (Str × Addr)) (fp : List Addr), PE (X.blk s H scope (compEnvC scope cl C X.env) fp) elt (tE c m)) (his : ∀ i ∈ is, i ∈ own.map (·.2) := by decide) (his1 : ∀ i ∈ is1, i ∈ vs1 := by decide) (hv : ∀ i ∈ vs1, i ∈ own.map (·.2) := by decide)
    (hy : X.N[i]? = some x := by rfl) (hyl : X.env.scope.names.lookup x = some .local := by rfl) (hsw : swapsWith (.ListComp elt [⟨tg, iter, ifs, 0⟩, ⟨tg1, iter1, ifs1, 0⟩] scope pos) (some (.Name x py)) spos.line X.env = pure true := by exact sw_true rfl rfl rfl (by decide +kernel))
    (hs : ∀ x, foldedSetIterable iter X.env x = pure x := by intro _; rfl) (hs1 : ∀ env x, foldedSetIterable iter1 env x = pure x := by intro _ _; rfl) : PS X (.Assign [.Name x py] (.ListComp elt [⟨tg, iter, ifs, 0⟩, ⟨tg1, iter1, ifs1, 0⟩] scope pos) spos) (tS c (sSet i (mComp2 (own.map (·.2)) vs1 src g t src1 g1 t1 m))) :=
  ps_imp (ps_setLc2 cm.calm o.nd hy hyl hsw hi (blkOk_by ok) hv (fun s H C cl fp => ⟨fun pins s' σ H v u Q I r ⟨D, q⟩ => (hg (c.with D) s _ C cl fp).run pins s' σ H v u Q I r q⟩)
      (fun s H C cl fp => ⟨fun pins s' σ H Q I ⟨D, q⟩ => (ht (c.with D) s _ C cl fp).run pins s' σ H Q I q⟩)
      (fun s H C cl fp => ⟨fun pins s' σ H R I ⟨D, q⟩ => (hi1 (c.with D) s _ C cl fp).run pins s' σ H R I q⟩)
      (fun s H C cl fp => ⟨fun pins s' σ H v u Q I r ⟨D, q⟩ => (hg1 (c.with D) s _ C cl fp).run pins s' σ H v u Q I r q⟩)
      (fun s H C cl fp => ⟨fun pins s' σ H Q I ⟨D, q⟩ => (ht1 (c.with D) s _ C cl fp).run pins s' σ H Q I q⟩)
      (fun s H C cl fp => ⟨fun pins s' σ H Q I ⟨D, q⟩ => (he (c.with D) s _ C cl fp).run pins s' σ H Q I q⟩) hs hs1) fun D σ H h => comp2_run his his1 hv _ _ _ (set_run i h)
end
end DL

/-! DLMath: plain facts about the meanings. -/
namespace DL
theorem atI_map {α β : Type} (f : α → β) (xs : List α) (i : Int) : atI (xs.map f) i = (atI xs i).map f := by
  unfold atI
  rw [List.length_map]
  cases ixN xs.length i <;> simp
theorem ex_map {α β : Type} {f : α → β} {o : Option α} {P : β → Prop} : (∃ d, o.map f = some d ∧ P d) ↔ ∃ x, o = some x ∧ P (f x) := by
  constructor
  · rintro ⟨d, h, p⟩
    cases o with
    | none => cases h
    | some x => cases h; exact ⟨x, rfl, p⟩
  · rintro ⟨x, rfl, p⟩
    exact ⟨_, rfl, p⟩
theorem ex_some {α : Type} {a : α} {P : α → Prop} : (∃ d, some a = some d ∧ P d) ↔ P a := ⟨fun ⟨_, e, p⟩ => by cases e; exact p, fun p => ⟨a, rfl, p⟩⟩
theorem ex_arg {f : String} {x : D} {P : D → Prop} : (∃ d, (some (f, x) : Option (String × D)) = some (f, d) ∧ P d) = P x := propext ⟨fun ⟨_, e, p⟩ => by cases e; exact p, fun p => ⟨x, rfl, p⟩⟩
theorem ex_valB {x : D} {P : D → Prop} : (∃ d, R.val x = R.val d ∧ flatD d = true ∧ P d) = (flatD x = true ∧ P x) := propext ⟨fun ⟨_, e, p⟩ => by cases e; exact p, fun p => ⟨x, rfl, p⟩⟩
theorem atI_of {α : Type} {xs : List α} {i : Int} (h0 : 0 ≤ i) (h1 : i < xs.length) : atI xs i = some (xs[i.toNat]'(by omega)) := by
  unfold atI ixN
  rw [if_pos h0, if_pos h1]
  simp
theorem atI_at {α : Type} {xs : List α} {i : Int} {a : α} (h0 : 0 ≤ i) (h : xs[i.toNat]? = some a) : atI xs i = some a := by
  have hl : i.toNat < xs.length := (List.getElem?_eq_some_iff.mp h).1
  unfold atI ixN
  rw [if_pos h0, if_pos (by omega)]
  exact h
theorem eqD_none_none : eqD D.none D.none = true := by simp only [eqD]
theorem eqD_none_bool (b : Bool) : eqD D.none (D.bool b) = false := by simp only [eqD]
theorem eqD_none_int (b : Int) : eqD D.none (D.int b) = false := by simp only [eqD]
theorem eqD_none_str (b : List Nat) : eqD D.none (D.str b) = false := by simp only [eqD]
theorem eqD_none_list (b : List D) : eqD D.none (D.list b) = false := by simp only [eqD]
theorem eqD_none_tup (b : List D) : eqD D.none (D.tup b) = false := by simp only [eqD]
theorem eqD_bool_none (a : Bool) : eqD (D.bool a) D.none = false := by simp only [eqD]
theorem eqD_bool_bool (a : Bool) (b : Bool) : eqD (D.bool a) (D.bool b) = (a == b) := by simp only [eqD]
theorem eqD_bool_int (a : Bool) (b : Int) : eqD (D.bool a) (D.int b) = ((if a then (1 : Int) else 0) == b) := by simp only [eqD]
theorem eqD_bool_str (a : Bool) (b : List Nat) : eqD (D.bool a) (D.str b) = false := by simp only [eqD]
theorem eqD_bool_list (a : Bool) (b : List D) : eqD (D.bool a) (D.list b) = false := by simp only [eqD]
theorem eqD_bool_tup (a : Bool) (b : List D) : eqD (D.bool a) (D.tup b) = false := by simp only [eqD]
theorem eqD_int_none (a : Int) : eqD (D.int a) D.none = false := by simp only [eqD]
theorem eqD_int_bool (a : Int) (b : Bool) : eqD (D.int a) (D.bool b) = (a == (if b then (1 : Int) else 0)) := by simp only [eqD]
theorem eqD_int_int (a : Int) (b : Int) : eqD (D.int a) (D.int b) = (a == b) := by simp only [eqD]
theorem eqD_int_str (a : Int) (b : List Nat) : eqD (D.int a) (D.str b) = false := by simp only [eqD]
theorem eqD_int_list (a : Int) (b : List D) : eqD (D.int a) (D.list b) = false := by simp only [eqD]
theorem eqD_int_tup (a : Int) (b : List D) : eqD (D.int a) (D.tup b) = false := by simp only [eqD]
theorem eqD_str_none (a : List Nat) : eqD (D.str a) D.none = false := by simp only [eqD]
theorem eqD_str_bool (a : List Nat) (b : Bool) : eqD (D.str a) (D.bool b) = false := by simp only [eqD]
theorem eqD_str_int (a : List Nat) (b : Int) : eqD (D.str a) (D.int b) = false := by simp only [eqD]
theorem eqD_str_str (a : List Nat) (b : List Nat) : eqD (D.str a) (D.str b) = (a == b) := by simp only [eqD]
theorem eqD_str_list (a : List Nat) (b : List D) : eqD (D.str a) (D.list b) = false := by simp only [eqD]
theorem eqD_str_tup (a : List Nat) (b : List D) : eqD (D.str a) (D.tup b) = false := by simp only [eqD]
theorem eqD_list_none (a : List D) : eqD (D.list a) D.none = false := by simp only [eqD]
theorem eqD_list_bool (a : List D) (b : Bool) : eqD (D.list a) (D.bool b) = false := by simp only [eqD]
theorem eqD_list_int (a : List D) (b : Int) : eqD (D.list a) (D.int b) = false := by simp only [eqD]
theorem eqD_list_str (a : List D) (b : List Nat) : eqD (D.list a) (D.str b) = false := by simp only [eqD]
theorem eqD_list_list (a : List D) (b : List D) : eqD (D.list a) (D.list b) = eqDs a b := by simp only [eqD]
theorem eqD_list_tup (a : List D) (b : List D) : eqD (D.list a) (D.tup b) = false := by simp only [eqD]
theorem eqD_tup_none (a : List D) : eqD (D.tup a) D.none = false := by simp only [eqD]
theorem eqD_tup_bool (a : List D) (b : Bool) : eqD (D.tup a) (D.bool b) = false := by simp only [eqD]
theorem eqD_tup_int (a : List D) (b : Int) : eqD (D.tup a) (D.int b) = false := by simp only [eqD]
theorem eqD_tup_str (a : List D) (b : List Nat) : eqD (D.tup a) (D.str b) = false := by simp only [eqD]
theorem eqD_tup_list (a : List D) (b : List D) : eqD (D.tup a) (D.list b) = false := by simp only [eqD]
theorem eqD_tup_tup (a : List D) (b : List D) : eqD (D.tup a) (D.tup b) = eqDs a b := by simp only [eqD]
theorem eqDs_nn : eqDs [] [] = true := by simp only [eqDs]
theorem eqDs_cc (x y : D) (a b : List D) : eqDs (x :: a) (y :: b) = (eqD x y && eqDs a b) := by simp only [eqDs]
theorem eqDs_nc (y : D) (b : List D) : eqDs [] (y :: b) = false := by simp only [eqDs]
theorem eqDs_cn (x : D) (a : List D) : eqDs (x :: a) [] = false := by simp only [eqDs]
theorem beq_int (a b : Int) : (a == b) = decide (a = b) := rfl
end DL
namespace DL
theorem lg_lt {n k : Nat} (h : n < 2 ^ k) (hk : 0 < k) : n.log2 < k := by
  by_cases h0 : n = 0
  · subst h0
    simpa using hk
  · exact (Nat.log2_lt h0).mpr h
theorem lg62 {i : Int} (h1 : -4611686018427387904 < i) (h2 : i < 4611686018427387904) : i.natAbs.log2 < 62 := lg_lt (by omega) (by decide)
theorem mul62 {i j : Int} (h1 : -4611686018427387904 < i) (h2 : i < 4611686018427387904) (h3 : -4611686018427387904 < j) (h4 : j < 4611686018427387904) : i.natAbs.log2 + j.natAbs.log2 < 1000000 := by
  have := lg62 h1 h2
  have := lg62 h3 h4
  omega
theorem div62 {j : Int} (h3 : -4611686018427387904 < j) (h4 : j < 4611686018427387904) : j.natAbs.log2 < 9000 := by
  have := lg62 h3 h4
  omega
theorem lg_pow {i : Int} {k : Nat} (h : i.natAbs < 2 ^ k) (hk : 0 < k) : i.natAbs.log2 < k := lg_lt h hk
theorem mul_pow {i j : Int} {a b : Nat} (h : i.natAbs < 2 ^ a) (ha : 0 < a) (h' : j.natAbs < 2 ^ b) (hb : 0 < b) (hab : a + b ≤ 1000000) : i.natAbs.log2 + j.natAbs.log2 < 1000000 := by
  have := lg_lt h ha
  have := lg_lt h' hb
  omega
/-! ### the feed -/
structure Wok (w : W) : Prop where
  len : w.sc.length ≤ 63
  i0 : 0 ≤ w.ix
  i1 : w.ix ≤ w.sc.length
  b0 : 0 ≤ w.big
  s0 : 0 ≤ w.seed
  s1 : w.seed < 2147483648
theorem Wok.start {ns : List Int} (h : ns.length ≤ 63) : Wok ⟨ns, 0, 0, 1⟩ := ⟨h, Int.le_refl 0, by show (0 : Int) ≤ (ns.length : Int); omega, Int.le_refl 0, (by decide : (0 : Int) ≤ 1), (by decide : (1 : Int) < 2147483648)⟩
end DL

/-! DLLoop: loops, by an invariant. -/
namespace DL
theorem forL_ix {g : Gt} {body : MS} {O : Outs} : ∀ (ds : List D) (I : Nat → S → Prop), (∀ k d s, ds[k]? = some d → I k s → ∀ K : S → Prop, (∀ s', I (k + 1) s' → K s') → g d s fun s1 => body s1 { nx := K, ct := K, bk := O.nx, rt := O.rt }) → (∀ s, I ds.length s → O.nx s) → ∀ s, I 0 s → forL g body ds s O
  | [], I, _, he, s, h => he s h
  | d :: r, I, hb, he, s, h => by
    refine hb 0 d s rfl h (fun s2 => forL g body r s2 O) fun s2 h2 => ?_
    exact forL_ix r (fun k => I (k + 1)) (fun k d s e h K q => hb (k + 1) d s e h K q) he s2 h2
theorem ran_get {lo : Int} {n k : Nat} {d : D} (h : (ran lo n)[k]? = some d) : k < n ∧ d = .int (lo + k) := by
  unfold ran at h
  rw [List.getElem?_map] at h
  cases e : (List.range n)[k]? with
  | none => rw [e] at h; cases h
  | some m =>
    rw [e] at h
    have hk : k < n := by simpa using (List.getElem?_eq_some_iff.mp e).1
    have : m = k := by
      have := (List.getElem?_eq_some_iff.mp e).2
      simpa using this.symm
    subst this
    cases h
    exact ⟨hk, rfl⟩
theorem ran_len (lo : Int) (n : Nat) : (ran lo n).length = n := by simp [ran]
theorem forL_ran {g : Gt} {body : MS} {O : Outs} {lo : Int} {n : Nat} (I : Nat → S → Prop) (s : S) (h0 : I 0 s) (h : ∀ k s, k < n → I k s → ∀ K : S → Prop, (∀ s', I (k + 1) s' → K s') → g (.int (lo + k)) s fun s1 => body s1 { nx := K, ct := K, bk := O.nx, rt := O.rt }) (he : ∀ s, I n s → O.nx s) : forL g body (ran lo n) s O := by
  refine forL_ix (ran lo n) I (fun k d s e hI K q => ?_) (fun s hI => he s (by rwa [ran_len] at hI)) s h0
  obtain ⟨hk, rfl⟩ := ran_get e
  exact h k s hk hI K q
theorem compL_ix {own : List Nat} {g : Gt} {t : T} {e : M} {Q : List D → S → Prop} : ∀ (ds : List D) (acc : List D) (s : S) (I : Nat → List D → S → Prop), I 0 acc s →
    (∀ k d acc s, ds[k]? = some d → I k acc s → ∀ K : List D → S → Prop, (∀ acc' s', I (k + 1) acc' s' → K acc' s') → g d { s with v := puts s.v own .gone } fun s1 => t s1 fun c s2 =>
      if c = true then e s2 fun x s3 => frz x fun y => acc.length < LINE ∧ K (acc ++ [y]) s3 else K acc s2) → (∀ acc s, I ds.length acc s → Q acc s) → compL own g t e ds acc s Q
  | [], acc, s, I, h, _, he => he acc s h
  | d :: r, acc, s, I, h, hb, he => hb 0 d acc s rfl h (fun acc2 s2 => compL own g t e r acc2 s2 Q) fun acc2 s2 h2 => compL_ix r acc2 s2 (fun k => I (k + 1)) h2 (fun k d acc s e h K q => hb (k + 1) d acc s e h K q) he
/-- a comprehension without a condition: a map -/
theorem compL_f {own : List Nat} {g : Gt} {e : M} {Q : List D → S → Prop} {s : S} (ds : List D) (f : D → D) (J : S → Prop) (hJ : J s) (hl : ds.length ≤ LINE)
    (h : ∀ d s, d ∈ ds → J s → ∀ (C : Prop) (K : D → S → Prop), C → (∀ s', J s' → K (f d) s') → g d { s with v := puts s.v own .gone } fun s1 => e s1 fun x s3 => frz x fun y => C ∧ K y s3) (he : ∀ s', J s' → Q (ds.map f) s') : compL own g tYes e ds [] s Q := by
  refine compL_ix ds [] s (fun k acc s => acc = (ds.take k).map f ∧ J s) ⟨by simp, hJ⟩ ?_ ?_
  · rintro k d acc s hd ⟨rfl, hj⟩ K hK
    have hk : k < ds.length := (List.getElem?_eq_some_iff.mp hd).1
    have hde := (List.getElem?_eq_some_iff.mp hd).2
    refine h d s (List.mem_of_getElem? hd) hj (((ds.take k).map f).length < LINE) (fun y s3 => K ((ds.take k).map f ++ [y]) s3) (by simp only [List.length_map, List.length_take]; omega) fun s' hj' => hK _ _ ⟨?_, hj'⟩
    rw [← hde, List.take_succ_eq_append_getElem hk, List.map_append]
    rfl
  · rintro acc s' ⟨rfl, hj⟩
    rw [List.take_length]
    exact he s' hj
theorem cut_from {α : Type} (xs : List α) (p : Nat) : cut xs (some (p : Int)) none = xs.drop p := by
  unfold cut sIx
  simp only [if_neg (show ¬ ((p : Int) < 0) by omega), Int.toNat_natCast]
  rw [List.take_of_length_le (by rw [List.length_drop]; omega)]
  rcases Nat.le_total p xs.length with h | h
  · rw [Nat.min_eq_left h]
  · rw [Nat.min_eq_right h, List.drop_length, List.drop_of_length_le h]
theorem cut_to {α : Type} (xs : List α) (p : Nat) : cut xs none (some (p : Int)) = xs.take p := by
  unfold cut sIx
  simp only [if_neg (show ¬ ((p : Int) < 0) by omega), Int.toNat_natCast, List.drop_zero, Nat.sub_zero]
  rcases Nat.le_total p xs.length with h | h
  · rw [Nat.min_eq_left h]
  · rw [Nat.min_eq_right h, List.take_length, List.take_of_length_le h]
theorem cut_1 {α : Type} (xs : List α) : cut xs (some 1) none = xs.drop 1 := cut_from xs 1
theorem map_eraseIdx {α β : Type} (f : α → β) : ∀ (xs : List α) (i : Nat), (xs.map f).eraseIdx i = (xs.eraseIdx i).map f
  | [], _ => rfl
  | _ :: _, 0 => rfl
  | x :: r, i + 1 => congrArg (f x :: ·) (map_eraseIdx f r i)
theorem pop_perm {α : Type} : ∀ (xs : List α) (i : Nat) (h : i < xs.length), ((xs[i]) :: xs.eraseIdx i).Perm xs
  | _ :: _, 0, _ => .refl _
  | x :: r, i + 1, h => .trans (.swap _ _ _) ((pop_perm r i (Nat.lt_of_succ_lt_succ h)).cons x)
theorem atI_range {n : Nat} {i : Int} (h0 : 0 ≤ i) (h1 : i < n) : atI (List.range n) i = some i.toNat := by
  rw [atI_of h0 (by rw [List.length_range]; exact h1), List.getElem_range]
/-- a cut between two statements -/
theorem seq_cut {a b : MS} {s : S} {O : Outs} (I : S → Prop) (h1 : ∀ K : S → Prop, (∀ s', I s' → K s') → a s { nx := K, rt := O.rt, bk := O.bk, ct := O.ct }) (h2 : ∀ s', I s' → b s' O) : sSeq a b s O := h1 _ h2
/-- a loop whose list is told apart -/
theorem for_cut {src : Src} {g : Gt} {body : MS} {s : S} {O : Outs} (J : List D → S → Prop) (h1 : ∀ K : List D → S → Prop, (∀ ds s', J ds s' → K ds s') → src s K) (h2 : ∀ ds s', J ds s' → forL g body ds s' O) : sFor src g body s O := h1 _ h2
/-- a loop over a range that starts at nought -/
theorem for_r1 {m : M} {g : Gt} {body : MS} {s : S} {O : Outs} (n : Nat) (I : Nat → S → Prop) (s0 : S) (hm : ∀ K : R → S → Prop, K (.val (.int n)) s0 → m s K) (hn : n < 4611686018427387904) (h0 : I 0 s0)
    (h : ∀ k s, k < n → I k s → ∀ K : S → Prop, (∀ s', I (k + 1) s' → K s') → g (.int k) s fun s1 => body s1 { nx := K, ct := K, bk := O.nx, rt := O.rt }) (he : ∀ s, I n s → O.nx s) : sFor (srcR1 m) g body s O := by
  refine hm _ ?_
  show (-(2 ^ 62) ≤ (n : Int) ∧ (n : Int) < 2 ^ 62) ∧ forL g body (ran 0 (n : Int).toNat) s0 O
  rw [Int.toNat_natCast]
  refine ⟨by omega, forL_ran I s0 h0 (fun k s hk hI K hK => ?_) he⟩
  rw [Int.zero_add]
  exact h k s hk hI K hK
/-- a list display whose elements are all of one kind -/
def AllMs (P : D → Prop) (J : S → Prop) (n : Nat) (es : Ms) : Prop := ∀ s, J s → ∀ K : List D → S → Prop, (∀ ds s', ds.length = n → (∀ d, d ∈ ds → P d) → J s' → K ds s') → es s K
theorem allN {P : D → Prop} {J : S → Prop} : AllMs P J 0 msN := fun s hj K hK => hK [] s rfl (fun d hd => absurd hd (List.not_mem_nil)) hj
theorem allC {P : D → Prop} {J : S → Prop} {a : DL.M} {r : Ms} {n : Nat} (ha : ∀ s, J s → ∀ K : R → S → Prop, (∀ d s', P d → J s' → K (.val d) s') → a s K) (hr : AllMs P J n r) : AllMs P J (n + 1) (msC a r) := fun s hj K hK =>
  ha s hj _ fun d s' hp hj' => hr s' hj' _ fun ds s2 hl hds hj2 => hK (d :: ds) s2 (congrArg (· + 1) hl) (fun x hx => by
    rcases List.mem_cons.mp hx with h | h
    · rw [h]; exact hp
    · exact hds x h) hj2
theorem allK {P : D → Prop} {J : S → Prop} {d : D} {r : Ms} {n : Nat} (h : P d) (hr : AllMs P J n r) : AllMs P J (n + 1) (msC (mC d) r) := allC (fun s hj K hK => hK d s h hj) hr
theorem allG {P : D → Prop} {J : S → Prop} {i : Int} {r : Ms} {n : Nat} (h : P (.int (-i))) (hr : AllMs P J n r) : AllMs P J (n + 1) (msC (mUn dNeg (mC (.int i))) r) := allC (fun s hj K hK => hK _ s h hj) hr
theorem for_list {es : Ms} {g : Gt} {body : MS} {s : S} {O : Outs} {n : Nat} {P : D → Prop} {J : S → Prop} (hall : AllMs P J n es) (hn : n ≤ LINE) (hj : J s) (h : ∀ ds s', ds.length = n → (∀ d, d ∈ ds → P d) → J s' → forL g body ds s' O) : sFor (srcV (mList es)) g body s O :=
  hall s hj _ fun ds s' hl hds hj' => ⟨by rw [hl]; exact hn, h ds s' hl hds hj'⟩
/-- x = [..] -/
theorem set_all {es : Ms} {i : Nat} {s : S} {O : Outs} {n : Nat} {P : D → Prop} {J : S → Prop} (hall : AllMs P J n es) (hn : n ≤ LINE) (hj : J s) (h : ∀ ds s', ds.length = n → (∀ d, d ∈ ds → P d) → J s' → O.nx { s' with v := put s'.v i (.own ds) }) : sSet i (mList es) s O :=
  hall s hj _ fun ds s' hl hd hj' => ⟨by omega, h ds s' hl hd hj'⟩
/-- x + [..] -/
theorem cat_all {es : Ms} {j : Nat} {ds0 : List D} {s : S} {Q : R → S → Prop} {n : Nat} {P : D → Prop} {J : S → Prop} (hg : get s.v j = .own ds0) (hall : AllMs P J n es) (hj : J s) (hn : ds0.length + n ≤ LINE) (h : ∀ ds s', ds.length = n → (∀ d, d ∈ ds → P d) → J s' → Q (.own (ds0 ++ ds)) s') : mBin dAdd (mVar j) (mList es) s Q := by
  show mVar j s _
  unfold mVar
  rw [hg]
  refine hall s hj _ fun ds s' hl hd hj' => ⟨by omega, ?_⟩
  show dAdd (.list ds0) (.list ds) _
  exact ⟨by omega, h ds s' hl hd hj'⟩
theorem while_of {c : T} {body : MS} {s : S} {O : Outs} (I : Nat → S → Prop) (m : Nat) (h0 : I m s) (h : ∀ m s, I m s → ∀ K : S → Prop, (∀ m' s', m' < m → I m' s' → K s') → c s fun t s1 => if t = true then body s1 { nx := K, ct := K, bk := O.nx, rt := O.rt } else O.nx s1) : sWhile c body s O :=
  ⟨I, ⟨m, h0⟩, fun m s hI => h m s hI _ fun m' s' a b => ⟨m', a, b⟩⟩
theorem at0 {α : Type} (a : α) (r : List α) : atI (a :: r) 0 = some a := by
  unfold atI ixN
  rw [if_pos (by decide), if_pos (by simp only [List.length_cons]; omega)]
  rfl
theorem at1 {α : Type} (a b : α) (r : List α) : atI (a :: b :: r) 1 = some b := by
  unfold atI ixN
  rw [if_pos (by decide), if_pos (by simp only [List.length_cons]; omega)]
  rfl
theorem at2 {α : Type} (a b c : α) (r : List α) : atI (a :: b :: c :: r) 2 = some c := by
  unfold atI ixN
  rw [if_pos (by decide), if_pos (by simp only [List.length_cons]; omega)]
  rfl
theorem at3 {α : Type} (a b c d : α) (r : List α) : atI (a :: b :: c :: d :: r) 3 = some d := by
  unfold atI ixN
  rw [if_pos (by decide), if_pos (by simp only [List.length_cons]; omega)]
  rfl
theorem at_end {α : Type} (xs : List α) (a : α) : atI (xs ++ [a]) (-1) = some a := by
  unfold atI ixN
  rw [if_neg (by decide), if_pos (by simp only [List.length_append, List.length_cons, List.length_nil]; omega)]
  simp only [Option.bind_some, List.length_append, List.length_cons, List.length_nil]
  rw [show (-1 + ((xs.length + (0 + 1) : Nat) : Int)).toNat = xs.length by omega]
  simp
end DL
namespace DL
theorem mapInt_inj {a b : List Int} : (a.map D.int = b.map D.int) = (a = b) := by
  apply propext
  constructor
  · intro h
    induction a generalizing b with
    | nil => cases b with
      | nil => rfl
      | cons y r => cases h
    | cons x r ih => cases b with
      | nil => cases h
      | cons y r' =>
        simp only [List.map_cons, List.cons.injEq, D.int.injEq] at h
        rw [h.1, ih h.2]
  · rintro rfl
    rfl
abbrev dP (p : Int × Int) : D := .tup [.int p.1, .int p.2]
end DL

/-! DLEq: == of data. -/
namespace DL
mutual
theorem eqD_refl : ∀ d : D, eqD d d = true
  | .none => eqD_none_none
  | .bool b => by rw [eqD_bool_bool]; exact beq_self_eq_true b
  | .int i => by rw [eqD_int_int]; exact beq_self_eq_true i
  | .str s => by rw [eqD_str_str]; exact beq_self_eq_true s
  | .list ds => by rw [eqD_list_list]; exact eqDs_refl ds
  | .tup ds => by rw [eqD_tup_tup]; exact eqDs_refl ds
theorem eqDs_refl : ∀ ds : List D, eqDs ds ds = true
  | [] => eqDs_nn
  | d :: r => by rw [eqDs_cc, eqD_refl d, eqDs_refl r]; rfl
end
theorem eqDs_map {α : Type} [DecidableEq α] (f : α → D) (hf : ∀ x y, eqD (f x) (f y) = decide (x = y)) : ∀ a b : List α, eqDs (a.map f) (b.map f) = decide (a = b)
  | [], [] => by rw [List.map_nil, eqDs_nn]; rfl
  | [], y :: b => by rw [List.map_nil, List.map_cons, eqDs_nc]; rfl
  | x :: a, [] => by rw [List.map_nil, List.map_cons, eqDs_cn]; rfl
  | x :: a, y :: b => by
    rw [List.map_cons, List.map_cons, eqDs_cc, hf, eqDs_map f hf a b, Bool.eq_iff_iff]
    simp
theorem eqDs_ints (a b : List Int) : eqDs (a.map D.int) (b.map D.int) = decide (a = b) := eqDs_map D.int (fun x y => by rw [eqD_int_int]; rfl) a b
theorem eqDs_strs (a b : List (List Nat)) : eqDs (a.map D.str) (b.map D.str) = decide (a = b) := eqDs_map D.str (fun x y => by rw [eqD_str_str, Bool.eq_iff_iff]; simp) a b
end DL

/-! LandM: words of signs, their triangles, the pairs at the corners. Plain mathematics. -/
namespace LandM
/-- the sign at place t, round -/
def sg (l : List Nat) (t : Int) : Nat := l.getD (t % (l.length : Int)).toNat 0
/-- 1 at an o -/
def io (l : List Nat) (t : Int) : Int := if sg l t = 111 then 1 else 0
def cF (l : List Nat) : Nat → Int
  | 0 => 0
  | k + 1 => cF l k + io l k
def cB (l : List Nat) : Nat → Int
  | 0 => 0
  | k + 1 => cB l k - io l (-1 - k)
/-- the outer corner behind t triangles -/
def out (l : List Nat) (t : Int) : Int := if 0 ≤ t then cF l t.toNat else cB l (-t).toNat
def inn (l : List Nat) (t : Int) : Int := t - out l t
theorem io01 (l : List Nat) (t : Int) : io l t = 0 ∨ io l t = 1 := by
  unfold io
  split <;> simp
theorem out_zero (l : List Nat) : out l 0 = 0 := rfl
theorem out_succ (l : List Nat) (t : Int) : out l (t + 1) = out l t + io l t := by
  unfold out
  by_cases h : 0 ≤ t
  · rw [if_pos h, if_pos (by omega)]
    have e : (t + 1).toNat = t.toNat + 1 := by omega
    rw [e]
    show cF l t.toNat + io l (t.toNat : Int) = _
    rw [show ((t.toNat : Nat) : Int) = t by omega]
  · rw [if_neg h]
    obtain ⟨k, rfl⟩ : ∃ k : Nat, t = -((k : Int) + 1) := ⟨(-t - 1).toNat, by omega⟩
    have e1 : (-(-((k : Int) + 1))).toNat = k + 1 := by omega
    rw [e1]
    show _ = cB l k - io l (-1 - (k : Int)) + io l (-((k : Int) + 1))
    rw [show (-1 - (k : Int)) = -((k : Int) + 1) by omega]
    by_cases h2 : 0 ≤ -((k : Int) + 1) + 1
    · rw [if_pos h2]
      have : k = 0 := by omega
      subst this
      show (0 : Int) = 0 - _ + _
      omega
    · rw [if_neg h2]
      rw [show (-(-((k : Int) + 1) + 1)).toNat = k by omega]
      omega
theorem inn_succ (l : List Nat) (t : Int) : inn l (t + 1) = inn l t + (1 - io l t) := by
  unfold inn
  rw [out_succ]
  omega
/-- two pairs: that of the outer and that of the inner corner -/
structure Mt where
  a : Int
  b : Int
  c : Int
  d : Int
def Mt.P (m : Mt) : Int × Int := (m.a, m.b)
def Mt.Q (m : Mt) : Int × Int := (m.c, m.d)
def one : Mt := ⟨1, 0, 0, 1⟩
def step (o : Int) (m : Mt) : Mt := if o = 1 then ⟨m.a + m.c, m.b + m.d, m.c, m.d⟩ else ⟨m.a, m.b, m.c + m.a, m.d + m.b⟩
def unstep (o : Int) (m : Mt) : Mt := if o = 1 then ⟨m.a - m.c, m.b - m.d, m.c, m.d⟩ else ⟨m.a, m.b, m.c - m.a, m.d - m.b⟩
theorem step_un (o : Int) (m : Mt) : step o (unstep o m) = m := by
  unfold step unstep
  by_cases h : o = 1
  · rw [if_pos h, if_pos h]
    cases m
    simp
  · rw [if_neg h, if_neg h]
    cases m
    simp
theorem un_step (o : Int) (m : Mt) : unstep o (step o m) = m := by
  unfold step unstep
  by_cases h : o = 1
  · rw [if_pos h, if_pos h]
    cases m
    simp
  · rw [if_neg h, if_neg h]
    cases m
    simp
def Mf (l : List Nat) : Nat → Mt
  | 0 => one
  | k + 1 => step (io l k) (Mf l k)
def Mb (l : List Nat) : Nat → Mt
  | 0 => one
  | k + 1 => unstep (io l (-1 - k)) (Mb l k)
def M (l : List Nat) (t : Int) : Mt := if 0 ≤ t then Mf l t.toNat else Mb l (-t).toNat
theorem M_zero (l : List Nat) : M l 0 = one := rfl
theorem M_succ (l : List Nat) (t : Int) : M l (t + 1) = step (io l t) (M l t) := by
  unfold M
  by_cases h : 0 ≤ t
  · rw [if_pos h, if_pos (by omega)]
    have e : (t + 1).toNat = t.toNat + 1 := by omega
    rw [e]
    show step (io l (t.toNat : Int)) _ = _
    rw [show ((t.toNat : Nat) : Int) = t by omega]
  · rw [if_neg h]
    obtain ⟨k, rfl⟩ : ∃ k : Nat, t = -((k : Int) + 1) := ⟨(-t - 1).toNat, by omega⟩
    have e1 : (-(-((k : Int) + 1))).toNat = k + 1 := by omega
    rw [e1]
    show _ = step (io l (-((k : Int) + 1))) (unstep (io l (-1 - (k : Int))) (Mb l k))
    rw [show (-1 - (k : Int)) = -((k : Int) + 1) by omega, step_un]
    by_cases h2 : 0 ≤ -((k : Int) + 1) + 1
    · rw [if_pos h2]
      have : k = 0 := by omega
      subst this
      rfl
    · rw [if_neg h2]
      rw [show (-(-((k : Int) + 1) + 1)).toNat = k by omega]
theorem M_pred (l : List Nat) (t : Int) : M l (t - 1) = unstep (io l (t - 1)) (M l t) := by
  have h := M_succ l (t - 1)
  rw [show t - 1 + 1 = t by omega] at h
  rw [h, un_step]
theorem out_pred (l : List Nat) (t : Int) : out l (t - 1) = out l t - io l (t - 1) := by
  have h := out_succ l (t - 1)
  rw [show t - 1 + 1 = t by omega] at h
  omega
/-- the product of two pairs, crosswise -/
def det (p q : Int × Int) : Int := p.1 * q.2 - p.2 * q.1
theorem det_step (o : Int) (m : Mt) : det (step o m).P (step o m).Q = det m.P m.Q := by
  unfold step det Mt.P Mt.Q
  by_cases h : o = 1
  · rw [if_pos h]
    simp only []
    rw [Int.add_mul, Int.add_mul]
    have := Int.mul_comm m.c m.d
    omega
  · rw [if_neg h]
    simp only []
    rw [Int.mul_add, Int.mul_add]
    have := Int.mul_comm m.a m.b
    omega
theorem int_ind {p : Int → Prop} (h0 : p 0) (hs : ∀ t, p t → p (t + 1)) (hp : ∀ t, p t → p (t - 1)) (t : Int) : p t := by
  have hf : ∀ k : Nat, p k := fun k => by
    induction k with
    | zero => exact h0
    | succ k ih => exact hs _ ih
  have hb : ∀ k : Nat, p (-(k : Int)) := fun k => by
    induction k with
    | zero => exact h0
    | succ k ih =>
      have := hp _ ih
      rw [show -((k + 1 : Nat) : Int) = -(k : Int) - 1 by omega]
      exact this
  by_cases h : 0 ≤ t
  · have := hf t.toNat
    rwa [show ((t.toNat : Nat) : Int) = t by omega] at this
  · have := hb (-t).toNat
    rwa [show -(((-t).toNat : Nat) : Int) = t by omega] at this
theorem det_M (l : List Nat) : ∀ t : Int, det (M l t).P (M l t).Q = 1 := by
  apply int_ind
  · rfl
  · intro t h
    rw [M_succ, det_step]
    exact h
  · intro t h
    have q := det_step (io l (t - 1)) (M l (t - 1))
    rw [← M_succ, show t - 1 + 1 = t by omega] at q
    rw [← q]
    exact h
/-! ### monotone counts -/
theorem out_mono (l : List Nat) (t : Int) (k : Nat) : out l t ≤ out l (t + k) ∧ inn l t ≤ inn l (t + k) := by
  induction k with
  | zero => simp
  | succ k ih =>
    have h1 := out_succ l (t + k)
    have h2 := inn_succ l (t + k)
    have h3 := io01 l (t + k)
    rw [show t + (k : Int) + 1 = t + ((k + 1 : Nat) : Int) by omega] at h1 h2
    omega
theorem out_le (l : List Nat) {t u : Int} (h : t ≤ u) : out l t ≤ out l u := by
  have := (out_mono l t (u - t).toNat).1
  rwa [show t + (((u - t).toNat : Nat) : Int) = u by omega] at this
theorem inn_le (l : List Nat) {t u : Int} (h : t ≤ u) : inn l t ≤ inn l u := by
  have := (out_mono l t (u - t).toNat).2
  rwa [show t + (((u - t).toNat : Nat) : Int) = u by omega] at this
/-- where the outer corner is the same, so is its pair -/
theorem P_same_up (l : List Nat) (t : Int) (k : Nat) (h : out l (t + k) = out l t) : (M l (t + k)).P = (M l t).P := by
  induction k with
  | zero => simp
  | succ k ih =>
    have h1 := out_succ l (t + k)
    have h2 := (out_mono l t k).1
    have h3 := io01 l (t + k)
    have e : t + (k : Int) + 1 = t + ((k + 1 : Nat) : Int) := by omega
    rw [e] at h1
    have h4 : io l (t + k) = 0 := by omega
    rw [← e, M_succ, h4]
    have := ih (by omega)
    rw [← this]
    rfl
theorem P_same (l : List Nat) {t u : Int} (h : out l t = out l u) : (M l t).P = (M l u).P := by
  rcases Int.le_total t u with z | z
  · have := P_same_up l t (u - t).toNat (by rw [show t + (((u - t).toNat : Nat) : Int) = u by omega]; exact h.symm)
    rw [show t + (((u - t).toNat : Nat) : Int) = u by omega] at this
    exact this.symm
  · have := P_same_up l u (t - u).toNat (by rw [show u + (((t - u).toNat : Nat) : Int) = t by omega]; exact h)
    rw [show u + (((t - u).toNat : Nat) : Int) = t by omega] at this
    exact this
theorem Q_same_up (l : List Nat) (t : Int) (k : Nat) (h : inn l (t + k) = inn l t) : (M l (t + k)).Q = (M l t).Q := by
  induction k with
  | zero => simp
  | succ k ih =>
    have h1 := inn_succ l (t + k)
    have h2 := (out_mono l t k).2
    have h3 := io01 l (t + k)
    have e : t + (k : Int) + 1 = t + ((k + 1 : Nat) : Int) := by omega
    rw [e] at h1
    have h4 : io l (t + k) = 1 := by omega
    rw [← e, M_succ, h4]
    have := ih (by omega)
    rw [← this]
    rfl
theorem Q_same (l : List Nat) {t u : Int} (h : inn l t = inn l u) : (M l t).Q = (M l u).Q := by
  rcases Int.le_total t u with z | z
  · have := Q_same_up l t (u - t).toNat (by rw [show t + (((u - t).toNat : Nat) : Int) = u by omega]; exact h.symm)
    rw [show t + (((u - t).toNat : Nat) : Int) = u by omega] at this
    exact this.symm
  · have := Q_same_up l u (t - u).toNat (by rw [show u + (((t - u).toNat : Nat) : Int) = t by omega]; exact h)
    rw [show u + (((t - u).toNat : Nat) : Int) = t by omega] at this
    exact this
/-! ### between two times: the numbers of what one pair is of the earlier ones -/
/-- behind k more triangles the pairs are sums of the pairs at t: m tells how often -/
def lin (m : Mt) (n : Mt) : Prop := True
/-- m, as a table over the pairs at hand -/
def times (m w : Mt) : Mt := ⟨m.a * w.a + m.b * w.c, m.a * w.b + m.b * w.d, m.c * w.a + m.d * w.c, m.c * w.b + m.d * w.d⟩
theorem step_times (o : Int) (m w : Mt) : step o (times m w) = times (step o m) w := by
  unfold step times
  by_cases h : o = 1
  · rw [if_pos h, if_pos h]
    simp only [Mt.mk.injEq, Int.add_mul]
    refine ⟨by omega, by omega, trivial, trivial⟩
  · rw [if_neg h, if_neg h]
    simp only [Mt.mk.injEq, Int.add_mul]
    refine ⟨trivial, trivial, by omega, by omega⟩
theorem one_times (w : Mt) : times one w = w := by
  unfold times one
  cases w
  simp
/-- the table of the k signs from t on -/
def seg (l : List Nat) (t : Int) : Nat → Mt
  | 0 => one
  | k + 1 => step (io l (t + k)) (seg l t k)
theorem M_seg (l : List Nat) (t : Int) (k : Nat) : M l (t + k) = times (seg l t k) (M l t) := by
  induction k with
  | zero => simp [seg, one_times]
  | succ k ih =>
    rw [show t + ((k + 1 : Nat) : Int) = t + k + 1 by omega, M_succ, ih, step_times]
    rfl
/-- signs: d is 1 just if no i stands behind an o, a is 1 just if no o stands behind an i -/
theorem seg_pos (l : List Nat) (t : Int) (k : Nat) : 1 ≤ (seg l t k).a ∧ 0 ≤ (seg l t k).b ∧ 0 ≤ (seg l t k).c ∧ 1 ≤ (seg l t k).d ∧
    ((seg l t k).b = 0 → out l (t + k) = out l t) ∧ ((seg l t k).c = 0 → inn l (t + k) = inn l t) ∧
    ((seg l t k).d = 1 → ∃ u, t ≤ u ∧ u ≤ t + k ∧ out l u = out l t ∧ inn l u = inn l (t + k)) ∧ ((seg l t k).a = 1 → ∃ u, t ≤ u ∧ u ≤ t + k ∧ out l u = out l (t + k) ∧ inn l u = inn l t) := by
  induction k with
  | zero => exact ⟨by show (1 : Int) ≤ 1; decide, by show (0 : Int) ≤ 0; decide, by show (0 : Int) ≤ 0; decide, by show (1 : Int) ≤ 1; decide, fun _ => by simp, fun _ => by simp, fun _ => ⟨t, by omega, by omega, rfl, by simp⟩, fun _ => ⟨t, by omega, by omega, by simp, rfl⟩⟩
  | succ k ih =>
    obtain ⟨h1, h2, h3, h4, h5, h6, h7, h8⟩ := ih
    have o1 := out_succ l (t + k)
    have i1 := inn_succ l (t + k)
    have e : t + ((k + 1 : Nat) : Int) = t + k + 1 := by omega
    rw [e]
    show 1 ≤ (step (io l (t + k)) (seg l t k)).a ∧ 0 ≤ (step (io l (t + k)) (seg l t k)).b ∧ 0 ≤ (step (io l (t + k)) (seg l t k)).c ∧ 1 ≤ (step (io l (t + k)) (seg l t k)).d ∧
      ((step (io l (t + k)) (seg l t k)).b = 0 → _) ∧ ((step (io l (t + k)) (seg l t k)).c = 0 → _) ∧ ((step (io l (t + k)) (seg l t k)).d = 1 → _) ∧ ((step (io l (t + k)) (seg l t k)).a = 1 → _)
    rcases io01 l (t + k) with z | z
    · rw [z] at o1 i1 ⊢
      unfold step
      rw [if_neg (by decide)]
      refine ⟨h1, h2, by show 0 ≤ (seg l t k).c + (seg l t k).a; omega, by show 1 ≤ (seg l t k).d + (seg l t k).b; omega, fun q => by rw [o1]; have := h5 q; omega, fun q => ?_, fun q => ?_, fun q => ?_⟩
      · have q : (seg l t k).c + (seg l t k).a = 0 := q
        omega
      · have q : (seg l t k).d + (seg l t k).b = 1 := q
        have b0 : (seg l t k).b = 0 := by omega
        exact ⟨t + k + 1, by omega, by omega, by have := h5 b0; omega, rfl⟩
      · obtain ⟨u, u1, u2, u3, u4⟩ := h8 q
        exact ⟨u, u1, by omega, by omega, u4⟩
    · rw [z] at o1 i1 ⊢
      unfold step
      rw [if_pos rfl]
      refine ⟨by show 1 ≤ (seg l t k).a + (seg l t k).c; omega, by show 0 ≤ (seg l t k).b + (seg l t k).d; omega, h3, h4, fun q => ?_, fun q => by rw [i1]; have := h6 q; omega, fun q => ?_, fun q => ?_⟩
      · have q : (seg l t k).b + (seg l t k).d = 0 := q
        omega
      · obtain ⟨u, u1, u2, u3, u4⟩ := h7 q
        exact ⟨u, u1, by omega, u3, by omega⟩
      · have q : (seg l t k).a + (seg l t k).c = 1 := q
        have c0 : (seg l t k).c = 0 := by omega
        exact ⟨t + k + 1, by omega, by omega, rfl, by have := h6 c0; omega⟩
theorem det_lin (m w : Mt) : det w.P (times m w).Q = m.d * det w.P w.Q ∧ det (times m w).P w.Q = m.a * det w.P w.Q ∧ det w.P (times m w).P = m.b * det w.P w.Q := by
  unfold det times Mt.P Mt.Q
  refine ⟨by grind, by grind, by grind⟩
/-- THE NUMBER OF A CORD is above 0, and 1 just where the corners stand at one time -/
theorem cord_pos (l : List Nat) (t u : Int) : 1 ≤ det (M l t).P (M l u).Q ∧ (det (M l t).P (M l u).Q = 1 ↔ ∃ v, out l v = out l t ∧ inn l v = inn l u) := by
  have conv : (∃ v, out l v = out l t ∧ inn l v = inn l u) → det (M l t).P (M l u).Q = 1 := fun ⟨v, h1, h2⟩ => by
    rw [← P_same l h1, ← Q_same l h2]
    exact det_M l v
  rcases Int.le_total t u with z | z
  · have hs := M_seg l t (u - t).toNat
    have hp := seg_pos l t (u - t).toNat
    rw [show t + (((u - t).toNat : Nat) : Int) = u by omega] at hs hp
    have hd := (det_lin (seg l t (u - t).toNat) (M l t)).1
    rw [← hs, det_M, Int.mul_one] at hd
    rw [hd]
    refine ⟨hp.2.2.2.1, fun q => ?_, fun q => ?_⟩
    · obtain ⟨v, _, _, v3, v4⟩ := hp.2.2.2.2.2.2.1 q
      exact ⟨v, v3, v4⟩
    · rw [← hd]; exact conv q
  · have hs := M_seg l u (t - u).toNat
    have hp := seg_pos l u (t - u).toNat
    rw [show u + (((t - u).toNat : Nat) : Int) = t by omega] at hs hp
    have hd := (det_lin (seg l u (t - u).toNat) (M l u)).2.1
    rw [← hs, det_M, Int.mul_one] at hd
    rw [hd]
    refine ⟨hp.1, fun q => ?_, fun q => ?_⟩
    · obtain ⟨v, _, _, v3, v4⟩ := hp.2.2.2.2.2.2.2 q
      exact ⟨v, v3, v4⟩
    · rw [← hd]; exact conv q
end LandM

/-! LandN: the corners' pairs by number; rims. -/
namespace LandM
structure Word (l : List Nat) : Prop where
  all : ∀ x ∈ l, x = 111 ∨ x = 105
  o : 111 ∈ l
  i : 105 ∈ l
theorem Word.ne {l : List Nat} (w : Word l) : 0 < l.length := by
  have := w.o
  cases l with
  | nil => cases this
  | cons a r => exact Nat.succ_pos _
theorem sg_nat {l : List Nat} {k : Nat} (h : k < l.length) : sg l (k : Int) = l[k] := by
  unfold sg
  rw [Int.emod_eq_of_lt (by omega) (by omega), Int.toNat_natCast, List.getD_eq_getElem?_getD, List.getElem?_eq_getElem h]
  rfl
theorem sg_mod (l : List Nat) (t : Int) : sg l (t % l.length) = sg l t := by
  unfold sg
  rw [Int.emod_emod]
theorem sg_per (l : List Nat) (t q : Int) : sg l (t + q * l.length) = sg l t := by
  unfold sg
  rw [Int.add_mul_emod_self_right]
theorem sg_at {l : List Nat} (h : 0 < l.length) (t : Int) : DL.atI l (t % l.length) = some (sg l t) := by
  have h1 : 0 ≤ t % (l.length : Int) := Int.emod_nonneg _ (by omega)
  have h2 : t % (l.length : Int) < l.length := Int.emod_lt_of_pos _ (by omega)
  rw [DL.atI_of h1 h2]
  unfold sg
  rw [List.getD_eq_getElem?_getD, List.getElem?_eq_getElem (by omega)]
  rfl
theorem sg_mem {l : List Nat} (h : 0 < l.length) (t : Int) : sg l t ∈ l := by
  have h1 : 0 ≤ t % (l.length : Int) := Int.emod_nonneg _ (by omega)
  have h2 : t % (l.length : Int) < l.length := Int.emod_lt_of_pos _ (by omega)
  unfold sg
  rw [List.getD_eq_getElem?_getD, List.getElem?_eq_getElem (by omega)]
  exact List.getElem_mem _
theorem Word.sg {l : List Nat} (w : Word l) (t : Int) : sg l t = 111 ∨ sg l t = 105 := w.all _ (sg_mem w.ne t)
/-- how many of the sign s stand ahead -/
def cn (l : List Nat) (s : Nat) (t : Int) : Int := if s = 111 then out l t else inn l t
abbrev Sign (s : Nat) : Prop := s = 111 ∨ s = 105
theorem cn_zero (l : List Nat) (s : Nat) : cn l s 0 = 0 := by
  unfold cn inn
  rw [out_zero]
  split <;> rfl
theorem cn_succ {l : List Nat} (w : Word l) {s : Nat} (hs : Sign s) (t : Int) : cn l s (t + 1) = cn l s t + (if sg l t = s then 1 else 0) := by
  unfold cn
  rcases hs with rfl | rfl
  · rw [if_pos rfl, if_pos rfl, out_succ]
    rfl
  · rw [if_neg (by decide), if_neg (by decide), inn_succ]
    unfold io
    rcases w.sg t with h | h <;> rw [h] <;> simp
theorem cn_pred {l : List Nat} (w : Word l) {s : Nat} (hs : Sign s) (t : Int) : cn l s (t - 1) = cn l s t - (if sg l (t - 1) = s then 1 else 0) := by
  have := cn_succ w hs (t - 1)
  rw [show t - 1 + 1 = t by omega] at this
  omega
theorem cn_mono {l : List Nat} {s : Nat} (hs : Sign s) {t u : Int} (h : t ≤ u) : cn l s t ≤ cn l s u := by
  unfold cn
  split
  · exact out_le l h
  · exact inn_le l h
theorem cn_lt {l : List Nat} {s : Nat} (hs : Sign s) {t u : Int} (h : cn l s t < cn l s u) : t < u := by
  rcases Int.lt_or_le t u with z | z
  · exact z
  · have := cn_mono (l := l) hs z
    omega
theorem cn_add (l : List Nat) (t : Int) : cn l 111 t + cn l 105 t = t := by
  unfold cn inn
  rw [if_pos rfl, if_neg (by decide)]
  omega
/-- how many in all -/
def many (l : List Nat) (s : Nat) : Int := cn l s l.length
theorem cn_per1 {l : List Nat} (w : Word l) {s : Nat} (hs : Sign s) : ∀ t : Int, cn l s (t + l.length) = cn l s t + many l s := by
  apply int_ind
  · rw [cn_zero, Int.zero_add, Int.zero_add]
    rfl
  · intro t h
    have := sg_per l t 1
    rw [Int.one_mul] at this
    rw [show t + 1 + (l.length : Int) = t + l.length + 1 by omega, cn_succ w hs, cn_succ w hs, h, this]
    omega
  · intro t h
    have := sg_per l (t - 1) 1
    rw [Int.one_mul] at this
    rw [show t - 1 + (l.length : Int) = t + l.length - 1 by omega, cn_pred w hs, cn_pred w hs, h, show t + (l.length : Int) - 1 = t - 1 + l.length by omega, this]
    omega
theorem cn_per {l : List Nat} (w : Word l) {s : Nat} (hs : Sign s) (t : Int) : ∀ q : Int, cn l s (t + q * l.length) = cn l s t + q * many l s := by
  apply int_ind
  · simp
  · intro q h
    rw [Int.add_mul, Int.add_mul, Int.one_mul, Int.one_mul, ← Int.add_assoc, cn_per1 w hs, h]
    omega
  · intro q h
    have := cn_per1 w hs (t + (q - 1) * l.length)
    rw [Int.add_assoc, Int.sub_mul, Int.one_mul, show q * (l.length : Int) - l.length + l.length = q * l.length by omega, h] at this
    rw [Int.sub_mul, Int.sub_mul, Int.one_mul, Int.one_mul]
    omega
/-- the sign number j stands somewhere -/
theorem tm_nat {l : List Nat} (w : Word l) {s : Nat} (hs : Sign s) : ∀ (k : Nat) (j : Int), 0 ≤ j → j < cn l s k → ∃ t : Int, 0 ≤ t ∧ t < k ∧ cn l s t = j ∧ sg l t = s
  | 0, j, h0, h1 => by
    rw [show ((0 : Nat) : Int) = 0 by rfl, cn_zero] at h1
    omega
  | k + 1, j, h0, h1 => by
    by_cases h : j < cn l s k
    · obtain ⟨t, a, b, c⟩ := tm_nat w hs k j h0 h
      exact ⟨t, a, by omega, c⟩
    · have := cn_succ w hs (k : Int)
      rw [show ((k + 1 : Nat) : Int) = (k : Int) + 1 by omega] at h1
      by_cases hk : sg l (k : Int) = s
      · rw [if_pos hk] at this
        exact ⟨k, by omega, by omega, by omega, hk⟩
      · rw [if_neg hk] at this
        omega
theorem many_pos {l : List Nat} (w : Word l) {s : Nat} (hs : Sign s) : 1 ≤ many l s := by
  have hm : s ∈ l := by
    rcases hs with rfl | rfl
    · exact w.o
    · exact w.i
  obtain ⟨k, hk, e⟩ := List.getElem_of_mem hm
  have h1 := cn_succ w hs (k : Int)
  rw [sg_nat hk, e, if_pos rfl] at h1
  have h2 := cn_mono (l := l) hs (show (0 : Int) ≤ k by omega)
  rw [cn_zero] at h2
  have h3 := cn_mono (l := l) hs (show (k : Int) + 1 ≤ l.length by omega)
  unfold many
  omega
theorem many_le {l : List Nat} (s : Nat) : many l s ≤ l.length := by
  have h1 := cn_mono (l := l) (.inl rfl) (show (0 : Int) ≤ l.length by omega)
  have h2 := cn_mono (l := l) (.inr rfl) (show (0 : Int) ≤ l.length by omega)
  have h3 := cn_add l l.length
  rw [cn_zero] at h1 h2
  unfold many
  unfold cn at *
  split <;> simp_all <;> omega
theorem many_add (l : List Nat) : many l 111 + many l 105 = l.length := cn_add l l.length
theorem tm {l : List Nat} (w : Word l) {s : Nat} (hs : Sign s) (j : Int) : ∃ t : Int, cn l s t = j ∧ sg l t = s ∧ t.natAbs ≤ (j.natAbs + 1) * l.length := by
  have hp := many_pos w hs
  have h1 : 0 ≤ j % many l s := Int.emod_nonneg _ (by omega)
  have h2 : j % many l s < many l s := Int.emod_lt_of_pos _ (by omega)
  obtain ⟨t, a, b, c, d⟩ := tm_nat w hs l.length _ h1 h2
  have hd := Int.emod_add_mul_ediv j (many l s)
  refine ⟨t + (j / many l s) * l.length, ?_, ?_, ?_⟩
  · rw [cn_per w hs, c, Int.mul_comm]
    exact hd
  · rw [sg_per]
    exact d
  · have hq : (j / many l s).natAbs ≤ j.natAbs := by
      exact Int.natAbs_ediv_le_natAbs j (many l s)
    have h3 : (t + (j / many l s) * l.length).natAbs ≤ t.natAbs + (j / many l s).natAbs * l.length := by
      refine Nat.le_trans (Int.natAbs_add_le _ _) ?_
      rw [Int.natAbs_mul]
      exact Nat.le_refl _
    have h4 := Nat.mul_le_mul_right l.length hq
    rw [Nat.add_mul]
    omega
/-- the pair of one kind -/
def Mt.pr (m : Mt) (s : Nat) : Int × Int := if s = 111 then m.P else m.Q
theorem pr_same (l : List Nat) {s : Nat} {t u : Int} (h : cn l s t = cn l s u) : (M l t).pr s = (M l u).pr s := by
  unfold cn at h
  unfold Mt.pr
  split
  · rename_i e
    rw [if_pos e, if_pos e] at h
    exact P_same l h
  · rename_i e
    rw [if_neg e, if_neg e] at h
    exact Q_same l h
open Classical in
/-- the pair of corner j -/
noncomputable def pp (l : List Nat) (s : Nat) (j : Int) : Int × Int := if h : ∃ t, cn l s t = j then (M l (choose h)).pr s else (0, 0)
theorem pp_eq (l : List Nat) {s : Nat} {t j : Int} (h : cn l s t = j) : pp l s j = (M l t).pr s := by
  unfold pp
  have hx : ∃ t, cn l s t = j := ⟨t, h⟩
  rw [dif_pos hx]
  exact pr_same l ((Classical.choose_spec hx).trans h.symm)
theorem pp_cn (l : List Nat) (s : Nat) (t : Int) : pp l s (cn l s t) = (M l t).pr s := pp_eq l rfl
theorem pp_zero_o (l : List Nat) : pp l 111 0 = (1, 0) := by
  rw [pp_eq l (cn_zero l 111), M_zero]
  rfl
theorem pp_zero_i (l : List Nat) : pp l 105 0 = (0, 1) := by
  rw [pp_eq l (cn_zero l 105), M_zero]
  rfl
/-! ### the number of a cord -/
theorem num_pos {l : List Nat} (w : Word l) (i j : Int) : 1 ≤ det (pp l 111 i) (pp l 105 j) ∧ (det (pp l 111 i) (pp l 105 j) = 1 ↔ out l (i + j) = i ∧ inn l (i + j) = j) := by
  obtain ⟨t, ht, _⟩ := tm w (.inl rfl) i
  obtain ⟨u, hu, _⟩ := tm w (.inr rfl) j
  rw [pp_eq l ht, pp_eq l hu]
  have h := cord_pos l t u
  refine ⟨h.1, h.2.trans ⟨fun ⟨v, h1, h2⟩ => ?_, fun ⟨h1, h2⟩ => ⟨i + j, ?_, ?_⟩⟩⟩
  · have h3 := cn_add l v
    have ht : out l t = i := ht
    have hu : inn l u = j := hu
    have : v = i + j := by
      have h3 : out l v + inn l v = v := h3
      omega
    subst this
    exact ⟨h1.trans ht, h2.trans hu⟩
  · exact h1.trans ht.symm
  · exact h2.trans hu.symm
theorem unstep_times (o : Int) (m w : Mt) : unstep o (times m w) = times (unstep o m) w := by
  rw [← un_step o (times (unstep o m) w), step_times, step_un]
theorem io_per (l : List Nat) (t : Int) : io l (t + l.length) = io l t := by
  have := sg_per l t 1
  rw [Int.one_mul] at this
  unfold io
  rw [this]
theorem M_per (l : List Nat) : ∀ t : Int, M l (t + l.length) = times (M l t) (M l l.length) := by
  apply int_ind
  · rw [Int.zero_add, M_zero, one_times]
  · intro t h
    rw [show t + 1 + (l.length : Int) = t + l.length + 1 by omega, M_succ, M_succ, h, io_per, step_times]
  · intro t h
    rw [show t - 1 + (l.length : Int) = t + l.length - 1 by omega, M_pred, M_pred, h, show t + (l.length : Int) - 1 = t - 1 + l.length by omega, io_per, unstep_times]
theorem det_times (m m' w : Mt) : det (times m w).P (times m' w).Q = det m.P m'.Q * det w.P w.Q := by
  unfold det times Mt.P Mt.Q
  grind
theorem num_per {l : List Nat} (w : Word l) (i j : Int) : det (pp l 111 (i + many l 111)) (pp l 105 (j + many l 105)) = det (pp l 111 i) (pp l 105 j) := by
  obtain ⟨t, ht, _⟩ := tm w (.inl rfl) i
  obtain ⟨u, hu, _⟩ := tm w (.inr rfl) j
  rw [pp_eq l ht, pp_eq l hu, pp_eq l ((cn_per1 w (.inl rfl) t).trans (by rw [ht])), pp_eq l ((cn_per1 w (.inr rfl) u).trans (by rw [hu])), M_per, M_per]
  show det (times _ _).P (times _ _).Q = det (M l t).P (M l u).Q
  rw [det_times, det_M, Int.mul_one]
/-! ### rims -/
/-- r is the rim of the sign s: at the k-th of them stands two and what lies behind it up to the next -/
structure Rim (l : List Nat) (s : Nat) (r : List Int) : Prop where
  len : (r.length : Int) = many l s
  at_ : ∀ (k : Nat) (x : Int), r[k]? = some x → ∃ (t : Int) (m : Nat), cn l s t = k ∧ sg l t = s ∧ x = 2 + m ∧ (∀ i : Nat, i < m → sg l (t + 1 + i) ≠ s) ∧ sg l (t + 1 + m) = s
theorem run_o {l : List Nat} {t : Int} : ∀ m : Nat, (∀ i : Nat, i < m → sg l (t + i) ≠ 111) → M l (t + m) = ⟨(M l t).a, (M l t).b, (M l t).c + m * (M l t).a, (M l t).d + m * (M l t).b⟩
  | 0, _ => by simp
  | m + 1, h => by
    have ih := run_o m (fun i hi => h i (by omega))
    rw [show t + ((m + 1 : Nat) : Int) = t + m + 1 by omega, M_succ, ih]
    have hz : io l (t + m) = 0 := if_neg (h m (by omega))
    rw [hz]
    unfold step
    rw [if_neg (by decide)]
    simp only [Mt.mk.injEq, true_and, Int.natCast_add, Int.add_mul]
    omega
theorem run_i {l : List Nat} (w : Word l) {t : Int} : ∀ m : Nat, (∀ i : Nat, i < m → sg l (t + i) ≠ 105) → M l (t + m) = ⟨(M l t).a + m * (M l t).c, (M l t).b + m * (M l t).d, (M l t).c, (M l t).d⟩
  | 0, _ => by simp
  | m + 1, h => by
    have ih := run_i w m (fun i hi => h i (by omega))
    rw [show t + ((m + 1 : Nat) : Int) = t + m + 1 by omega, M_succ, ih]
    have hz : io l (t + m) = 1 := if_pos ((w.sg _).resolve_right (h m (by omega)))
    rw [hz]
    unfold step
    rw [if_pos rfl]
    simp only [Mt.mk.injEq, and_true, Int.natCast_add, Int.add_mul]
    omega
theorem rec_at {l : List Nat} (w : Word l) {s : Nat} (hs : Sign s) {t : Int} {m : Nat} (h1 : sg l t = s) (h2 : ∀ i : Nat, i < m → sg l (t + 1 + i) ≠ s) (h3 : sg l (t + 1 + m) = s) :
    cn l s (t + 1) = cn l s t + 1 ∧ cn l s (t + 1 + m + 1) = cn l s t + 2 ∧ ((M l (t + 1 + m + 1)).pr s).1 + ((M l t).pr s).1 = (2 + m) * ((M l (t + 1)).pr s).1 ∧ ((M l (t + 1 + m + 1)).pr s).2 + ((M l t).pr s).2 = (2 + m) * ((M l (t + 1)).pr s).2 := by
  have c1 : cn l s (t + 1) = cn l s t + 1 := by rw [cn_succ w hs, if_pos h1]
  have c2 : ∀ k : Nat, k ≤ m → cn l s (t + 1 + k) = cn l s (t + 1) := fun k => by
    induction k with
    | zero => intro _; simp
    | succ k ih =>
      intro hk
      rw [show t + 1 + ((k + 1 : Nat) : Int) = t + 1 + k + 1 by omega, cn_succ w hs, if_neg (h2 k (by omega)), ih (by omega)]
      omega
  refine ⟨c1, by rw [cn_succ w hs, if_pos h3, c2 m (Nat.le_refl m)]; omega, ?_⟩
  rcases hs with rfl | rfl
  · rw [M_succ l (t + 1 + m), run_o m h2, M_succ l t]
    have z1 : io l t = 1 := if_pos h1
    have z2 : io l (t + 1 + m) = 1 := if_pos h3
    rw [z1, z2]
    unfold step Mt.pr Mt.P
    simp only [if_true]
    constructor <;> grind
  · rw [M_succ l (t + 1 + m), run_i w m h2, M_succ l t]
    have z1 : io l t = 0 := if_neg (by rw [h1]; decide)
    have z2 : io l (t + 1 + m) = 0 := if_neg (by rw [h3]; decide)
    rw [z1, z2]
    unfold step Mt.pr Mt.Q
    simp only [if_false, show ¬ (0 : Int) = 1 by decide, show ¬ (105 : Nat) = 111 by decide]
    constructor <;> grind
/-- an entry of a rim: its index round, and what stands there -/
theorem Rim.get {l : List Nat} (w : Word l) {s : Nat} (hs : Sign s) {r : List Int} (R : Rim l s r) (j : Int) : ∃ x, DL.atI r (j % r.length) = some x ∧ 2 ≤ x ∧ x < 2 + l.length ∧
    ((pp l s (j + 2)).1 + (pp l s j).1 = x * (pp l s (j + 1)).1) ∧ ((pp l s (j + 2)).2 + (pp l s j).2 = x * (pp l s (j + 1)).2) := by
  have hp := many_pos w hs
  have hl := R.len
  have h1 : 0 ≤ j % (r.length : Int) := Int.emod_nonneg _ (by omega)
  have h2 : j % (r.length : Int) < r.length := Int.emod_lt_of_pos _ (by omega)
  have hd := Int.emod_add_mul_ediv j r.length
  obtain ⟨t, m, c1, c2, c3, c4, c5⟩ := R.at_ (j % (r.length : Int)).toNat _ (List.getElem?_eq_getElem (by omega))
  refine ⟨_, DL.atI_of h1 h2, ?_⟩
  rw [c3]
  have hm : m < l.length := by
    refine Nat.lt_of_not_le fun hn => ?_
    have := c4 (l.length - 1) (by have := w.ne; omega)
    rw [show t + 1 + ((l.length - 1 : Nat) : Int) = t + 1 * l.length by have := w.ne; omega, sg_per] at this
    exact this c2
  refine ⟨by omega, by omega, ?_⟩
  have e : ∀ i : Int, t + j / (r.length : Int) * l.length + i = t + i + j / (r.length : Int) * l.length := fun i => by omega
  have hr := rec_at w hs (t := t + j / (r.length : Int) * l.length) (m := m) (by rw [sg_per]; exact c2) (fun i hi => by rw [e, show t + 1 + j / (r.length : Int) * (l.length : Int) + i = t + 1 + i + j / (r.length : Int) * l.length by omega, sg_per]; exact c4 i hi)
    (by rw [e, show t + 1 + j / (r.length : Int) * (l.length : Int) + m = t + 1 + m + j / (r.length : Int) * l.length by omega, sg_per]; exact c5)
  have hc : cn l s (t + j / (r.length : Int) * l.length) = j := by
    rw [cn_per w hs, c1, ← hl, Int.mul_comm]
    omega
  rw [hc] at hr
  rw [pp_eq l hc, pp_eq l hr.1, pp_eq l hr.2.1]
  exact hr.2.2
/-- the first two -/
theorem first_o {l : List Nat} (w : Word l) {p : Nat} (h1 : sg l p = 111) (h2 : ∀ i : Nat, i < p → sg l i ≠ 111) : pp l 111 1 = (1 + (p : Int), 1) := by
  have hr := run_o (l := l) (t := 0) p (fun i hi => by rw [Int.zero_add]; exact h2 i hi)
  have hc : ∀ k : Nat, k ≤ p → cn l 111 k = 0 := fun k => by
    induction k with
    | zero => intro _; exact cn_zero l 111
    | succ k ih =>
      intro hk
      rw [show ((k + 1 : Nat) : Int) = (k : Int) + 1 by omega, cn_succ w (.inl rfl), if_neg (h2 k (by omega)), ih (by omega)]
      rfl
  rw [pp_eq l (t := (p : Int) + 1) (by rw [cn_succ w (.inl rfl), if_pos h1, hc p (Nat.le_refl p)]; rfl), M_succ]
  rw [Int.zero_add, M_zero] at hr
  rw [hr]
  have z1 : io l p = 1 := if_pos h1
  rw [z1]
  simp [step, one, Mt.pr, Mt.P]
theorem first_i {l : List Nat} (w : Word l) {p : Nat} (h1 : sg l p = 105) (h2 : ∀ i : Nat, i < p → sg l i ≠ 105) : pp l 105 1 = (1, 1 + (p : Int)) := by
  have hr := run_i w (l := l) (t := 0) p (fun i hi => by rw [Int.zero_add]; exact h2 i hi)
  have hc : ∀ k : Nat, k ≤ p → cn l 105 k = 0 := fun k => by
    induction k with
    | zero => intro _; exact cn_zero l 105
    | succ k ih =>
      intro hk
      rw [show ((k + 1 : Nat) : Int) = (k : Int) + 1 by omega, cn_succ w (.inr rfl), if_neg (h2 k (by omega)), ih (by omega)]
      rfl
  rw [pp_eq l (t := (p : Int) + 1) (by rw [cn_succ w (.inr rfl), if_pos h1, hc p (Nat.le_refl p)]; rfl), M_succ]
  rw [Int.zero_add, M_zero] at hr
  rw [hr]
  have z1 : io l p = 0 := if_neg (by rw [h1]; decide)
  rw [z1]
  simp [step, one, Mt.pr, Mt.Q]
/-- neighbours on one rim -/
theorem det_next {l : List Nat} (w : Word l) (j : Int) : det (pp l 111 j) (pp l 111 (j + 1)) = 1 := by
  obtain ⟨t, h1, h2, _⟩ := tm w (.inl rfl) j
  have hc : cn l 111 (t + 1) = j + 1 := by rw [cn_succ w (.inl rfl), if_pos h2, h1]
  rw [pp_eq l h1, pp_eq l hc, M_succ]
  have z1 : io l t = 1 := if_pos h2
  rw [z1]
  have := det_M l t
  simp only [det, Mt.pr, Mt.P, Mt.Q, step, if_true] at this ⊢
  grind
/-! ### sizes -/
def small (k : Nat) (m : Mt) : Prop := m.a.natAbs ≤ 2 ^ k ∧ m.b.natAbs ≤ 2 ^ k ∧ m.c.natAbs ≤ 2 ^ k ∧ m.d.natAbs ≤ 2 ^ k
theorem small_step {k : Nat} {m : Mt} (o : Int) (h : small k m) : small (k + 1) (step o m) ∧ small (k + 1) (unstep o m) := by
  obtain ⟨h1, h2, h3, h4⟩ := h
  unfold small step unstep
  rw [Nat.pow_succ]
  split <;> simp only [] <;> omega
theorem small_one : small 0 one := ⟨by decide, by decide, by decide, by decide⟩
theorem small_M (l : List Nat) (t : Int) : small t.natAbs (M l t) := by
  have hf : ∀ k : Nat, small k (Mf l k) := fun k => by
    induction k with
    | zero => exact small_one
    | succ k ih => exact (small_step _ ih).1
  have hb : ∀ k : Nat, small k (Mb l k) := fun k => by
    induction k with
    | zero => exact small_one
    | succ k ih => exact (small_step _ ih).2
  unfold M
  split
  · have := hf t.toNat
    rwa [show t.natAbs = t.toNat by omega]
  · have := hb (-t).toNat
    rwa [show t.natAbs = (-t).toNat by omega]
/-- below 2^6000 -/
def lowP (p : Int × Int) : Prop := p.1.natAbs < 2 ^ 6000 ∧ p.2.natAbs < 2 ^ 6000
theorem low_pp {l : List Nat} (w : Word l) (hl : l.length ≤ 48) {s : Nat} (hs : Sign s) {j : Int} (h1 : -120 ≤ j) (h2 : j ≤ 120) : lowP (pp l s j) := by
  obtain ⟨t, c, _, hb⟩ := tm w hs j
  rw [pp_eq l c]
  have hk : t.natAbs < 6000 := by
    have : (j.natAbs + 1) * l.length ≤ 121 * 48 := Nat.mul_le_mul (by omega) hl
    omega
  have hp : 2 ^ t.natAbs < 2 ^ 6000 := Nat.pow_lt_pow_right (by decide) hk
  obtain ⟨a1, a2, a3, a4⟩ := small_M l t
  unfold lowP Mt.pr Mt.P Mt.Q
  split
  · exact ⟨Nat.lt_of_le_of_lt a1 hp, Nat.lt_of_le_of_lt a2 hp⟩
  · exact ⟨Nat.lt_of_le_of_lt a3 hp, Nat.lt_of_le_of_lt a4 hp⟩
end LandM

/-! LandO: the rim by cutting a word at its signs. -/
namespace LandM
open DL (fstIx splitC)
theorem fst_spec {c : Nat} : ∀ {l : List Nat}, c ∈ l → fstIx c l < l.length ∧ l[fstIx c l]? = some c ∧ ∀ i, i < fstIx c l → l[i]? ≠ some c
  | x :: r, h => by
    unfold fstIx
    by_cases e : x = c
    · rw [if_pos e]
      exact ⟨Nat.succ_pos _, by rw [e]; rfl, fun i hi => absurd hi (Nat.not_lt_zero i)⟩
    · rw [if_neg e]
      have hr : c ∈ r := by
        rcases List.mem_cons.mp h with h | h
        · exact absurd h.symm e
        · exact h
      obtain ⟨h1, h2, h3⟩ := fst_spec hr
      refine ⟨Nat.succ_lt_succ h1, h2, fun i hi => ?_⟩
      cases i with
      | zero => exact fun q => e (Option.some.inj q)
      | succ i => exact h3 i (Nat.lt_of_succ_lt_succ hi)
/-- a word, begun at p -/
def turn (l : List Nat) (p : Nat) : List Nat := l.drop p ++ l.take p
theorem turn_len (l : List Nat) {p : Nat} (h : p ≤ l.length) : (turn l p).length = l.length := by
  unfold turn
  simp only [List.length_append, List.length_drop, List.length_take]
  omega
theorem turn_get {l : List Nat} {p i : Nat} (h : p ≤ l.length) (hi : i < l.length) : (turn l p)[i]? = some (sg l ((p : Int) + i)) := by
  unfold turn
  by_cases z : p + i < l.length
  · rw [List.getElem?_append_left (by rw [List.length_drop]; omega), List.getElem?_drop, List.getElem?_eq_getElem z]
    have := sg_nat z
    rw [← this]
    rfl
  · rw [List.getElem?_append_right (by rw [List.length_drop]; omega), List.length_drop, List.getElem?_take, if_pos (by omega), List.getElem?_eq_getElem (by omega)]
    have hk : i - (l.length - p) < l.length := by omega
    have := sg_nat hk
    have h2 := sg_per l ((i - (l.length - p) : Nat) : Int) 1
    rw [Int.one_mul, this, show ((i - (l.length - p) : Nat) : Int) + l.length = (p : Int) + i by omega] at h2
    rw [h2]
/-- the pieces of a word: the first holds no c; behind each c its piece -/
theorem split_spec (c : Nat) : ∀ l : List Nat, ∃ p ps, splitC c l = p :: ps ∧ ps.length = l.count c ∧ p.length ≤ l.length ∧ (∀ i : Nat, i < p.length → l[i]? ≠ some c) ∧ (p.length = l.length ∨ l[p.length]? = some c) ∧
    ∀ k q, ps[k]? = some q → ∃ t : Nat, t < l.length ∧ l[t]? = some c ∧ (l.take t).count c = k ∧ t + 1 + q.length ≤ l.length ∧ (∀ i : Nat, i < q.length → l[t + 1 + i]? ≠ some c) ∧ (t + 1 + q.length = l.length ∨ l[t + 1 + q.length]? = some c)
  | [] => ⟨[], [], rfl, rfl, Nat.le_refl _, fun i h => absurd h (Nat.not_lt_zero i), .inl rfl, fun k q h => by cases h⟩
  | x :: r => by
    obtain ⟨p, ps, e, hl, hp1, hp2, hp3, hps⟩ := split_spec c r
    unfold splitC
    by_cases h : x = c
    · rw [if_pos h, e]
      refine ⟨[], p :: ps, rfl, by rw [h, List.count_cons_self, List.length_cons, hl], Nat.zero_le _, fun i h => absurd h (Nat.not_lt_zero i), .inr (by rw [h]; rfl), fun k q hk => ?_⟩
      cases k with
      | zero =>
        cases hk
        refine ⟨0, Nat.succ_pos _, by rw [h]; rfl, rfl, by simp only [List.length_cons]; omega, fun i hi => ?_, ?_⟩
        · rw [show 0 + 1 + i = i + 1 by omega]
          exact hp2 i hi
        · rw [show 0 + 1 + p.length = p.length + 1 by omega]
          rcases hp3 with z | z
          · exact .inl (by rw [List.length_cons, z])
          · exact .inr z
      | succ k =>
        obtain ⟨t, t1, t2, t3, t4, t5, t6⟩ := hps k q hk
        refine ⟨t + 1, Nat.succ_lt_succ t1, t2, by rw [List.take_succ_cons, h, List.count_cons_self, t3], by simp only [List.length_cons]; omega, fun i hi => ?_, ?_⟩
        · rw [show t + 1 + 1 + i = t + 1 + i + 1 by omega]
          exact t5 i hi
        · rw [show t + 1 + 1 + q.length = t + 1 + q.length + 1 by omega]
          rcases t6 with z | z
          · exact .inl (by rw [List.length_cons, z])
          · exact .inr z
    · rw [if_neg h, e]
      refine ⟨x :: p, ps, rfl, by rw [List.count_cons_of_ne h, hl], Nat.succ_le_succ hp1, fun i hi => ?_, ?_, fun k q hk => ?_⟩
      · cases i with
        | zero => exact fun q => h (Option.some.inj q)
        | succ i => exact hp2 i (Nat.lt_of_succ_lt_succ hi)
      · rcases hp3 with z | z
        · exact .inl (by rw [List.length_cons, List.length_cons, z])
        · exact .inr z
      · obtain ⟨t, t1, t2, t3, t4, t5, t6⟩ := hps k q hk
        refine ⟨t + 1, Nat.succ_lt_succ t1, t2, by rw [List.take_succ_cons, List.count_cons_of_ne h, t3], by simp only [List.length_cons]; omega, fun i hi => ?_, ?_⟩
        · rw [show t + 1 + 1 + i = t + 1 + i + 1 by omega]
          exact t5 i hi
        · rw [show t + 1 + 1 + q.length = t + 1 + q.length + 1 by omega]
          rcases t6 with z | z
          · exact .inl (by rw [List.length_cons, z])
          · exact .inr z
/-- how many stand in a turned word -/
theorem turn_count {l : List Nat} (w : Word l) {s : Nat} (hs : Sign s) {p : Nat} (h : p ≤ l.length) : ∀ i : Nat, i ≤ l.length → (((turn l p).take i).count s : Int) = cn l s ((p : Int) + i) - cn l s p
  | 0, _ => by simp
  | i + 1, hi => by
    have ih := turn_count w hs h i (by omega)
    have hg := turn_get h (show i < l.length by omega)
    have hl := turn_len l h
    rw [List.take_succ, List.count_append, hg]
    have hc := cn_succ w hs ((p : Int) + i)
    rw [show (p : Int) + ((i + 1 : Nat) : Int) = p + i + 1 by omega, hc, Int.natCast_add, ih]
    simp only [Option.toList]
    by_cases e : sg l ((p : Int) + i) = s
    · rw [if_pos e, e]; simp; omega
    · rw [if_neg e, List.count_cons_of_ne e]; simp
/-- the rim of the sign s -/
def rim (l : List Nat) (s : Nat) : List Int := ((splitC s (turn l (fstIx s l))).drop 1).map fun q => 2 + (q.length : Int)
theorem Word.mem {l : List Nat} (w : Word l) {s : Nat} (hs : Sign s) : s ∈ l := by
  rcases hs with rfl | rfl
  · exact w.o
  · exact w.i
theorem Rim.of {l : List Nat} (w : Word l) {s : Nat} (hs : Sign s) : Rim l s (rim l s) := by
  obtain ⟨f1, f2, f3⟩ := fst_spec (w.mem hs)
  have hp : fstIx s l ≤ l.length := Nat.le_of_lt f1
  have hl := turn_len l hp
  obtain ⟨p, ps, e, e1, e2, e3, e4, e5⟩ := split_spec s (turn l (fstIx s l))
  have hc0 : ∀ k : Nat, k ≤ fstIx s l → cn l s k = 0 := fun k => by
    induction k with
    | zero => intro _; exact cn_zero l s
    | succ k ih =>
      intro hk
      have hne : ¬ sg l (k : Int) = s := fun q => f3 k (by omega) (by rw [List.getElem?_eq_getElem (by omega), ← sg_nat (by omega : k < l.length), q])
      rw [show ((k + 1 : Nat) : Int) = (k : Int) + 1 by omega, cn_succ w hs, if_neg hne, ih (by omega)]
      rfl
  have hc := hc0 (fstIx s l) (Nat.le_refl _)
  have hr : rim l s = ps.map fun q => 2 + (q.length : Int) := by
    unfold rim
    rw [e]
    rfl
  refine ⟨?_, fun k x hx => ?_⟩
  · rw [hr, List.length_map, e1]
    have := turn_count w hs hp l.length (Nat.le_refl _)
    rw [← hl, List.take_length, hl, hc, Int.sub_zero, cn_per1 w hs, hc] at this
    omega
  · rw [hr, List.getElem?_map] at hx
    cases hq : ps[k]? with
    | none => rw [hq] at hx; cases hx
    | some q =>
      rw [hq] at hx
      cases hx
      obtain ⟨t, t1, t2, t3, t4, t5, t6⟩ := e5 k q hq
      rw [hl] at t1 t4 t6
      have g : ∀ i : Nat, i < l.length → (turn l (fstIx s l))[i]? = some (sg l ((fstIx s l : Nat) + (i : Int))) := fun i hi => turn_get hp hi
      have cnt := turn_count w hs hp t (by omega)
      rw [t3, hc] at cnt
      refine ⟨(fstIx s l : Nat) + (t : Int), q.length, by omega, ?_, rfl, fun i hi => ?_, ?_⟩
      · have := (g t t1).symm.trans t2
        exact Option.some.inj this
      · have h5 := t5 i hi
        rw [g _ (by omega)] at h5
        intro z
        refine h5 (congrArg some ((congrArg (sg l) ?_).trans z))
        omega
      · rcases t6 with z | z
        · have h0 : sg l ((fstIx s l : Nat) : Int) = s := by
            rw [sg_nat f1]
            rw [List.getElem?_eq_getElem f1] at f2
            exact Option.some.inj f2
          have := sg_per l ((fstIx s l : Nat) : Int) 1
          rw [Int.one_mul, h0] at this
          refine (congrArg (sg l) ?_).trans this
          omega
        · by_cases hz : t + 1 + q.length < l.length
          · rw [g _ hz] at z
            have z := Option.some.inj z
            refine (congrArg (sg l) ?_).trans z
            omega
          · rw [List.getElem?_eq_none (by omega)] at z
            cases z
/-- one place for each number -/
theorem at_one {l : List Nat} (w : Word l) {s : Nat} (hs : Sign s) {t u : Int} (h : cn l s t = cn l s u) (h1 : sg l t = s) (h2 : sg l u = s) : t = u := by
  have a := cn_succ w hs t
  have b := cn_succ w hs u
  rw [if_pos h1] at a
  rw [if_pos h2] at b
  rcases Int.lt_trichotomy t u with z | z | z
  · have := cn_mono (l := l) hs (show t + 1 ≤ u by omega)
    omega
  · exact z
  · have := cn_mono (l := l) hs (show u + 1 ≤ t by omega)
    omega
theorem Rim.uniq {l : List Nat} (w : Word l) {s : Nat} (hs : Sign s) {r r' : List Int} (R : Rim l s r) (R' : Rim l s r') : r = r' := by
  have hl : r.length = r'.length := by
    have := R.len
    have := R'.len
    omega
  refine List.ext_getElem hl fun k h1 h2 => ?_
  obtain ⟨t, m, c1, c2, c3, c4, c5⟩ := R.at_ k _ (List.getElem?_eq_getElem h1)
  obtain ⟨u, n, d1, d2, d3, d4, d5⟩ := R'.at_ k _ (List.getElem?_eq_getElem h2)
  have e := at_one w hs (c1.trans d1.symm) c2 d2
  subst e
  rw [c3, d3]
  rcases Nat.lt_trichotomy m n with z | z | z
  · exact absurd c5 (d4 m z)
  · rw [z]
  · exact absurd d5 (c4 n z)
end LandM

/-! LandQ: how far two words are apart. -/
namespace LandM
/-- the places of the outer signs, from k on -/
def sp : Int → List Nat → List Int
  | _, [] => []
  | k, x :: r => if x = 111 then k :: sp (k + 1) r else sp (k + 1) r
def dist : List Int → List Int → Nat
  | a :: A, b :: B => (a - b).natAbs + dist A B
  | _, _ => 0
theorem sp_len : ∀ (l : List Nat) (k : Int), (sp k l).length = l.count 111
  | [], _ => rfl
  | x :: r, k => by
    unfold sp
    by_cases h : x = 111
    · rw [if_pos h, h, List.count_cons_self, List.length_cons, sp_len r]
    · rw [if_neg h, List.count_cons_of_ne h, sp_len r]
theorem sp_cons (k : Int) (x : Nat) (r : List Nat) : sp k (x :: r) = if x = 111 then k :: sp (k + 1) r else sp (k + 1) r := rfl
theorem sp_app : ∀ (a b : List Nat) (k : Int), sp k (a ++ b) = sp k a ++ sp (k + a.length) b
  | [], b, k => by simp [sp]
  | x :: r, b, k => by
    rw [List.cons_append, sp_cons, sp_cons, sp_app r b, List.length_cons, show k + 1 + (r.length : Int) = k + ((r.length + 1 : Nat) : Int) by omega]
    split <;> rfl
theorem sp_i (d : Nat) (k : Int) : sp k (List.replicate d 105) = [] := by
  induction d generalizing k with
  | zero => rfl
  | succ d ih => rw [List.replicate_succ]; unfold sp; rw [if_neg (by decide), ih]
/-- an outer sign drawn to the front over d inner ones -/
theorem dist_o (d : Nat) (t o : List Nat) (k : Int) : dist (sp k (List.replicate d 105 ++ 111 :: t)) (sp k (111 :: o)) = d + dist (sp (k + 1) (List.replicate d 105 ++ t)) (sp (k + 1) o) := by
  rw [sp_app, sp_app, sp_i, sp_i, List.nil_append, List.nil_append, List.length_replicate]
  have e1 : sp (k + d) (111 :: t) = (k + d) :: sp (k + d + 1) t := by rw [sp]; rfl
  have e2 : sp k (111 :: o) = k :: sp (k + 1) o := by rw [sp]; rfl
  rw [e1, e2, show k + (d : Int) + 1 = k + 1 + d by omega]
  show (k + d - k).natAbs + _ = _
  rw [show (k + (d : Int) - k).natAbs = d by omega]
/-- d outer signs, each one further ahead of its mark -/
theorem dist_step : ∀ (d : Nat) (C : List Int) (l : List Nat) (k j : Int), j < k → d ≤ l.count 111 →
    dist (sp j (List.replicate d 111) ++ C) (sp k l) = d + dist (sp (j + 1) (List.replicate d 111) ++ C) (sp k l)
  | 0, C, l, k, j, _, _ => by simp [sp]
  | d + 1, C, [], k, j, _, h => by simp at h
  | d + 1, C, x :: r, k, j, hk, h => by
    by_cases hx : x = 111
    · subst hx
      rw [List.count_cons_self] at h
      have ih := dist_step d C r (k + 1) (j + 1) (by omega) (by omega)
      have e1 : sp k (111 :: r) = k :: sp (k + 1) r := by rw [sp]; rfl
      have e2 : ∀ q : Int, sp q (List.replicate (d + 1) 111) = q :: sp (q + 1) (List.replicate d 111) := fun q => by rw [List.replicate_succ, sp]; rfl
      rw [e1, e2, e2, List.cons_append, List.cons_append]
      show (j - k).natAbs + _ = _ + ((j + 1 - k).natAbs + _)
      rw [ih]
      omega
    · rw [List.count_cons_of_ne hx] at h
      have e1 : sp k (x :: r) = sp (k + 1) r := by rw [sp, if_neg hx]
      rw [e1]
      exact dist_step (d + 1) C r (k + 1) j (by omega) h
/-- an inner sign drawn to the front over d outer ones -/
theorem dist_i (d : Nat) (t o : List Nat) (k : Int) (h : (List.replicate d 111 ++ t).count 111 = o.count 111) : dist (sp k (List.replicate d 111 ++ 105 :: t)) (sp k (105 :: o)) = d + dist (sp (k + 1) (List.replicate d 111 ++ t)) (sp (k + 1) o) := by
  have e2 : sp k (105 :: o) = sp (k + 1) o := by rw [sp]; rfl
  have e1 : sp (k + d) (105 :: t) = sp (k + d + 1) t := by rw [sp]; rfl
  rw [sp_app, sp_app, List.length_replicate, e1, e2, show k + (d : Int) + 1 = k + 1 + d by omega]
  rw [List.count_append, List.count_replicate_self] at h
  exact dist_step d _ o (k + 1) k (by omega) (by omega)
/-- nought just for equal words -/
theorem dist_zero : ∀ (a b : List Nat) (k : Int), a.length = b.length → (∀ x ∈ a, x = 111 ∨ x = 105) → (∀ x ∈ b, x = 111 ∨ x = 105) → a.count 111 = b.count 111 → dist (sp k a) (sp k b) = 0 → a = b := by
  have le_sp : ∀ (l : List Nat) (k : Int) (x : Int) (r : List Int), sp k l = x :: r → k ≤ x := by
    intro l
    induction l with
    | nil => intro k x r h; cases h
    | cons y t ih =>
      intro k x r h
      rw [sp] at h
      split at h
      · cases h; exact Int.le_refl _
      · have := ih _ _ _ h
        omega
  intro a
  induction a with
  | nil => intro b k h _ _ _ _; exact (List.eq_nil_of_length_eq_zero h.symm).symm
  | cons x r ih =>
    intro b k hl ha hb hc hd
    cases b with
    | nil => cases hl
    | cons y t =>
      have hx := ha x List.mem_cons_self
      have hy := hb y List.mem_cons_self
      have ha' : ∀ z ∈ r, z = 111 ∨ z = 105 := fun z hz => ha z (List.mem_cons_of_mem _ hz)
      have hb' : ∀ z ∈ t, z = 111 ∨ z = 105 := fun z hz => hb z (List.mem_cons_of_mem _ hz)
      have hl' : r.length = t.length := Nat.succ.inj hl
      rcases hx with rfl | rfl <;> rcases hy with rfl | rfl
      · rw [List.count_cons_self, List.count_cons_self] at hc
        rw [sp, sp, if_pos rfl, if_pos rfl] at hd
        have hd : (k - k).natAbs + dist (sp (k + 1) r) (sp (k + 1) t) = 0 := hd
        rw [ih t (k + 1) hl' ha' hb' (by omega) (by omega)]
      · rw [List.count_cons_self, List.count_cons_of_ne (by decide)] at hc
        rw [sp, sp, if_pos rfl, if_neg (by decide)] at hd
        cases e : sp (k + 1) t with
        | nil =>
          have := sp_len t (k + 1)
          rw [e] at this
          simp at this
          omega
        | cons z q =>
          rw [e] at hd
          have h1 := le_sp _ _ _ _ e
          have hd : (k - z).natAbs + _ = 0 := hd
          omega
      · rw [List.count_cons_self, List.count_cons_of_ne (by decide)] at hc
        rw [sp, sp, if_pos rfl, if_neg (by decide)] at hd
        cases e : sp (k + 1) r with
        | nil =>
          have := sp_len r (k + 1)
          rw [e] at this
          simp at this
          omega
        | cons z q =>
          rw [e] at hd
          have h1 := le_sp _ _ _ _ e
          have hd : (z - k).natAbs + _ = 0 := hd
          omega
      · rw [List.count_cons_of_ne (by decide), List.count_cons_of_ne (by decide)] at hc
        rw [sp, sp, if_neg (by decide), if_neg (by decide)] at hd
        rw [ih t (k + 1) hl' ha' hb' hc hd]
theorem dist_self (a : List Int) : dist a a = 0 := by
  induction a with
  | nil => rfl
  | cons x r ih =>
    show (x - x).natAbs + dist r r = 0
    omega
theorem dist_le (N : Nat) : ∀ A B : List Int, (∀ x ∈ A, ∀ y ∈ B, (x - y).natAbs ≤ N) → dist A B ≤ A.length * N
  | [], _, _ => Nat.zero_le _
  | a :: A, [], _ => Nat.zero_le _
  | a :: A, b :: B, h => by
    have h1 := h a List.mem_cons_self b List.mem_cons_self
    have h2 := dist_le N A B fun x hx y hy => h x (List.mem_cons_of_mem _ hx) y (List.mem_cons_of_mem _ hy)
    show (a - b).natAbs + dist A B ≤ (A.length + 1) * N
    rw [Nat.add_mul]
    omega
theorem sp_in : ∀ (l : List Nat) (k x : Int), x ∈ sp k l → k ≤ x ∧ x < k + l.length
  | [], k, x, h => by cases h
  | y :: r, k, x, h => by
    rw [sp_cons] at h
    have ih : x ∈ sp (k + 1) r → k + 1 ≤ x ∧ x < k + 1 + r.length := sp_in r (k + 1) x
    rw [List.length_cons]
    split at h
    · rcases List.mem_cons.mp h with e | e
      · omega
      · have := ih e
        omega
    · have := ih h
      omega
theorem dist_small {a b : List Nat} (h : a.length = b.length) (hl : a.length ≤ 1000) : dist (sp 0 a) (sp 0 b) ≤ 1000000 := by
  have h1 := dist_le 1000 (sp 0 a) (sp 0 b) fun x hx y hy => by
    have := sp_in a 0 x hx
    have := sp_in b 0 y hy
    omega
  have h2 : (sp 0 a).length ≤ 1000 := by
    rw [sp_len]
    exact Nat.le_trans List.count_le_length hl
  have := Nat.mul_le_mul_right 1000 h2
  omega
end LandM

/-! LandR: the growth of a rim. -/
namespace LandM
structure Q4 where
  p : Int
  q : Int
  r : Int
  s : Int
def Q4.go (m : Q4) (a : Int) : Q4 := ⟨m.p * a + m.q, 0 - m.p, m.r * a + m.s, 0 - m.r⟩
def grow4 (l : List Int) : Q4 := l.foldl Q4.go ⟨1, 0, 0, 1⟩
def Q4.small (k : Nat) (m : Q4) : Prop := m.p.natAbs ≤ 2 ^ k ∧ m.q.natAbs ≤ 2 ^ k ∧ m.r.natAbs ≤ 2 ^ k ∧ m.s.natAbs ≤ 2 ^ k
theorem Q4.small_go {k : Nat} {m : Q4} {a : Int} (h : m.small k) (h0 : 0 ≤ a) (h1 : a < 4000) : (m.go a).small (k + 13) := by
  obtain ⟨a1, a2, a3, a4⟩ := h
  have e : 2 ^ (k + 13) = 8192 * 2 ^ k := by rw [Nat.pow_add, Nat.mul_comm]
  have m1 : (m.p * a).natAbs ≤ 2 ^ k * 4000 := by rw [Int.natAbs_mul]; exact Nat.mul_le_mul a1 (by omega)
  have m2 : (m.r * a).natAbs ≤ 2 ^ k * 4000 := by rw [Int.natAbs_mul]; exact Nat.mul_le_mul a3 (by omega)
  unfold Q4.small Q4.go
  rw [e]
  simp only []
  generalize 2 ^ k = B at *
  refine ⟨?_, ?_, ?_, ?_⟩ <;> omega
/-- what the growth's loop holds behind n numbers -/
theorem grow_inv {l : List Nat} (w : Word l) {s : Nat} (hs : Sign s) {r : List Int} (R : Rim l s r) {j : Nat} {x p q : Int} (hx : r[j]? = some x)
    (f : Int × Int → Int) (hf : f = Prod.fst ∨ f = Prod.snd) {v : Int} (h : p * f (pp l s j) + q * f (pp l s ((j : Int) + 1)) = v) : (p * x + q) * f (pp l s ((j : Int) + 1)) + (0 - p) * f (pp l s ((j : Int) + 2)) = v := by
  obtain ⟨y, y1, _, _, y2, y3⟩ := R.get w hs j
  have hj := (List.getElem?_eq_some_iff.mp hx).1
  rw [Int.emod_eq_of_lt (by omega) (by omega), DL.atI_at (by omega) (by rw [Int.toNat_natCast]; exact hx)] at y1
  cases y1
  rcases hf with rfl | rfl
  · grind
  · grind
theorem grow_at {l : List Nat} (w : Word l) {s : Nat} (hs : Sign s) {r : List Int} (R : Rim l s r) (f : Int × Int → Int) (hf : f = Prod.fst ∨ f = Prod.snd) : ∀ n : Nat, n ≤ r.length →
    (grow4 (r.take n)).p * f (pp l s n) + (grow4 (r.take n)).q * f (pp l s ((n : Int) + 1)) = f (pp l s 0) ∧ (grow4 (r.take n)).r * f (pp l s n) + (grow4 (r.take n)).s * f (pp l s ((n : Int) + 1)) = f (pp l s 1)
  | 0, _ => by
    show (1 : Int) * f (pp l s (0 : Nat)) + 0 * _ = _ ∧ (0 : Int) * _ + 1 * f (pp l s (((0 : Nat) : Int) + 1)) = _
    constructor
    · rw [Int.one_mul, Int.zero_mul, Int.add_zero]; rfl
    · rw [Int.one_mul, Int.zero_mul, Int.zero_add]; rfl
  | n + 1, h => by
    obtain ⟨h1, h2⟩ := grow_at w hs R f hf n (by omega)
    have e := List.getElem?_eq_getElem (show n < r.length by omega)
    have et : grow4 (r.take (n + 1)) = (grow4 (r.take n)).go r[n] := by
      unfold grow4
      rw [List.take_succ, e, List.foldl_append]
      rfl
    rw [et, show ((n + 1 : Nat) : Int) = (n : Int) + 1 by omega, show (n : Int) + 1 + 1 = n + 2 by omega]
    exact ⟨grow_inv w hs R e f hf h1, grow_inv w hs R e f hf h2⟩
theorem pp_shift {l : List Nat} (w : Word l) {s : Nat} (hs : Sign s) (j : Int) :
    (pp l s (j + many l s)).1 = (pp l s j).1 * (M l l.length).a + (pp l s j).2 * (M l l.length).c ∧ (pp l s (j + many l s)).2 = (pp l s j).1 * (M l l.length).b + (pp l s j).2 * (M l l.length).d := by
  obtain ⟨t, ht, _⟩ := tm w hs j
  rw [pp_eq l ht, pp_eq l ((cn_per1 w hs t).trans (by rw [ht])), M_per]
  rcases hs with rfl | rfl
  · exact ⟨rfl, rfl⟩
  · exact ⟨rfl, rfl⟩
theorem cr1 (p q X Y X1 Y1 : Int) : p * (X * Y1 - Y * X1) = (p * X + q * X1) * Y1 - (p * Y + q * Y1) * X1 := by grind
theorem cr2 (r s X Y X1 Y1 : Int) : s * (X * Y1 - Y * X1) = X * (r * Y + s * Y1) - Y * (r * X + s * X1) := by grind
theorem cr3 (x0 y0 x1 y1 a b c d : Int) : (x0 * a + y0 * c) * (x1 * b + y1 * d) - (x0 * b + y0 * d) * (x1 * a + y1 * c) = (a * d - b * c) * (x0 * y1 - y0 * x1) := by grind
theorem cr4 (x0 y0 x1 y1 a b c d : Int) : x0 * (x1 * b + y1 * d) - y0 * (x1 * a + y1 * c) + ((x0 * a + y0 * c) * y1 - (x0 * b + y0 * d) * x1) = (a + d) * (x0 * y1 - y0 * x1) := by grind
theorem trace_eq {p q r s x0 y0 x1 y1 a b c d X Y X1 Y1 : Int} (h1 : p * X + q * X1 = x0) (h2 : p * Y + q * Y1 = y0) (h3 : r * X + s * X1 = x1) (h4 : r * Y + s * Y1 = y1)
    (e1 : X = x0 * a + y0 * c) (e2 : Y = x0 * b + y0 * d) (e3 : X1 = x1 * a + y1 * c) (e4 : Y1 = x1 * b + y1 * d) (hd : a * d - b * c = 1) : (p + s) * (x0 * y1 - y0 * x1) = (a + d) * (x0 * y1 - y0 * x1) := by
  have k1 := cr1 p q X Y X1 Y1
  have k2 := cr2 r s X Y X1 Y1
  have k3 := cr3 x0 y0 x1 y1 a b c d
  have k4 := cr4 x0 y0 x1 y1 a b c d
  rw [hd, Int.one_mul, ← e1, ← e2, ← e3, ← e4] at k3
  rw [← e1, ← e2, ← e3, ← e4] at k4
  rw [h1, h2, k3] at k1
  rw [h3, h4, k3] at k2
  rw [Int.add_mul, k1, k2, ← k4]
theorem det01 {l : List Nat} (w : Word l) {s : Nat} (hs : Sign s) : (pp l s 0).1 * (pp l s 1).2 - (pp l s 0).2 * (pp l s 1).1 = 1 ∨ (pp l s 0).1 * (pp l s 1).2 - (pp l s 0).2 * (pp l s 1).1 = -1 := by
  rcases hs with rfl | rfl
  · exact .inl (det_next w 0)
  · refine .inr ?_
    obtain ⟨t, h1, h2, _⟩ := tm w (.inr rfl) 0
    have hc : cn l 105 (t + 1) = 1 := by rw [cn_succ w (.inr rfl), if_pos h2, h1]; rfl
    rw [pp_eq l h1, pp_eq l hc, M_succ, show io l t = 0 from if_neg (by rw [h2]; decide)]
    have := det_M l t
    simp only [det, Mt.pr, Mt.P, Mt.Q, step, if_false, show ¬ (105 : Nat) = 111 by decide, show ¬ (0 : Int) = 1 by decide] at this ⊢
    grind
/-- the growth of a rim is that of the land -/
theorem grow_trace {l : List Nat} (w : Word l) {s : Nat} (hs : Sign s) {r : List Int} (R : Rim l s r) : (grow4 r).p + (grow4 r).s = (M l l.length).a + (M l l.length).d := by
  have h1 := grow_at w hs R Prod.fst (.inl rfl) r.length (Nat.le_refl _)
  have h2 := grow_at w hs R Prod.snd (.inr rfl) r.length (Nat.le_refl _)
  rw [List.take_length, R.len] at h1 h2
  have s0 := pp_shift w hs 0
  have s1 := pp_shift w hs 1
  rw [Int.zero_add] at s0
  rw [Int.add_comm] at s1
  have hd := det_M l l.length
  have ht := trace_eq h1.1 h2.1 h1.2 h2.2 s0.1 s0.2 s1.1 s1.2 hd
  rcases det01 w hs with e | e <;> rw [e] at ht <;> omega
end LandM

/-! LandS: a land flipped. -/
namespace LandM
/-- two lands that differ by two neighbours -/
structure Flip (l l' : List Nat) (a : Nat) (c d : Nat) : Prop where
  len : l'.length = l.length
  inl : a + 1 < l.length
  atc : l[a]? = some c
  atd : l[a + 1]? = some d
  atc' : l'[a]? = some d
  atd' : l'[a + 1]? = some c
  same : ∀ k, k ≠ a → k ≠ a + 1 → l'[k]? = l[k]?
theorem Flip.symm {l l' : List Nat} {a c d : Nat} (f : Flip l l' a c d) : Flip l' l a d c :=
  ⟨f.len.symm, by rw [f.len]; exact f.inl, f.atc', f.atd', f.atc, f.atd, fun k h1 h2 => (f.same k h1 h2).symm⟩
theorem sg_get {l : List Nat} {k : Nat} {c : Nat} (h : l[k]? = some c) : sg l (k : Int) = c := by
  obtain ⟨h1, h2⟩ := List.getElem?_eq_some_iff.mp h
  rw [sg_nat h1, h2]
theorem Flip.sgc {l l' : List Nat} {a c d : Nat} (f : Flip l l' a c d) : sg l a = c := sg_get f.atc
theorem Flip.sgd {l l' : List Nat} {a c d : Nat} (f : Flip l l' a c d) : sg l ((a : Int) + 1) = d := sg_get (k := a + 1) f.atd
theorem sg_def (l : List Nat) (t : Int) : sg l t = l.getD (t % (l.length : Int)).toNat 0 := rfl
theorem Flip.sg {l l' : List Nat} {a c d : Nat} (f : Flip l l' a c d) (t : Int) (h1 : t % l.length ≠ a) (h2 : t % l.length ≠ (a : Int) + 1) : sg l' t = sg l t := by
  have hl := f.len
  have hi := f.inl
  rw [sg_def, sg_def, hl, List.getD_eq_getElem?_getD, List.getD_eq_getElem?_getD]
  have m1 : 0 ≤ t % (l.length : Int) := Int.emod_nonneg _ (by omega)
  rw [f.same _ (by omega) (by omega)]
theorem Flip.many_nat {l l' : List Nat} {a c d : Nat} (f : Flip l l' a c d) (w : Word l) (w' : Word l') {s : Nat} (hs : Sign s) : ∀ k : Nat, k ≤ l.length → cn l' s k = cn l s k + (if k = a + 1 then (if d = s then 1 else 0) - (if c = s then 1 else 0) else 0)
  | 0, _ => by rw [show ((0 : Nat) : Int) = 0 from rfl, cn_zero, cn_zero, if_neg (by omega)]; rfl
  | k + 1, hk => by
    have ih := f.many_nat w w' hs k (by omega)
    rw [show ((k + 1 : Nat) : Int) = (k : Int) + 1 by omega, cn_succ w hs, cn_succ w' hs, ih]
    by_cases h1 : k = a
    · subst h1
      have e1 := f.sgc
      have e2 := f.symm.sgc
      rw [e1, e2, if_neg (by omega), if_pos rfl]
      omega
    · by_cases h2 : k = a + 1
      · subst h2
        have e1 := f.sgd
        have e2 := f.symm.sgd
        rw [show ((a + 1 : Nat) : Int) = (a : Int) + 1 by omega, e1, e2, if_pos rfl, if_neg (show ¬ (a + 1 + 1 = a + 1) by omega)]
        omega
      · have e := f.sg k (by rw [Int.emod_eq_of_lt (by omega) (by omega)]; omega) (by rw [Int.emod_eq_of_lt (by omega) (by omega)]; omega)
        rw [e, if_neg h2, if_neg (show ¬ (k + 1 = a + 1) by omega)]
        omega
theorem Flip.many {l l' : List Nat} {a c d : Nat} (f : Flip l l' a c d) (w : Word l) (w' : Word l') {s : Nat} (hs : Sign s) : many l' s = many l s := by
  have h := f.many_nat w w' hs l.length (Nat.le_refl _)
  have hi := f.inl
  rw [if_neg (by omega)] at h
  unfold LandM.many
  rw [f.len, h]
  omega
theorem Flip.cn {l l' : List Nat} {a c d : Nat} (f : Flip l l' a c d) (w : Word l) (w' : Word l') {s : Nat} (hs : Sign s) (t : Int) : cn l' s t = cn l s t + (if t % l.length = (a : Int) + 1 then (if d = s then 1 else 0) - (if c = s then 1 else 0) else 0) := by
  have hi := f.inl
  have m1 : 0 ≤ t % (l.length : Int) := Int.emod_nonneg _ (by omega)
  have m2 : t % (l.length : Int) < l.length := Int.emod_lt_of_pos _ (by omega)
  have hd := Int.emod_add_mul_ediv t l.length
  have h := f.many_nat w w' hs (t % (l.length : Int)).toNat (by omega)
  have p1 := cn_per w hs (t % (l.length : Int)) (t / (l.length : Int))
  have p2 := cn_per w' hs (t % (l.length : Int)) (t / (l.length : Int))
  rw [f.len, f.many w w' hs] at p2
  rw [show t % (l.length : Int) + t / (l.length : Int) * l.length = t by rw [Int.mul_comm (t / (l.length : Int))]; exact hd] at p1 p2
  rw [show (((t % (l.length : Int)).toNat : Nat) : Int) = t % (l.length : Int) by omega] at h
  rw [p1, p2, h]
  by_cases e : t % (l.length : Int) = (a : Int) + 1
  · rw [if_pos e, if_pos (by omega)]
    omega
  · rw [if_neg e, if_neg (by omega)]
    omega
/-- the place of a sign of a rim -/
theorem Rim.val {l : List Nat} (w : Word l) {s : Nat} (hs : Sign s) {r : List Int} (R : Rim l s r) {k : Nat} {t u : Int} (hk : k < r.length) (t1 : LandM.cn l s t = k) (t2 : LandM.sg l t = s) (u1 : LandM.cn l s u = k + 1) (u2 : LandM.sg l u = s) : r.getD k 0 = 1 + u - t := by
  obtain ⟨t', m, c1, c2, c3, c4, c5⟩ := R.at_ k _ (List.getElem?_eq_getElem hk)
  have e := at_one w hs (c1.trans t1.symm) c2 t2
  subst e
  have hr := rec_at w hs c2 c4 c5
  have h3 : LandM.cn l s (t' + 1 + m) = k + 1 := by
    have := hr.2.1
    rw [cn_succ w hs, if_pos c5, c1] at this
    omega
  have e := at_one w hs (h3.trans u1.symm) c5 u2
  rw [List.getD_eq_getElem?_getD, List.getElem?_eq_getElem hk]
  show r[k] = _
  rw [c3]
  omega
/-- where a sign goes when the land is flipped -/
theorem Flip.place {l l' : List Nat} {a c d : Nat} (f : Flip l l' a c d) (w : Word l) (w' : Word l') {s : Nat} (hs : Sign s) (hcd : c ≠ d) {t : Int} (h : LandM.sg l t = s) :
    ∃ t', LandM.cn l' s t' = LandM.cn l s t ∧ LandM.sg l' t' = s ∧ t' = t + (if (LandM.cn l s t - LandM.cn l s a) % (LandM.many l s) = 0 then (if c = s then 1 else -1) else 0) := by
  have hi := f.inl
  have hmp := many_pos w hs
  have m1 : 0 ≤ t % (l.length : Int) := Int.emod_nonneg _ (by omega)
  have m2 : t % (l.length : Int) < l.length := Int.emod_lt_of_pos _ (by omega)
  have hd := Int.emod_add_mul_ediv t l.length
  have htq : t = t % (l.length : Int) + t / (l.length : Int) * l.length := by rw [Int.mul_comm (t / (l.length : Int))]; exact hd.symm
  have hsgm := sg_mod l t
  have hcs : c = s ∨ d = s := by
    have h1 := w.all c (List.mem_of_getElem? f.atc)
    have h2 := w.all d (List.mem_of_getElem? f.atd)
    rcases hs with rfl | rfl <;> omega
  by_cases e1 : t % (l.length : Int) = a
  · have hc : c = s := by rw [e1, f.sgc] at hsgm; rw [hsgm]; exact h
    have hds : d ≠ s := fun e => hcd (hc.trans e.symm)
    refine ⟨t + 1, ?_, ?_, ?_⟩
    · rw [htq, e1, show (a : Int) + t / (l.length : Int) * l.length + 1 = (a : Int) + 1 + t / (l.length : Int) * l.length by omega, cn_per w hs, ← f.len, cn_per w' hs, f.many w w' hs, cn_succ w' hs, f.symm.sgc, if_neg hds, f.cn w w' hs, if_neg (by rw [Int.emod_eq_of_lt (by omega) (by omega)]; omega)]
      omega
    · rw [htq, e1, show (a : Int) + t / (l.length : Int) * l.length + 1 = (a : Int) + 1 + t / (l.length : Int) * l.length by omega, ← f.len, sg_per, f.symm.sgd]
      exact hc
    · have hk : LandM.cn l s t = LandM.cn l s a + t / (l.length : Int) * LandM.many l s := by
        conv => lhs; rw [htq, e1]
        exact cn_per w hs _ _
      rw [if_pos (by rw [hk, show LandM.cn l s a + t / (l.length : Int) * LandM.many l s - LandM.cn l s a = t / (l.length : Int) * LandM.many l s by omega]; exact Int.mul_emod_left _ _), if_pos hc]
  · by_cases e2 : t % (l.length : Int) = (a : Int) + 1
    · have hds : d = s := by rw [e2, f.sgd] at hsgm; rw [hsgm]; exact h
      have hc : c ≠ s := fun e => hcd (e.trans hds.symm)
      refine ⟨t - 1, ?_, ?_, ?_⟩
      · rw [htq, e2, show (a : Int) + 1 + t / (l.length : Int) * l.length - 1 = (a : Int) + t / (l.length : Int) * l.length by omega, cn_per w hs, ← f.len, cn_per w' hs, f.many w w' hs, cn_succ w hs, f.sgc, if_neg hc, f.cn w w' hs, if_neg (by rw [Int.emod_eq_of_lt (by omega) (by omega)]; omega)]
      · rw [htq, e2, show (a : Int) + 1 + t / (l.length : Int) * l.length - 1 = (a : Int) + t / (l.length : Int) * l.length by omega, ← f.len, sg_per, f.symm.sgc]
        exact hds
      · have hk : LandM.cn l s t = LandM.cn l s a + t / (l.length : Int) * LandM.many l s := by
          conv => lhs; rw [htq, e2]
          rw [cn_per w hs, cn_succ w hs, f.sgc, if_neg hc]
          omega
        rw [if_pos (by rw [hk, show LandM.cn l s a + t / (l.length : Int) * LandM.many l s - LandM.cn l s a = t / (l.length : Int) * LandM.many l s by omega]; exact Int.mul_emod_left _ _), if_neg hc]
        omega
    · refine ⟨t, ?_, ?_, ?_⟩
      · rw [f.cn w w' hs, if_neg e2]
        omega
      · rw [f.sg t e1 e2]
        exact h
      · rw [if_neg ?_]
        · omega
        · intro hz
          obtain ⟨q, hq⟩ := Int.dvd_of_emod_eq_zero hz
          -- the place of the sign that is moved
          obtain ⟨b, hb1, hb2, hb3⟩ : ∃ b : Int, (b = a ∨ b = (a : Int) + 1) ∧ LandM.cn l s b = LandM.cn l s a ∧ LandM.sg l b = s := by
            rcases hcs with e | e
            · exact ⟨a, .inl rfl, rfl, by rw [f.sgc]; exact e⟩
            · exact ⟨(a : Int) + 1, .inr rfl, by rw [cn_succ w hs, f.sgc, if_neg (fun z => hcd (z.trans e.symm))]; omega, by rw [f.sgd]; exact e⟩
          have hk : LandM.cn l s (b + q * l.length) = LandM.cn l s t := by
            rw [cn_per w hs, hb2, Int.mul_comm]
            omega
          have hu := at_one w hs hk (by rw [sg_per]; exact hb3) h
          have hm : t % (l.length : Int) = b := by
            rw [← hu, Int.add_mul_emod_self_right]
            exact Int.emod_eq_of_lt (by omega) (by omega)
          rcases hb1 with e | e <;> omega
def bump (r : List Int) (i : Nat) (a : Int) : List Int := r.set i (r.getD i 0 + a)
theorem bump_len (r : List Int) (i : Nat) (a : Int) : (bump r i a).length = r.length := by
  unfold bump
  rw [List.length_set]
theorem bump_get (r : List Int) (i : Nat) (a : Int) (k : Nat) (hk : k < r.length) : (bump r i a).getD k 0 = r.getD k 0 + (if k = i then a else 0) := by
  unfold bump
  rw [List.getD_eq_getElem?_getD, List.getD_eq_getElem?_getD, List.getD_eq_getElem?_getD, List.getElem?_set]
  by_cases h : i = k
  · subst h
    rw [if_pos rfl, if_pos hk, if_pos rfl]
    rfl
  · rw [if_neg h, if_neg (fun e => h e.symm)]
    omega
theorem rim_len {l : List Nat} (w : Word l) {s : Nat} (hs : Sign s) : ((rim l s).length : Int) = many l s := (Rim.of w hs).len
theorem mod_eq {p k i : Int} (hp : 0 < p) (h0 : 0 ≤ k) (h1 : k < p) : (k - i) % p = 0 ↔ k = i % p := by
  constructor
  · intro h
    have h2 : k % p = i % p := Int.emod_eq_emod_iff_emod_sub_eq_zero.mpr h
    rw [← h2, Int.emod_eq_of_lt h0 h1]
  · intro h
    exact Int.emod_eq_emod_iff_emod_sub_eq_zero.mp (by rw [Int.emod_eq_of_lt h0 h1]; exact h)
/-- the rims of a flipped land -/
theorem Flip.rim {l l' : List Nat} {a c d : Nat} (f : Flip l l' a c d) (w : Word l) (w' : Word l') {s : Nat} (hs : Sign s) (hcd : c ≠ d) {x y : Int}
    (hx : (c = s → x = LandM.cn l s a + 1 ∧ y = LandM.cn l s a) ∧ (c ≠ s → x = LandM.cn l s a ∧ y = LandM.cn l s a + 1)) :
    LandM.rim l' s = bump (bump (LandM.rim l s) ((x - 1) % ((LandM.rim l s).length : Int)).toNat (-1)) ((y - 1) % ((LandM.rim l s).length : Int)).toNat 1 := by
  have hmp := many_pos w hs
  have rl := rim_len w hs
  have rl' := rim_len w' hs
  rw [f.many w w' hs] at rl'
  have hl : (LandM.rim l' s).length = (LandM.rim l s).length := by omega
  refine List.ext_getElem (by rw [bump_len, bump_len]; exact hl) fun k h1 h2 => ?_
  have hk : k < (LandM.rim l s).length := by omega
  obtain ⟨t, t1, t2, _⟩ := tm w hs (k : Int)
  obtain ⟨u, u1, u2, _⟩ := tm w hs ((k : Int) + 1)
  obtain ⟨t', t1', t2', et⟩ := f.place w w' hs hcd t2
  obtain ⟨u', u1', u2', eu⟩ := f.place w w' hs hcd u2
  have v := Rim.val w hs (Rim.of w hs) hk t1 t2 u1 u2
  have v' := Rim.val w' hs (Rim.of w' hs) h1 (t1'.trans t1) t2' (u1'.trans u1) u2'
  have b2 := bump_get (bump (LandM.rim l s) ((x - 1) % ((LandM.rim l s).length : Int)).toNat (-1)) ((y - 1) % ((LandM.rim l s).length : Int)).toNat 1 k (by rw [bump_len]; exact hk)
  rw [bump_get _ _ _ _ hk, v] at b2
  rw [t1] at et
  rw [u1] at eu
  rw [List.getD_eq_getElem?_getD, List.getElem?_eq_getElem h1] at v'
  rw [List.getD_eq_getElem?_getD, List.getElem?_eq_getElem h2] at b2
  show (some (LandM.rim l' s)[k]).getD 0 = (some _).getD 0
  rw [v', b2]
  rw [rl]
  have q1 := mod_eq (i := LandM.cn l s a) (k := (k : Int)) hmp (by omega) (by omega)
  have q2 := mod_eq (i := LandM.cn l s a - 1) (k := (k : Int)) hmp (by omega) (by omega)
  rw [show (k : Int) - (LandM.cn l s a - 1) = (k : Int) + 1 - LandM.cn l s a by omega] at q2
  have n1 : 0 ≤ LandM.cn l s a % LandM.many l s := Int.emod_nonneg _ (by omega)
  have n2 : 0 ≤ (LandM.cn l s a - 1) % LandM.many l s := Int.emod_nonneg _ (by omega)
  by_cases hc : c = s
  · obtain ⟨rfl, rfl⟩ := hx.1 hc
    rw [if_pos hc] at et eu
    rw [show LandM.cn l s a + 1 - 1 = LandM.cn l s a by omega]
    generalize LandM.cn l s a % LandM.many l s = A at *
    generalize (LandM.cn l s a - 1) % LandM.many l s = B at *
    by_cases z1 : (k : Int) = A <;> by_cases z2 : (k : Int) = B
    all_goals
      first | rw [if_pos (q1.mpr z1)] at et | rw [if_neg (fun z => z1 (q1.mp z))] at et
      first | rw [if_pos (q2.mpr z2)] at eu | rw [if_neg (fun z => z2 (q2.mp z))] at eu
      first | rw [if_pos (show k = A.toNat by omega)] | rw [if_neg (show ¬ k = A.toNat by omega)]
      first | rw [if_pos (show k = B.toNat by omega)] | rw [if_neg (show ¬ k = B.toNat by omega)]
      omega
  · obtain ⟨rfl, rfl⟩ := hx.2 hc
    rw [if_neg hc] at et eu
    rw [show LandM.cn l s a + 1 - 1 = LandM.cn l s a by omega]
    generalize LandM.cn l s a % LandM.many l s = A at *
    generalize (LandM.cn l s a - 1) % LandM.many l s = B at *
    by_cases z1 : (k : Int) = A <;> by_cases z2 : (k : Int) = B
    all_goals
      first | rw [if_pos (q1.mpr z1)] at et | rw [if_neg (fun z => z1 (q1.mp z))] at et
      first | rw [if_pos (q2.mpr z2)] at eu | rw [if_neg (fun z => z2 (q2.mp z))] at eu
      first | rw [if_pos (show k = B.toNat by omega)] | rw [if_neg (show ¬ k = B.toNat by omega)]
      first | rw [if_pos (show k = A.toNat by omega)] | rw [if_neg (show ¬ k = A.toNat by omega)]
      omega
/-- the numbers of the cord that goes and of the one that comes -/
theorem Flip.nums {l l' : List Nat} {a c d : Nat} (f : Flip l l' a c d) (w : Word l) (hcd : c ≠ d) :
    (c = 111 → det (pp l 111 (out l a + 1)) (pp l 105 (inn l a)) = 1 ∧ det (pp l 111 (out l a)) (pp l 105 (inn l a + 1)) = 2) ∧
    (c ≠ 111 → det (pp l 111 (out l a)) (pp l 105 (inn l a + 1)) = 1 ∧ det (pp l 111 (out l a + 1)) (pp l 105 (inn l a)) = 2) := by
  have hc := w.all c (List.mem_of_getElem? f.atc)
  have hd := w.all d (List.mem_of_getElem? f.atd)
  have i0 := io01 l a
  have hD := det_M l a
  have o1 := out_succ l a
  have n1 := inn_succ l a
  have o2 := out_succ l ((a : Int) + 1)
  have n2 := inn_succ l ((a : Int) + 1)
  have m1 := M_succ l a
  have m2 := M_succ l ((a : Int) + 1)
  have pe : ∀ t : Int, pp l 111 (out l t) = (M l t).P := fun t => pp_eq l (s := 111) (t := t) rfl
  have qe : ∀ t : Int, pp l 105 (inn l t) = (M l t).Q := fun t => pp_eq l (s := 105) (t := t) rfl
  have p0 := pe a
  have q0 := qe a
  have p1 := pe ((a : Int) + 1 + 1)
  have q1 := qe ((a : Int) + 1 + 1)
  constructor
  · intro hc1
    have hd1 : d = 105 := by omega
    have z1 : io l a = 1 := if_pos (by rw [f.sgc]; exact hc1)
    have z2 : io l ((a : Int) + 1) = 0 := if_neg (by rw [f.sgd, hd1]; decide)
    rw [z1] at o1 n1 m1
    rw [z2] at o2 n2 m2
    rw [show out l ((a : Int) + 1 + 1) = out l a + 1 by omega] at p1
    rw [show inn l ((a : Int) + 1 + 1) = inn l a + 1 by omega] at q1
    rw [p0, q0, p1, q1, m2, m1]
    simp only [det, Mt.P, Mt.Q, step, if_true, if_false, show ¬ (0 : Int) = 1 by decide] at hD ⊢
    constructor <;> grind
  · intro hc1
    have hd1 : d = 111 := by omega
    have z1 : io l a = 0 := if_neg (by rw [f.sgc]; exact hc1)
    have z2 : io l ((a : Int) + 1) = 1 := if_pos (by rw [f.sgd, hd1])
    rw [z1] at o1 n1 m1
    rw [z2] at o2 n2 m2
    rw [show out l ((a : Int) + 1 + 1) = out l a + 1 by omega] at p1
    rw [show inn l ((a : Int) + 1 + 1) = inn l a + 1 by omega] at q1
    rw [p0, q0, p1, q1, m2, m1]
    simp only [det, Mt.P, Mt.Q, step, if_true, if_false, show ¬ (0 : Int) = 1 by decide] at hD ⊢
    constructor <;> grind
theorem flip_of {l : List Nat} {a : Nat} (h : a + 1 < l.length) : Flip l (l.take a ++ [l.getD (a + 1) 0] ++ [l.getD a 0] ++ l.drop (a + 2)) a (l.getD a 0) (l.getD (a + 1) 0) := by
  have g : ∀ k, k < l.length → l[k]? = some (l.getD k 0) := fun k hk => by
    rw [List.getD_eq_getElem?_getD, List.getElem?_eq_getElem hk]
    rfl
  have tl : (l.take a).length = a := by rw [List.length_take]; omega
  refine ⟨?_, h, g a (by omega), g _ h, ?_, ?_, ?_⟩
  · simp only [List.length_append, List.length_take, List.length_drop, List.length_cons, List.length_nil]
    omega
  · rw [List.append_assoc, List.append_assoc, List.getElem?_append_right (by omega), tl, Nat.sub_self]
    rfl
  · rw [List.append_assoc, List.append_assoc, List.getElem?_append_right (by omega), tl, show a + 1 - a = 1 by omega]
    rfl
  · intro k h1 h2
    rw [List.append_assoc, List.append_assoc]
    by_cases hk : k < a
    · rw [List.getElem?_append_left (by omega), List.getElem?_take, if_pos hk]
    · rw [List.getElem?_append_right (by omega), tl, List.getElem?_append_right (by rw [List.length_cons, List.length_nil]; omega), List.getElem?_append_right (by rw [List.length_cons, List.length_nil, List.length_cons, List.length_nil]; omega), List.getElem?_drop]
      congr 1
      simp only [List.length_cons, List.length_nil]
      omega
theorem Flip.word {l l' : List Nat} {a c d : Nat} (f : Flip l l' a c d) (w : Word l) : Word l' := by
  have mem : ∀ x, x ∈ l' ↔ x ∈ l := by
    have one : ∀ {l l' : List Nat} {a c d : Nat}, Flip l l' a c d → ∀ x, x ∈ l' → x ∈ l := by
      intro l l' a c d f x hx
      obtain ⟨k, hk⟩ := List.getElem?_of_mem hx
      by_cases h1 : k = a
      · rw [h1, f.atc'] at hk
        cases hk
        exact List.mem_of_getElem? f.atd
      · by_cases h2 : k = a + 1
        · rw [h2, f.atd'] at hk
          cases hk
          exact List.mem_of_getElem? f.atc
        · rw [f.same k h1 h2] at hk
          exact List.mem_of_getElem? hk
    exact fun x => ⟨one f x, one f.symm x⟩
  exact ⟨fun x hx => w.all x ((mem x).mp hx), (mem _).mpr w.o, (mem _).mpr w.i⟩
/-- all that the law asks of a flip -/
structure Flipped (l l' : List Nat) (a : Nat) (x1 y1 x2 y2 : Int) : Prop where
  old : out l ((a : Int) + 1) = x1 ∧ inn l ((a : Int) + 1) = y1
  new : out l' ((a : Int) + 1) = x2 ∧ inn l' ((a : Int) + 1) = y2
  same : out l' a = out l a ∧ inn l' a = inn l a
  same2 : out l' ((a : Int) + 2) = out l ((a : Int) + 2) ∧ inn l' ((a : Int) + 2) = inn l ((a : Int) + 2)
  n1 : det (pp l 111 x1) (pp l 105 y1) = 1
  n2 : det (pp l 111 x2) (pp l 105 y2) = 2
  n3 : det (pp l' 111 x2) (pp l' 105 y2) = 1
  n4 : det (pp l' 111 x1) (pp l' 105 y1) = 2
  ro : LandM.rim l' 111 = bump (bump (LandM.rim l 111) ((x1 - 1) % ((LandM.rim l 111).length : Int)).toNat (-1)) ((x2 - 1) % ((LandM.rim l 111).length : Int)).toNat 1
  ri : LandM.rim l' 105 = bump (bump (LandM.rim l 105) ((y1 - 1) % ((LandM.rim l 105).length : Int)).toNat (-1)) ((y2 - 1) % ((LandM.rim l 105).length : Int)).toNat 1
theorem Flip.all {l l' : List Nat} {a c d : Nat} (f : Flip l l' a c d) (w : Word l) (hcd : c ≠ d) {x1 y1 x2 y2 : Int}
    (h : (c = 111 → x1 = out l a + 1 ∧ y1 = inn l a ∧ x2 = out l a ∧ y2 = inn l a + 1) ∧ (c ≠ 111 → x1 = out l a ∧ y1 = inn l a + 1 ∧ x2 = out l a + 1 ∧ y2 = inn l a)) : Flipped l l' a x1 y1 x2 y2 := by
  have w' := f.word w
  have hc := w.all c (List.mem_of_getElem? f.atc)
  have hd := w.all d (List.mem_of_getElem? f.atd)
  have hi := f.inl
  have oo : ∀ t : Int, LandM.cn l 111 t = out l t := fun t => rfl
  have ii : ∀ t : Int, LandM.cn l 105 t = inn l t := fun t => rfl
  have oo' : ∀ t : Int, LandM.cn l' 111 t = out l' t := fun t => rfl
  have ii' : ∀ t : Int, LandM.cn l' 105 t = inn l' t := fun t => rfl
  have a1 := f.cn w w' (.inl rfl) (s := 111) (a : Int)
  have a2 := f.cn w w' (.inr rfl) (s := 105) (a : Int)
  have b1 := f.cn w w' (.inl rfl) (s := 111) ((a : Int) + 1)
  have b2 := f.cn w w' (.inr rfl) (s := 105) ((a : Int) + 1)
  have c1 := f.cn w w' (.inl rfl) (s := 111) ((a : Int) + 2)
  have c2 := f.cn w w' (.inr rfl) (s := 105) ((a : Int) + 2)
  rw [Int.emod_eq_of_lt (by omega) (by omega)] at a1 a2 b1 b2
  have hC : ¬ ((a : Int) + 2) % (l.length : Int) = (a : Int) + 1 := by
    by_cases e : a + 2 = l.length
    · rw [show (a : Int) + 2 = (l.length : Int) by omega, Int.emod_self]
      omega
    · rw [Int.emod_eq_of_lt (by omega) (by omega)]
      omega
  rw [if_neg (by omega)] at a1 a2
  rw [if_pos rfl] at b1 b2
  rw [if_neg hC] at c1 c2
  have s1 := cn_succ w (.inl rfl) (s := 111) (a : Int)
  have s2 := cn_succ w (.inr rfl) (s := 105) (a : Int)
  rw [f.sgc] at s1 s2
  have nA := f.nums w hcd
  have nB := f.symm.nums w' (fun e => hcd e.symm)
  rw [Int.add_zero] at a1 a2 c1 c2
  rw [oo, oo'] at a1 b1 c1
  rw [ii, ii'] at a2 b2 c2
  rw [oo, oo] at s1
  rw [ii, ii] at s2
  rw [a1, a2] at nB
  by_cases e : c = 111
  · obtain ⟨rfl, rfl, rfl, rfl⟩ := h.1 e
    have e1 : d = 105 := by omega
    subst e e1
    simp only [if_true, if_false, show ¬ (105 : Nat) = 111 by decide, show ¬ (111 : Nat) = 105 by decide] at s1 s2 b1 b2
    obtain ⟨k1, k2⟩ := nA.1 rfl
    obtain ⟨k3, k4⟩ := nB.2 (by decide)
    exact ⟨⟨by omega, by omega⟩, ⟨by omega, by omega⟩, ⟨a1, a2⟩, ⟨c1, c2⟩, k1, k2, k3, k4,
      f.rim w w' (.inl rfl) hcd ⟨fun _ => ⟨rfl, rfl⟩, fun z => absurd rfl z⟩, f.rim w w' (.inr rfl) hcd ⟨fun z => absurd z (by decide), fun _ => ⟨rfl, rfl⟩⟩⟩
  · obtain ⟨rfl, rfl, rfl, rfl⟩ := h.2 e
    have e0 : c = 105 := by omega
    have e1 : d = 111 := by omega
    subst e0 e1
    simp only [if_true, if_false, show ¬ (105 : Nat) = 111 by decide, show ¬ (111 : Nat) = 105 by decide] at s1 s2 b1 b2
    obtain ⟨k1, k2⟩ := nA.2 (by decide)
    obtain ⟨k3, k4⟩ := nB.1 rfl
    exact ⟨⟨by omega, by omega⟩, ⟨by omega, by omega⟩, ⟨a1, a2⟩, ⟨c1, c2⟩, k1, k2, k3, k4,
      f.rim w w' (.inl rfl) hcd ⟨fun z => absurd z (by decide), fun _ => ⟨rfl, rfl⟩⟩, f.rim w w' (.inr rfl) hcd ⟨fun _ => ⟨rfl, rfl⟩, fun z => absurd rfl z⟩⟩
end LandM

/-! LandT: turnings. -/
namespace LandM
theorem turn_sg {l : List Nat} {p : Nat} (h : p ≤ l.length) (h0 : 0 < l.length) (t : Int) : sg (turn l p) t = sg l ((p : Int) + t) := by
  have m1 : 0 ≤ t % (l.length : Int) := Int.emod_nonneg _ (by omega)
  have m2 : t % (l.length : Int) < l.length := Int.emod_lt_of_pos _ (by omega)
  have hd := Int.emod_add_mul_ediv t l.length
  have hg := turn_get h (i := (t % (l.length : Int)).toNat) (by omega)
  rw [sg_def, turn_len l h, List.getD_eq_getElem?_getD, hg]
  show sg l _ = _
  rw [show (p : Int) + t = (p : Int) + ((t % (l.length : Int)).toNat : Nat) + t / (l.length : Int) * l.length by rw [Int.mul_comm (t / (l.length : Int))]; omega, sg_per]
theorem turn_turn {l : List Nat} {k j : Nat} (hk : k ≤ l.length) (hj : j ≤ l.length) (h0 : 0 < l.length) : turn (turn l k) j = turn l ((k + j) % l.length) := by
  have hm : (k + j) % l.length < l.length := Nat.mod_lt _ h0
  have l1 := turn_len l hk
  have l2 := turn_len (turn l k) (p := j) (by omega)
  have l3 := turn_len l (p := (k + j) % l.length) (by omega)
  refine List.ext_getElem? fun i => ?_
  by_cases hi : i < l.length
  · rw [turn_get (by omega) (by omega), turn_get (by omega) hi, turn_sg hk h0]
    congr 1
    have hd := Nat.mod_add_div (k + j) l.length
    have : ((k : Int) + ((j : Int) + i)) = (((k + j) % l.length : Nat) : Int) + i + (((k + j) / l.length : Nat) : Int) * l.length := by
      have e : ((((k + j) % l.length + l.length * ((k + j) / l.length) : Nat)) : Int) = ((k + j : Nat) : Int) := by rw [hd]
      rw [Int.natCast_add, Int.natCast_mul, Int.mul_comm] at e
      omega
    rw [this, sg_per]
  · rw [List.getElem?_eq_none (by omega), List.getElem?_eq_none (by omega)]
theorem turn_zero (l : List Nat) : turn l 0 = l := by unfold turn; simp
theorem turn_perm (l : List Nat) (k : Nat) : (turn l k).Perm l := by
  unfold turn
  refine List.perm_append_comm.trans ?_
  rw [List.take_append_drop]
def isTurn (a b : List Nat) : Prop := ∃ k, k < b.length ∧ turn b k = a
noncomputable instance (a b : List Nat) : Decidable (isTurn a b) := Classical.propDecidable _
theorem isTurn.len {a b : List Nat} (h : isTurn a b) : a.length = b.length := by
  obtain ⟨k, hk, rfl⟩ := h
  exact turn_len b (by omega)
theorem isTurn.refl {a : List Nat} (h : 0 < a.length) : isTurn a a := ⟨0, h, turn_zero a⟩
theorem isTurn.trans {a b c : List Nat} (h : isTurn a b) (h' : isTurn b c) : isTurn a c := by
  obtain ⟨k, hk, rfl⟩ := h
  have hl := h'.len
  obtain ⟨j, hj, rfl⟩ := h'
  have h0 : 0 < c.length := by omega
  exact ⟨(j + k) % c.length, Nat.mod_lt _ h0, (turn_turn (by omega) (by omega) h0).symm⟩
theorem isTurn.symm {a b : List Nat} (h : isTurn a b) : isTurn b a := by
  have hl := h.len
  obtain ⟨k, hk, rfl⟩ := h
  have h0 : 0 < b.length := by omega
  by_cases e : k = 0
  · subst e
    rw [turn_zero]
    exact .refl h0
  · refine ⟨b.length - k, by omega, ?_⟩
    rw [turn_turn (by omega) (by omega) h0, show k + (b.length - k) = b.length by omega, Nat.mod_self, turn_zero]
/-- a least one of all turnings -/
def Least (l m : List Nat) : Prop := isTurn m l ∧ ∀ x, isTurn x l → ¬ x < m
theorem Least.same {a b m n : List Nat} (h0 : 0 < a.length) (h : Least a m) (h' : Least b n) : m = n ↔ isTurn a b := by
  constructor
  · rintro rfl
    exact h.1.symm.trans h'.1
  · intro e
    have h1 : ¬ m < n := h'.2 m (h.1.trans e)
    have h2 : ¬ n < m := h.2 n (h'.1.trans e.symm)
    exact List.le_antisymm h2 h1
end LandM

/-! LandU: lands of rings; rims of turned and of exchanged lands; growths. -/
namespace LandM
open DL
/-- the land of a ring -/
def landOf (r : List Int) : List Nat := (r.map fun x => 111 :: List.replicate (x - 2).toNat 105).flatten
theorem split_land : ∀ b : List Nat, (∀ x ∈ b, x = 111 ∨ x = 105) → ((splitC 111 b).map fun q => 111 :: List.replicate q.length 105).flatten = 111 :: b
  | [], _ => rfl
  | x :: r, h => by
    have ih := split_land r fun y hy => h y (List.mem_cons_of_mem _ hy)
    unfold splitC
    rcases h x List.mem_cons_self with rfl | rfl
    · rw [if_pos rfl, List.map_cons, List.flatten_cons, ih]
      rfl
    · rw [if_neg (by decide)]
      cases e : splitC 111 r with
      | nil => rw [e] at ih; cases ih
      | cons p ps =>
        rw [e, List.map_cons, List.flatten_cons] at ih
        show (List.map _ ((105 :: p) :: ps)).flatten = _
        rw [List.map_cons, List.flatten_cons, List.length_cons, List.replicate_succ]
        have ih : List.replicate p.length 105 ++ (List.map (fun q => 111 :: List.replicate q.length 105) ps).flatten = r := (List.cons.inj ih).2
        show 111 :: (105 :: (List.replicate p.length 105 ++ _)) = _
        rw [ih]
theorem fst_turn {l : List Nat} {c : Nat} (h : c ∈ l) : ∃ b, turn l (fstIx c l) = c :: b := by
  obtain ⟨h1, h2, _⟩ := fst_spec h
  unfold turn
  rw [List.drop_eq_getElem_cons h1, (List.getElem?_eq_some_iff.mp h2).2]
  exact ⟨_, rfl⟩
theorem landOf_rim {l : List Nat} (w : Word l) : landOf (rim l 111) = turn l (fstIx 111 l) := by
  obtain ⟨b, hb⟩ := fst_turn w.o
  have hs : ∀ x ∈ b, x = 111 ∨ x = 105 := fun x hx => w.all x ((turn_perm l _).mem_iff.mp (by rw [hb]; exact List.mem_cons_of_mem _ hx))
  unfold landOf rim
  rw [hb]
  have e : splitC 111 (111 :: b) = [] :: splitC 111 b := by
    rw [splitC, if_pos rfl]
  rw [e, List.drop_one, List.tail_cons, List.map_map, ← split_land b hs]
  congr 1
  refine List.map_congr_left fun q _ => ?_
  show 111 :: List.replicate (2 + (q.length : Int) - 2).toNat 105 = _
  rw [show (2 + (q.length : Int) - 2).toNat = q.length by omega]
theorem landOf_len : ∀ r : List Int, (∀ x ∈ r, 2 ≤ x) → ((landOf r).length : Int) = r.sum - r.length
  | [], _ => rfl
  | x :: r, h => by
    have ih := landOf_len r fun y hy => h y (List.mem_cons_of_mem _ hy)
    have hx := h x List.mem_cons_self
    unfold landOf at ih ⊢
    rw [List.map_cons, List.flatten_cons, List.length_append, List.length_cons, List.length_replicate, List.sum_cons, List.length_cons]
    omega
theorem landOf_all (r : List Int) : ∀ x ∈ landOf r, x = 111 ∨ x = 105 := by
  intro x hx
  unfold landOf at hx
  obtain ⟨q, hq, hx⟩ := List.mem_flatten.mp hx
  obtain ⟨z, _, rfl⟩ := List.mem_map.mp hq
  rcases List.mem_cons.mp hx with e | e
  · exact .inl e
  · exact .inr (List.eq_of_mem_replicate e)
theorem landOf_word {r : List Int} (h : ∀ x ∈ r, 2 ≤ x) (hs : 2 * (r.length : Int) < r.sum) : Word (landOf r) := by
  refine ⟨landOf_all r, ?_, ?_⟩
  · cases r with
    | nil => exact absurd hs (by decide)
    | cons x r => exact List.mem_flatten.mpr ⟨_, List.mem_map.mpr ⟨x, List.mem_cons_self, rfl⟩, List.mem_cons_self⟩
  · have key : ∃ x ∈ r, 2 < x := by
      refine Classical.byContradiction fun hn => ?_
      have : ∀ l : List Int, (∀ x ∈ l, x ≤ 2) → l.sum ≤ 2 * l.length := by
        intro l
        induction l with
        | nil => intro _; exact Int.le_refl _
        | cons x t ih =>
          intro hx
          have h1 := hx x List.mem_cons_self
          have h2 := ih fun y hy => hx y (List.mem_cons_of_mem _ hy)
          rw [List.sum_cons, List.length_cons]
          omega
      have := this r fun x hx => Int.not_lt.mp fun z => hn ⟨x, hx, z⟩
      omega
    obtain ⟨x, hx, h2⟩ := key
    refine List.mem_flatten.mpr ⟨_, List.mem_map.mpr ⟨x, hx, rfl⟩, List.mem_cons_of_mem _ (List.mem_replicate.mpr ⟨by omega, rfl⟩)⟩
/-! ### signs exchanged -/
def exg (l : List Nat) : List Nat := l.map fun x => 216 - x
theorem exg_len (l : List Nat) : (exg l).length = l.length := List.length_map ..
theorem exg_turn (l : List Nat) (p : Nat) : exg (turn l p) = turn (exg l) p := by
  unfold exg turn
  rw [List.map_append, List.map_drop, List.map_take]
theorem exg_exg {l : List Nat} (h : ∀ x ∈ l, x = 111 ∨ x = 105) : exg (exg l) = l := by
  unfold exg
  rw [List.map_map]
  refine (List.map_congr_left fun x hx => ?_).trans (List.map_id l)
  show 216 - (216 - x) = x
  rcases h x hx with rfl | rfl <;> rfl
theorem exg_word {l : List Nat} (w : Word l) : Word (exg l) := by
  refine ⟨fun x hx => ?_, List.mem_map.mpr ⟨105, w.i, rfl⟩, List.mem_map.mpr ⟨111, w.o, rfl⟩⟩
  obtain ⟨y, hy, rfl⟩ := List.mem_map.mp hx
  rcases w.all y hy with rfl | rfl
  · exact .inr rfl
  · exact .inl rfl
theorem exg_eq {x s : Nat} (hx : x = 111 ∨ x = 105) (hs : Sign s) : 216 - x = 216 - s ↔ x = s := by
  rcases hx with rfl | rfl <;> rcases hs with rfl | rfl <;> decide
theorem exg_fst {s : Nat} (hs : Sign s) : ∀ l : List Nat, (∀ x ∈ l, x = 111 ∨ x = 105) → fstIx (216 - s) (exg l) = fstIx s l
  | [], _ => rfl
  | x :: r, h => by
    have ih := exg_fst hs r fun y hy => h y (List.mem_cons_of_mem _ hy)
    show (if 216 - x = 216 - s then 0 else fstIx (216 - s) (exg r) + 1) = if x = s then 0 else fstIx s r + 1
    rw [ih]
    by_cases e : x = s
    · rw [if_pos e, if_pos ((exg_eq (h x List.mem_cons_self) hs).mpr e)]
    · rw [if_neg e, if_neg fun z => e ((exg_eq (h x List.mem_cons_self) hs).mp z)]
theorem exg_split {s : Nat} (hs : Sign s) : ∀ l : List Nat, (∀ x ∈ l, x = 111 ∨ x = 105) → (splitC (216 - s) (exg l)).map List.length = (splitC s l).map List.length
  | [], _ => rfl
  | x :: r, h => by
    have ih := exg_split hs r fun y hy => h y (List.mem_cons_of_mem _ hy)
    have e1 : exg (x :: r) = (216 - x) :: exg r := rfl
    rw [e1]
    by_cases e : x = s
    · rw [splitC, splitC, if_pos e, if_pos ((exg_eq (h x List.mem_cons_self) hs).mpr e), List.map_cons, List.map_cons, ih]
    · rw [splitC, splitC, if_neg e, if_neg fun z => e ((exg_eq (h x List.mem_cons_self) hs).mp z)]
      cases e2 : splitC (216 - s) (exg r) with
      | nil => obtain ⟨_, _, q, _⟩ := split_spec (216 - s) (exg r); rw [e2] at q; cases q
      | cons p ps =>
        cases e3 : splitC s r with
        | nil => obtain ⟨_, _, q, _⟩ := split_spec s r; rw [e3] at q; cases q
        | cons q qs =>
          rw [e2, e3, List.map_cons, List.map_cons] at ih
          obtain ⟨i1, i2⟩ := List.cons.inj ih
          show List.map List.length (((216 - x) :: p) :: ps) = List.map List.length ((x :: q) :: qs)
          rw [List.map_cons, List.map_cons, List.length_cons, List.length_cons, i1, i2]
theorem exg_rim {l : List Nat} (w : Word l) {s : Nat} (hs : Sign s) : rim (exg l) (216 - s) = rim l s := by
  have h := exg_split hs (turn l (fstIx s l)) fun x hx => w.all x ((turn_perm l _).mem_iff.mp hx)
  have e : ∀ (L : List (List Nat)), (L.drop 1).map (fun q => 2 + (q.length : Int)) = ((L.map List.length).drop 1).map fun n : Nat => 2 + (n : Int) := fun L => by
    rw [← List.map_drop, List.map_map]
    rfl
  unfold rim
  rw [exg_fst hs l w.all, ← exg_turn, e, e, h]
theorem landOf_rim_i {l : List Nat} (w : Word l) : landOf (rim l 105) = exg (turn l (fstIx 105 l)) := by
  have h1 := exg_rim w (.inr rfl) (s := 105)
  have h2 := landOf_rim (exg_word w)
  rw [show (216 : Nat) - 105 = 111 from rfl] at h1
  rw [h1] at h2
  rw [h2, exg_turn]
  congr 1
  exact exg_fst (.inr rfl) (s := 105) l w.all
/-! ### turnings of rims -/
def rot {α : Type} (l : List α) (k : Nat) : List α := l.drop k ++ l.take k
theorem rot_len {α : Type} (l : List α) (k : Nat) (h : k ≤ l.length) : (rot l k).length = l.length := by
  unfold rot
  rw [List.length_append, List.length_drop, List.length_take]
  omega
theorem rot_get {α : Type} (l : List α) (k j : Nat) (h : k < l.length) (hj : j < l.length) : (rot l k)[j]? = l[(j + k) % l.length]? := by
  unfold rot
  by_cases e : j + k < l.length
  · rw [List.getElem?_append_left (by rw [List.length_drop]; omega), List.getElem?_drop, Nat.mod_eq_of_lt e, Nat.add_comm]
  · rw [List.getElem?_append_right (by rw [List.length_drop]; omega), List.length_drop, List.getElem?_take, if_pos (by omega)]
    congr 1
    rw [Nat.mod_eq_sub_mod (by omega), Nat.mod_eq_of_lt (by omega)]
    omega
/-- a place of a rim, the index counted round -/
theorem Rim.valZ {l : List Nat} (w : Word l) {s : Nat} (hs : Sign s) {j t u : Int} (t1 : cn l s t = j) (t2 : sg l t = s) (u1 : cn l s u = j + 1) (u2 : sg l u = s) : (rim l s).getD (j % (rim l s).length).toNat 0 = 1 + u - t := by
  have rl := rim_len w hs
  have hp := many_pos w hs
  have m1 : 0 ≤ j % ((rim l s).length : Int) := Int.emod_nonneg _ (by omega)
  have m2 : j % ((rim l s).length : Int) < (rim l s).length := Int.emod_lt_of_pos _ (by omega)
  have hd := Int.emod_add_mul_ediv j (rim l s).length
  have sh : ∀ x y : Int, cn l s x = y → cn l s (x + -(j / ((rim l s).length : Int)) * l.length) = y - ((rim l s).length : Int) * (j / ((rim l s).length : Int)) := fun x y h => by
    rw [cn_per w hs, h, rl, Int.neg_mul, Int.mul_comm]
    omega
  have v := Rim.val w hs (Rim.of w hs) (k := (j % ((rim l s).length : Int)).toNat) (t := t + -(j / ((rim l s).length : Int)) * l.length) (u := u + -(j / ((rim l s).length : Int)) * l.length) (by omega)
    (by rw [sh t j t1]; omega) (by rw [sg_per]; exact t2) (by rw [sh u (j + 1) u1]; omega) (by rw [sg_per]; exact u2)
  rw [v]
  omega
theorem cn_turn {l : List Nat} (w : Word l) (w' : ∀ p, Word (turn l p)) {s : Nat} (hs : Sign s) {p : Nat} (h : p ≤ l.length) (t : Int) : cn (turn l p) s t = cn l s ((p : Int) + t) - cn l s p := by
  refine int_ind (p := fun t => cn (turn l p) s t = cn l s ((p : Int) + t) - cn l s p) ?_ ?_ ?_ t
  · rw [cn_zero, Int.add_zero]; omega
  · intro t ih
    rw [cn_succ (w' p) hs, ih, turn_sg h w.ne, show (p : Int) + (t + 1) = (p : Int) + t + 1 by omega, cn_succ w hs]
    omega
  · intro t ih
    rw [cn_pred (w' p) hs, ih, turn_sg h w.ne, show (p : Int) + (t - 1) = (p : Int) + t - 1 by omega, cn_pred w hs]
    omega
theorem Word.turn {l : List Nat} (w : Word l) (p : Nat) : Word (LandM.turn l p) := ⟨fun x hx => w.all x ((turn_perm l p).mem_iff.mp hx), (turn_perm l p).mem_iff.mpr w.o, (turn_perm l p).mem_iff.mpr w.i⟩
theorem rim_turn {l : List Nat} (w : Word l) {s : Nat} (hs : Sign s) {p : Nat} (h : p ≤ l.length) : ∃ k, k < (rim l s).length ∧ rim (turn l p) s = rot (rim l s) k := by
  have hp := many_pos w hs
  have rl := rim_len w hs
  have wt := w.turn p
  have rl' := rim_len wt hs
  have tl := turn_len l h
  have hm : many (turn l p) s = many l s := by
    unfold many
    have := cn_per1 w hs (p : Int)
    unfold many at this
    rw [tl, cn_turn w w.turn hs h, this]
    omega
  rw [hm] at rl'
  have hl : (rim (turn l p) s).length = (rim l s).length := by omega
  have m1 : 0 ≤ cn l s p % ((rim l s).length : Int) := Int.emod_nonneg _ (by omega)
  have m2 : cn l s p % ((rim l s).length : Int) < (rim l s).length := Int.emod_lt_of_pos _ (by omega)
  refine ⟨(cn l s p % ((rim l s).length : Int)).toNat, by omega, List.ext_getElem? fun j => ?_⟩
  by_cases hj : j < (rim l s).length
  · rw [rot_get _ _ _ (by omega) hj]
    obtain ⟨t, t1, t2, _⟩ := tm wt hs (j : Int)
    obtain ⟨u, u1, u2, _⟩ := tm wt hs ((j : Int) + 1)
    have v := Rim.val wt hs (Rim.of wt hs) (by omega) t1 t2 u1 u2
    rw [cn_turn w w.turn hs h] at t1 u1
    rw [turn_sg h w.ne] at t2 u2
    have v2 := Rim.valZ w hs (j := (j : Int) + cn l s p) (t := (p : Int) + t) (u := (p : Int) + u) (by omega) t2 (by omega) u2
    have ix : (((j : Int) + cn l s p) % ((rim l s).length : Int)).toNat = (j + (cn l s p % ((rim l s).length : Int)).toNat) % (rim l s).length := by
      have e1 : ((j : Int) + cn l s p) % ((rim l s).length : Int) = ((j : Int) + cn l s p % ((rim l s).length : Int)) % ((rim l s).length : Int) := by rw [Int.add_emod_emod]
      generalize cn l s p % ((rim l s).length : Int) = z at *
      obtain ⟨y, rfl⟩ : ∃ y : Nat, z = y := ⟨z.toNat, by omega⟩
      rw [e1, Int.toNat_natCast, ← Int.natCast_add, ← Int.natCast_emod, Int.toNat_natCast]
    rw [ix] at v2
    have hlt : (j + (cn l s p % ((rim l s).length : Int)).toNat) % (rim l s).length < (rim l s).length := Nat.mod_lt _ (by omega)
    rw [List.getD_eq_getElem?_getD, List.getElem?_eq_getElem (by omega)] at v
    rw [List.getD_eq_getElem?_getD, List.getElem?_eq_getElem hlt] at v2
    rw [List.getElem?_eq_getElem (by omega), List.getElem?_eq_getElem hlt]
    have v : (rim (turn l p) s)[j] = 1 + u - t := v
    have v2 : (rim l s)[(j + (cn l s p % ((rim l s).length : Int)).toNat) % (rim l s).length] = 1 + ((p : Int) + u) - ((p : Int) + t) := v2
    congr 1
    omega
  · rw [List.getElem?_eq_none (by omega), List.getElem?_eq_none (by rw [rot_len _ _ (by omega)]; omega)]
/-! ### growths -/
theorem M_pos (l : List Nat) : ∀ k : Nat, 1 ≤ (M l k).a ∧ 1 ≤ (M l k).d ∧ 0 ≤ (M l k).b ∧ 0 ≤ (M l k).c ∧ (1 ≤ cn l 111 k → 1 ≤ (M l k).b) ∧ (1 ≤ cn l 105 k → 1 ≤ (M l k).c)
  | 0 => ⟨Int.le_refl 1, Int.le_refl 1, Int.le_refl 0, Int.le_refl 0, fun h => by rw [show ((0 : Nat) : Int) = 0 from rfl, cn_zero] at h; omega, fun h => by rw [show ((0 : Nat) : Int) = 0 from rfl, cn_zero] at h; omega⟩
  | k + 1 => by
    obtain ⟨h1, h2, h3, h4, h5, h6⟩ := M_pos l k
    have o1 : cn l 111 ((k : Int) + 1) = cn l 111 k + io l k := out_succ l k
    have o2 : cn l 105 ((k : Int) + 1) = cn l 105 k + (1 - io l k) := inn_succ l k
    rw [show ((k + 1 : Nat) : Int) = (k : Int) + 1 by omega, M_succ]
    rw [o1, o2]
    rcases io01 l k with e | e
    · rw [e]
      unfold step
      rw [if_neg (by decide)]
      exact ⟨h1, by show 1 ≤ (M l k).d + (M l k).b; omega, h3, by show 0 ≤ (M l k).c + (M l k).a; omega, fun h => h5 (by omega), fun _ => by show 1 ≤ (M l k).c + (M l k).a; omega⟩
    · rw [e]
      unfold step
      rw [if_pos rfl]
      exact ⟨by show 1 ≤ (M l k).a + (M l k).c; omega, h2, by show 0 ≤ (M l k).b + (M l k).d; omega, h4, fun _ => by show 1 ≤ (M l k).b + (M l k).d; omega, fun h => h6 (by omega)⟩
theorem trace_big {l : List Nat} (w : Word l) : 3 ≤ (M l l.length).a + (M l l.length).d := by
  obtain ⟨h1, h2, h3, h4, h5, h6⟩ := M_pos l l.length
  have h5 := h5 (many_pos w (.inl rfl))
  have h6 := h6 (many_pos w (.inr rfl))
  have hd := det_M l l.length
  unfold det Mt.P Mt.Q at hd
  generalize (M l l.length).a = a at *
  generalize (M l l.length).b = b at *
  generalize (M l l.length).c = c at *
  generalize (M l l.length).d = d at *
  refine Int.not_lt.mp fun hlt => ?_
  have ha : a = 1 := by omega
  have hdd : d = 1 := by omega
  have hbc : 1 * 1 ≤ b * c := Int.mul_le_mul h5 h6 (by decide) (by omega)
  subst ha hdd
  simp only at hd
  omega
theorem rim_sum {l : List Nat} (w : Word l) {s : Nat} (hs : Sign s) : (rim l s).sum - (rim l s).length = l.length := by
  have pos : ∀ {l : List Nat}, Word l → ∀ x ∈ rim l 111, 2 ≤ x := fun {l} w x hx => by
    unfold rim at hx
    obtain ⟨q, _, rfl⟩ := List.mem_map.mp hx
    omega
  rcases hs with rfl | rfl
  · have h := landOf_len (rim l 111) (pos w)
    rw [landOf_rim w, turn_len l (Nat.le_of_lt (fst_spec w.o).1)] at h
    omega
  · have e := exg_rim w (.inr rfl) (s := 105)
    have w' := exg_word w
    have h := landOf_len (rim (exg l) 111) (pos w')
    rw [landOf_rim w', turn_len _ (Nat.le_of_lt (fst_spec w'.o).1), exg_len] at h
    rw [show (216 : Nat) - 105 = 111 from rfl] at e
    rw [e] at h
    omega
end LandM

/-! LandV: runs of a land; fractions with plus. -/
namespace LandM
open DL
def wordOf : Nat → List Nat → List Nat
  | _, [] => []
  | s, n :: r => List.replicate n s ++ wordOf (216 - s) r
def alt (s n : Nat) : Nat := if n % 2 = 0 then s else 216 - s
theorem alt_sign {s : Nat} (hs : Sign s) (n : Nat) : Sign (alt s n) := by
  unfold alt
  split
  · exact hs
  · rcases hs with rfl | rfl
    · exact .inr rfl
    · exact .inl rfl
theorem alt_succ {s : Nat} (hs : Sign s) (n : Nat) : alt (216 - s) n = alt s (n + 1) := by
  unfold alt
  rcases hs with rfl | rfl <;> split <;> split <;> omega
theorem alt_next {s : Nat} (hs : Sign s) (n : Nat) : alt s (n + 1) = 216 - alt s n := by
  unfold alt
  rcases hs with rfl | rfl <;> split <;> split <;> omega
theorem wordOf_app {s : Nat} (hs : Sign s) : ∀ r1 r2 : List Nat, wordOf s (r1 ++ r2) = wordOf s r1 ++ wordOf (alt s r1.length) r2
  | [], r2 => by
    show wordOf s r2 = wordOf (alt s 0) r2
    rfl
  | n :: r, r2 => by
    have hs' : Sign (216 - s) := by rcases hs with rfl | rfl; exact .inr rfl; exact .inl rfl
    have ih := wordOf_app hs' r r2
    show List.replicate n s ++ wordOf (216 - s) (r ++ r2) = _
    rw [ih, alt_succ hs, ← List.append_assoc]
    rfl
theorem wordOf_len (s : Nat) (r : List Nat) : (wordOf s r).length = r.sum := by
  induction r generalizing s with
  | nil => rfl
  | cons n r ih =>
    show (List.replicate n s ++ wordOf (216 - s) r).length = _
    rw [List.length_append, List.length_replicate, ih, List.sum_cons]
theorem wordOf_all {s : Nat} (hs : Sign s) (r : List Nat) : ∀ x ∈ wordOf s r, x = 111 ∨ x = 105 := by
  induction r generalizing s with
  | nil => intro x hx; cases hx
  | cons n r ih =>
    intro x hx
    have hs' : Sign (216 - s) := by rcases hs with rfl | rfl; exact .inr rfl; exact .inl rfl
    rcases List.mem_append.mp hx with h | h
    · rw [List.eq_of_mem_replicate h]; exact hs
    · exact ih hs' x h
theorem sign_ne {s : Nat} (hs : Sign s) : 216 - s ≠ s := by rcases hs with rfl | rfl <;> decide
/-- the runs of a word are told by it -/
theorem runs_uniq {s : Nat} (hs : Sign s) : ∀ r r' : List Nat, (∀ x ∈ r, 1 ≤ x) → (∀ x ∈ r', 1 ≤ x) → wordOf s r = wordOf s r' → r = r'
  | [], [], _, _, _ => rfl
  | [], n :: r, _, h, e => by
    have h1 := h n List.mem_cons_self
    have := congrArg List.length e
    rw [wordOf_len, wordOf_len, List.sum_cons] at this
    simp at this
    omega
  | n :: r, [], h, _, e => by
    have h1 := h n List.mem_cons_self
    have := congrArg List.length e
    rw [wordOf_len, wordOf_len, List.sum_cons] at this
    simp at this
    omega
  | n :: r, n' :: r', h, h', e => by
    have hs' : Sign (216 - s) := by rcases hs with rfl | rfl; exact .inr rfl; exact .inl rfl
    have key : ∀ (m m' : Nat) (t t' : List Nat), (∀ x ∈ t, 1 ≤ x) → m < m' → List.replicate m s ++ wordOf (216 - s) t = List.replicate m' s ++ wordOf (216 - s) t' → False := by
      intro m m' t t' ht hlt e
      have e1 : (List.replicate m s ++ wordOf (216 - s) t)[m]? = some s := by
        rw [e, List.getElem?_append_left (by rw [List.length_replicate]; exact hlt), List.getElem?_replicate, if_pos hlt]
      rw [List.getElem?_append_right (by rw [List.length_replicate]; exact Nat.le_refl m), List.length_replicate, Nat.sub_self] at e1
      cases t with
      | nil => cases e1
      | cons k t =>
        have hk := ht k List.mem_cons_self
        have e2 : (List.replicate k (216 - s) ++ wordOf (216 - (216 - s)) t)[0]? = some s := e1
        rw [List.getElem?_append_left (by rw [List.length_replicate]; omega), List.getElem?_replicate, if_pos (by omega)] at e2
        exact sign_ne hs (Option.some.inj e2)
    have hn : n = n' := by
      rcases Nat.lt_trichotomy n n' with z | z | z
      · exact (key n n' r r' (fun x hx => h x (List.mem_cons_of_mem _ hx)) z e).elim
      · exact z
      · exact (key n' n r' r (fun x hx => h' x (List.mem_cons_of_mem _ hx)) z e.symm).elim
    subst hn
    have e' : List.replicate n s ++ wordOf (216 - s) r = List.replicate n s ++ wordOf (216 - s) r' := e
    rw [runs_uniq hs' r r' (fun x hx => h x (List.mem_cons_of_mem _ hx)) (fun x hx => h' x (List.mem_cons_of_mem _ hx)) (List.append_cancel_left e')]
/-! ### counting the runs -/
def runStep (p : List Nat × Nat) (c : Nat) : List Nat × Nat := if c = p.2 then (p.1.set (p.1.length - 1) (p.1.getD (p.1.length - 1) 0 + 1), c) else (p.1 ++ [1], c)
def runsTo (l : List Nat) : List Nat × Nat := l.foldl runStep ([], 0)
theorem runsTo_snoc (l : List Nat) (c : Nat) : runsTo (l ++ [c]) = runStep (runsTo l) c := by
  unfold runsTo
  rw [List.foldl_append]
  rfl
theorem list_snoc {α : Type} (l : List α) (h : l ≠ []) : ∃ i x, l = i ++ [x] := ⟨l.dropLast, l.getLast h, (List.dropLast_concat_getLast h).symm⟩
theorem snoc_ind {α : Type} {p : List α → Prop} (h0 : p []) (h1 : ∀ i x, p i → p (i ++ [x])) (l : List α) : p l := by
  rw [← List.reverse_reverse l]
  induction l.reverse with
  | nil => exact h0
  | cons x r ih =>
    rw [List.reverse_cons]
    exact h1 _ _ ih
theorem runs_inv {s : Nat} (hs : Sign s) (l : List Nat) : (∀ x ∈ l, x = 111 ∨ x = 105) → (l ≠ [] → l.head? = some s) → (∀ x ∈ (runsTo l).1, 1 ≤ x) ∧ wordOf s (runsTo l).1 = l ∧ (l = [] → runsTo l = ([], 0)) ∧ (l ≠ [] → (runsTo l).1 ≠ [] ∧ (runsTo l).2 = alt s ((runsTo l).1.length - 1)) := by
  induction l using snoc_ind with
  | h0 => exact fun _ _ => ⟨fun x hx => (by cases hx), rfl, fun _ => rfl, fun h => absurd rfl h⟩
  | h1 i c ih =>
    intro hl hh
    have hc := hl c (List.mem_append_right _ List.mem_cons_self)
    have hi0 : i ≠ [] → i.head? = some s := fun h => by
      have := hh (by simp)
      cases i with
      | nil => exact absurd rfl h
      | cons y t => exact this
    obtain ⟨h1, h2, h3, h4⟩ := ih (fun x hx => hl x (List.mem_append_left _ hx)) hi0
    rw [runsTo_snoc]
    revert h1 h2 h3 h4
    generalize runsTo i = p
    obtain ⟨r, b⟩ := p
    dsimp only
    intro h1 h2 h3 h4
    unfold runStep
    dsimp only
    by_cases e0 : i = []
    · subst e0
      obtain ⟨hr, hb0⟩ := Prod.mk.inj (h3 rfl)
      subst hr hb0
      have hcs : c = s := Option.some.inj (hh (by simp))
      subst hcs
      by_cases hb : c = 0
      · rcases hc with z | z <;> omega
      · rw [if_neg hb]
        refine ⟨fun x hx => ?_, ?_, fun z => by simp at z, fun _ => ⟨by simp, ?_⟩⟩
        · have := List.mem_singleton.mp hx; omega
        · show List.replicate 1 c ++ [] = [c]
          rfl
        · rfl
    · obtain ⟨h5, h6⟩ := h4 e0
      obtain ⟨q, m, rfl⟩ := list_snoc r h5
      have hm := h1 m (List.mem_append_right _ List.mem_cons_self)
      have hlen : (q ++ [m]).length - 1 = q.length := by rw [List.length_append]; simp
      rw [hlen] at h6
      have hw := wordOf_app hs q [m]
      rw [h2] at hw
      have hone : ∀ k : Nat, wordOf (alt s q.length) [k] = List.replicate k (alt s q.length) := fun k => by
        show List.replicate k _ ++ [] = _
        rw [List.append_nil]
      rw [hone] at hw
      by_cases hb : c = b
      · rw [if_pos hb]
        have eset : (q ++ [m]).set ((q ++ [m]).length - 1) ((q ++ [m]).getD ((q ++ [m]).length - 1) 0 + 1) = q ++ [m + 1] := by
          rw [hlen, List.getD_eq_getElem?_getD, List.getElem?_append_right (Nat.le_refl _), Nat.sub_self, List.set_append_right _ _ (Nat.le_refl _), Nat.sub_self]
          rfl
        rw [eset]
        refine ⟨fun x hx => ?_, ?_, fun z => by simp at z, fun _ => ⟨by simp, ?_⟩⟩
        · rcases List.mem_append.mp hx with z | z
          · exact h1 x (List.mem_append_left _ z)
          · have := List.mem_singleton.mp z; omega
        · rw [wordOf_app hs, hone, List.replicate_succ', ← List.append_assoc, ← hw, hb, h6]
        · rw [List.length_append]
          show c = alt s (q.length + 1 - 1)
          rw [hb, h6]
          rfl
      · rw [if_neg hb]
        have hcb : c = 216 - b := by
          have hsb : Sign b := by rw [h6]; exact alt_sign hs _
          rcases hc with rfl | rfl <;> rcases hsb with rfl | rfl <;> omega
        refine ⟨fun x hx => ?_, ?_, fun z => by simp at z, fun _ => ⟨by simp, ?_⟩⟩
        · rcases List.mem_append.mp hx with z | z
          · exact h1 x z
          · have := List.mem_singleton.mp z; omega
        · rw [wordOf_app hs, h2]
          show i ++ (List.replicate 1 (alt s (q ++ [m]).length) ++ []) = i ++ [c]
          rw [List.length_append]
          show i ++ ([alt s (q.length + 1)] ++ []) = i ++ [c]
          rw [alt_next hs, ← h6, hcb]
          rfl
        · rw [List.length_append]
          show c = alt s ((q ++ [m]).length + 1 - 1)
          rw [List.length_append]
          show c = alt s (q.length + 1)
          rw [alt_next hs, ← h6, hcb]
end LandM

/-! LandW: the least turning; runs of the least turning; fractions. -/
namespace LandM
open DL
theorem least_ex {l : List Nat} : ∀ n : Nat, 0 < n → n ≤ l.length → ∃ k, k < n ∧ ∀ j, j < n → ¬ turn l j < turn l k
  | 0, h, _ => absurd h (by decide)
  | 1, _, _ => ⟨0, by decide, fun j hj => by rw [show j = 0 by omega]; exact List.lt_irrefl _⟩
  | n + 2, _, h => by
    obtain ⟨k, hk, hm⟩ := least_ex (l := l) (n + 1) (by omega) (by omega)
    by_cases e : turn l (n + 1) < turn l k
    · refine ⟨n + 1, by omega, fun j hj z => ?_⟩
      by_cases hj' : j < n + 1
      · exact hm j hj' (List.lt_trans z e)
      · rw [show j = n + 1 by omega] at z
        exact List.lt_irrefl _ z
    · refine ⟨k, by omega, fun j hj => ?_⟩
      by_cases hj' : j < n + 1
      · exact hm j hj'
      · rw [show j = n + 1 by omega]
        exact e
theorem Least.ex {l : List Nat} (h : 0 < l.length) : ∃ m, Least l m := by
  obtain ⟨k, hk, hm⟩ := least_ex (l := l) l.length h (Nat.le_refl _)
  refine ⟨turn l k, ⟨k, hk, rfl⟩, ?_⟩
  rintro _ ⟨j, hj, rfl⟩
  exact hm j hj
noncomputable def minOf (l : List Nat) : List Nat := open Classical in if h : ∃ m, Least l m then h.choose else []
theorem minOf_least {l : List Nat} (h : 0 < l.length) : Least l (minOf l) := by
  have e := Least.ex h
  unfold minOf
  rw [dif_pos e]
  exact e.choose_spec
theorem minOf_eq {l m : List Nat} (h : 0 < l.length) (hm : Least l m) : m = minOf l := (Least.same h hm (minOf_least h)).mpr (.refl h)
theorem minOf_turn {l l' : List Nat} (h : 0 < l.length) (e : isTurn l l') : minOf l = minOf l' := (Least.same h (minOf_least h) (minOf_least (by rw [← e.len]; exact h))).mpr e
theorem minOf_isTurn {l : List Nat} (h : 0 < l.length) : isTurn (minOf l) l := (minOf_least h).1
theorem minOf_perm {l : List Nat} (h : 0 < l.length) : (minOf l).Perm l := by
  obtain ⟨k, _, e⟩ := minOf_isTurn h
  rw [← e]
  exact turn_perm l k
theorem minOf_word {l : List Nat} (w : Word l) : Word (minOf l) := by
  obtain ⟨k, _, e⟩ := minOf_isTurn w.ne
  rw [← e]
  exact w.turn k
theorem minOf_all {l : List Nat} (h : 0 < l.length) (ha : ∀ x ∈ l, x = 111 ∨ x = 105) : ∀ x ∈ minOf l, x = 111 ∨ x = 105 := fun x hx => ha x ((minOf_perm h).mem_iff.mp hx)
theorem minOf_len {l : List Nat} (h : 0 < l.length) : (minOf l).length = l.length := (minOf_perm h).length_eq
theorem minOf_head {l : List Nat} (w : Word l) : (minOf l).head? = some 105 := by
  have wm := minOf_word w
  have hl := minOf_least w.ne
  cases e : minOf l with
  | nil => have := wm.ne; rw [e] at this; cases this
  | cons x r =>
    rcases wm.all x (by rw [e]; exact List.mem_cons_self) with hx | hx
    · exfalso
      obtain ⟨b, hb⟩ := fst_turn wm.i
      obtain ⟨h1, _, _⟩ := fst_spec wm.i
      refine hl.2 (105 :: b) (isTurn.trans ⟨_, h1, hb⟩ hl.1) ?_
      rw [e, hx]
      exact List.cons_lt_cons_iff.mpr (.inl (by decide))
    · rw [hx]; rfl
theorem front_lt : ∀ i : List Nat, (∀ x ∈ i, x = 111 ∨ x = 105) → 111 ∈ i → 105 :: i < i ++ [105]
  | [], _, h => by cases h
  | x :: r, ha, h => by
    rcases ha x List.mem_cons_self with rfl | rfl
    · exact List.cons_lt_cons_iff.mpr (.inl (by decide))
    · refine List.cons_lt_cons_iff.mpr (.inr ⟨rfl, front_lt r (fun y hy => ha y (List.mem_cons_of_mem _ hy)) ?_⟩)
      rcases List.mem_cons.mp h with z | z
      · cases z
      · exact z
theorem turn_snoc (i : List Nat) (c : Nat) : turn (i ++ [c]) i.length = c :: i := by
  unfold turn
  rw [List.drop_left, List.take_left]
  rfl
theorem minOf_last {l : List Nat} (w : Word l) : ∃ i, minOf l = i ++ [111] := by
  have wm := minOf_word w
  have hl := minOf_least w.ne
  obtain ⟨i, c, e⟩ := list_snoc (minOf l) (by intro z; have := wm.ne; rw [z] at this; cases this)
  refine ⟨i, ?_⟩
  rcases wm.all c (by rw [e]; exact List.mem_append_right _ List.mem_cons_self) with hx | hx
  · rw [e, hx]
  · exfalso
    rw [hx] at e
    refine hl.2 (105 :: i) (isTurn.trans ⟨i.length, ?_, ?_⟩ hl.1) ?_
    · rw [e, List.length_append]
      exact Nat.lt_succ_self _
    · rw [e, turn_snoc]
    · rw [e]
      refine front_lt i (fun x hx => wm.all x (by rw [e]; exact List.mem_append_left _ hx)) ?_
      have := wm.o
      rw [e] at this
      rcases List.mem_append.mp this with z | z
      · exact z
      · cases List.mem_singleton.mp z
theorem runsTo_last (i : List Nat) (c : Nat) : (runsTo (i ++ [c])).2 = c := by
  rw [runsTo_snoc]
  unfold runStep
  split <;> rfl
/-- the runs of the least turning -/
noncomputable def runsOf (l : List Nat) : List Nat := (runsTo (minOf l)).1
structure RunsOf (l r : List Nat) : Prop where
  pos : ∀ x ∈ r, 1 ≤ x
  word : wordOf 105 r = minOf l
  even : r.length % 2 = 0
  two : 2 ≤ r.length
  sum : r.sum = l.length
theorem RunsOf.of {l : List Nat} (w : Word l) : RunsOf l (runsOf l) := by
  have wm := minOf_word w
  have hne : minOf l ≠ [] := by intro z; have := wm.ne; rw [z] at this; cases this
  obtain ⟨h1, h2, _, h4⟩ := runs_inv (s := 105) (.inr rfl) (minOf l) wm.all (fun _ => minOf_head w)
  obtain ⟨h5, h6⟩ := h4 hne
  obtain ⟨i, hi⟩ := minOf_last w
  have h7 : (runsTo (minOf l)).2 = 111 := by rw [hi]; exact runsTo_last i 111
  rw [h7] at h6
  have h8 : 0 < (runsTo (minOf l)).1.length := List.length_pos_iff.mpr h5
  have h9 : ((runsTo (minOf l)).1.length - 1) % 2 ≠ 0 := fun z => by
    unfold alt at h6
    rw [if_pos z] at h6
    cases h6
  refine ⟨h1, h2, ?_, ?_, ?_⟩
  · unfold runsOf; omega
  · unfold runsOf; omega
  · unfold runsOf
    rw [← wordOf_len 105, h2, minOf_len w.ne]
theorem alt_even {s n : Nat} (h : n % 2 = 0) : alt s n = s := if_pos h
/-- the runs turned by two give a turning -/
theorem RunsOf.two_on {l r : List Nat} (R : RunsOf l r) (w : Word l) : isTurn (wordOf 105 (r.drop 2 ++ r.take 2)) l := by
  have hs : Sign 105 := .inr rfl
  have h2 := R.two
  have he := R.even
  have e1 : wordOf 105 (r.drop 2 ++ r.take 2) = wordOf 105 (r.drop 2) ++ wordOf 105 (r.take 2) := by
    rw [wordOf_app hs, List.length_drop, alt_even (by omega)]
  have e2 : minOf l = wordOf 105 (r.take 2) ++ wordOf 105 (r.drop 2) := by
    rw [← R.word]
    conv => lhs; rw [← List.take_append_drop 2 r]
    rw [wordOf_app hs, List.length_take, alt_even (by omega)]
  have e3 : turn (minOf l) (wordOf 105 (r.take 2)).length = wordOf 105 (r.drop 2 ++ r.take 2) := by
    rw [e1, e2]
    unfold turn
    rw [List.drop_left, List.take_left]
  refine isTurn.trans (b := minOf l) ?_ (minOf_isTurn w.ne)
  by_cases hk : (wordOf 105 (r.take 2)).length < (minOf l).length
  · exact ⟨_, hk, e3⟩
  · refine ⟨0, (minOf_word w).ne, ?_⟩
    rw [turn_zero, e1]
    have e4 : (wordOf 105 (r.drop 2)).length = 0 := by
      rw [e2, List.length_append] at hk
      omega
    rw [e2, List.eq_nil_of_length_eq_zero e4, List.append_nil]
    rfl
/-! ### fractions -/
def cfS (x : Int) (p : Int × Int) : Int × Int := (x * p.1 + p.2, p.1)
def cfl (r : List Int) (v : Int × Int) : Int × Int := r.foldr cfS v
theorem cfl_app (a b : List Int) (v : Int × Int) : cfl (a ++ b) v = cfl a (cfl b v) := List.foldr_append ..
def neg1 (n : Nat) : Int := if n % 2 = 0 then 1 else -1
theorem neg1_succ (n : Nat) : neg1 (n + 1) = -neg1 n := by unfold neg1; split <;> split <;> omega
theorem cfS_det (x : Int) (u v : Int × Int) : det (cfS x u) (cfS x v) = -det u v := by
  obtain ⟨a, b⟩ := u
  obtain ⟨c, d⟩ := v
  show (x * a + b) * c - a * (x * c + d) = -(a * d - b * c)
  grind
theorem cfl_det (r : List Int) (u v : Int × Int) : det (cfl r u) (cfl r v) = neg1 r.length * det u v := by
  induction r with
  | nil => show det u v = 1 * det u v; rw [Int.one_mul]
  | cons x r ih =>
    show det (cfS x (cfl r u)) (cfS x (cfl r v)) = neg1 (r.length + 1) * det u v
    rw [cfS_det, ih, neg1_succ, Int.neg_mul]
theorem cfl_pos (r : List Int) (h : ∀ x ∈ r, 1 ≤ x ∧ x ≤ 31) : 1 ≤ (cfl r (1, 0)).1 ∧ (cfl r (1, 0)).1 ≤ 32 ^ r.length ∧ 0 ≤ (cfl r (1, 0)).2 ∧ (cfl r (1, 0)).2 ≤ 32 ^ r.length ∧ (r ≠ [] → 1 ≤ (cfl r (1, 0)).2) := by
  induction r with
  | nil => exact ⟨by decide, by decide, by decide, by decide, fun h => absurd rfl h⟩
  | cons x r ih =>
    obtain ⟨i1, i2, i3, i4, _⟩ := ih fun y hy => h y (List.mem_cons_of_mem _ hy)
    obtain ⟨x1, x2⟩ := h x List.mem_cons_self
    show 1 ≤ x * (cfl r (1, 0)).1 + (cfl r (1, 0)).2 ∧ x * (cfl r (1, 0)).1 + (cfl r (1, 0)).2 ≤ 32 ^ (r.length + 1) ∧ 0 ≤ (cfl r (1, 0)).1 ∧ (cfl r (1, 0)).1 ≤ 32 ^ (r.length + 1) ∧ (_ → 1 ≤ (cfl r (1, 0)).1)
    generalize (cfl r (1, 0)).1 = p at *
    generalize (cfl r (1, 0)).2 = q at *
    rw [Int.pow_succ]
    generalize (32 : Int) ^ r.length = P at *
    have a1 : 1 * p ≤ x * p := Int.mul_le_mul_of_nonneg_right x1 (by omega)
    have a2 : x * p ≤ 31 * p := Int.mul_le_mul_of_nonneg_right x2 (by omega)
    omega
/-- a list read round and round -/
def extL (r : List Int) (n : Nat) : List Int := (List.range n).map fun k => r.getD (k % r.length) 0
theorem extL_len (r : List Int) (n : Nat) : (extL r n).length = n := by unfold extL; rw [List.length_map, List.length_range]
theorem extL_mem {r : List Int} (h : 0 < r.length) {n : Nat} : ∀ x ∈ extL r n, x ∈ r := fun x hx => by
  obtain ⟨k, _, rfl⟩ := List.mem_map.mp hx
  have hk : k % r.length < r.length := Nat.mod_lt _ h
  rw [List.getD_eq_getElem?_getD, List.getElem?_eq_getElem hk]
  exact List.getElem_mem hk
theorem extL_on (r : List Int) (n : Nat) : r ++ extL r n = extL r (r.length + n) := by
  unfold extL
  rw [List.range_add, List.map_append, List.map_map]
  congr 1
  · refine List.ext_getElem? fun i => ?_
    rw [List.getElem?_map]
    by_cases hi : i < r.length
    · rw [List.getElem?_range hi, Option.map_some, Nat.mod_eq_of_lt hi, List.getD_eq_getElem?_getD, List.getElem?_eq_getElem hi]
      rfl
    · rw [List.getElem?_eq_none (by omega), List.getElem?_eq_none (by rw [List.length_range]; omega)]
      rfl
  · refine List.map_congr_left fun k _ => ?_
    show _ = r.getD ((r.length + k) % r.length) 0
    rw [Nat.add_mod_left]
/-- the sign of the value at a convergent -/
theorem cf_value {r : List Int} (h : ∀ x ∈ r, 1 ≤ x ∧ x ≤ 31) (h0 : r ≠ []) (n : Nat) : ∃ c : Int, 1 ≤ c ∧ c ≤ 32 ^ r.length ∧ det (cfl (extL r n) (1, 0)) (cfl r (cfl (extL r n) (1, 0))) = neg1 n * c := by
  have hl : 0 < r.length := List.length_pos_iff.mpr h0
  have e : r ++ extL r n = extL r n ++ (List.range r.length).map fun k => r.getD ((n + k) % r.length) 0 := by
    rw [extL_on, Nat.add_comm]
    unfold extL
    rw [List.range_add, List.map_append, List.map_map]
    rfl
  rw [← cfl_app, e, cfl_app, cfl_det, extL_len]
  have hm : ∀ x ∈ (List.range r.length).map (fun k => r.getD ((n + k) % r.length) 0), 1 ≤ x ∧ x ≤ 31 := fun x hx => by
    obtain ⟨k, _, rfl⟩ := List.mem_map.mp hx
    have hk : (n + k) % r.length < r.length := Nat.mod_lt _ hl
    rw [List.getD_eq_getElem?_getD, List.getElem?_eq_getElem hk]
    exact h _ (List.getElem_mem hk)
  obtain ⟨_, _, q1, q2, q3⟩ := cfl_pos _ hm
  rw [List.length_map, List.length_range] at q2
  refine ⟨_, q3 ?_, q2, ?_⟩
  · intro z
    have := congrArg List.length z
    rw [List.length_map, List.length_range, List.length_nil] at this
    omega
  · show neg1 n * (1 * _ - 0 * _) = _
    rw [Int.one_mul, Int.zero_mul, Int.sub_zero]
/-! ### the table of a word -/
structure T4 where
  p : Int
  q : Int
  r : Int
  s : Int
def T4.step (t : T4) (c : Nat) : T4 := if c = 82 then ⟨t.p, t.p + t.q, t.r, t.r + t.s⟩ else ⟨t.p + t.q, t.q, t.r + t.s, t.s⟩
def tabl (l : List Nat) : T4 := l.foldl T4.step ⟨1, 0, 0, 1⟩
def T4.act (t : T4) (v : Int × Int) : Int × Int := (t.p * v.1 + t.q * v.2, t.r * v.1 + t.s * v.2)
def lrOf (l : List Nat) : List Nat := l.map fun c => if c = 111 then 76 else 82
theorem tabl_snoc (l : List Nat) (c : Nat) : tabl (l ++ [c]) = (tabl l).step c := by unfold tabl; rw [List.foldl_append]; rfl
theorem tabl_small (l : List Nat) : 0 ≤ (tabl l).p ∧ (tabl l).p ≤ 2 ^ l.length ∧ 0 ≤ (tabl l).q ∧ (tabl l).q ≤ 2 ^ l.length ∧ 0 ≤ (tabl l).r ∧ (tabl l).r ≤ 2 ^ l.length ∧ 0 ≤ (tabl l).s ∧ (tabl l).s ≤ 2 ^ l.length := by
  induction l using snoc_ind with
  | h0 => decide
  | h1 i c ih =>
    rw [tabl_snoc, List.length_append]
    show _ ∧ _ ≤ (2 : Int) ^ (i.length + 1) ∧ _
    rw [Int.pow_succ]
    simp only [List.length_cons, List.length_nil, Nat.zero_add, Int.pow_succ]
    unfold T4.step
    split <;> dsimp only <;> omega
theorem act_rep (t : List Nat) (n : Nat) (v : Int × Int) : (tabl (t ++ List.replicate n 82)).act v = (tabl t).act (v.1 + n * v.2, v.2) ∧ (tabl (t ++ List.replicate n 76)).act v = (tabl t).act (v.1, n * v.1 + v.2) := by
  induction n generalizing v with
  | zero =>
    simp
  | succ n ih =>
    obtain ⟨a, b⟩ := v
    rw [List.replicate_succ', List.replicate_succ', ← List.append_assoc, ← List.append_assoc, tabl_snoc, tabl_snoc]
    have i1 := (ih (a + b, b)).1
    have i2 := (ih (a, a + b)).2
    unfold T4.act at i1 i2 ⊢
    have e1 : ((tabl (t ++ List.replicate n 82)).step 82) = ⟨(tabl (t ++ List.replicate n 82)).p, (tabl (t ++ List.replicate n 82)).p + (tabl (t ++ List.replicate n 82)).q, (tabl (t ++ List.replicate n 82)).r, (tabl (t ++ List.replicate n 82)).r + (tabl (t ++ List.replicate n 82)).s⟩ := rfl
    have e2 : ((tabl (t ++ List.replicate n 76)).step 76) = ⟨(tabl (t ++ List.replicate n 76)).p + (tabl (t ++ List.replicate n 76)).q, (tabl (t ++ List.replicate n 76)).q, (tabl (t ++ List.replicate n 76)).r + (tabl (t ++ List.replicate n 76)).s, (tabl (t ++ List.replicate n 76)).s⟩ := rfl
    rw [e1, e2]
    dsimp only at i1 i2 ⊢
    obtain ⟨j1, j2⟩ := Prod.mk.inj i1
    obtain ⟨j3, j4⟩ := Prod.mk.inj i2
    have hn : ((n + 1 : Nat) : Int) = n + 1 := by omega
    rw [hn, show a + ((n : Int) + 1) * b = a + b + n * b by grind, show ((n : Int) + 1) * a + b = n * a + (a + b) by grind, ← j1, ← j2, ← j3, ← j4]
    clear j1 j2 j3 j4 i1 i2 e1 e2 ih
    constructor
    · refine Prod.ext ?_ ?_ <;> dsimp only <;> grind
    · refine Prod.ext ?_ ?_ <;> dsimp only <;> grind
def sw (v : Int × Int) : Int × Int := (v.2, v.1)
/-- the table of a word moves pairs as its runs do -/
theorem act_runs (r : List Nat) : ∀ (s : Nat) (t : List Nat) (v : Int × Int), Sign s → (tabl (t ++ lrOf (wordOf s r))).act (if (alt s r.length = 105) then v else sw v) = (tabl t).act (if s = 105 then cfl (r.map fun n : Nat => (n : Int)) v else sw (cfl (r.map fun n : Nat => (n : Int)) v)) := by
  induction r with
  | nil =>
    intro s t v hs
    show (tabl (t ++ [])).act _ = _
    rw [List.append_nil]
    rcases hs with rfl | rfl <;> rfl
  | cons n r ih =>
    intro s t v hs
    have hs' : Sign (216 - s) := by rcases hs with rfl | rfl; exact .inr rfl; exact .inl rfl
    have e : lrOf (wordOf s (n :: r)) = List.replicate n (if s = 111 then 76 else 82) ++ lrOf (wordOf (216 - s) r) := by
      show lrOf (List.replicate n s ++ wordOf (216 - s) r) = _
      unfold lrOf
      rw [List.map_append, List.map_replicate]
    rw [e, ← List.append_assoc]
    have i := ih (216 - s) (t ++ List.replicate n (if s = 111 then 76 else 82)) v hs'
    rw [alt_succ hs] at i
    rw [show (n :: r).length = r.length + 1 from rfl, i]
    show _ = (tabl t).act (if s = 105 then cfS n (cfl (r.map fun n : Nat => (n : Int)) v) else sw (cfS n (cfl (r.map fun n : Nat => (n : Int)) v)))
    generalize cfl (r.map fun n : Nat => (n : Int)) v = u
    obtain ⟨a, b⟩ := u
    rcases hs with rfl | rfl
    · rw [if_pos rfl, if_pos rfl, if_neg (by decide), (act_rep t n _).2]
      rfl
    · rw [if_neg (by decide), if_neg (by decide), if_pos rfl, (act_rep t n _).1]
      show (tabl t).act (b + (n : Int) * a, a) = (tabl t).act ((n : Int) * a + b, a)
      rw [Int.add_comm]
theorem RunsOf.act {l r : List Nat} (R : RunsOf l r) (v : Int × Int) : (tabl (lrOf (minOf l))).act v = cfl (r.map fun n : Nat => (n : Int)) v := by
  have h := act_runs r 105 [] v (.inr rfl)
  rw [alt_even R.even, if_pos rfl, if_pos rfl, R.word] at h
  refine (show (tabl (lrOf (minOf l))).act v = (tabl ([] ++ lrOf (minOf l))).act v from rfl).trans (h.trans ?_)
  generalize cfl (r.map fun n : Nat => (n : Int)) v = u
  obtain ⟨a, b⟩ := u
  show (1 * a + 0 * b, 0 * a + 1 * b) = (a, b)
  simp
end LandM

/-! Minus: tables of turns; lists with minus. -/
namespace Minus
open DL
structure M4 where
  p : Int
  q : Int
  r : Int
  s : Int
def M4.go (m : M4) (n : Int) : M4 := ⟨m.p * n + m.q, -m.p, m.r * n + m.s, -m.r⟩
def M4.act (m : M4) (v : Int × Int) : Int × Int := (m.p * v.1 + m.q * v.2, m.r * v.1 + m.s * v.2)
def M4.det (m : M4) : Int := m.p * m.s - m.q * m.r
def M4.sg (m : M4) (k : Int) : M4 := ⟨k * m.p, k * m.q, k * m.r, k * m.s⟩
def tb (l : List Int) : M4 := l.foldl M4.go ⟨1, 0, 0, 1⟩
def ptS (n : Int) (v : Int × Int) : Int × Int := (n * v.1 - v.2, v.1)
def pt (l : List Int) (v : Int × Int) : Int × Int := l.foldr ptS v
theorem tb_snoc (l : List Int) (n : Int) : tb (l ++ [n]) = (tb l).go n := by unfold tb; rw [List.foldl_append]; rfl
theorem put_app (a b : List Int) (v : Int × Int) : pt (a ++ b) v = pt a (pt b v) := List.foldr_append ..
theorem fold_act : ∀ (l : List Int) (m : M4) (v : Int × Int), (l.foldl M4.go m).act v = m.act (pt l v)
  | [], _, _ => rfl
  | n :: l, m, v => by
    show (l.foldl M4.go (m.go n)).act v = m.act (ptS n (pt l v))
    rw [fold_act l (m.go n) v]
    generalize pt l v = u
    obtain ⟨a, b⟩ := u
    unfold M4.go M4.act ptS
    dsimp only
    refine Prod.ext ?_ ?_ <;> dsimp only <;> grind
theorem tb_act (l : List Int) (v : Int × Int) : (tb l).act v = pt l v := by
  unfold tb
  rw [fold_act]
  obtain ⟨a, b⟩ := pt l v
  unfold M4.act
  refine Prod.ext ?_ ?_ <;> dsimp only <;> omega
theorem tb_cols (l : List Int) : tb l = ⟨(pt l (1, 0)).1, (pt l (0, 1)).1, (pt l (1, 0)).2, (pt l (0, 1)).2⟩ := by
  rw [← tb_act, ← tb_act]
  unfold M4.act
  dsimp only
  generalize tb l = m
  obtain ⟨p, q, r, s⟩ := m
  simp
theorem go_det (m : M4) (n : Int) : (m.go n).det = m.det := by
  unfold M4.go M4.det
  dsimp only
  grind
theorem tb_det (l : List Int) : (tb l).det = 1 := by
  have : ∀ (l : List Int) (m : M4), (l.foldl M4.go m).det = m.det := by
    intro l
    induction l with
    | nil => intro m; rfl
    | cons n l ih => intro m; show (l.foldl M4.go (m.go n)).det = _; rw [ih, go_det]
  unfold tb
  rw [this]
  decide
theorem sg_det {m : M4} {k : Int} (h : k = 1 ∨ k = -1) : (m.sg k).det = m.det := by
  unfold M4.sg M4.det
  rcases h with rfl | rfl <;> grind
/-! ### rounding up -/
def up (a b : Int) : Int := -((-a) / b)
inductive ML : Int → Int → List Int → Prop
  | nil (a : Int) : ML a 0 []
  | cons {a b : Int} {l : List Int} : 0 < b → ML b (up a b * b - a) l → ML a b (up a b :: l)
theorem up_spec {a b : Int} (h : 0 < b) : 0 ≤ up a b * b - a ∧ up a b * b - a < b := by
  unfold up
  have h1 := Int.emod_nonneg (-a) (by omega : b ≠ 0)
  have h2 := Int.emod_lt_of_pos (-a) h
  have h3 := Int.emod_add_mul_ediv (-a) b
  have h4 : -((-a) / b) * b = -(b * ((-a) / b)) := by rw [Int.neg_mul, Int.mul_comm]
  omega
theorem up_uniq {a b n : Int} (h : 0 < b) (h0 : 0 ≤ n * b - a) (h1 : n * b - a < b) : up a b = n := by
  obtain ⟨u0, u1⟩ := up_spec (a := a) h
  generalize up a b = m at *
  have e1 : (m - n) * b = m * b - n * b := Int.sub_mul ..
  by_cases hlt : m < n
  · have : 1 * b ≤ (n - m) * b := Int.mul_le_mul_of_nonneg_right (by omega) (by omega)
    rw [Int.sub_mul] at this
    omega
  · by_cases hgt : n < m
    · have : 1 * b ≤ (m - n) * b := Int.mul_le_mul_of_nonneg_right (by omega) (by omega)
      omega
    · omega
theorem up_small {a b k : Int} (h : 0 < b) (hk : 1 ≤ k) (h1 : -k ≤ a) (h2 : a ≤ k) : -k ≤ up a b ∧ up a b ≤ k := by
  obtain ⟨u0, u1⟩ := up_spec (a := a) h
  generalize up a b = m at *
  constructor
  · refine Int.not_lt.mp fun z => ?_
    have : (k + 1) * 1 ≤ (-m) * b := Int.mul_le_mul (by omega) (by omega) (by decide) (by omega)
    rw [Int.neg_mul] at this
    omega
  · refine Int.not_lt.mp fun z => ?_
    by_cases hb : b = 1
    · subst hb; omega
    · have h3 : k * b ≤ (m - 1) * b := Int.mul_le_mul_of_nonneg_right (by omega) (by omega)
      have h4 : k * 2 ≤ k * b := Int.mul_le_mul_of_nonneg_left (by omega) (by omega)
      rw [Int.sub_mul] at h3
      omega
theorem ML.pos {a b : Int} {l : List Int} (h : ML a b l) : 0 ≤ b ∧ (l.length : Int) ≤ b := by
  induction h with
  | nil a => exact ⟨Int.le_refl 0, Int.le_refl 0⟩
  | @cons a b l hb _ ih =>
    have := up_spec (a := a) hb
    rw [List.length_cons]
    omega
theorem ML.small {a b : Int} {l : List Int} (h : ML a b l) : ∀ k : Int, 1 ≤ k → -k ≤ a → a ≤ k → b ≤ k → ∀ x ∈ l, -k ≤ x ∧ x ≤ k := by
  induction h with
  | nil a => intro k _ _ _ _ x hx; cases hx
  | @cons a b l hb _ ih =>
    intro k hk h1 h2 h3 x hx
    have u := up_spec (a := a) hb
    rcases List.mem_cons.mp hx with e | e
    · rw [e]; exact up_small hb hk h1 h2
    · exact ih k hk (by omega) h3 (by omega) x e
theorem ML.two {a b : Int} {l : List Int} (h : ML a b l) : b < a → ∀ x ∈ l, 2 ≤ x := by
  induction h with
  | nil a => intro _ x hx; cases hx
  | @cons a b l hb _ ih =>
    intro h x hx
    have u := up_spec (a := a) hb
    rcases List.mem_cons.mp hx with e | e
    · rw [e]
      refine Int.not_lt.mp fun z => ?_
      have : up a b * b ≤ 1 * b := Int.mul_le_mul_of_nonneg_right (by omega) (by omega)
      omega
    · exact ih (by omega) x e
theorem ML.tail {a b x : Int} {l : List Int} (h : ML a b (x :: l)) : ∀ y ∈ l, 2 ≤ y := by
  cases h with
  | cons hb h => exact h.two (up_spec hb).2
theorem ML.ne {a b : Int} {l : List Int} (h : ML a b l) (hb : 0 < b) : l ≠ [] := by
  cases h with
  | nil => omega
  | cons => exact List.cons_ne_nil _ _
theorem ML.uniq {a b : Int} {l : List Int} (h : ML a b l) : ∀ l', ML a b l' → l = l' := by
  induction h with
  | nil a =>
    intro l' h'
    cases h' with
    | nil => rfl
    | cons hb _ => exact absurd hb (by decide)
  | @cons a b l hb _ ih =>
    intro l' h'
    cases h' with
    | nil => exact absurd hb (by decide)
    | cons _ h' => rw [ih _ h']
theorem ML.col {a b : Int} {l : List Int} (h : ML a b l) : (b = 0 → 0 < a) → (∃ x y, a * x + b * y = 1) → pt l (1, 0) = (a, b) := by
  induction h with
  | nil a =>
    intro h0 ⟨x, y, e⟩
    have h0 := h0 rfl
    have e : a * x = 1 := by omega
    have ha : a = 1 := by
      have hx : 0 < x := by
        refine Int.not_le.mp fun z => ?_
        have := Int.mul_nonpos_of_nonneg_of_nonpos (Int.le_of_lt h0) z
        omega
      have h1 : 1 * x ≤ a * x := Int.mul_le_mul_of_nonneg_right (by omega) (by omega)
      have hx1 : x = 1 := by omega
      rw [hx1] at e
      omega
    rw [ha]
    rfl
  | @cons a b l hb _ ih =>
    intro _ ⟨x, y, e⟩
    have u := up_spec (a := a) hb
    have := ih (fun _ => hb) ⟨up a b * x + y, -x, by generalize up a b = m; grind⟩
    show ptS (up a b) (pt l (1, 0)) = _
    rw [this]
    unfold ptS
    refine Prod.ext ?_ rfl
    dsimp only
    omega
/-- a list is the one told -/
theorem ML.of : ∀ l : List Int, l ≠ [] → (∀ x ∈ l.drop 1, 2 ≤ x) → 0 < (pt l (1, 0)).2 ∧ ML (pt l (1, 0)).1 (pt l (1, 0)).2 l ∧ ((∀ x ∈ l, 2 ≤ x) → (pt l (1, 0)).2 < (pt l (1, 0)).1)
  | [], h, _ => absurd rfl h
  | [n], _, _ => by
    have e : pt [n] (1, 0) = (n, 1) := by
      show (n * 1 - 0, 1) = _
      refine Prod.ext ?_ rfl
      dsimp only
      omega
    rw [e]
    refine ⟨Int.one_pos, ?_, fun h => by have := h n List.mem_cons_self; show 1 < n; omega⟩
    have hu : up n 1 = n := up_uniq (by decide) (by omega) (by omega)
    have h2 : ML n 1 (up n 1 :: []) := .cons (by decide) (by rw [hu, show n * 1 - n = 0 by omega]; exact .nil 1)
    rw [hu] at h2
    exact h2
  | n :: m :: l, _, h => by
    have hm : ∀ x ∈ m :: l, 2 ≤ x := h
    obtain ⟨i1, i2, i3⟩ := ML.of (m :: l) (List.cons_ne_nil _ _) fun x hx => hm x (List.mem_cons_of_mem _ hx)
    have i3 := i3 hm
    show 0 < (ptS n (pt (m :: l) (1, 0))).2 ∧ ML (ptS n (pt (m :: l) (1, 0))).1 (ptS n (pt (m :: l) (1, 0))).2 (n :: m :: l) ∧ (_ → (ptS n (pt (m :: l) (1, 0))).2 < (ptS n (pt (m :: l) (1, 0))).1)
    generalize pt (m :: l) (1, 0) = v at *
    obtain ⟨P, R⟩ := v
    dsimp only at i1 i2 i3
    show 0 < P ∧ ML (n * P - R) P (n :: m :: l) ∧ (_ → P < n * P - R)
    have hP : 0 < P := by omega
    have hu : up (n * P - R) P = n := up_uniq hP (by omega) (by omega)
    refine ⟨hP, ?_, fun h => ?_⟩
    · have : ML (n * P - R) P (up (n * P - R) P :: m :: l) := .cons hP (by rw [hu, show n * P - (n * P - R) = R by omega]; exact i2)
      rw [hu] at this
      exact this
    · have hn := h n List.mem_cons_self
      have : 2 * P ≤ n * P := Int.mul_le_mul_of_nonneg_right hn (by omega)
      omega
/-! ### what is told of a table -/
structure Told (m : M4) (k : Int) (l : List Int) : Prop where
  sign : k = 1 ∨ k = -1
  ne : l ≠ []
  mid : ∀ x ∈ (l.drop 1).dropLast, 2 ≤ x
  eq : (tb l).sg k = m
theorem list_snoc {α : Type} (l : List α) (h : l ≠ []) : ∃ i x, l = i ++ [x] := ⟨l.dropLast, l.getLast h, (List.dropLast_concat_getLast h).symm⟩
theorem put_last (t : List Int) (c : Int) : (tb (t ++ [c])).q = -(pt t (1, 0)).1 ∧ (tb (t ++ [c])).s = -(pt t (1, 0)).2 := by
  rw [tb_snoc, tb_cols t]
  exact ⟨rfl, rfl⟩
theorem mid_init {t : List Int} {c : Int} (h : ∀ x ∈ ((t ++ [c]).drop 1).dropLast, 2 ≤ x) : ∀ x ∈ t.drop 1, 2 ≤ x := by
  intro x hx
  cases t with
  | nil => cases hx
  | cons y t =>
    refine h x ?_
    show x ∈ (t ++ [c]).dropLast
    rw [List.dropLast_concat]
    exact hx
theorem one_table (c : Int) : tb [c] = ⟨c, -1, 1, 0⟩ := by
  show (⟨1 * c + 0, -1, 0 * c + 1, -0⟩ : M4) = _
  simp
theorem Told.uniq {m : M4} {k k' : Int} {l l' : List Int} (h : Told m k l) (h' : Told m k' l') : k = k' ∧ l = l' := by
  obtain ⟨t, c, rfl⟩ := list_snoc l h.ne
  obtain ⟨t', c', rfl⟩ := list_snoc l' h'.ne
  have e := h.eq
  have e' := h'.eq
  have hk := h.sign
  have hk' := h'.sign
  have p1 := put_last t c
  have p2 := put_last t' c'
  have m1 := mid_init h.mid
  have m2 := mid_init h'.mid
  have hs : k * (tb (t ++ [c])).s = k' * (tb (t' ++ [c'])).s := by
    have := congrArg M4.s (e.trans e'.symm)
    exact this
  have hq : k * (tb (t ++ [c])).q = k' * (tb (t' ++ [c'])).q := congrArg M4.q (e.trans e'.symm)
  have hr : k * (tb (t ++ [c])).r = k' * (tb (t' ++ [c'])).r := congrArg M4.r (e.trans e'.symm)
  have hp : k * (tb (t ++ [c])).p = k' * (tb (t' ++ [c'])).p := congrArg M4.p (e.trans e'.symm)
  rw [p1.2, p2.2] at hs
  rw [p1.1, p2.1] at hq
  have z : ∀ t : List Int, t ≠ [] → (∀ x ∈ t.drop 1, 2 ≤ x) → 0 < (pt t (1, 0)).2 := fun t a b => (ML.of t a b).1
  have z0 : (pt [] (1, 0)).2 = 0 := rfl
  have hkk : k = k' ∧ t = t' := by
    by_cases ht : t = []
    · subst ht
      by_cases ht' : t' = []
      · subst ht'
        have r1 : (tb ([] ++ [c])).r = 1 := by rw [List.nil_append, one_table]
        have r2 : (tb ([] ++ [c'])).r = 1 := by rw [List.nil_append, one_table]
        rw [r1, r2] at hr
        exact ⟨by omega, rfl⟩
      · have := z t' ht' m2
        rw [z0] at hs
        rcases hk' with rfl | rfl <;> omega
    · have h1 := z t ht m1
      by_cases ht' : t' = []
      · subst ht'
        rw [z0] at hs
        rcases hk with rfl | rfl <;> omega
      · have h2 := z t' ht' m2
        have ek : k = k' := by rcases hk with rfl | rfl <;> rcases hk' with rfl | rfl <;> omega
        refine ⟨ek, ?_⟩
        subst ek
        have a1 := (ML.of t ht m1).2.1
        have a2 := (ML.of t' ht' m2).2.1
        have q1 : (pt t (1, 0)).1 = (pt t' (1, 0)).1 := by rcases hk with rfl | rfl <;> omega
        have q2 : (pt t (1, 0)).2 = (pt t' (1, 0)).2 := by rcases hk with rfl | rfl <;> omega
        rw [q1, q2] at a1
        exact a1.uniq _ a2
  obtain ⟨rfl, rfl⟩ := hkk
  refine ⟨rfl, ?_⟩
  have g : (tb t).go c = (tb t).go c' := by
    rw [← tb_snoc, ← tb_snoc]
    cases e1 : tb (t ++ [c])
    cases e2 : tb (t ++ [c'])
    have hs' := congrArg M4.s (e.trans e'.symm)
    have hq' := congrArg M4.q (e.trans e'.symm)
    rw [e1] at hp hr hs' hq'
    rw [e2] at hp hr hs' hq'
    dsimp only [M4.sg] at *
    rcases hk with rfl | rfl
    · rw [M4.mk.injEq]; omega
    · rw [M4.mk.injEq]; omega
  have hd := tb_det t
  unfold M4.det at hd
  have g1 := congrArg M4.p g
  have g2 := congrArg M4.r g
  unfold M4.go at g1 g2
  dsimp only at g1 g2
  have d1 : (tb t).p * (c - c') = 0 := by rw [Int.mul_sub]; omega
  have d2 : (tb t).r * (c - c') = 0 := by rw [Int.mul_sub]; omega
  have : c - c' = 0 := by
    have h3 : ((tb t).p * (tb t).s - (tb t).q * (tb t).r) * (c - c') = 0 := by
      have h4 : ((tb t).p * (tb t).s - (tb t).q * (tb t).r) * (c - c') = (tb t).s * ((tb t).p * (c - c')) - (tb t).q * ((tb t).r * (c - c')) := by grind
      rw [h4, d1, d2]
      simp
    rw [hd, Int.one_mul] at h3
    exact h3
  rw [show c = c' by omega]
/-- the list told of a table with a last number not nought -/
theorem Told.of {m : M4} {k : Int} {t : List Int} (hd : m.det = 1) (hk : k = 1 ∨ k = -1) (hs : 0 < -k * m.s) (h : ML (-k * m.q) (-k * m.s) t) : Told m k (t ++ [k * ((tb t).s * m.p - (tb t).q * m.r)]) := by
  unfold M4.det at hd
  have hc := h.col (fun z => by omega) ⟨k * m.r, -k * m.p, by rcases hk with rfl | rfl <;> grind⟩
  have hne := h.ne hs
  have ht := tb_det t
  have hcol := tb_cols t
  refine ⟨hk, by simp, ?_, ?_⟩
  · cases t with
    | nil => exact absurd rfl hne
    | cons x t =>
      intro y hy
      have e : ((x :: t ++ [k * ((tb (x :: t)).s * m.p - (tb (x :: t)).q * m.r)]).drop 1).dropLast = t := List.dropLast_concat
      rw [e] at hy
      exact h.tail y hy
  · rw [tb_snoc]
    have e1 : (tb t).p = -k * m.q := by rw [hcol, hc]
    have e2 : (tb t).r = -k * m.s := by rw [hcol, hc]
    unfold M4.det at ht
    generalize tb t = T at *
    obtain ⟨P, Q, R, S⟩ := T
    obtain ⟨p, q, r, s⟩ := m
    unfold M4.go M4.sg
    dsimp only at *
    subst e1 e2
    rw [M4.mk.injEq]
    rcases hk with rfl | rfl <;> refine ⟨?_, ?_, ?_, ?_⟩ <;> grind
theorem Told.zero {m : M4} (hd : m.det = 1) (hs : m.s = 0) : Told m m.r [m.r * m.p] := by
  unfold M4.det at hd
  obtain ⟨p, q, r, s⟩ := m
  dsimp only at *
  subst hs
  have h1 : q * r = -1 := by omega
  have hr : r = 1 ∨ r = -1 := by
    have h2 : r ∣ 1 := ⟨-q, by grind⟩
    rcases Int.natAbs_dvd_natAbs.mpr h2 with ⟨z, hz⟩
    have : r.natAbs = 1 := Nat.eq_one_of_mul_eq_one_right hz.symm
    omega
  refine ⟨hr, by simp, fun x hx => (by cases hx), ?_⟩
  rw [one_table]
  unfold M4.sg
  dsimp only
  rw [M4.mk.injEq]
  rcases hr with rfl | rfl <;> refine ⟨?_, ?_, ?_, ?_⟩ <;> omega
/-! ### bounds -/
def K0 : Nat := 12000
def lowV (k : Nat) (v : Int × Int) : Prop := v.1.natAbs ≤ 2 ^ k ∧ v.2.natAbs ≤ 2 ^ k
theorem put_low (k : Nat) : ∀ (t : List Int) (v : Int × Int), (∀ x ∈ t, x.natAbs < 1024) → lowV k v → lowV (k + 11 * t.length) (pt t v)
  | [], v, _, h => h
  | n :: t, v, hx, h => by
    have ih := put_low k t v (fun x hx' => hx x (List.mem_cons_of_mem _ hx')) h
    have hn := hx n List.mem_cons_self
    show lowV _ (ptS n (pt t v))
    unfold lowV ptS at *
    generalize pt t v = u at *
    obtain ⟨a, b⟩ := u
    dsimp only at *
    rw [List.length_cons, show k + 11 * (t.length + 1) = k + 11 * t.length + 11 by omega, Nat.pow_add]
    generalize 2 ^ (k + 11 * t.length) = P at *
    have h1 : (n * a).natAbs ≤ 1024 * P := by
      rw [Int.natAbs_mul]
      exact Nat.mul_le_mul (by omega) ih.1
    have h2 : (2 : Nat) ^ 11 = 2048 := by decide
    rw [h2]
    omega
structure Okl (l : List Int) : Prop where
  len : l.length ≤ 1001
  init : ∀ x ∈ l.dropLast, x.natAbs < 1024
  all : ∀ x ∈ l, x.natAbs < 2 ^ K0
theorem Okl.of {l : List Int} (h : l.length ≤ 1001) (h2 : ∀ x ∈ l, x.natAbs < 1024) : Okl l := by
  refine ⟨h, fun x hx => h2 x (List.dropLast_subset l hx), fun x hx => Nat.lt_of_lt_of_le (h2 x hx) ?_⟩
  show 2 ^ 10 ≤ 2 ^ K0
  exact Nat.pow_le_pow_right (by decide) (by decide)
theorem Okl.low {l : List Int} (h : Okl l) {v : Int × Int} (h1 : v.1.natAbs ≤ 1) (h2 : v.2.natAbs ≤ 1) : lowV 24000 (pt l v) := by
  have mono : ∀ {a b : Nat} {u : Int × Int}, a ≤ b → lowV a u → lowV b u := fun hab hu => ⟨Nat.le_trans hu.1 (Nat.pow_le_pow_right (by decide) hab), Nat.le_trans hu.2 (Nat.pow_le_pow_right (by decide) hab)⟩
  by_cases e : l = []
  · subst e
    exact mono (a := 0) (by decide) ⟨h1, h2⟩
  · obtain ⟨t, c, rfl⟩ := list_snoc l e
    rw [put_app]
    have hc := h.all c (List.mem_append_right _ List.mem_cons_self)
    have ht : ∀ x ∈ t, x.natAbs < 1024 := fun x hx => h.init x (by rw [List.dropLast_concat]; exact hx)
    have hl := h.len
    rw [List.length_append] at hl
    have hl : t.length ≤ 1000 := by simpa using hl
    have hv : lowV (K0 + 1) (pt [c] v) := by
      show lowV _ (c * v.1 - v.2, v.1)
      unfold lowV
      dsimp only
      have h3 : (c * v.1).natAbs ≤ 2 ^ K0 * 1 := by
        rw [Int.natAbs_mul]
        exact Nat.mul_le_mul (Nat.le_of_lt hc) h1
      have h4 : 1 ≤ 2 ^ K0 := Nat.one_le_two_pow
      rw [Nat.pow_succ]
      generalize 2 ^ K0 = P at *
      omega
    refine mono ?_ (put_low (K0 + 1) t _ ht hv)
    have : K0 = 12000 := rfl
    omega
theorem Okl.drop {l : List Int} (h : Okl l) (n : Nat) : Okl (l.drop n) := by
  refine ⟨by rw [List.length_drop]; have := h.len; omega, fun x hx => h.init x ?_, fun x hx => h.all x (List.mem_of_mem_drop hx)⟩
  by_cases hn : n < l.length
  · have : l.dropLast.drop n = (l.drop n).dropLast := by
      rw [List.dropLast_eq_take, List.dropLast_eq_take, List.drop_take, List.length_drop]
      congr 1
      omega
    rw [← this] at hx
    exact List.mem_of_mem_drop hx
  · rw [List.drop_of_length_le (by omega)] at hx
    cases hx
theorem Okl.take {l : List Int} (h : Okl l) (n : Nat) : Okl (l.take n) := by
  refine ⟨by rw [List.length_take]; have := h.len; omega, fun x hx => h.init x ?_, fun x hx => h.all x (List.mem_of_mem_take hx)⟩
  rw [List.dropLast_eq_take, List.take_take] at hx
  rw [List.dropLast_eq_take]
  have e : min ((l.take n).length - 1) n ≤ l.length - 1 := by rw [List.length_take]; omega
  have : l.take (min ((l.take n).length - 1) n) = (l.take (l.length - 1)).take (min ((l.take n).length - 1) n) := by rw [List.take_take, Nat.min_eq_left e]
  rw [this] at hx
  exact List.mem_of_mem_take hx
theorem low_log {k : Nat} {v : Int × Int} (h : lowV k v) : v.1.natAbs.log2 ≤ k ∧ v.2.natAbs.log2 ≤ k := by
  have key : ∀ x : Nat, x ≤ 2 ^ k → x.log2 ≤ k := fun x hx => Nat.le_of_lt_succ (lg_lt (Nat.lt_of_le_of_lt hx (Nat.pow_lt_pow_right (by decide) (Nat.lt_succ_self k))) (Nat.succ_pos k))
  exact ⟨key _ h.1, key _ h.2⟩
theorem all_log {x : Int} (h : x.natAbs < 2 ^ K0) : x.natAbs.log2 < K0 := lg_lt h (by decide)
end Minus

/-! LandX: turnings of rings; rings read backwards; the contrary ring and its table. -/
namespace LandM
open DL
def RT {α : Type} (a b : List α) : Prop := ∃ k, k < b.length ∧ rot b k = a
theorem rot_zero {α : Type} (l : List α) : rot l 0 = l := by unfold rot; simp
theorem rot_rot {α : Type} {l : List α} {k j : Nat} (hk : k < l.length) (hj : j < l.length) : rot (rot l k) j = rot l ((k + j) % l.length) := by
  have h0 : 0 < l.length := by omega
  have hm : (k + j) % l.length < l.length := Nat.mod_lt _ h0
  have l1 := rot_len l k (by omega)
  have l2 := rot_len (rot l k) j (by omega)
  have l3 := rot_len l ((k + j) % l.length) (by omega)
  refine List.ext_getElem? fun i => ?_
  by_cases hi : i < l.length
  · rw [rot_get _ _ _ (by omega) (by omega), l1, rot_get _ _ _ hk (Nat.mod_lt _ h0), rot_get _ _ _ hm hi, Nat.mod_add_mod, Nat.add_mod_mod]
    congr 2
    omega
  · rw [List.getElem?_eq_none (by omega), List.getElem?_eq_none (by omega)]
theorem RT.len {α : Type} {a b : List α} (h : RT a b) : a.length = b.length := by
  obtain ⟨k, hk, rfl⟩ := h
  exact rot_len b k (by omega)
theorem RT.refl {α : Type} {a : List α} (h : 0 < a.length) : RT a a := ⟨0, h, rot_zero a⟩
theorem RT.pos {α : Type} {a b : List α} (h : RT a b) : 0 < b.length := by obtain ⟨k, hk, _⟩ := h; omega
theorem RT.trans {α : Type} {a b c : List α} (h : RT a b) (h' : RT b c) : RT a c := by
  have h0 := h'.pos
  obtain ⟨k, hk, rfl⟩ := h
  have hl := h'.len
  obtain ⟨j, hj, rfl⟩ := h'
  exact ⟨(j + k) % c.length, Nat.mod_lt _ h0, (rot_rot hj (by omega)).symm⟩
theorem RT.symm {α : Type} {a b : List α} (h : RT a b) : RT b a := by
  have h0 := h.pos
  have hl := h.len
  obtain ⟨k, hk, rfl⟩ := h
  by_cases e : k = 0
  · subst e
    rw [rot_zero]
    exact .refl h0
  · refine ⟨b.length - k, by omega, ?_⟩
    rw [rot_rot hk (by omega), show k + (b.length - k) = b.length by omega, Nat.mod_self, rot_zero]
theorem RT.rev {α : Type} {a b : List α} (h : RT a b) : RT a.reverse b.reverse := by
  have h0 := h.pos
  obtain ⟨k, hk, rfl⟩ := h
  by_cases e : k = 0
  · subst e
    rw [rot_zero]
    exact .refl (by rw [List.length_reverse]; exact h0)
  · refine ⟨b.length - k, by rw [List.length_reverse]; omega, ?_⟩
    have e1 : b.reverse = (b.drop k).reverse ++ (b.take k).reverse := by rw [← List.reverse_append, List.take_append_drop]
    have e2 : (b.drop k).reverse.length = b.length - k := by rw [List.length_reverse, List.length_drop]
    unfold rot
    rw [e1, ← e2, List.drop_left, List.take_left, List.reverse_append]
/-! ### least turnings of rings -/
def LeastI (l m : List Int) : Prop := RT m l ∧ ∀ x, RT x l → ¬ x < m
theorem LeastI.same {a b m n : List Int} (h : LeastI a m) (h' : LeastI b n) : m = n ↔ RT a b := by
  constructor
  · rintro rfl
    exact h.1.symm.trans h'.1
  · intro e
    have h1 : ¬ m < n := h'.2 m (h.1.trans e)
    have h2 : ¬ n < m := h.2 n (h'.1.trans e.symm)
    exact List.le_antisymm h2 h1
theorem ltDs_ints : ∀ a b : List Int, ltDs (a.map D.int) (b.map D.int) = decide (a < b)
  | a, [] => by
    cases a <;> simp [ltDs]
  | [], y :: b => by simp [ltDs]
  | x :: a, y :: b => by
    rw [List.map_cons, List.map_cons, ltDs, eqD_int_int, ltDs_ints a b, ltD]
    by_cases e : x = y
    · subst e
      simp [List.cons_lt_cons_iff]
    · simp [e, List.cons_lt_cons_iff]
/-! ### rings read backwards -/
theorem landOf_cons (x : Int) (t : List Int) : landOf (x :: t) = 111 :: (List.replicate (x - 2).toNat 105 ++ landOf t) := rfl
theorem landOf_app (a b : List Int) : landOf (a ++ b) = landOf a ++ landOf b := by
  unfold landOf
  rw [List.map_append, List.flatten_append]
theorem landOf_rev : ∀ r : List Int, landOf r.reverse ++ [111] = 111 :: (landOf r).reverse
  | [] => rfl
  | x :: t => by
    have ih := landOf_rev t
    have e : landOf [x] = 111 :: List.replicate (x - 2).toNat 105 := by rw [landOf_cons]; show 111 :: (_ ++ []) = _; rw [List.append_nil]
    rw [List.reverse_cons, landOf_app, e, landOf_cons, List.append_assoc, show (111 :: List.replicate (x - 2).toNat 105) ++ [111] = [111] ++ (List.replicate (x - 2).toNat 105 ++ [111]) from rfl, ← List.append_assoc, ih]
    simp [List.reverse_append, List.reverse_replicate]
theorem landOf_rev_turn {r : List Int} (h : r ≠ []) : isTurn (landOf r.reverse) (landOf r).reverse := by
  cases r with
  | nil => exact absurd rfl h
  | cons x t =>
    have e := landOf_rev (x :: t)
    obtain ⟨b, hb⟩ : ∃ b, landOf (x :: t) = 111 :: b := ⟨_, landOf_cons x t⟩
    rw [hb] at e ⊢
    have e1 : landOf (x :: t).reverse ++ [111] = (111 :: b.reverse) ++ [111] := e.trans (by rw [List.reverse_cons]; rfl)
    have e2 : landOf (x :: t).reverse = 111 :: b.reverse := List.append_cancel_right e1
    rw [e2, List.reverse_cons]
    exact ⟨b.reverse.length, by rw [List.length_append]; exact Nat.lt_succ_self _, turn_snoc _ _⟩
theorem split_i (m : Nat) (l p : List Nat) (ps : List (List Nat)) (h : splitC 111 l = p :: ps) : splitC 111 (List.replicate m 105 ++ l) = (List.replicate m 105 ++ p) :: ps := by
  induction m with
  | zero => exact h
  | succ m ih =>
    rw [List.replicate_succ, List.cons_append, splitC, if_neg (by decide), ih]
    rfl
theorem split_landOf : ∀ r : List Int, splitC 111 (landOf r) = [] :: r.map fun x => List.replicate (x - 2).toNat 105
  | [] => rfl
  | x :: t => by
    rw [landOf_cons, splitC, if_pos rfl, split_i _ _ _ _ (split_landOf t), List.append_nil]
    rfl
theorem rim_landOf {r : List Int} (h : ∀ x ∈ r, 2 ≤ x) (h0 : r ≠ []) : rim (landOf r) 111 = r := by
  have e : fstIx 111 (landOf r) = 0 := by
    cases r with
    | nil => exact absurd rfl h0
    | cons x t => rw [landOf_cons]; rfl
  unfold rim
  rw [e, turn_zero, split_landOf, List.drop_one, List.tail_cons, List.map_map]
  refine (List.map_congr_left fun x hx => ?_).trans (List.map_id r)
  show 2 + ((List.replicate (x - 2).toNat 105).length : Int) = x
  have := h x hx
  rw [List.length_replicate]
  omega
theorem rim_pos {l : List Nat} (w : Word l) {s : Nat} (hs : Sign s) : 0 < (rim l s).length := by
  have h1 := rim_len w hs
  have h2 := many_pos w hs
  omega
theorem rim_isTurn {a b : List Nat} (w : Word b) {s : Nat} (hs : Sign s) (h : isTurn a b) : RT (rim a s) (rim b s) := by
  obtain ⟨k, hk, rfl⟩ := h
  obtain ⟨j, hj, e⟩ := rim_turn w hs (p := k) (by omega)
  exact ⟨j, hj, e.symm⟩
theorem rev_isTurn {a b : List Nat} (h : isTurn a b) : isTurn a.reverse b.reverse := RT.rev (a := a) (b := b) h
theorem Word.rev {l : List Nat} (w : Word l) : Word l.reverse := ⟨fun x hx => w.all x (List.mem_reverse.mp hx), List.mem_reverse.mpr w.o, List.mem_reverse.mpr w.i⟩
theorem rim_ge {l : List Nat} (w : Word l) {s : Nat} : ∀ x ∈ rim l s, 2 ≤ x := fun x hx => by
  obtain ⟨q, _, rfl⟩ := List.mem_map.mp hx
  omega
theorem rim_rev_o {l : List Nat} (w : Word l) : RT (rim l.reverse 111) (rim l 111).reverse := by
  have h0 := rim_pos w (.inl rfl) (s := 111)
  have hne : rim l 111 ≠ [] := List.length_pos_iff.mp h0
  have t1 : isTurn (landOf (rim l 111)) l := by
    rw [landOf_rim w]
    exact ⟨_, (fst_spec w.o).1, rfl⟩
  have t2 := landOf_rev_turn hne
  have t3 : isTurn (landOf (rim l 111).reverse) l.reverse := t2.trans (rev_isTurn t1)
  have h := rim_isTurn w.rev (.inl rfl) (s := 111) t3
  rw [rim_landOf (fun x hx => rim_ge w x (List.mem_reverse.mp hx)) (by simpa using hne)] at h
  exact h.symm
theorem rim_exg_i {l : List Nat} (w : Word l) : rim l 105 = rim (exg l) 111 := (exg_rim w (.inr rfl) (s := 105)).symm
theorem exg_rev (l : List Nat) : exg l.reverse = (exg l).reverse := List.map_reverse
theorem rim_rev_i {l : List Nat} (w : Word l) : RT (rim l.reverse 105) (rim l 105).reverse := by
  rw [rim_exg_i w.rev, rim_exg_i w, exg_rev]
  exact rim_rev_o (exg_word w)
/-- a plain ring that comes from a land -/
structure Pl (r : List Int) : Prop where
  two : ∀ x ∈ r, 2 ≤ x
  ne : r ≠ []
  pos : 0 < r.sum - 2 * r.length
theorem Pl.word {r : List Int} (h : Pl r) : Word (landOf r) := landOf_word h.two (by have := h.pos; omega)
def contrary (r : List Int) : List Int := (rim (landOf r) 105).reverse
theorem contrary_len {r : List Int} (h : Pl r) : ((contrary r).length : Int) = r.sum - 2 * r.length := by
  have w := h.word
  have h1 := rim_len w (.inr rfl) (s := 105)
  have h2 := rim_len w (.inl rfl) (s := 111)
  have h3 := many_add (landOf r)
  have h4 := landOf_len r h.two
  rw [rim_landOf h.two h.ne] at h2
  unfold contrary
  rw [List.length_reverse]
  omega
theorem contrary_sum {r : List Int} (h : Pl r) : (contrary r).sum - 2 * (contrary r).length = r.length := by
  have w := h.word
  have h1 := rim_sum w (.inr rfl) (s := 105)
  have h4 := landOf_len r h.two
  have h5 := contrary_len h
  have e : (contrary r).sum = (rim (landOf r) 105).sum := List.sum_reverse _
  unfold contrary at h5 e ⊢
  rw [List.length_reverse] at h5 ⊢
  omega
theorem contrary_pl {r : List Int} (h : Pl r) : Pl (contrary r) := by
  have hl := List.length_pos_iff.mpr h.ne
  have h5 := contrary_len h
  have h6 := contrary_sum h
  have hp := h.pos
  refine ⟨fun x hx => rim_ge h.word x (List.mem_reverse.mp hx), List.length_pos_iff.mp (by omega), by omega⟩
theorem exg_isTurn {a b : List Nat} (h : isTurn a b) : isTurn (exg a) (exg b) := by
  obtain ⟨k, hk, rfl⟩ := h
  exact ⟨k, by rw [exg_len]; exact hk, (exg_turn b k).symm⟩
theorem contrary_back {r : List Int} (h : Pl r) : RT (contrary (contrary r)) r := by
  have w := h.word
  have hi : rim (landOf r) 105 ≠ [] := List.length_pos_iff.mp (rim_pos w (.inr rfl))
  have t1 : isTurn (landOf (contrary r)) (landOf (rim (landOf r) 105)).reverse := landOf_rev_turn hi
  rw [landOf_rim_i w] at t1
  have t2 : isTurn (exg (turn (landOf r) (fstIx 105 (landOf r)))) (exg (landOf r)) := exg_isTurn ⟨_, (fst_spec w.i).1, rfl⟩
  have t3 := t1.trans (rev_isTurn t2)
  have we := (exg_word w).rev
  have h1 := rim_isTurn we (.inr rfl) (s := 105) t3
  have h2 := h1.trans (rim_rev_i (exg_word w))
  rw [show rim (exg (landOf r)) 105 = rim (landOf r) 111 from exg_rim w (.inl rfl) (s := 111), rim_landOf h.two h.ne] at h2
  have h3 := h2.rev
  rw [List.reverse_reverse] at h3
  exact h3
/-! ### tables -/
open Minus (M4 tb pt)
def mul (a b : M4) : M4 := ⟨a.p * b.p + a.q * b.r, a.p * b.q + a.q * b.s, a.r * b.p + a.s * b.r, a.r * b.q + a.s * b.s⟩
theorem mul_assoc' (a b c : M4) : mul (mul a b) c = mul a (mul b c) := by
  unfold mul
  dsimp only
  rw [M4.mk.injEq]
  refine ⟨?_, ?_, ?_, ?_⟩ <;> grind
def I4 : M4 := ⟨1, 0, 0, 1⟩
theorem mul_one' (a : M4) : mul a I4 = a := by
  unfold mul I4
  simp
theorem one_mul' (a : M4) : mul I4 a = a := by
  unfold mul I4
  simp
def Mn (n : Int) : M4 := ⟨n, -1, 1, 0⟩
def U4 : M4 := ⟨1, 1, 0, 1⟩
theorem go_mul (m : M4) (n : Int) : m.go n = mul m (Mn n) := by
  unfold M4.go mul Mn
  dsimp only
  rw [M4.mk.injEq]
  omega
theorem tb_fold (l : List Int) (m : M4) : l.foldl M4.go m = mul m (tb l) := by
  induction l generalizing m with
  | nil => exact (mul_one' m).symm
  | cons n l ih =>
    show l.foldl M4.go (m.go n) = mul m (l.foldl M4.go (M4.go ⟨1, 0, 0, 1⟩ n))
    rw [ih, ih, go_mul, go_mul, show (⟨1, 0, 0, 1⟩ : M4) = I4 from rfl, one_mul', mul_assoc']
theorem tb_cons (n : Int) (l : List Int) : tb (n :: l) = mul (Mn n) (tb l) := by
  show l.foldl M4.go (M4.go I4 n) = _
  rw [tb_fold, go_mul, one_mul']
theorem tb_snoc' (l : List Int) (n : Int) : tb (l ++ [n]) = mul (tb l) (Mn n) := by rw [Minus.tb_snoc, go_mul]
def flp (m : M4) : M4 := ⟨m.p, -m.r, -m.q, m.s⟩
theorem flp_mul (a b : M4) : flp (mul a b) = mul (flp b) (flp a) := by
  unfold flp mul
  dsimp only
  rw [M4.mk.injEq]
  refine ⟨?_, ?_, ?_, ?_⟩ <;> grind
theorem tb_rev : ∀ l : List Int, tb l.reverse = flp (tb l)
  | [] => rfl
  | n :: l => by
    rw [List.reverse_cons, tb_snoc', tb_rev l, tb_cons, flp_mul]
    rfl
/-- the table of a word: o is the turn by 2, i adds one to a number -/
def ph (l : List Nat) : M4 := l.foldr (fun c m => mul (if c = 111 then Mn 2 else U4) m) I4
theorem ph_cons (c : Nat) (l : List Nat) : ph (c :: l) = mul (if c = 111 then Mn 2 else U4) (ph l) := rfl
theorem ph_app (a b : List Nat) : ph (a ++ b) = mul (ph a) (ph b) := by
  induction a with
  | nil => exact (one_mul' _).symm
  | cons c a ih => rw [List.cons_append, ph_cons, ph_cons, ih, mul_assoc']
theorem ph_i (m : Nat) : ph (List.replicate m 105) = ⟨1, m, 0, 1⟩ := by
  induction m with
  | zero => rfl
  | succ m ih =>
    rw [List.replicate_succ, ph_cons, ih]
    unfold mul U4
    rw [if_neg (by decide)]
    dsimp only
    rw [M4.mk.injEq]
    omega
theorem ph_o (m : Nat) : ph (List.replicate m 111) = ⟨1 + m, -m, m, 1 - m⟩ := by
  induction m with
  | zero => rfl
  | succ m ih =>
    rw [List.replicate_succ, ph_cons, ih]
    unfold mul Mn
    rw [if_pos rfl]
    dsimp only
    rw [M4.mk.injEq]
    omega
theorem ph_land : ∀ r : List Int, (∀ x ∈ r, 2 ≤ x) → mul (Mn 2) (tb r) = mul (ph (landOf r)) (Mn 2)
  | [], _ => rfl
  | x :: t, h => by
    have ih := ph_land t fun y hy => h y (List.mem_cons_of_mem _ hy)
    have hx := h x List.mem_cons_self
    have e : Mn x = mul ⟨1, ((x - 2).toNat : Nat), 0, 1⟩ (Mn 2) := by
      unfold Mn mul
      dsimp only
      rw [M4.mk.injEq]
      omega
    rw [landOf_cons, ph_cons, if_pos rfl, ph_app, ph_i, tb_cons, e, mul_assoc', mul_assoc', mul_assoc', ih, ← mul_assoc' (⟨1, _, 0, 1⟩ : M4)]
def P4 : M4 := ⟨1, 0, 1, -1⟩
theorem ph_exg (l : List Nat) (h : ∀ x ∈ l, x = 111 ∨ x = 105) : ph (exg l) = mul P4 (mul (ph l) P4) := by
  induction l with
  | nil => rfl
  | cons c l ih =>
    have ih := ih fun y hy => h y (List.mem_cons_of_mem _ hy)
    show mul (if 216 - c = 111 then Mn 2 else U4) (ph (exg l)) = mul P4 (mul (mul (if c = 111 then Mn 2 else U4) (ph l)) P4)
    rw [ih]
    generalize ph l = m
    unfold mul P4 Mn U4
    rcases h c List.mem_cons_self with rfl | rfl
    · rw [if_neg (by decide), if_pos rfl]
      dsimp only
      rw [M4.mk.injEq]
      omega
    · rw [if_pos (by decide), if_neg (by decide)]
      dsimp only
      rw [M4.mk.injEq]
      omega
/-- what is in front of the first i -/
theorem front_o {l : List Nat} (w : Word l) : l = List.replicate (fstIx 105 l) 111 ++ l.drop (fstIx 105 l) := by
  obtain ⟨h1, _, h3⟩ := fst_spec w.i
  conv => lhs; rw [← List.take_append_drop (fstIx 105 l) l]
  congr 1
  refine List.eq_replicate_iff.mpr ⟨by rw [List.length_take]; omega, fun x hx => ?_⟩
  obtain ⟨i, hi⟩ := List.getElem?_of_mem hx
  have hil := (List.getElem?_eq_some_iff.mp hi).1
  rw [List.length_take] at hil
  rw [List.getElem?_take, if_pos (by omega)] at hi
  rcases w.all x (List.mem_of_getElem? hi) with e | e
  · exact e
  · rw [e] at hi
    exact absurd hi (h3 i (by omega))
theorem front_turn {l d : List Nat} {k : Nat} (h : l = List.replicate k 111 ++ d) : mul (ph (List.replicate k 111)) (ph (turn l k)) = mul (ph l) (ph (List.replicate k 111)) := by
  subst h
  unfold turn
  have hl : (List.replicate k 111 : List Nat).length = k := List.length_replicate
  rw [List.drop_left' hl, List.take_left' hl, ph_app, ph_app, mul_assoc']
def gOf (a : Nat) : M4 := ⟨-1, a + 1, -1, a⟩
def undo (m : M4) : M4 := ⟨m.s, -m.q, -m.r, m.p⟩
theorem lead_eq (a x y z w p q r s p' q' r' s' P Q R S : Int) (h1 : mul (Mn 2) ⟨p, q, r, s⟩ = mul ⟨P, Q, R, S⟩ (Mn 2)) (h2 : mul (Mn 2) ⟨p', q', r', s'⟩ = mul (mul P4 (mul ⟨x, y, z, w⟩ P4)) (Mn 2)) (h3 : mul ⟨1 + a, -a, a, 1 - a⟩ ⟨x, y, z, w⟩ = mul ⟨P, Q, R, S⟩ ⟨1 + a, -a, a, 1 - a⟩) : mul ⟨-1, a + 1, -1, a⟩ (flp ⟨p', q', r', s'⟩) = mul (undo ⟨p, q, r, s⟩) ⟨-1, a + 1, -1, a⟩ := by
  unfold mul Mn P4 flp undo at *
  dsimp only at *
  rw [M4.mk.injEq] at *
  obtain ⟨a1, a2, a3, a4⟩ := h1
  obtain ⟨b1, b2, b3, b4⟩ := h2
  obtain ⟨c1, c2, c3, c4⟩ := h3
  refine ⟨?_, ?_, ?_, ?_⟩ <;> grind
theorem lead_ok {r : List Int} (h : Pl r) : mul (gOf (fstIx 105 (landOf r))) (tb (contrary r)) = mul (undo (tb r)) (gOf (fstIx 105 (landOf r))) := by
  have w := h.word
  have e1 := ph_land r h.two
  have e2 := ph_land (rim (landOf r) 105) (rim_ge w)
  rw [landOf_rim_i w, ph_exg _ (w.turn _).all] at e2
  have e3 := front_turn (front_o w)
  rw [ph_o] at e3
  unfold contrary gOf
  rw [tb_rev]
  generalize tb (rim (landOf r) 105) = A at *
  generalize tb r = B at *
  generalize ph (turn (landOf r) (fstIx 105 (landOf r))) = C at *
  generalize ph (landOf r) = E at *
  obtain ⟨p', q', r', s'⟩ := A
  obtain ⟨p, q, r, s⟩ := B
  obtain ⟨x, y, z, t⟩ := C
  obtain ⟨P, Q, R, S⟩ := E
  exact lead_eq _ x y z t p q r s p' q' r' s' P Q R S e1 e2 e3
theorem trace_ok {r : List Int} (h : Pl r) : (tb (contrary r)).p + (tb (contrary r)).s = (tb r).p + (tb r).s := by
  have e := lead_ok h
  have d := Minus.tb_det r
  have d' := Minus.tb_det (contrary r)
  generalize ((fstIx 105 (landOf r) : Nat) : Int) = a at *
  unfold gOf mul undo at e
  unfold M4.det at d d'
  dsimp only at e
  rw [M4.mk.injEq] at e
  obtain ⟨c1, c2, c3, c4⟩ := e
  generalize tb r = A at *
  generalize tb (contrary r) = B at *
  generalize ((fstIx 105 (landOf r) : Nat) : Int) = a at *
  grind
end LandM

/-! Conf: taking ones out of a ring in any order. -/
namespace LandM
def decF : List Int → List Int
  | [] => []
  | x :: t => (x - 1) :: t
def decL (l : List Int) : List Int := (decF l.reverse).reverse
def dec (u : List Int) : List Int := decF (decL u)
theorem decF_len (l : List Int) : (decF l).length = l.length := by cases l <;> rfl
theorem decL_len (l : List Int) : (decL l).length = l.length := by unfold decL; rw [List.length_reverse, decF_len, List.length_reverse]
theorem dec_len (l : List Int) : (dec l).length = l.length := by unfold dec; rw [decF_len, decL_len]
theorem decF_app {a : List Int} (h : a ≠ []) (b : List Int) : decF (a ++ b) = decF a ++ b := by
  cases a with
  | nil => exact absurd rfl h
  | cons x t => rfl
theorem decL_app (a : List Int) {b : List Int} (h : b ≠ []) : decL (a ++ b) = a ++ decL b := by
  unfold decL
  rw [List.reverse_append, decF_app (by simpa using h), List.reverse_append, List.reverse_reverse]
theorem decL_one (x : Int) : decL [x] = [x - 1] := rfl
theorem decL_snoc (a : List Int) (x : Int) : decL (a ++ [x]) = a ++ [x - 1] := by rw [decL_app _ (by simp), decL_one]
theorem decFL (l : List Int) : decF (decL l) = decL (decF l) := by
  cases l with
  | nil => rfl
  | cons x t =>
    by_cases h : t = []
    · subst h
      rfl
    · have e1 : decL (x :: t) = x :: decL t := decL_app [x] h
      have e2 : decL ((x - 1) :: t) = (x - 1) :: decL t := decL_app [x - 1] h
      show decF (decL (x :: t)) = decL ((x - 1) :: t)
      rw [e1, e2]
      rfl
theorem dec_app {a b : List Int} (ha : a ≠ []) (hb : b ≠ []) : dec (a ++ b) = decF a ++ decL b := by
  unfold dec
  rw [decL_app a hb, decF_app ha]
theorem dec_mem {u : List Int} {x : Int} (h : x ∈ u) : ∃ y ∈ dec u, y ≤ x := by
  have key : ∀ l : List Int, x ∈ l → ∃ y ∈ decF l, y ≤ x := by
    intro l hl
    cases l with
    | nil => cases hl
    | cons z t =>
      rcases List.mem_cons.mp hl with e | e
      · exact ⟨z - 1, List.mem_cons_self, by omega⟩
      · exact ⟨x, List.mem_cons_of_mem _ e, Int.le_refl _⟩
  have key2 : ∀ l : List Int, ∀ z : Int, z ∈ l → ∃ y ∈ decF l, y ≤ z := by
    intro l z hl
    cases l with
    | nil => cases hl
    | cons v t =>
      rcases List.mem_cons.mp hl with e | e
      · exact ⟨v - 1, List.mem_cons_self, by omega⟩
      · exact ⟨z, List.mem_cons_of_mem _ e, Int.le_refl _⟩
  obtain ⟨y, hy, hyx⟩ := key2 u.reverse x (List.mem_reverse.mpr h)
  obtain ⟨z, hz, hzy⟩ := key2 (decL u) y (List.mem_reverse.mpr hy)
  exact ⟨z, hz, by omega⟩
theorem RT.mem {a b : List Int} (h : RT a b) (x : Int) : x ∈ a ↔ x ∈ b := by
  obtain ⟨k, _, rfl⟩ := h
  unfold rot
  conv => rhs; rw [← List.take_append_drop k b]
  rw [List.mem_append, List.mem_append]
  exact Or.comm
theorem RT.comm {a b : List Int} (h : a ++ b ≠ []) : RT (b ++ a) (a ++ b) := by
  by_cases hb : b = []
  · subst hb
    rw [List.append_nil, List.nil_append]
    exact .refl (List.length_pos_iff.mpr (by simpa using h))
  · refine ⟨a.length, by rw [List.length_append]; have := List.length_pos_iff.mpr hb; omega, ?_⟩
    unfold rot
    rw [List.drop_left, List.take_left]
/-- a 1 is taken out; rings up to turning -/
def St (a b : List Int) : Prop := ∃ u, u ≠ [] ∧ RT (1 :: u) a ∧ RT b (dec u)
inductive Sts : List Int → List Int → Prop
  | nil {a b : List Int} : RT b a → Sts a b
  | cons {a b c : List Int} : St a b → Sts b c → Sts a c
def Nf (a : List Int) : Prop := ∀ x ∈ a, 2 ≤ x
def Dead (a : List Int) : Prop := ∃ x ∈ a, x ≤ 0
theorem St.len {a b : List Int} (h : St a b) : a.length = b.length + 1 := by
  obtain ⟨u, _, h1, h2⟩ := h
  rw [← h1.len, h2.len, dec_len]
  rfl
theorem St.left {a a' b : List Int} (h : St a b) (e : RT a a') : St a' b := by
  obtain ⟨u, h0, h1, h2⟩ := h
  exact ⟨u, h0, h1.trans e, h2⟩
theorem Sts.left {a a' b : List Int} (h : Sts a b) (e : RT a a') : Sts a' b := by
  cases h with
  | nil h => exact .nil (h.trans e)
  | cons h h' => exact .cons (h.left e) h'
theorem Sts.right {a b b' : List Int} (h : Sts a b) : RT b' b → Sts a b' := by
  induction h with
  | nil h => exact fun e => .nil (e.trans h)
  | cons h _ ih => exact fun e => .cons h (ih e)
theorem St.dead {a b : List Int} (h : St a b) (d : Dead a) : Dead b := by
  obtain ⟨u, _, h1, h2⟩ := h
  obtain ⟨x, hx, hx0⟩ := d
  rcases List.mem_cons.mp ((h1.mem x).mpr hx) with e | e
  · omega
  · obtain ⟨y, hy, hyx⟩ := dec_mem e
    exact ⟨y, (h2.mem y).mpr hy, by omega⟩
theorem Sts.dead {a b : List Int} (h : Sts a b) : Dead a → Dead b := by
  induction h with
  | nil h =>
    rintro ⟨x, hx, h0⟩
    exact ⟨x, (h.mem x).mpr hx, h0⟩
  | cons h _ ih => exact fun d => ih (h.dead d)
theorem Nf.no {a : List Int} (h : Nf a) (d : Dead a) : False := by
  obtain ⟨x, hx, h0⟩ := d
  have := h x hx
  omega
/-- two ones of one ring -/
theorem two_ones {u u' : List Int} (h : RT (1 :: u') (1 :: u)) : u' = u ∨ ∃ u1 u2, u = u1 ++ 1 :: u2 ∧ u' = u2 ++ 1 :: u1 := by
  obtain ⟨k, hk, e⟩ := h
  cases k with
  | zero =>
    rw [rot_zero] at e
    exact .inl (List.cons.inj e).2.symm
  | succ k =>
    right
    have hk : k < u.length := Nat.lt_of_succ_lt_succ hk
    have e : u.drop k ++ 1 :: u.take k = 1 :: u' := e
    rw [List.drop_eq_getElem_cons hk, List.cons_append] at e
    obtain ⟨e1, e2⟩ := List.cons.inj e
    refine ⟨u.take k, u.drop (k + 1), ?_, e2.symm⟩
    conv => lhs; rw [← List.take_append_drop k u]
    rw [List.drop_eq_getElem_cons hk, e1]
/-- taking out in another order -/
theorem diamond {a b c : List Int} (hb : St a b) (hc : St a c) : RT b c ∨ Dead c ∨ ∃ d d', St b d ∧ St c d' ∧ RT d d' := by
  obtain ⟨u', u0', b1, b2⟩ := hb
  obtain ⟨u, u0, c1, c2⟩ := hc
  rcases two_ones (b1.trans c1.symm) with rfl | ⟨u1, u2, rfl, rfl⟩
  · exact .inl (b2.trans c2.symm)
  · right
    by_cases h1 : u1 = []
    · left
      subst h1
      have h2 : (0 : Int) ∈ decF (1 :: u2) := List.mem_cons_self
      -- the first of what is left is a 1 that loses one
      obtain ⟨y, hy, hy0⟩ : ∃ y ∈ dec ([] ++ 1 :: u2), y ≤ 0 := by
        show ∃ y ∈ decF (decL (1 :: u2)), y ≤ 0
        rw [decFL]
        by_cases hu : u2 = []
        · subst hu
          exact ⟨-1, List.mem_cons_self, by decide⟩
        · show ∃ y ∈ decL ([0] ++ u2), y ≤ 0
          rw [decL_app _ hu]
          exact ⟨0, List.mem_cons_self, Int.le_refl _⟩
      exact ⟨y, (c2.mem y).mpr hy, hy0⟩
    · by_cases h2 : u2 = []
      · left
        subst h2
        have e : dec (u1 ++ [1]) = decF u1 ++ [0] := dec_app h1 (by simp)
        exact ⟨0, (c2.mem 0).mpr (by rw [e]; exact List.mem_append_right _ List.mem_cons_self), Int.le_refl _⟩
      · right
        have ec : dec (u1 ++ 1 :: u2) = decF u1 ++ 1 :: decL u2 := by
          rw [dec_app h1 (by simp), show (1 :: u2 : List Int) = [1] ++ u2 from rfl, decL_app _ h2]
          rfl
        have eb : dec (u2 ++ 1 :: u1) = decF u2 ++ 1 :: decL u1 := by
          rw [dec_app h2 (by simp), show (1 :: u1 : List Int) = [1] ++ u1 from rfl, decL_app _ h1]
          rfl
        have n1 : decL u1 ≠ [] := List.length_pos_iff.mp (by rw [decL_len]; exact List.length_pos_iff.mpr h1)
        have n2 : decL u2 ≠ [] := List.length_pos_iff.mp (by rw [decL_len]; exact List.length_pos_iff.mpr h2)
        have m1 : decF u1 ≠ [] := List.length_pos_iff.mp (by rw [decF_len]; exact List.length_pos_iff.mpr h1)
        have m2 : decF u2 ≠ [] := List.length_pos_iff.mp (by rw [decF_len]; exact List.length_pos_iff.mpr h2)
        have tb : RT (1 :: (decL u1 ++ decF u2)) b := by
          refine RT.trans ?_ b2.symm
          rw [eb]
          exact RT.comm (a := decF u2) (b := 1 :: decL u1) (by simp)
        have tc : RT (1 :: (decL u2 ++ decF u1)) c := by
          refine RT.trans ?_ c2.symm
          rw [ec]
          exact RT.comm (a := decF u1) (b := 1 :: decL u2) (by simp)
        refine ⟨dec (decL u1 ++ decF u2), dec (decL u2 ++ decF u1), ⟨_, by simp [n1], tb, .refl ?_⟩, ⟨_, by simp [n2], tc, .refl ?_⟩, ?_⟩
        · rw [dec_len, List.length_append]; have := List.length_pos_iff.mpr n1; omega
        · rw [dec_len, List.length_append]; have := List.length_pos_iff.mpr n2; omega
        · rw [dec_app n1 m2, dec_app n2 m1, decFL, decFL]
          exact RT.comm (a := decL (decF u2)) (b := decL (decF u1)) (by
            intro z
            have := congrArg List.length z
            rw [List.length_append, decL_len, decF_len, List.length_nil] at this
            have := List.length_pos_iff.mpr h2
            omega)
/-- every order leads to the same plain ring -/
theorem conf : ∀ (n : Nat) (a b m : List Int), a.length = n → Sts a m → Nf m → St a b → Sts b m := by
  intro n
  induction n with
  | zero =>
    intro a b m ha _ _ hb
    have := hb.len
    omega
  | succ n ih =>
    intro a b m ha hm hn hb
    cases hm with
    | nil e =>
      exfalso
      obtain ⟨u, _, h1, _⟩ := hb
      have := hn 1 ((e.mem 1).mpr ((h1.mem 1).mp List.mem_cons_self))
      omega
    | @cons _ c _ hc hm =>
      have hl := hc.len
      rcases diamond hb hc with e | d | ⟨d, d', h1, h2, e⟩
      · exact hm.left e.symm
      · exact (hn.no (hm.dead d)).elim
      · exact .cons h1 ((ih c d' m (by omega) hm hn h2).left e.symm)
theorem conf_all {a b m : List Int} (h : Sts a m) (hn : Nf m) (hb : Sts a b) : Sts b m := by
  induction hb with
  | nil e => exact h.left e.symm
  | cons h1 _ ih => exact ih (conf _ _ _ _ rfl h hn h1)
/-- two plain rings of one ring are turnings -/
theorem conf_uniq {a m m' : List Int} (h : Sts a m) (hn : Nf m) (h' : Sts a m') (hn' : Nf m') : RT m m' := by
  have := conf_all h hn h'
  cases this with
  | nil e => exact e
  | cons hs _ =>
    exfalso
    obtain ⟨u, _, h1, _⟩ := hs
    have := hn' 1 ((h1.mem 1).mp List.mem_cons_self)
    omega
end LandM

/-! OutR: taking out a 1, putting one in, by index. -/
namespace LandM
/-- the ring without its number at i, both neighbours one less -/
def outR (l : List Int) (i : Nat) : List Int := ((bump (bump l ((i + l.length - 1) % l.length) (-1)) ((i + 1) % l.length) (-1)).take i) ++ ((bump (bump l ((i + l.length - 1) % l.length) (-1)) ((i + 1) % l.length) (-1)).drop (i + 1))
theorem bump_app_l (a b : List Int) (i : Nat) (v : Int) (h : i < a.length) : bump (a ++ b) i v = bump a i v ++ b := by
  unfold bump
  rw [List.set_append_left _ _ h, List.getD_eq_getElem?_getD, List.getD_eq_getElem?_getD, List.getElem?_append_left h]
theorem bump_app_r (a b : List Int) (i : Nat) (v : Int) : bump (a ++ b) (a.length + i) v = a ++ bump b i v := by
  unfold bump
  rw [List.set_append_right _ _ (by omega), List.getD_eq_getElem?_getD, List.getD_eq_getElem?_getD, List.getElem?_append_right (by omega), Nat.add_sub_cancel_left]
theorem bump_last (a : List Int) (x v : Int) : bump (a ++ [x]) a.length v = a ++ [x + v] := by
  have := bump_app_r a [x] 0 v
  rw [Nat.add_zero] at this
  rw [this]
  rfl
theorem bump_first (x : Int) (b : List Int) (v : Int) : bump (x :: b) 0 v = (x + v) :: b := rfl
theorem bump_decF (b : List Int) (h : b ≠ []) : bump b 0 (-1) = decF b := by
  cases b with
  | nil => exact absurd rfl h
  | cons x t => rfl
theorem bump_decL (a : List Int) (h : a ≠ []) : bump a (a.length - 1) (-1) = decL a := by
  obtain ⟨t, x, rfl⟩ := list_snoc a h
  rw [show (t ++ [x]).length - 1 = t.length by rw [List.length_append]; simp, bump_last, decL_snoc]
  rfl
/-- in the middle, at the front, at the end -/
theorem outR_mid {a b : List Int} (x : Int) (ha : a ≠ []) (hb : b ≠ []) : outR (a ++ x :: b) a.length = decL a ++ decF b := by
  have h1 := List.length_pos_iff.mpr ha
  have h2 := List.length_pos_iff.mpr hb
  have hl : (a ++ x :: b).length = a.length + (b.length + 1) := by rw [List.length_append]; rfl
  have e1 : (a.length + (a ++ x :: b).length - 1) % (a ++ x :: b).length = a.length - 1 := by
    rw [hl, show a.length + (a.length + (b.length + 1)) - 1 = (a.length - 1) + (a.length + (b.length + 1)) by omega, Nat.add_mod_right, Nat.mod_eq_of_lt (by omega)]
  have e2 : (a.length + 1) % (a ++ x :: b).length = a.length + 1 := Nat.mod_eq_of_lt (by omega)
  have dl : (decL a).length = a.length := decL_len a
  unfold outR
  rw [e1, e2, bump_app_l _ _ _ _ (by omega), bump_decL a ha]
  have e3 : bump (decL a ++ x :: b) (a.length + 1) (-1) = decL a ++ x :: decF b := by
    rw [← dl, bump_app_r]
    show decL a ++ x :: bump b 0 (-1) = _
    rw [bump_decF b hb]
  rw [e3, List.take_left' dl, show decL a ++ x :: decF b = (decL a ++ [x]) ++ decF b by simp, List.drop_left' (by rw [List.length_append, dl]; rfl)]
theorem outR_front (x : Int) {b : List Int} (hb : b ≠ []) : outR (x :: b) 0 = dec b := by
  have h2 := List.length_pos_iff.mpr hb
  have e1 : (0 + (x :: b).length - 1) % (x :: b).length = 1 + (b.length - 1) := by
    rw [List.length_cons, Nat.mod_eq_of_lt (by omega)]
    omega
  have e2 : (0 + 1) % (x :: b).length = 1 := by rw [List.length_cons]; exact Nat.mod_eq_of_lt (by omega)
  unfold outR
  rw [e1, e2]
  have e3 : bump (x :: b) (1 + (b.length - 1)) (-1) = x :: decL b := by
    have := bump_app_r [x] b (b.length - 1) (-1)
    rw [bump_decL b hb] at this
    exact this
  rw [e3]
  have e4 : bump (x :: decL b) 1 (-1) = x :: decF (decL b) := by
    have := bump_app_r [x] (decL b) 0 (-1)
    rw [bump_decF _ (List.length_pos_iff.mp (by rw [decL_len]; exact h2))] at this
    exact this
  rw [e4]
  rfl
theorem outR_back {a : List Int} (x : Int) (ha : a ≠ []) : outR (a ++ [x]) a.length = dec a := by
  have h1 := List.length_pos_iff.mpr ha
  have hl : (a ++ [x]).length = a.length + 1 := by rw [List.length_append]; rfl
  have e1 : (a.length + (a ++ [x]).length - 1) % (a ++ [x]).length = a.length - 1 := by
    rw [hl, show a.length + (a.length + 1) - 1 = (a.length - 1) + (a.length + 1) by omega, Nat.add_mod_right, Nat.mod_eq_of_lt (by omega)]
  have e2 : (a.length + 1) % (a ++ [x]).length = 0 := by rw [hl, Nat.mod_self]
  have dl : (decL a).length = a.length := decL_len a
  have n1 : decL a ≠ [] := List.length_pos_iff.mp (by omega)
  unfold outR
  rw [e1, e2, bump_app_l _ _ _ _ (by omega), bump_decL a ha, bump_app_l _ _ _ _ (by omega), bump_decF _ n1]
  have d2 : (decF (decL a)).length = a.length := by rw [decF_len, dl]
  rw [List.take_left' d2, List.drop_of_length_le (by rw [List.length_append, d2]; exact Nat.le_refl _), List.append_nil]
  rfl
theorem split_at {l : List Int} {i : Nat} (h : i < l.length) : ∃ a b, l = a ++ l[i] :: b ∧ a.length = i := by
  refine ⟨l.take i, l.drop (i + 1), ?_, by rw [List.length_take]; omega⟩
  conv => lhs; rw [← List.take_append_drop i l]
  rw [List.drop_eq_getElem_cons h]
/-- to take out a 1 is a step -/
theorem outR_St {l : List Int} {i : Nat} (h : i < l.length) (h1 : l[i] = 1) (h2 : 1 < l.length) : St l (outR l i) := by
  obtain ⟨a, b, e, hi⟩ := split_at h
  rw [h1] at e
  subst hi
  clear h1
  subst e
  by_cases ha : a = []
  · subst ha
    have hb : b ≠ [] := by rintro rfl; exact absurd h2 (by decide)
    have e := outR_front 1 hb
    refine ⟨b, hb, .refl (Nat.succ_pos _), ?_⟩
    show RT (outR (1 :: b) 0) (dec b)
    rw [e]
    exact .refl (by rw [dec_len]; exact List.length_pos_iff.mpr hb)
  · by_cases hb : b = []
    · subst hb
      refine ⟨a, ha, RT.comm (a := a) (b := [1]) (by simp), ?_⟩
      rw [outR_back 1 ha]
      exact .refl (by rw [dec_len]; exact List.length_pos_iff.mpr ha)
    · refine ⟨b ++ a, by simp [ha], RT.comm (a := a) (b := 1 :: b) (by simp), ?_⟩
      rw [outR_mid 1 ha hb, dec_app hb ha]
      exact RT.comm (a := decF b) (b := decL a) (by
        intro z
        have := congrArg List.length z
        rw [List.length_append, decF_len, List.length_nil] at this
        have := List.length_pos_iff.mpr hb
        omega)
theorem outR_len {l : List Int} {i : Nat} (h : i < l.length) : (outR l i).length = l.length - 1 := by
  unfold outR
  rw [List.length_append, List.length_take, List.length_drop, bump_len, bump_len]
  omega
end LandM

/-! Down: the first ones taken out, again and again. -/
namespace LandM
def low1 (l : List Int) : Prop := 1 < l.length ∧ (∀ x ∈ l, 1 ≤ x) ∧ 1 ∈ l
instance (l : List Int) : Decidable (low1 l) := inferInstanceAs (Decidable (_ ∧ _ ∧ _))
def ix1 : List Int → Nat
  | [] => 0
  | x :: r => if x = 1 then 0 else ix1 r + 1
theorem ix1_spec {l : List Int} (h : (1 : Int) ∈ l) : ix1 l < l.length ∧ l[ix1 l]? = some 1 ∧ ∀ i, i < ix1 l → l[i]? ≠ some 1 := by
  induction l with
  | nil => cases h
  | cons x r ih =>
    unfold ix1
    by_cases e : x = 1
    · rw [if_pos e]
      exact ⟨Nat.succ_pos _, by rw [e]; rfl, fun i hi => absurd hi (Nat.not_lt_zero i)⟩
    · rw [if_neg e]
      obtain ⟨h1, h2, h3⟩ := ih ((List.mem_cons.mp h).resolve_left fun z => e z.symm)
      refine ⟨Nat.succ_lt_succ h1, h2, fun i hi => ?_⟩
      cases i with
      | zero => exact fun z => e (Option.some.inj z)
      | succ i => exact h3 i (Nat.lt_of_succ_lt_succ hi)
def down : Nat → List Int → List Nat → List Int × List Nat
  | 0, l, ps => (l, ps)
  | n + 1, l, ps => if low1 l then down n (outR l (ix1 l)) (ps ++ [ix1 l]) else (l, ps)
theorem down_stop {n : Nat} {l : List Int} {ps : List Nat} (h : ¬ low1 l) : down n l ps = (l, ps) := by
  cases n with
  | zero => rfl
  | succ n => exact if_neg h
theorem down_go {n : Nat} {l : List Int} {ps : List Nat} (h : low1 l) : down (n + 1) l ps = down n (outR l (ix1 l)) (ps ++ [ix1 l]) := if_pos h
theorem down_more : ∀ (n m : Nat) (l : List Int) (ps : List Nat), l.length ≤ n + 1 → l.length ≤ m + 1 → down n l ps = down m l ps
  | 0, m, l, ps, h, _ => by
    have hl : ¬ low1 l := fun z => by have := z.1; omega
    rw [down_stop hl, down_stop hl]
  | n + 1, 0, l, ps, _, h => by
    have hl : ¬ low1 l := fun z => by have := z.1; omega
    rw [down_stop hl, down_stop hl]
  | n + 1, m + 1, l, ps, h1, h2 => by
    by_cases hl : low1 l
    · rw [down_go hl, down_go hl]
      have hi := (ix1_spec hl.2.2).1
      have := outR_len hi
      exact down_more n m _ _ (by omega) (by omega)
    · rw [down_stop hl, down_stop hl]
theorem low1_St {l : List Int} {i : Nat} (h : low1 l) (hi : l[i]? = some 1) : St l (outR l i) := by
  obtain ⟨h1, h2⟩ := List.getElem?_eq_some_iff.mp hi
  exact outR_St h1 h2 h.1
theorem down_sts : ∀ (n : Nat) (l : List Int) (ps : List Nat), 0 < l.length → Sts l (down n l ps).1
  | 0, l, ps, h => .nil (.refl h)
  | n + 1, l, ps, h => by
    by_cases hl : low1 l
    · rw [down_go hl]
      obtain ⟨h1, h2, _⟩ := ix1_spec hl.2.2
      have hlen := outR_len h1
      have := hl.1
      exact .cons (low1_St hl h2) (down_sts n _ _ (by omega))
    · rw [down_stop hl]
      exact .nil (.refl h)
theorem down_end {n : Nat} {l : List Int} {ps : List Nat} (h : l.length ≤ n + 1) : ¬ low1 (down n l ps).1 := by
  induction n generalizing l ps with
  | zero =>
    intro z
    have : (down 0 l ps).1 = l := rfl
    rw [this] at z
    have := z.1
    omega
  | succ n ih =>
    by_cases hl : low1 l
    · rw [down_go hl]
      have hi := (ix1_spec hl.2.2).1
      have := outR_len hi
      exact ih (by omega)
    · rw [down_stop hl]
      exact hl
theorem outR_pos {l : List Int} (h : low1 l) : 0 < (outR l (ix1 l)).length := by
  have := outR_len (ix1_spec h.2.2).1
  have := h.1
  omega
theorem down_pos {n : Nat} {l : List Int} {ps : List Nat} (h : 0 < l.length) : 0 < (down n l ps).1.length := by
  induction n generalizing l ps with
  | zero => exact h
  | succ n ih =>
    by_cases hl : low1 l
    · rw [down_go hl]
      exact ih (outR_pos hl)
    · rw [down_stop hl]
      exact h
end LandM

namespace LandM
def inR (l : List Int) (i : Nat) : List Int := (bump (bump l i 1) ((i + 1) % l.length) 1).take (i + 1) ++ [1] ++ (bump (bump l i 1) ((i + 1) % l.length) 1).drop (i + 1)
theorem bump_at (a : List Int) (y : Int) (b : List Int) (v : Int) : bump (a ++ y :: b) a.length v = a ++ (y + v) :: b := by
  have := bump_app_r a (y :: b) 0 v
  rw [Nat.add_zero] at this
  rw [this, bump_first]
theorem inR_mid (a : List Int) (y z : Int) (c : List Int) : inR (a ++ y :: z :: c) a.length = (a ++ [y + 1]) ++ 1 :: (z + 1) :: c := by
  unfold inR
  rw [bump_at, Nat.mod_eq_of_lt (by simp only [List.length_append, List.length_cons]; omega)]
  have h := bump_at (a ++ [y + 1]) z c 1
  rw [List.length_append, List.length_singleton, List.append_assoc] at h
  simp only [List.singleton_append] at h
  rw [h]
  have hl : a.length + 1 = (a ++ [y + 1]).length := by simp
  rw [hl, List.take_left, List.drop_left]
  simp
theorem inR_one (y : Int) : inR [y] 0 = [y + 1 + 1] ++ [1] := by
  unfold inR bump
  simp
theorem inR_last (x : Int) (a : List Int) (y : Int) : inR (x :: a ++ [y]) (a.length + 1) = ((x + 1) :: a ++ [y + 1]) ++ [1] := by
  unfold inR
  have h := bump_at (x :: a) y [] 1
  rw [List.length_cons] at h
  rw [h, show (x :: a ++ [y]).length = a.length + 1 + 1 by simp, Nat.mod_self]
  rw [show bump (x :: a ++ [y + 1]) 0 1 = (x + 1) :: a ++ [y + 1] from rfl]
  rw [show a.length + 1 + 1 = ((x + 1) :: a ++ [y + 1]).length by simp, List.take_length, List.drop_length, List.append_nil]
theorem inR_len {l : List Int} {i : Nat} (h : i < l.length) : (inR l i).length = l.length + 1 := by
  unfold inR
  simp only [List.length_append, List.length_take, List.length_drop, List.length_singleton, bump_len]
  omega
theorem in_out {l : List Int} {i : Nat} (h : i < l.length) : (inR l i).getD (i + 1) 0 = 1 ∧ outR (inR l i) (i + 1) = l := by
  obtain ⟨a, b, e, rfl⟩ := split_at h
  generalize l[a.length] = y at e
  subst e
  cases b with
  | cons z c =>
    rw [inR_mid, show a.length + 1 = (a ++ [y + 1]).length by simp]
    refine ⟨by simp [List.getD_eq_getElem?_getD], ?_⟩
    rw [outR_mid 1 (by simp) (by simp), decL_snoc]
    show _ ++ (z + 1 - 1) :: c = _
    rw [show z + 1 - 1 = z by omega, show y + 1 - 1 = y by omega]
    simp
  | nil =>
    cases a with
    | nil =>
      show (inR [y] 0).getD 1 0 = 1 ∧ outR (inR [y] 0) 1 = [y]
      rw [inR_one]
      refine ⟨rfl, ?_⟩
      have := outR_back (a := [y + 1 + 1]) 1 (by simp)
      rw [List.length_singleton] at this
      rw [this]
      show [y + 1 + 1 - 1 - 1] = [y]
      rw [show y + 1 + 1 - 1 - 1 = y by omega]
    | cons x a =>
      rw [List.length_cons, inR_last]
      rw [show a.length + 1 + 1 = ((x + 1) :: a ++ [y + 1]).length by simp]
      refine ⟨by simp [List.getD_eq_getElem?_getD], ?_⟩
      rw [outR_back 1 (by simp)]
      unfold dec
      rw [decL_snoc]
      show (x + 1 - 1) :: (a ++ [y + 1 - 1]) = _
      rw [show x + 1 - 1 = x by omega, show y + 1 - 1 = y by omega]
      rfl
theorem Sts.snoc {a b c : List Int} (h : Sts a b) : St b c → 0 < c.length → Sts a c := by
  induction h with
  | nil e => exact fun h hc => .cons (h.left e) (.nil (RT.refl hc))
  | cons h _ ih => exact fun h' hc => .cons h (ih h' hc)
theorem Sts.len_le {a b : List Int} (h : Sts a b) : b.length ≤ a.length := by
  induction h with
  | nil e => exact Nat.le_of_eq e.len
  | cons h _ ih => have := h.len; omega
theorem any_nf {m d : List Int} (h : Sts m d) (hd : Nf d) (d0 : 0 < d.length) (hm : ¬ low1 m) : Nf m := by
  intro x hx
  by_cases c : 2 ≤ x
  · exact c
  · exfalso
    have h1 : ∀ y ∈ m, 1 ≤ y := fun y hy => by
      by_cases c2 : 1 ≤ y
      · exact c2
      · exact absurd (h.dead ⟨y, hy, by omega⟩) (fun z => hd.no z)
    have hx1 : x = 1 := by have := h1 x hx; omega
    subst hx1
    by_cases c3 : 1 < m.length
    · exact hm ⟨c3, h1, hx⟩
    · cases h with
      | nil e =>
        have := hd 1 ((e.mem 1).mpr hx)
        omega
      | cons h h' =>
        have := h.len
        have := h'.len_le
        omega
theorem bump_bd {l : List Int} {i : Nat} {a b : Int} (h : ∀ x ∈ l, a ≤ x ∧ x ≤ b) (hi : i < l.length) : ∀ x ∈ bump l i 1, a ≤ x ∧ x ≤ b + 1 := fun x hx => by
  unfold bump at hx
  rcases List.mem_or_eq_of_mem_set hx with z | z
  · have := h x z
    omega
  · rw [List.getD_eq_getElem?_getD, List.getElem?_eq_getElem hi] at z
    have := h _ (List.getElem_mem hi)
    simp only [Option.getD_some] at z
    omega
theorem inR_bd {l : List Int} {i : Nat} {b : Int} (h : ∀ x ∈ l, 1 ≤ x ∧ x ≤ b) (hi : i < l.length) : ∀ x ∈ inR l i, 1 ≤ x ∧ x ≤ b + 2 := fun x hx => by
  have h1 := bump_bd h hi
  have h2 := bump_bd (i := (i + 1) % l.length) h1 (by rw [bump_len]; exact Nat.mod_lt _ (by omega))
  have hb := h _ (List.getElem_mem hi)
  unfold inR at hx
  rcases List.mem_append.mp hx with z | z
  · rcases List.mem_append.mp z with z | z
    · have := h2 x (List.mem_of_mem_take z)
      omega
    · rw [List.mem_singleton.mp z]
      omega
  · have := h2 x (List.mem_of_mem_drop z)
    omega
end LandM

namespace LandM
/-- taking out undone -/
theorem in_out' {l : List Int} {i : Nat} (h : i < l.length) (h1 : l[i] = 1) (h2 : 1 < l.length) (h0 : 0 < i) : inR (outR l i) (i - 1) = l := by
  obtain ⟨a, b, e, rfl⟩ := split_at h
  rw [h1] at e
  subst e
  have ha : a ≠ [] := by intro z; subst z; exact absurd h0 (by decide)
  obtain ⟨a', y, rfl⟩ : ∃ a' y, a = a' ++ [y] := ⟨a.dropLast, a.getLast ha, (List.dropLast_concat_getLast ha).symm⟩
  cases b with
  | cons z c =>
    rw [outR_mid 1 (by simp) (by simp), decL_snoc]
    show inR (a' ++ [y - 1] ++ (z - 1) :: c) _ = _
    rw [List.append_assoc, List.singleton_append, show (a' ++ [y]).length - 1 = a'.length by simp, inR_mid]
    rw [show y - 1 + 1 = y by omega, show z - 1 + 1 = z by omega]
  | nil =>
    rw [outR_back 1 (by simp)]
    unfold dec
    rw [decL_snoc]
    cases a' with
    | nil =>
      show inR [y - 1 - 1] 0 = [y] ++ [1]
      rw [inR_one, show y - 1 - 1 + 1 + 1 = y by omega]
    | cons x a'' =>
      show inR ((x - 1) :: (a'' ++ [y - 1])) _ = _
      rw [show (x :: a'' ++ [y]).length - 1 = a''.length + 1 by simp]
      have := inR_last (x - 1) a'' (y - 1)
      rw [List.cons_append] at this
      rw [this, show x - 1 + 1 = x by omega, show y - 1 + 1 = y by omega]
theorem in_out0 {l : List Int} (h : 0 < l.length) (h1 : l[0] = 1) (h2 : 1 < l.length) : rot (inR (outR l 0) (l.length - 2)) (l.length - 1) = l := by
  cases l with
  | nil => cases h
  | cons x b =>
    have hx : x = 1 := h1
    subst hx
    have hb : b ≠ [] := by intro z; subst z; simp at h2
    rw [outR_front 1 hb]
    obtain ⟨b', y, rfl⟩ : ∃ b' y, b = b' ++ [y] := ⟨b.dropLast, b.getLast hb, (List.dropLast_concat_getLast hb).symm⟩
    unfold dec
    rw [decL_snoc]
    cases b' with
    | nil =>
      show rot (inR [y - 1 - 1] 0) 1 = [1, y]
      rw [inR_one, show y - 1 - 1 + 1 + 1 = y by omega]
      rfl
    | cons z c =>
      show rot (inR ((z - 1) :: (c ++ [y - 1])) _) _ = _
      rw [show (1 :: (z :: c ++ [y])).length - 2 = c.length + 1 by simp, show (1 :: (z :: c ++ [y])).length - 1 = (z :: c ++ [y]).length by simp]
      have := inR_last (z - 1) c (y - 1)
      rw [List.cons_append] at this
      rw [this, show z - 1 + 1 = z by omega, show y - 1 + 1 = y by omega]
      unfold rot
      rw [List.drop_left, List.take_left]
      rfl
/-- a move done -/
abbrev kOut : List Nat := [111, 117, 116]
abbrev kIn : List Nat := [105, 110]
abbrev kTurn : List Nat := [116, 117, 114, 110]
def doM (r : List Int) (k : List Nat) (i : Int) : Option (List Int) := if k = kOut then (if 1 < r.length ∧ 0 ≤ i ∧ i < r.length ∧ r.getD i.toNat 0 = 1 then some (outR r i.toNat) else none) else if k = kIn then (if r.length ≠ 12 ∧ 0 ≤ i ∧ i < r.length then some (inR r i.toNat) else none) else if k = kTurn then (if 0 ≤ i ∧ i < r.length then some (rot r i.toNat) else none) else none
theorem doM_out {r : List Int} {i : Nat} (h : i < r.length) (h1 : r[i] = 1) (h2 : 1 < r.length) : doM r kOut i = some (outR r i) := by
  unfold doM
  rw [if_pos rfl, if_pos ⟨h2, by omega, by omega, by rw [Int.toNat_natCast, List.getD_eq_getElem?_getD, List.getElem?_eq_getElem h]; exact h1⟩, Int.toNat_natCast]
theorem doM_in {r : List Int} {i : Nat} (h : i < r.length) (h1 : r.length < 12) : doM r kIn i = some (inR r i) := by
  unfold doM
  rw [if_neg (by decide), if_pos rfl, if_pos ⟨by omega, by omega, by omega⟩, Int.toNat_natCast]
theorem doM_turn {r : List Int} {i : Nat} (h : i < r.length) : doM r kTurn i = some (rot r i) := by
  unfold doM
  rw [if_neg (by decide), if_neg (by decide), if_pos rfl, if_pos ⟨by omega, by omega⟩, Int.toNat_natCast]
theorem doM_len {r r' : List Int} {k : List Nat} {i : Int} (h : doM r k i = some r') (h0 : 0 < r.length) (h12 : r.length ≤ 12) : 0 < r'.length ∧ r'.length ≤ 12 := by
  unfold doM at h
  split at h
  · split at h
    · rename_i c
      cases h
      have := outR_len (l := r) (i := i.toNat) (by omega)
      omega
    · cases h
  · split at h
    · split at h
      · rename_i c
        cases h
        have := inR_len (l := r) (i := i.toNat) (by omega)
        omega
      · cases h
    · split at h
      · split at h
        · rename_i c
          cases h
          rw [rot_len _ _ (by omega)]
          omega
        · cases h
      · cases h
/-- a move keeps what is left -/
theorem doM_keep {r r' m : List Int} {k : List Nat} {i : Int} (h : doM r k i = some r') (h0 : 0 < r.length) (hm : Nf m) (hs : Sts r m) : Sts r' m := by
  unfold doM at h
  split at h
  · split at h
    · rename_i c
      cases h
      have hi : i.toNat < r.length := by omega
      have h1 := c.2.2.2
      rw [List.getD_eq_getElem?_getD, List.getElem?_eq_getElem hi] at h1
      exact conf _ _ _ _ rfl hs hm (outR_St hi h1 c.1)
    · cases h
  · split at h
    · split at h
      · rename_i c
        cases h
        have hi : i.toNat < r.length := by omega
        have il := inR_len hi
        obtain ⟨h1, h2⟩ := in_out hi
        rw [List.getD_eq_getElem?_getD, List.getElem?_eq_getElem (by omega)] at h1
        have := outR_St (l := inR r i.toNat) (i := i.toNat + 1) (by omega) h1 (by omega)
        rw [h2] at this
        exact .cons this hs
      · cases h
    · split at h
      · split at h
        · rename_i c
          cases h
          exact hs.left (RT.symm ⟨i.toNat, by omega, rfl⟩)
        · cases h
      · cases h
abbrev Mo := List Nat × Int
def runM : List Int → List Mo → Option (List Int)
  | r, [] => some r
  | r, m :: ms => match doM r m.1 m.2 with
    | some r' => runM r' ms
    | none => none
theorem runM_app : ∀ (a b : List Mo) (r r' : List Int), runM r a = some r' → runM r (a ++ b) = runM r' b
  | [], b, r, r', h => by cases h; rfl
  | m :: a, b, r, r', h => by
    unfold runM at h
    rw [List.cons_append, runM]
    split at h
    · rename_i x e
      exact runM_app a b _ _ h
    · cases h
theorem runM_keep : ∀ (ms : List Mo) (r r' m : List Int), runM r ms = some r' → 0 < r.length → r.length ≤ 12 → Nf m → Sts r m → Sts r' m ∧ 0 < r'.length ∧ r'.length ≤ 12
  | [], r, r', m, h, h0, h12, hm, hs => by cases h; exact ⟨hs, h0, h12⟩
  | x :: ms, r, r', m, h, h0, h12, hm, hs => by
    unfold runM at h
    split at h
    · rename_i r1 e
      obtain ⟨a, b⟩ := doM_len e h0 h12
      exact runM_keep ms _ _ _ h a b hm (doM_keep e h0 hm hs)
    · cases h
/-- no ring on the way longer than B -/
def shortM (B : Nat) : List Int → List Mo → Prop
  | r, [] => r.length ≤ B
  | r, m :: ms => r.length ≤ B ∧ ∀ r', doM r m.1 m.2 = some r' → shortM B r' ms
theorem shortM_app {B : Nat} : ∀ (a b : List Mo) (r r' : List Int), runM r a = some r' → shortM B r a → shortM B r' b → shortM B r (a ++ b)
  | [], b, r, r', h, _, h2 => by cases h; exact h2
  | m :: a, b, r, r', h, h1, h2 => by
    unfold runM at h
    rw [List.cons_append, shortM]
    split at h
    · rename_i x e
      refine ⟨h1.1, fun y hy => ?_⟩
      rw [e] at hy
      cases hy
      exact shortM_app a b _ _ h (h1.2 _ e) h2
    · cases h
def outsM (ps : List Nat) : List Mo := ps.map fun (p : Nat) => ((kOut, (p : Int)) : Mo)
def putM (p left : Nat) : List Mo := if 0 < p then [(kIn, (p : Int) - 1)] else [(kIn, (left : Int) - 1), (kTurn, (left : Int))]
def undoM : Nat → List Nat → List Mo
  | _, [] => []
  | n, p :: ps => undoM (n - 1) ps ++ putM p (n - 1)
theorem down_ps : ∀ (n : Nat) (l : List Int) (ps : List Nat), (down n l ps).2 = ps ++ (down n l []).2
  | 0, l, ps => by simp [down]
  | n + 1, l, ps => by
    by_cases c : low1 l
    · rw [down_go c, down_go c, down_ps n _ (ps ++ [ix1 l]), down_ps n _ ([] ++ [ix1 l])]
      simp
    · rw [down_stop c, down_stop c]
      simp
theorem down_fst : ∀ (n : Nat) (l : List Int) (p q : List Nat), (down n l p).1 = (down n l q).1
  | 0, l, p, q => rfl
  | n + 1, l, p, q => by
    by_cases c : low1 l
    · rw [down_go c, down_go c]
      exact down_fst n _ _ _
    · rw [down_stop c, down_stop c]
theorem down_snd {n : Nat} {l : List Int} (c : low1 l) : (down (n + 1) l []).2 = ix1 l :: (down n (outR l (ix1 l)) []).2 ∧ (down (n + 1) l []).1 = (down n (outR l (ix1 l)) []).1 := by
  rw [down_go c, down_ps]
  exact ⟨rfl, down_fst _ _ _ _⟩
theorem down_plen : ∀ (n : Nat) (l : List Int), 0 < l.length → (down n l []).2.length + 1 ≤ l.length
  | 0, l, h => by show 0 + 1 ≤ l.length; omega
  | n + 1, l, h => by
    by_cases c : low1 l
    · obtain ⟨h2, _⟩ := down_snd (n := n) c
      obtain ⟨i1, _, _⟩ := ix1_spec c.2.2
      have hl := outR_len i1
      have h1 := c.1
      have := down_plen n (outR l (ix1 l)) (by omega)
      rw [h2, List.length_cons]
      omega
    · rw [down_stop c]
      show 0 + 1 ≤ l.length
      omega
theorem lead_outs : ∀ (n B : Nat) (l : List Int), l.length ≤ B → runM l (outsM (down n l []).2) = some (down n l []).1 ∧ shortM B l (outsM (down n l []).2)
  | 0, B, l, h => ⟨rfl, h⟩
  | n + 1, B, l, h => by
    by_cases c : low1 l
    · obtain ⟨h2, h1⟩ := down_snd (n := n) c
      obtain ⟨i1, i2, _⟩ := ix1_spec c.2.2
      rw [List.getElem?_eq_getElem i1] at i2
      have hd := doM_out i1 (Option.some.inj i2) c.1
      have hl := outR_len i1
      obtain ⟨q1, q2⟩ := lead_outs n B (outR l (ix1 l)) (by omega)
      rw [h2, h1]
      show runM l ((kOut, (ix1 l : Int)) :: outsM _) = _ ∧ shortM B l ((kOut, (ix1 l : Int)) :: outsM _)
      rw [runM, shortM, hd]
      exact ⟨q1, h, fun r' e => by cases e; exact q2⟩
    · rw [down_stop c]
      exact ⟨rfl, h⟩
theorem lead_undo : ∀ (n B : Nat) (l : List Int), l.length ≤ 12 → l.length ≤ B → runM (down n l []).1 (undoM l.length (down n l []).2) = some l ∧ shortM B (down n l []).1 (undoM l.length (down n l []).2)
  | 0, B, l, h12, h => ⟨rfl, h⟩
  | n + 1, B, l, h12, h => by
    by_cases c : low1 l
    · obtain ⟨h2, h1⟩ := down_snd (n := n) c
      obtain ⟨i1, i2, _⟩ := ix1_spec c.2.2
      rw [List.getElem?_eq_getElem i1] at i2
      have e1 := Option.some.inj i2
      have hl := outR_len i1
      have h1l := c.1
      obtain ⟨q1, q2⟩ := lead_undo n B (outR l (ix1 l)) (by omega) (by omega)
      rw [h2, h1, undoM]
      rw [hl] at q1 q2
      have key : runM (outR l (ix1 l)) (putM (ix1 l) (l.length - 1)) = some l ∧ shortM B (outR l (ix1 l)) (putM (ix1 l) (l.length - 1)) := by
        unfold putM
        generalize ix1 l = j at *
        by_cases h0 : 0 < j
        · have hd := doM_in (r := outR l j) (i := j - 1) (by omega) (by omega)
          rw [in_out' i1 e1 h1l h0] at hd
          rw [if_pos h0, show (j : Int) - 1 = ((j - 1 : Nat) : Int) by omega]
          rw [runM, shortM, hd]
          exact ⟨rfl, by omega, fun r' e => by cases e; exact h⟩
        · have e0 : j = 0 := by omega
          subst e0
          have hd := doM_in (r := outR l 0) (i := l.length - 2) (by omega) (by omega)
          have il := inR_len (l := outR l 0) (i := l.length - 2) (by omega)
          have hd2 := doM_turn (r := inR (outR l 0) (l.length - 2)) (i := l.length - 1) (by omega)
          rw [in_out0 i1 e1 h1l] at hd2
          rw [if_neg (by decide), show ((l.length - 1 : Nat) : Int) - 1 = ((l.length - 2 : Nat) : Int) by omega]
          rw [runM, shortM, hd]
          dsimp only
          rw [runM, hd2]
          refine ⟨rfl, by omega, fun r' e => ?_⟩
          cases e
          rw [shortM, hd2]
          exact ⟨by omega, fun r' e => by cases e; exact h⟩
      exact ⟨by rw [runM_app _ _ _ _ q1]; exact key.1, shortM_app _ _ _ _ q1 q2 key.2⟩
    · rw [down_stop c]
      exact ⟨rfl, h⟩
theorem sts_nf {r m : List Int} (n : Nat) (h : Sts r m) (hm : Nf m) (m0 : 0 < m.length) (r0 : 0 < r.length) (hl : r.length ≤ n + 1) : Nf (down n r []).1 := any_nf (conf_all h hm (down_sts n r [] r0)) hm m0 (down_end hl)
end LandM
namespace DL
open LandM
/-- moves and papers that are not moves, as plain data -/
abbrev mvD (m : Mo) : D := .tup [.str m.1, .int m.2]
def stepD (r : List Int) : D → Option (List Int)
  | .tup [.str k, .int i] => doM r k i
  | _ => none
def runDs : List Int → List D → Option (List Int)
  | r, [] => some r
  | r, d :: ds => match stepD r d with
    | some r' => runDs r' ds
    | none => none
def runD (r : List Int) : D → Option (List Int)
  | .list ds => runDs r ds
  | _ => none
theorem runDs_mv : ∀ (ms : List Mo) (r : List Int), runDs r (ms.map mvD) = runM r ms
  | [], r => rfl
  | m :: ms, r => by
    rw [List.map_cons, runDs, runM]
    show (match doM r m.1 m.2 with | some r' => _ | none => none) = _
    cases doM r m.1 m.2 with
    | none => rfl
    | some r' => exact runDs_mv ms r'
theorem stepD_some {r r' : List Int} {d : D} (h : stepD r d = some r') : ∃ k i, d = .tup [.str k, .int i] ∧ doM r k i = some r' := by
  unfold stepD at h
  split at h
  · exact ⟨_, _, rfl, h⟩
  · cases h
theorem runDs_keep : ∀ (ms : List D) (r r' m : List Int), runDs r ms = some r' → 0 < r.length → r.length ≤ 12 → Nf m → Sts r m → Sts r' m ∧ 0 < r'.length ∧ r'.length ≤ 12
  | [], r, r', m, h, h0, h12, hm, hs => by cases h; exact ⟨hs, h0, h12⟩
  | x :: ms, r, r', m, h, h0, h12, hm, hs => by
    unfold runDs at h
    split at h
    · rename_i r1 e
      obtain ⟨k, i, rfl, e⟩ := stepD_some e
      obtain ⟨a, b⟩ := doM_len e h0 h12
      exact runDs_keep ms _ _ _ h a b hm (doM_keep e h0 hm hs)
    · cases h
/-- a paper in place of a move -/
def okMv (d : D) : Prop := d = .none ∨ (∃ ds, d = .list ds) ∨ (∃ k x, d = .tup [.str k, x] ∧ (∀ c ∈ k, c < 1114112) ∧ (x = .none ∨ (∃ b, x = .bool b) ∨ ∃ i, x = .int i)) ∨ ∃ i k, d = .tup [.int i, .str k]
def papD (d : D) : Prop := d = .none ∨ (∃ ds, d = .tup ds) ∨ ∃ ds, d = .list ds ∧ ds.length ≤ 1000 ∧ ∀ x ∈ ds, okMv x
end DL

namespace DL
/-- a comprehension over a range, with a condition: the indexes that hold -/
theorem compL_fil {own : List Nat} {g : Gt} {t : T} {e : M} {Q : List D → S → Prop} {s : S} (n : Nat) (p : Nat → Bool) (J : S → Prop) (hJ : J s) (hn : n ≤ LINE)
    (h : ∀ k s, k < n → J s → ∀ (C : Prop) (K1 : D → S → Prop) (K2 : S → Prop), C → (p k = true → ∀ s', J s' → K1 (.int (k : Int)) s') → (p k = false → ∀ s', J s' → K2 s') →
      g (.int (k : Int)) { s with v := puts s.v own .gone } fun s1 => t s1 fun c s2 => if c = true then e s2 fun x s3 => frz x fun y => C ∧ K1 y s3 else K2 s2)
    (he : ∀ s', J s' → Q (((List.range n).filter p).map fun i : Nat => D.int i) s') : compL own g t e (ran 0 n) [] s Q := by
  refine compL_ix _ [] s (fun k acc s => acc = (((List.range k).filter p).map fun i : Nat => D.int i) ∧ J s) ⟨rfl, hJ⟩ ?_ ?_
  · rintro k d acc s hd ⟨rfl, hj⟩ K hK
    obtain ⟨hk, rfl⟩ := ran_get hd
    rw [Int.zero_add]
    refine h k s hk hj _ (fun y s3 => K ((((List.range k).filter p).map fun i : Nat => D.int i) ++ [y]) s3) (fun s2 => K (((List.range k).filter p).map fun i : Nat => D.int i) s2) ?_ (fun hp s' hj' => hK _ _ ⟨?_, hj'⟩) fun hp s' hj' => hK _ _ ⟨?_, hj'⟩
    · rw [List.length_map]
      exact Nat.lt_of_le_of_lt (List.length_filter_le _ _) (by rw [List.length_range]; omega)
    · rw [List.range_succ, List.filter_append, List.map_append]
      simp [hp]
    · rw [List.range_succ, List.filter_append, List.map_append]
      simp [hp]
  · rintro acc s' ⟨rfl, hj⟩
    rw [ran_len]
    exact he s' hj
theorem fil_nil {n : Nat} {p : Nat → Bool} (h : (List.range n).filter p = []) {j : Nat} (hj : j < n) : p j = false := by
  have := List.filter_eq_nil_iff.mp h j (List.mem_range.mpr hj)
  simpa using this
theorem fil_cons {n : Nat} {p : Nat → Bool} {a : Nat} {r : List Nat} (h : (List.range n).filter p = a :: r) : a < n ∧ p a = true ∧ ∀ j, j < a → p j = false := by
  have h1 : (List.range n).find? p = some a := by rw [← List.head?_filter, h]; rfl
  rw [List.find?_range_eq_some] at h1
  exact ⟨List.mem_range.mp h1.2.1, h1.1, fun j hj => by simpa using h1.2.2 j hj⟩
theorem fil_mem {n : Nat} {p : Nat → Bool} {a : Nat} (h : a ∈ (List.range n).filter p) : a < n ∧ p a = true := by
  rw [List.mem_filter, List.mem_range] at h
  exact h
theorem allO {P : D → Prop} {J : S → Prop} {a : DL.M} {r : Ms} {n : Nat} (ha : ∀ s, J s → ∀ K : R → S → Prop, (∀ ds s', P (.list ds) → J s' → K (.own ds) s') → a s K) (hr : AllMs P J n r) : AllMs P J (n + 1) (msC a r) := fun s hj K hK =>
  ha s hj _ fun d s' hp hj' => hr s' hj' _ fun ds s2 hl hds hj2 => hK (.list d :: ds) s2 (congrArg (· + 1) hl) (fun x hx => by
    rcases List.mem_cons.mp hx with h | h
    · rw [h]; exact hp
    · exact hds x h) hj2
theorem mem_cut {α : Type} {xs : List α} {a b : Option Int} {x : α} (h : x ∈ cut xs a b) : x ∈ xs := List.mem_of_mem_drop (List.mem_of_mem_take h)
theorem cut_len {α : Type} (xs : List α) (a b : Option Int) : (cut xs a b).length ≤ xs.length := by
  unfold cut
  rw [List.length_take, List.length_drop]
  omega
end DL

/-! Cnj: positive tables are words; tables of plain rings that are led over to each other. -/
namespace LandM
open Minus (M4 tb pt)
def L4 : M4 := ⟨1, 0, 1, 1⟩
def lt4 (c : Nat) : M4 := if c = 111 then L4 else U4
def wd (l : List Nat) : M4 := l.foldr (fun c m => mul (lt4 c) m) I4
theorem wd_cons (c : Nat) (l : List Nat) : wd (c :: l) = mul (lt4 c) (wd l) := rfl
theorem wd_app (a b : List Nat) : wd (a ++ b) = mul (wd a) (wd b) := by
  induction a with
  | nil => exact (one_mul' _).symm
  | cons c a ih => rw [List.cons_append, wd_cons, wd_cons, ih, mul_assoc']
def nn (m : M4) : Prop := 0 ≤ m.p ∧ 0 ≤ m.q ∧ 0 ≤ m.r ∧ 0 ≤ m.s
def ps (m : M4) : Prop := 1 ≤ m.p ∧ 1 ≤ m.q ∧ 1 ≤ m.r ∧ 1 ≤ m.s
theorem det_mul (a b : M4) : (mul a b).det = a.det * b.det := by
  unfold M4.det mul
  dsimp only
  grind
theorem mul_I (m : M4) (c : Nat) (h : c = 111) : mul (lt4 c) m = ⟨m.p, m.q, m.p + m.r, m.q + m.s⟩ := by
  subst h
  unfold lt4
  rw [if_pos rfl]
  unfold mul L4
  dsimp only
  rw [M4.mk.injEq]
  omega
theorem mul_U (m : M4) (c : Nat) (h : c ≠ 111) : mul (lt4 c) m = ⟨m.p + m.r, m.q + m.s, m.r, m.s⟩ := by
  unfold lt4
  rw [if_neg h]
  unfold mul U4
  dsimp only
  rw [M4.mk.injEq]
  omega
theorem wd_nn : ∀ l : List Nat, nn (wd l) ∧ (wd l).det = 1
  | [] => ⟨by unfold nn; decide, by decide⟩
  | c :: l => by
    obtain ⟨⟨h1, h2, h3, h4⟩, hd⟩ := wd_nn l
    rw [wd_cons]
    generalize wd l = m at *
    have hd' : m.p * m.s - m.q * m.r = 1 := hd
    by_cases hc : c = 111
    · rw [mul_I m c hc]
      refine ⟨⟨by dsimp only; omega, by dsimp only; omega, by dsimp only; omega, by dsimp only; omega⟩, ?_⟩
      unfold M4.det
      dsimp only
      grind
    · rw [mul_U m c hc]
      refine ⟨⟨by dsimp only; omega, by dsimp only; omega, by dsimp only; omega, by dsimp only; omega⟩, ?_⟩
      unfold M4.det
      dsimp only
      grind
/-- words with both signs have numbers above 0 alone -/
theorem wd_all (l : List Nat) : (111 ∈ l → 1 ≤ (wd l).r) ∧ (105 ∈ l → 1 ≤ (wd l).q) ∧ 1 ≤ (wd l).p ∧ 1 ≤ (wd l).s := by
  induction l with
  | nil => exact ⟨fun h => (by cases h), fun h => (by cases h), by decide, by decide⟩
  | cons c l ih =>
    obtain ⟨i1, i2, i3, i4⟩ := ih
    obtain ⟨⟨h1, h2, h3, h4⟩, _⟩ := wd_nn l
    rw [wd_cons]
    generalize wd l = m at *
    by_cases hc : c = 111
    · rw [mul_I m c hc]
      dsimp only
      refine ⟨fun _ => by omega, fun h => ?_, by omega, by omega⟩
      rcases List.mem_cons.mp h with z | z
      · omega
      · exact i2 z
    · rw [mul_U m c hc]
      dsimp only
      refine ⟨fun h => ?_, fun h => by omega, by omega, by omega⟩
      rcases List.mem_cons.mp h with z | z
      · exact absurd z.symm hc
      · exact i1 z
theorem wd_ps {l : List Nat} (ho : 111 ∈ l) (hi : 105 ∈ l) : ps (wd l) := by
  obtain ⟨h1, h2, h3, h4⟩ := wd_all l
  exact ⟨h3, h2 hi, h1 ho, h4⟩
/-- each table of numbers from 0 on with p s - q r = 1 is that of a word -/
theorem wd_of : ∀ (n : Nat) (m : M4), nn m → m.det = 1 → m.p + m.q + m.r + m.s ≤ n → ∃ l, (∀ x ∈ l, x = 111 ∨ x = 105) ∧ wd l = m := by
  intro n
  induction n with
  | zero =>
    rintro ⟨p, q, r, s⟩ ⟨h1, h2, h3, h4⟩ hd hn
    unfold M4.det at hd
    dsimp only at *
    have e1 : p = 0 := by omega
    have e2 : q = 0 := by omega
    subst e1
    subst e2
    omega
  | succ n ih =>
    rintro ⟨p, q, r, s⟩ ⟨h1, h2, h3, h4⟩ hd hn
    unfold M4.det at hd
    dsimp only at *
    have up : r ≤ p → s ≤ q → ∃ l, (∀ x ∈ l, x = 111 ∨ x = 105) ∧ wd l = ⟨p, q, r, s⟩ := fun a b => by
      have hrs : 0 < r + s := by
        rcases Int.lt_or_le 0 (r + s) with z | z
        · exact z
        · have e1 : r = 0 := by omega
          have e2 : s = 0 := by omega
          subst e1
          subst e2
          omega
      obtain ⟨l, hl, e⟩ := ih ⟨p - r, q - s, r, s⟩ ⟨by dsimp only; omega, by dsimp only; omega, h3, h4⟩ (by unfold M4.det; dsimp only; grind) (by dsimp only; omega)
      refine ⟨105 :: l, fun x hx => ?_, ?_⟩
      · rcases List.mem_cons.mp hx with z | z
        · exact .inr z
        · exact hl x z
      · rw [wd_cons, e, mul_U _ _ (by decide)]
        dsimp only
        rw [M4.mk.injEq]
        omega
    have lo : p ≤ r → q ≤ s → ∃ l, (∀ x ∈ l, x = 111 ∨ x = 105) ∧ wd l = ⟨p, q, r, s⟩ := fun a b => by
      have hrs : 0 < p + q := by
        rcases Int.lt_or_le 0 (p + q) with z | z
        · exact z
        · have e1 : p = 0 := by omega
          have e2 : q = 0 := by omega
          subst e1
          subst e2
          omega
      obtain ⟨l, hl, e⟩ := ih ⟨p, q, r - p, s - q⟩ ⟨h1, h2, by dsimp only; omega, by dsimp only; omega⟩ (by unfold M4.det; dsimp only; grind) (by dsimp only; omega)
      refine ⟨111 :: l, fun x hx => ?_, ?_⟩
      · rcases List.mem_cons.mp hx with z | z
        · exact .inl z
        · exact hl x z
      · rw [wd_cons, e, mul_I _ _ rfl]
        dsimp only
        rw [M4.mk.injEq]
        omega
    rcases Int.lt_trichotomy p r with c | c | c
    · by_cases c2 : q ≤ s
      · exact lo (by omega) c2
      · exfalso
        obtain ⟨a, ha⟩ : ∃ a, r = p + 1 + a := ⟨r - p - 1, by omega⟩
        obtain ⟨b, hb⟩ : ∃ b, q = s + 1 + b := ⟨q - s - 1, by omega⟩
        have ha0 : 0 ≤ a := by omega
        have hb0 : 0 ≤ b := by omega
        subst ha
        subst hb
        have e : p * s - (s + 1 + b) * (p + 1 + a) = -(s + s * a + p + 1 + a + b * p + b + b * a) := by grind
        have z1 := Int.mul_nonneg h4 ha0
        have z2 := Int.mul_nonneg hb0 h1
        have z3 := Int.mul_nonneg hb0 ha0
        omega
    · subst c
      rcases Int.le_total q s with z | z
      · exact lo (by omega) z
      · exact up (by omega) z
    · by_cases c2 : s ≤ q
      · exact up (by omega) c2
      · obtain ⟨a, ha⟩ : ∃ a, p = r + 1 + a := ⟨p - r - 1, by omega⟩
        obtain ⟨b, hb⟩ : ∃ b, s = q + 1 + b := ⟨s - q - 1, by omega⟩
        have ha0 : 0 ≤ a := by omega
        have hb0 : 0 ≤ b := by omega
        subst ha
        subst hb
        have e : (r + 1 + a) * (q + 1 + b) - q * r = 1 + r + q + a * q + a + r * b + b + a * b := by grind
        have z1 := Int.mul_nonneg ha0 h2
        have z2 := Int.mul_nonneg h3 hb0
        have z3 := Int.mul_nonneg ha0 hb0
        have e1 : r = 0 := by omega
        have e2 : q = 0 := by omega
        have e3 : a = 0 := by omega
        have e4 : b = 0 := by omega
        subst e1 e2 e3 e4
        exact ⟨[], fun x hx => (by cases hx), rfl⟩
theorem wd_inj : ∀ (u v : List Nat), (∀ x ∈ u, x = 111 ∨ x = 105) → (∀ x ∈ v, x = 111 ∨ x = 105) → wd u = wd v → u = v
  | [], [], _, _, _ => rfl
  | [], c :: v, _, _, h => by
    exfalso
    obtain ⟨⟨h1, h2, h3, h4⟩, hd⟩ := wd_nn v
    obtain ⟨_, _, h5, h6⟩ := wd_all v
    rw [wd_cons] at h
    generalize wd v = m at *
    by_cases hc : c = 111
    · rw [mul_I m c hc] at h
      injection h
      omega
    · rw [mul_U m c hc] at h
      injection h
      omega
  | c :: u, [], _, _, h => by
    exfalso
    obtain ⟨⟨h1, h2, h3, h4⟩, hd⟩ := wd_nn u
    obtain ⟨_, _, h5, h6⟩ := wd_all u
    rw [wd_cons] at h
    generalize wd u = m at *
    by_cases hc : c = 111
    · rw [mul_I m c hc] at h
      injection h
      omega
    · rw [mul_U m c hc] at h
      injection h
      omega
  | c :: u, d :: v, hu, hv, h => by
    obtain ⟨⟨h1, h2, h3, h4⟩, hd⟩ := wd_nn u
    obtain ⟨⟨k1, k2, k3, k4⟩, kd⟩ := wd_nn v
    obtain ⟨_, _, h5, h6⟩ := wd_all u
    obtain ⟨_, _, k5, k6⟩ := wd_all v
    have ih := wd_inj u v (fun x hx => hu x (List.mem_cons_of_mem _ hx)) (fun x hx => hv x (List.mem_cons_of_mem _ hx))
    have hc := hu c List.mem_cons_self
    have hd' := hv d List.mem_cons_self
    rw [wd_cons, wd_cons] at h
    generalize wd u = m at *
    generalize wd v = k at *
    by_cases c1 : c = 111
    · by_cases c2 : d = 111
      · rw [mul_I m c c1, mul_I k d c2] at h
        injection h
        have : m = k := by
          cases m
          cases k
          rw [M4.mk.injEq]
          dsimp only at *
          omega
        rw [ih this, c1, c2]
      · rw [mul_I m c c1, mul_U k d c2] at h
        injection h
        omega
    · by_cases c2 : d = 111
      · rw [mul_U m c c1, mul_I k d c2] at h
        injection h
        omega
      · rw [mul_U m c c1, mul_U k d c2] at h
        injection h
        have : m = k := by
          cases m
          cases k
          rw [M4.mk.injEq]
          dsimp only at *
          omega
        rw [ih this]
        congr 1
        omega
/-- words that a word leads over to each other are turnings -/
theorem word_conj {α : Type} : ∀ (n : Nat) (v w u : List α), w.length ≤ n → v ≠ [] → v ++ w = w ++ u → ∃ x y, v = x ++ y ∧ u = y ++ x := by
  intro n
  induction n with
  | zero =>
    intro v w u hn hv h
    have : w = [] := List.eq_nil_of_length_eq_zero (by omega)
    subst this
    rw [List.append_nil, List.nil_append] at h
    exact ⟨v, [], by simp, by simp [h]⟩
  | succ n ih =>
    intro v w u hn hv h
    rcases List.append_eq_append_iff.mp h with ⟨z, h1, h2⟩ | ⟨z, h1, h2⟩
    · -- w = v ++ z
      subst h1
      rw [List.append_assoc] at h
      have h3 := List.append_cancel_left h
      have hl : 0 < v.length := List.length_pos_iff.mpr hv
      rw [List.length_append] at hn
      exact ih v z u (by omega) hv (by rw [h2])
    · exact ⟨w, z, h1, h2⟩
/-! ### signs -/
def sg2 (v : Int × Int) : Prop := (0 ≤ v.1 ∧ 0 ≤ v.2) ∨ (v.1 ≤ 0 ∧ v.2 ≤ 0)
def rowB (v : Int × Int) (m : M4) : Int × Int := (v.1 * m.p + v.2 * m.r, v.1 * m.q + v.2 * m.s)
def powB (v : Int × Int) (m : M4) : Nat → Int × Int
  | 0 => v
  | n + 1 => rowB (powB v m n) m
theorem sg2_row {v : Int × Int} {m : M4} (hm : ps m) (h : sg2 v) : sg2 (rowB v m) := by
  obtain ⟨x, y⟩ := v
  obtain ⟨h1, h2, h3, h4⟩ := hm
  unfold sg2 rowB at *
  dsimp only at *
  rcases h with ⟨a, b⟩ | ⟨a, b⟩
  · left
    have := Int.mul_nonneg a (show 0 ≤ m.p by omega)
    have := Int.mul_nonneg a (show 0 ≤ m.q by omega)
    have := Int.mul_nonneg b (show 0 ≤ m.r by omega)
    have := Int.mul_nonneg b (show 0 ≤ m.s by omega)
    omega
  · right
    have := Int.mul_nonneg (show 0 ≤ -x by omega) (show 0 ≤ m.p by omega)
    have := Int.mul_nonneg (show 0 ≤ -x by omega) (show 0 ≤ m.q by omega)
    have := Int.mul_nonneg (show 0 ≤ -y by omega) (show 0 ≤ m.r by omega)
    have := Int.mul_nonneg (show 0 ≤ -y by omega) (show 0 ≤ m.s by omega)
    rw [Int.neg_mul] at *
    omega
theorem sg2_pow {v : Int × Int} {m : M4} (hm : ps m) {n : Nat} (h : sg2 (powB v m n)) : ∀ k, sg2 (powB v m (n + k))
  | 0 => h
  | k + 1 => sg2_row hm (sg2_pow hm h k)
theorem powB_add (v : Int × Int) (m : M4) (n : Nat) : ∀ k, powB v m (n + k) = powB (powB v m n) m k
  | 0 => rfl
  | k + 1 => by
    show rowB (powB v m (n + k)) m = rowB (powB (powB v m n) m k) m
    rw [powB_add v m n k]
theorem sg2_some {m : M4} (hm : ps m) (hd : m.det = 1) : ∀ (c : Nat) (v : Int × Int), v.1.natAbs + v.2.natAbs ≤ c → ∃ n, sg2 (powB v m n) := by
  intro c
  induction c with
  | zero =>
    rintro ⟨x, y⟩ h
    dsimp only at h
    exact ⟨0, .inl ⟨by show 0 ≤ x; omega, by show 0 ≤ y; omega⟩⟩
  | succ c ih =>
    intro v hc
    by_cases h0 : sg2 v
    · exact ⟨0, h0⟩
    by_cases h1 : sg2 (rowB v m)
    · exact ⟨1, h1⟩
    have : (rowB v m).1.natAbs + (rowB v m).2.natAbs ≤ c := by
      obtain ⟨x, y⟩ := v
      obtain ⟨m1, m2, m3, m4⟩ := hm
      have hd' : m.p * m.s - m.q * m.r = 1 := hd
      unfold sg2 at h0 h1
      unfold rowB at *
      dsimp only at *
      have e1 : x = (x * m.p + y * m.r) * m.s - (x * m.q + y * m.s) * m.r := by
        have : (x * m.p + y * m.r) * m.s - (x * m.q + y * m.s) * m.r = x * (m.p * m.s - m.q * m.r) := by grind
        rw [this, hd', Int.mul_one]
      have e2 : y = (x * m.q + y * m.s) * m.p - (x * m.p + y * m.r) * m.q := by
        have : (x * m.q + y * m.s) * m.p - (x * m.p + y * m.r) * m.q = y * (m.p * m.s - m.q * m.r) := by grind
        rw [this, hd', Int.mul_one]
      generalize x * m.p + y * m.r = a at *
      generalize x * m.q + y * m.s = b at *
      rcases Int.lt_or_le 0 a with ca | ca
      · have cb : b < 0 := by omega
        have z1 := Int.mul_nonneg (show 0 ≤ a by omega) (show 0 ≤ m.s - 1 by omega)
        have z2 := Int.mul_nonneg (show 0 ≤ -b by omega) (show 0 ≤ m.r - 1 by omega)
        have z3 := Int.mul_nonneg (show 0 ≤ -b by omega) (show 0 ≤ m.p - 1 by omega)
        have z4 := Int.mul_nonneg (show 0 ≤ a by omega) (show 0 ≤ m.q - 1 by omega)
        have f1 : a * (m.s - 1) = a * m.s - a := by grind
        have f2 : -b * (m.r - 1) = -(b * m.r) + b := by grind
        have f3 : -b * (m.p - 1) = -(b * m.p) + b := by grind
        have f4 : a * (m.q - 1) = a * m.q - a := by grind
        omega
      · have cb : 0 < b := by omega
        have ca' : a < 0 := by omega
        have z1 := Int.mul_nonneg (show 0 ≤ -a by omega) (show 0 ≤ m.s - 1 by omega)
        have z2 := Int.mul_nonneg (show 0 ≤ b by omega) (show 0 ≤ m.r - 1 by omega)
        have z3 := Int.mul_nonneg (show 0 ≤ b by omega) (show 0 ≤ m.p - 1 by omega)
        have z4 := Int.mul_nonneg (show 0 ≤ -a by omega) (show 0 ≤ m.q - 1 by omega)
        have f1 : -a * (m.s - 1) = -(a * m.s) + a := by grind
        have f2 : b * (m.r - 1) = b * m.r - b := by grind
        have f3 : b * (m.p - 1) = b * m.p - b := by grind
        have f4 : -a * (m.q - 1) = -(a * m.q) + a := by grind
        omega
    obtain ⟨n, hn⟩ := ih _ this
    refine ⟨1 + n, ?_⟩
    rw [powB_add]
    exact hn
def trp (m : M4) : M4 := ⟨m.p, m.r, m.q, m.s⟩
theorem trp_mul (a b : M4) : trp (mul a b) = mul (trp b) (trp a) := by
  unfold trp mul
  dsimp only
  rw [M4.mk.injEq]
  refine ⟨?_, ?_, ?_, ?_⟩ <;> grind
def gp (g m : M4) : Nat → M4
  | 0 => g
  | n + 1 => mul (gp g m n) m
theorem gp_rows (g m : M4) : ∀ n, ((gp g m n).p, (gp g m n).q) = powB (g.p, g.q) m n ∧ ((gp g m n).r, (gp g m n).s) = powB (g.r, g.s) m n
  | 0 => ⟨rfl, rfl⟩
  | n + 1 => by
    obtain ⟨h1, h2⟩ := gp_rows g m n
    constructor
    · show _ = rowB (powB (g.p, g.q) m n) m
      rw [← h1]
      rfl
    · show _ = rowB (powB (g.r, g.s) m n) m
      rw [← h2]
      rfl
theorem gp_cols (g m k : M4) (h : mul k g = mul g m) : ∀ n, ((gp g m n).p, (gp g m n).r) = powB (g.p, g.r) (trp k) n ∧ mul k (gp g m n) = mul (gp g m n) m
  | 0 => ⟨rfl, h⟩
  | n + 1 => by
    obtain ⟨h1, h2⟩ := gp_cols g m k h n
    have e : mul k (gp g m (n + 1)) = mul (gp g m (n + 1)) m := by
      show mul k (mul (gp g m n) m) = mul (mul (gp g m n) m) m
      rw [← mul_assoc', h2]
    refine ⟨?_, e⟩
    show _ = rowB (powB (g.p, g.r) (trp k) n) (trp k)
    rw [← h1]
    show ((mul (gp g m n) m).p, (mul (gp g m n) m).r) = _
    rw [← h2]
    unfold mul rowB trp
    dsimp only
    refine Prod.ext ?_ ?_ <;> dsimp only <;> grind
theorem gp_det {g m : M4} (hg : g.det = 1) (hm : m.det = 1) : ∀ n, (gp g m n).det = 1
  | 0 => hg
  | n + 1 => by
    show (mul (gp g m n) m).det = 1
    rw [det_mul, gp_det hg hm n, hm]
    rfl
/-- a table that leads one positive table over to another one is, behind some rounds, a word or its contrary -/
theorem conj_word {g m k : M4} (hm : ps m) (hk : ps k) (dm : m.det = 1) (dk : k.det = 1) (dg : g.det = 1) (h : mul k g = mul g m) : ∃ w, (∀ x ∈ w, x = 111 ∨ x = 105) ∧ mul k (wd w) = mul (wd w) m := by
  obtain ⟨n1, s1⟩ := sg2_some hm dm _ (g.p, g.q) (Nat.le_refl _)
  obtain ⟨n2, s2⟩ := sg2_some hm dm _ (g.r, g.s) (Nat.le_refl _)
  have hk' : ps (trp k) := ⟨hk.1, hk.2.2.1, hk.2.1, hk.2.2.2⟩
  have dk' : (trp k).det = 1 := by
    have : k.p * k.s - k.q * k.r = 1 := dk
    show k.p * k.s - k.r * k.q = 1
    grind
  obtain ⟨n3, s3⟩ := sg2_some hk' dk' _ (g.p, g.r) (Nat.le_refl _)
  have a1 := sg2_pow hm s1 (n2 + n3)
  have a2 := sg2_pow hm s2 (n1 + n3)
  have a3 := sg2_pow hk' s3 (n1 + n2 + 1)
  rw [show n1 + (n2 + n3) = n1 + n2 + n3 by omega, ← (gp_rows g m _).1] at a1
  rw [show n2 + (n1 + n3) = n1 + n2 + n3 by omega, ← (gp_rows g m _).2] at a2
  rw [show n3 + (n1 + n2 + 1) = n1 + n2 + n3 + 1 by omega, ← (gp_cols g m k h _).1] at a3
  have e := (gp_cols g m k h (n1 + n2 + n3 + 1)).2
  have d0 := gp_det dg dm (n1 + n2 + n3)
  have d1 := gp_det dg dm (n1 + n2 + n3 + 1)
  have es : gp g m (n1 + n2 + n3 + 1) = mul (gp g m (n1 + n2 + n3)) m := rfl
  generalize gp g m (n1 + n2 + n3 + 1) = G at *
  generalize gp g m (n1 + n2 + n3) = F at *
  have key : nn G ∨ nn ⟨-G.p, -G.q, -G.r, -G.s⟩ := by
    obtain ⟨m1, m2, m3, m4⟩ := hm
    unfold sg2 at a1 a2 a3
    have d0 : F.p * F.s - F.q * F.r = 1 := d0
    subst es
    unfold mul at *
    unfold nn
    dsimp only at *
    have up : ∀ x y u v : Int, 0 ≤ x → 0 ≤ y → 1 ≤ u → 1 ≤ v → 0 ≤ x * u + y * v ∧ (x ≠ 0 ∨ y ≠ 0 → 1 ≤ x * u + y * v) := fun x y u v hx hy hu hv => by
      have z1 := Int.mul_nonneg hx (show 0 ≤ u - 1 by omega)
      have z2 := Int.mul_nonneg hy (show 0 ≤ v - 1 by omega)
      have f1 : x * (u - 1) = x * u - x := by grind
      have f2 : y * (v - 1) = y * v - y := by grind
      exact ⟨by omega, fun z => by omega⟩
    have lo : ∀ x y u v : Int, x ≤ 0 → y ≤ 0 → 1 ≤ u → 1 ≤ v → x * u + y * v ≤ 0 ∧ (x ≠ 0 ∨ y ≠ 0 → x * u + y * v ≤ -1) := fun x y u v hx hy hu hv => by
      obtain ⟨h1, h2⟩ := up (-x) (-y) u v (by omega) (by omega) hu hv
      have f1 : -x * u + -y * v = -(x * u + y * v) := by grind
      rw [f1] at h1 h2
      exact ⟨by omega, fun z => by have := h2 (by omega); omega⟩
    have n1 : F.p ≠ 0 ∨ F.q ≠ 0 := by
      by_cases c : F.p = 0
      · right
        intro c2
        rw [c, c2] at d0
        simp at d0
      · exact .inl c
    have n2 : F.r ≠ 0 ∨ F.s ≠ 0 := by
      by_cases c : F.r = 0
      · right
        intro c2
        rw [c, c2] at d0
        simp at d0
      · exact .inl c
    rcases a1 with ⟨x, y⟩ | ⟨x, y⟩ <;> rcases a2 with ⟨z, t⟩ | ⟨z, t⟩
    · left
      exact ⟨(up _ _ _ _ x y m1 m3).1, (up _ _ _ _ x y m2 m4).1, (up _ _ _ _ z t m1 m3).1, (up _ _ _ _ z t m2 m4).1⟩
    · exfalso
      have q1 := (up _ _ _ _ x y m1 m3).2 n1
      have q2 := (lo _ _ _ _ z t m1 m3).2 n2
      omega
    · exfalso
      have q1 := (lo _ _ _ _ x y m1 m3).2 n1
      have q2 := (up _ _ _ _ z t m1 m3).2 n2
      omega
    · right
      have q1 := (lo _ _ _ _ x y m1 m3).1
      have q2 := (lo _ _ _ _ x y m2 m4).1
      have q3 := (lo _ _ _ _ z t m1 m3).1
      have q4 := (lo _ _ _ _ z t m2 m4).1
      omega
  rcases key with hn | hn
  · obtain ⟨w, hw, hwd⟩ := wd_of _ G hn d1 (Int.self_le_toNat _)
    exact ⟨w, hw, by rw [hwd]; exact e⟩
  · have d2 : (⟨-G.p, -G.q, -G.r, -G.s⟩ : M4).det = 1 := by
      have d1 : G.p * G.s - G.q * G.r = 1 := d1
      unfold M4.det
      dsimp only
      grind
    obtain ⟨w, hw, hwd⟩ := wd_of _ _ hn d2 (Int.self_le_toNat _)
    refine ⟨w, hw, ?_⟩
    rw [hwd]
    unfold mul at e ⊢
    dsimp only
    injection e
    rw [M4.mk.injEq]
    refine ⟨?_, ?_, ?_, ?_⟩ <;> grind
/-! ### plain rings -/
def Mh : M4 := Mn 1
theorem wd_is (m : Nat) : wd (List.replicate m 105) = ⟨1, m, 0, 1⟩ := by
  induction m with
  | zero => rfl
  | succ m ih =>
    rw [List.replicate_succ, wd_cons, ih, mul_U _ _ (by decide)]
    dsimp only
    rw [M4.mk.injEq]
    omega
theorem wd_os (m : Nat) : wd (List.replicate m 111) = ⟨1, 0, m, 1⟩ := by
  induction m with
  | zero => rfl
  | succ m ih =>
    rw [List.replicate_succ, wd_cons, ih, mul_I _ _ rfl]
    dsimp only
    rw [M4.mk.injEq]
    omega
theorem wd_land : ∀ r : List Int, (∀ x ∈ r, 2 ≤ x) → mul Mh (tb r) = mul (wd (landOf r)) Mh
  | [], _ => rfl
  | x :: t, h => by
    have ih := wd_land t fun y hy => h y (List.mem_cons_of_mem _ hy)
    have hx := h x List.mem_cons_self
    rw [tb_cons, landOf_cons, wd_cons, wd_app, wd_is, ← mul_assoc', mul_assoc', ← mul_assoc']
    have e : mul Mh (Mn x) = mul (mul (lt4 111) ⟨1, ((x - 2).toNat : Int), 0, 1⟩) Mh := by
      rw [mul_I _ _ rfl]
      unfold mul Mh Mn
      dsimp only
      rw [M4.mk.injEq]
      omega
    rw [e, mul_assoc', ih]
    simp only [mul_assoc']
def inv4 (m : M4) : M4 := ⟨m.s, -m.q, -m.r, m.p⟩
theorem mul_inv {m : M4} (h : m.det = 1) : mul m (inv4 m) = I4 ∧ mul (inv4 m) m = I4 := by
  have h : m.p * m.s - m.q * m.r = 1 := h
  unfold mul inv4 I4
  dsimp only
  constructor
  · rw [M4.mk.injEq]
    refine ⟨?_, ?_, ?_, ?_⟩ <;> grind
  · rw [M4.mk.injEq]
    refine ⟨?_, ?_, ?_, ?_⟩ <;> grind
theorem inv_det {m : M4} (h : m.det = 1) : (inv4 m).det = 1 := by
  have h : m.p * m.s - m.q * m.r = 1 := h
  unfold M4.det inv4
  dsimp only
  grind
theorem Mh_det : Mh.det = 1 := by decide
def tr4 (m : M4) : Int := m.p + m.s
theorem tr_mul (a b : M4) : tr4 (mul a b) = tr4 (mul b a) := by
  unfold tr4 mul
  dsimp only
  grind
/-- tables led over have the same growth -/
theorem led_tr {g a b : M4} (hg : g.det = 1) (h : mul g a = mul b g) : tr4 a = tr4 b := by
  have e : a = mul (inv4 g) (mul b g) := by
    rw [← h, ← mul_assoc', (mul_inv hg).2, one_mul']
  rw [e, tr_mul, mul_assoc', (mul_inv hg).1, mul_one']
theorem landOf_sg (r : List Int) : ∀ x ∈ landOf r, x = 111 ∨ x = 105 := by
  induction r with
  | nil => intro x hx; cases hx
  | cons a t ih =>
    intro x hx
    rw [landOf_cons] at hx
    rcases List.mem_cons.mp hx with z | z
    · exact .inl z
    · rcases List.mem_append.mp z with z | z
      · exact .inr (List.eq_of_mem_replicate z)
      · exact ih x z
theorem landOf_o {r : List Int} (h : r ≠ []) : 111 ∈ landOf r := by
  cases r with
  | nil => exact absurd rfl h
  | cons a t => rw [landOf_cons]; exact List.mem_cons_self
theorem landOf_i : ∀ {r : List Int}, (∀ x ∈ r, 2 ≤ x) → (∃ x ∈ r, x ≠ 2) → 105 ∈ landOf r
  | [], _, ⟨x, hx, _⟩ => by cases hx
  | a :: t, h, ⟨x, hx, hx2⟩ => by
    rw [landOf_cons]
    refine List.mem_cons_of_mem _ (List.mem_append.mpr ?_)
    rcases List.mem_cons.mp hx with z | z
    · subst z
      have := h x List.mem_cons_self
      exact .inl (List.mem_replicate.mpr ⟨by omega, rfl⟩)
    · exact .inr (landOf_i (fun y hy => h y (List.mem_cons_of_mem _ hy)) ⟨x, z, hx2⟩)
theorem landOf_flat (n : Nat) : landOf (List.replicate n (2 : Int)) = List.replicate n 111 := by
  induction n with
  | zero => rfl
  | succ n ih => rw [List.replicate_succ, landOf_cons, ih, List.replicate_succ]; rfl
theorem tr_tb {r : List Int} (h : ∀ x ∈ r, 2 ≤ x) : tr4 (tb r) = tr4 (wd (landOf r)) := led_tr Mh_det (wd_land r h)
theorem flat_of {r : List Int} (h : ¬ ∃ x ∈ r, x ≠ 2) : r = List.replicate r.length 2 := by
  rw [List.eq_replicate_iff]
  exact ⟨rfl, fun x hx => Classical.byContradiction fun z => h ⟨x, hx, z⟩⟩
theorem tr_flat (n : Nat) : tr4 (tb (List.replicate n (2 : Int))) = 2 := by
  rw [tr_tb (fun x hx => by rw [List.eq_of_mem_replicate hx]; decide), landOf_flat, wd_os]
  rfl
theorem tr_more {r : List Int} (h : ∀ x ∈ r, 2 ≤ x) (h0 : r ≠ []) (h1 : ∃ x ∈ r, x ≠ 2) : 2 < tr4 (tb r) := by
  rw [tr_tb h]
  obtain ⟨a, b, c, d⟩ := wd_ps (landOf_o h0) (landOf_i h h1)
  have hd := (wd_nn (landOf r)).2
  generalize wd (landOf r) = m at *
  have hd : m.p * m.s - m.q * m.r = 1 := hd
  unfold tr4
  rcases Int.lt_or_le 2 (m.p + m.s) with z | z
  · exact z
  · have e1 : m.p = 1 := by omega
    have e2 : m.s = 1 := by omega
    rw [e1, e2] at hd
    have := Int.mul_nonneg (show 0 ≤ m.q - 1 by omega) (show 0 ≤ m.r - 1 by omega)
    have f : (m.q - 1) * (m.r - 1) = m.q * m.r - m.q - m.r + 1 := by grind
    omega
/-- plain rings whose tables are led over to each other are turnings -/
theorem plain_conj {a b : List Int} (ha : ∀ x ∈ a, 2 ≤ x) (hb : ∀ x ∈ b, 2 ≤ x) (a0 : a ≠ []) (b0 : b ≠ []) {g : M4} (hg : g.det = 1) (h : mul g (tb a) = mul (tb b) g) : RT a b := by
  have ht := led_tr hg h
  have e1 := wd_land a ha
  have e2 := wd_land b hb
  have iM := mul_inv Mh_det
  have dG : (mul (mul Mh g) (inv4 Mh)).det = 1 := by rw [det_mul, det_mul, hg, inv_det Mh_det, Mh_det]; rfl
  have hG : mul (wd (landOf b)) (mul (mul Mh g) (inv4 Mh)) = mul (mul (mul Mh g) (inv4 Mh)) (wd (landOf a)) := by
    have k1 : mul (inv4 Mh) (wd (landOf a)) = mul (tb a) (inv4 Mh) := by
      have : mul (inv4 Mh) (mul (wd (landOf a)) Mh) = tb a := by rw [← e1, ← mul_assoc', iM.2, one_mul']
      rw [← this, mul_assoc', mul_assoc', iM.1, mul_one']
    have k2 : mul (wd (landOf b)) (mul (mul Mh g) (inv4 Mh)) = mul (mul Mh (mul (tb b) g)) (inv4 Mh) := by
      rw [← mul_assoc' Mh, e2]
      simp only [mul_assoc']
    rw [k2, ← h, mul_assoc' (mul Mh g), k1]
    simp only [mul_assoc']
  by_cases fa : ∃ x ∈ a, x ≠ 2
  · by_cases fb : ∃ x ∈ b, x ≠ 2
    · obtain ⟨w, hw, e⟩ := conj_word (wd_ps (landOf_o a0) (landOf_i ha fa)) (wd_ps (landOf_o b0) (landOf_i hb fb)) (wd_nn _).2 (wd_nn _).2 dG hG
      rw [← wd_app, ← wd_app] at e
      have e3 := wd_inj _ _ (fun x hx => (List.mem_append.mp hx).elim (landOf_sg b x) (hw x)) (fun x hx => (List.mem_append.mp hx).elim (hw x) (landOf_sg a x)) e
      obtain ⟨x, y, hv, hu⟩ := word_conj _ _ _ _ (Nat.le_refl _) (List.ne_nil_of_mem (landOf_o b0)) e3
      have wb : Word (landOf b) := ⟨landOf_sg b, landOf_o b0, landOf_i hb fb⟩
      have hturn : isTurn (landOf a) (landOf b) := by
        by_cases hy : y = []
        · subst hy
          rw [List.append_nil] at hv
          rw [List.nil_append] at hu
          rw [hu, hv]
          exact isTurn.refl (by rw [← hv]; exact List.length_pos_of_mem (landOf_o b0))
        · refine ⟨x.length, ?_, ?_⟩
          · rw [hv, List.length_append]
            have := List.length_pos_iff.mpr hy
            omega
          · unfold turn
            rw [hv, List.drop_left, List.take_left, hu]
      have := rim_isTurn wb (.inl rfl) hturn
      rwa [rim_landOf ha a0, rim_landOf hb b0] at this
    · exfalso
      have := tr_more ha a0 fa
      rw [ht, flat_of fb, tr_flat] at this
      omega
  · by_cases fb : ∃ x ∈ b, x ≠ 2
    · exfalso
      have := tr_more hb b0 fb
      rw [← ht, flat_of fa, tr_flat] at this
      omega
    · have la := List.length_pos_iff.mpr a0
      rw [flat_of fa, flat_of fb] at hG ⊢
      rw [landOf_flat, landOf_flat, wd_os, wd_os] at hG
      generalize mul (mul Mh g) (inv4 Mh) = G at *
      have dG : G.p * G.s - G.q * G.r = 1 := dG
      unfold mul at hG
      dsimp only at hG
      injection hG with q1 q2 q3 q4
      have z : G.q = 0 := by
        have : G.q * (a.length : Int) = 0 := by omega
        rcases Int.mul_eq_zero.mp this with z | z
        · exact z
        · omega
      rw [z] at dG
      have z2 : (b.length : Int) * G.p = G.s * (a.length : Int) := by omega
      have z3 : G.p * G.s = 1 := by omega
      have zz : G.p = 1 ∨ G.p = -1 := by
        have q : G.p.natAbs * G.s.natAbs = 1 := by rw [← Int.natAbs_mul, z3]; rfl
        have := Nat.eq_one_of_mul_eq_one_right q
        omega
      have z4 : G.p = G.s := by
        rcases zz with y | y
        · rw [y] at z3; omega
        · rw [y] at z3; omega
      have z5 : (b.length : Int) = a.length := by
        rw [← z4, Int.mul_comm] at z2
        rcases zz with y | y <;> rw [y] at z2 <;> omega
      rw [show b.length = a.length by omega]
      exact RT.refl (by rw [List.length_replicate]; exact la)
end LandM

/-! Led: the table by which each move leads the table of a ring over. -/
namespace LandM
open Minus (M4 tb pt tb_det)
theorem tb_app (a b : List Int) : tb (a ++ b) = mul (tb a) (tb b) := by
  induction a with
  | nil => exact (one_mul' _).symm
  | cons x a ih => rw [List.cons_append, tb_cons, tb_cons, ih, mul_assoc']
theorem tb_one (x : Int) : tb [x] = Mn x := by rw [tb_cons]; exact mul_one' _
def B4 : M4 := ⟨1, -1, 0, 1⟩
theorem B4_det : B4.det = 1 := by decide
def ledTurn (r : List Int) (i : Nat) : M4 := inv4 (tb (r.take i))
def ledOut (r : List Int) (i : Nat) : M4 := if 0 < i ∧ i + 1 < r.length then I4 else if 0 < i then B4 else mul B4 (ledTurn r 1)
theorem led_turn (r : List Int) (i : Nat) : (ledTurn r i).det = 1 ∧ mul (ledTurn r i) (tb r) = mul (tb (rot r i)) (ledTurn r i) := by
  refine ⟨inv_det (tb_det _), ?_⟩
  unfold ledTurn rot
  have h := mul_inv (tb_det (r.take i))
  have e : tb r = mul (tb (r.take i)) (tb (r.drop i)) := by rw [← tb_app, List.take_append_drop]
  rw [e, tb_app, ← mul_assoc', h.2, one_mul', mul_assoc', h.1, mul_one']
theorem mid_one (y z : Int) : mul (Mn y) (mul (Mn 1) (Mn z)) = mul (Mn (y - 1)) (Mn (z - 1)) := by
  unfold mul Mn
  dsimp only
  rw [M4.mk.injEq]
  refine ⟨?_, ?_, ?_, ?_⟩ <;> grind
theorem B_front (x : Int) : mul B4 (Mn x) = Mn (x - 1) := by
  unfold mul B4 Mn
  dsimp only
  rw [M4.mk.injEq]
  omega
theorem B_back (y : Int) : mul (Mn y) (Mn 1) = mul (Mn (y - 1)) B4 := by
  unfold mul B4 Mn
  dsimp only
  rw [M4.mk.injEq]
  refine ⟨?_, ?_, ?_, ?_⟩ <;> omega
theorem led_end {a : List Int} (ha : a ≠ []) : mul B4 (tb (a ++ [1])) = mul (tb (dec a)) B4 := by
  obtain ⟨a', y, rfl⟩ : ∃ a' y, a = a' ++ [y] := ⟨a.dropLast, a.getLast ha, (List.dropLast_concat_getLast ha).symm⟩
  unfold dec
  rw [decL_snoc]
  cases a' with
  | nil =>
    show mul B4 (tb [y, 1]) = mul (tb [y - 1 - 1]) B4
    rw [tb_cons, tb_one, tb_one, ← B_back, ← mul_assoc', B_front]
  | cons x m =>
    show mul B4 (tb (x :: m ++ [y] ++ [1])) = mul (tb ((x - 1) :: (m ++ [y - 1]))) B4
    rw [List.cons_append, List.cons_append, tb_cons, tb_cons, tb_app, tb_app, tb_app, tb_one, tb_one, tb_one, ← mul_assoc', B_front, mul_assoc' (tb m), B_back]
    simp only [mul_assoc']
theorem led_out {r : List Int} {i : Nat} (h : i < r.length) (h1 : r[i] = 1) (h2 : 1 < r.length) : (ledOut r i).det = 1 ∧ mul (ledOut r i) (tb r) = mul (tb (outR r i)) (ledOut r i) := by
  obtain ⟨a, b, e, rfl⟩ := split_at h
  rw [h1] at e
  subst e
  unfold ledOut
  by_cases ha : a = []
  · subst ha
    have hb : b ≠ [] := by intro z; subst z; simp at h2
    rw [if_neg (fun z => absurd z.1 (by decide)), if_neg (by decide)]
    obtain ⟨t1, t2⟩ := led_turn ([] ++ 1 :: b) 1
    refine ⟨by rw [det_mul, B4_det, t1]; rfl, ?_⟩
    rw [mul_assoc', t2]
    show mul B4 (mul (tb (b ++ [1])) _) = mul (tb (outR (1 :: b) 0)) _
    rw [outR_front 1 hb, ← mul_assoc', led_end hb, mul_assoc']
  · have hal := List.length_pos_iff.mpr ha
    by_cases hb : b = []
    · subst hb
      rw [if_neg (fun z => by have := z.2; simp at this), if_pos hal, outR_back 1 ha]
      exact ⟨B4_det, led_end ha⟩
    · have hbl := List.length_pos_iff.mpr hb
      rw [if_pos ⟨hal, by rw [List.length_append, List.length_cons]; omega⟩, outR_mid 1 ha hb, one_mul', mul_one']
      refine ⟨by decide, ?_⟩
      obtain ⟨a', y, rfl⟩ : ∃ a' y, a = a' ++ [y] := ⟨a.dropLast, a.getLast ha, (List.dropLast_concat_getLast ha).symm⟩
      cases b with
      | nil => exact absurd rfl hb
      | cons z c =>
        rw [decL_snoc]
        show _ = tb (a' ++ [y - 1] ++ (z - 1) :: c)
        rw [show a' ++ [y] ++ 1 :: z :: c = a' ++ (y :: 1 :: z :: c) by simp, show a' ++ [y - 1] ++ (z - 1) :: c = a' ++ ((y - 1) :: (z - 1) :: c) by simp, tb_app, tb_app, tb_cons y, tb_cons 1, tb_cons z, tb_cons (y - 1), tb_cons (z - 1), ← mul_assoc' (Mn 1), ← mul_assoc' (Mn y), mid_one, mul_assoc']
theorem led_inv {g a b : M4} (hg : g.det = 1) (h : mul g a = mul b g) : mul (inv4 g) b = mul a (inv4 g) := by
  have hi := mul_inv hg
  have e : mul (mul (inv4 g) (mul g a)) (inv4 g) = mul (mul (inv4 g) (mul b g)) (inv4 g) := by rw [h]
  rw [← mul_assoc', hi.2, one_mul', mul_assoc', mul_assoc', hi.1, mul_one'] at e
  exact e.symm
def ledM (r : List Int) (k : List Nat) (i : Nat) : M4 := if k = kOut then ledOut r i else if k = kIn then inv4 (ledOut (inR r i) (i + 1)) else ledTurn r i
theorem led_move {r r' : List Int} {k : List Nat} {i : Int} (h : doM r k i = some r') : (ledM r k i.toNat).det = 1 ∧ mul (ledM r k i.toNat) (tb r) = mul (tb r') (ledM r k i.toNat) := by
  unfold doM at h
  unfold ledM
  split at h
  · rename_i e
    rw [if_pos e]
    split at h
    · rename_i c
      cases h
      have hi : i.toNat < r.length := by omega
      have h1 := c.2.2.2
      rw [List.getD_eq_getElem?_getD, List.getElem?_eq_getElem hi] at h1
      exact led_out hi h1 c.1
    · cases h
  · rename_i e
    rw [if_neg e]
    split at h
    · rename_i e2
      rw [if_pos e2]
      split at h
      · rename_i c
        cases h
        have hi : i.toNat < r.length := by omega
        have il := inR_len hi
        obtain ⟨h1, h2⟩ := in_out hi
        rw [List.getD_eq_getElem?_getD, List.getElem?_eq_getElem (by omega)] at h1
        obtain ⟨d, m⟩ := led_out (r := inR r i.toNat) (i := i.toNat + 1) (by omega) h1 (by omega)
        rw [h2] at m
        exact ⟨inv_det d, led_inv d m⟩
      · cases h
    · rename_i e2
      rw [if_neg e2]
      split at h
      · split at h
        · cases h
          exact led_turn r i.toNat
        · cases h
      · cases h
theorem led_comp {g g' a b c : M4} (h : mul g a = mul b g) (h' : mul g' b = mul c g') : mul (mul g' g) a = mul c (mul g' g) := by
  rw [mul_assoc', h, ← mul_assoc', h', mul_assoc']
theorem led_run : ∀ (ms : List Mo) (r r' : List Int), runM r ms = some r' → ∃ g : M4, g.det = 1 ∧ mul g (tb r) = mul (tb r') g
  | [], r, r', h => by cases h; exact ⟨I4, by decide, by rw [one_mul', mul_one']⟩
  | m :: ms, r, r', h => by
    unfold runM at h
    split at h
    · rename_i r1 e
      obtain ⟨d, m1⟩ := led_move e
      obtain ⟨g, hg, m2⟩ := led_run ms r1 r' h
      exact ⟨_, by rw [det_mul, hg, d]; rfl, led_comp m1 m2⟩
    · cases h
/-- rings whose tables are led over to each other leave turnings -/
theorem rings_conj {r o : List Int} (r0 : 0 < r.length) (o0 : 0 < o.length) (nr : Nf (down 12 r []).1) (no : Nf (down 12 o []).1) {g : M4} (hg : g.det = 1) (h : mul g (tb r) = mul (tb o) g) : RT (down 12 r []).1 (down 12 o []).1 := by
  have r1 := down_pos (n := 12) (ps := []) r0
  have o1 := down_pos (n := 12) (ps := []) o0
  obtain ⟨a, ha, ea⟩ := led_run _ _ _ (lead_outs 12 _ r (Nat.le_refl _)).1
  obtain ⟨b, hb, eb⟩ := led_run _ _ _ (lead_outs 12 _ o (Nat.le_refl _)).1
  have e1 := led_comp (led_inv ha ea) h
  have e2 := led_comp e1 eb
  exact plain_conj nr no (List.length_pos_iff.mp r1) (List.length_pos_iff.mp o1) (by rw [det_mul, det_mul, inv_det ha, hg, hb]; rfl) e2
theorem rt_tr {a b : List Int} (h : RT a b) : tr4 (tb a) = tr4 (tb b) := by
  obtain ⟨k, _, rfl⟩ := h
  obtain ⟨d, e⟩ := led_turn b k
  exact (led_tr d e).symm
theorem down_tr {r : List Int} : tr4 (tb r) = tr4 (tb (down 12 r []).1) := by
  obtain ⟨a, ha, ea⟩ := led_run _ _ _ (lead_outs 12 _ r (Nat.le_refl _)).1
  exact led_tr ha ea
/-! ### bounds -/
def bd (k : Nat) (m : M4) : Prop := m.p.natAbs ≤ 2 ^ k ∧ m.q.natAbs ≤ 2 ^ k ∧ m.r.natAbs ≤ 2 ^ k ∧ m.s.natAbs ≤ 2 ^ k
theorem bd.mono {k j : Nat} {m : M4} (h : bd k m) (hk : k ≤ j) : bd j m := by
  have := Nat.pow_le_pow_right (show 0 < 2 by decide) hk
  obtain ⟨a, b, c, d⟩ := h
  exact ⟨by omega, by omega, by omega, by omega⟩
theorem bd.inv {k : Nat} {m : M4} (h : bd k m) : bd k (inv4 m) := by
  obtain ⟨a, b, c, d⟩ := h
  unfold bd inv4
  dsimp only
  exact ⟨d, by omega, by omega, a⟩
theorem bd.mul {k j : Nat} {m n : M4} (h : bd k m) (h' : bd j n) : bd (k + j + 1) (mul m n) := by
  obtain ⟨a, b, c, d⟩ := h
  obtain ⟨a', b', c', d'⟩ := h'
  have key : ∀ x y u v : Int, x.natAbs ≤ 2 ^ k → y.natAbs ≤ 2 ^ k → u.natAbs ≤ 2 ^ j → v.natAbs ≤ 2 ^ j → (x * u + y * v).natAbs ≤ 2 ^ (k + j + 1) := fun x y u v hx hy hu hv => by
    have h1 : (x * u).natAbs ≤ 2 ^ (k + j) := by
      rw [Int.natAbs_mul, Nat.pow_add]
      exact Nat.mul_le_mul hx hu
    have h2 : (y * v).natAbs ≤ 2 ^ (k + j) := by
      rw [Int.natAbs_mul, Nat.pow_add]
      exact Nat.mul_le_mul hy hv
    rw [Nat.pow_succ]
    generalize 2 ^ (k + j) = P at *
    omega
  exact ⟨key _ _ _ _ a b a' c', key _ _ _ _ a b b' d', key _ _ _ _ c d a' c', key _ _ _ _ c d b' d'⟩
theorem bd_tb {l : List Int} (h : ∀ x ∈ l, x.natAbs < 1024) : bd (11 * l.length) (tb l) := by
  have h1 := Minus.put_low 0 l (1, 0) h ⟨by decide, by decide⟩
  have h2 := Minus.put_low 0 l (0, 1) h ⟨by decide, by decide⟩
  rw [Nat.zero_add] at h1 h2
  rw [Minus.tb_cols]
  exact ⟨h1.1, h2.1, h1.2, h2.2⟩
theorem bd_turn {r : List Int} {i : Nat} (h : ∀ x ∈ r, x.natAbs < 1024) (hl : r.length ≤ 13) : bd 143 (ledTurn r i) := by
  refine bd.inv ((bd_tb fun x hx => h x (List.mem_of_mem_take hx)).mono ?_)
  rw [List.length_take]
  omega
theorem bd_out {r : List Int} {i : Nat} (h : ∀ x ∈ r, x.natAbs < 1024) (hl : r.length ≤ 13) : bd 145 (ledOut r i) := by
  unfold ledOut
  split
  · exact bd.mono (k := 0) ⟨by decide, by decide, by decide, by decide⟩ (by decide)
  · split
    · exact bd.mono (k := 0) ⟨by decide, by decide, by decide, by decide⟩ (by decide)
    · exact (bd.mul (k := 0) ⟨by decide, by decide, by decide, by decide⟩ (bd_turn h hl)).mono (by decide)
theorem bump_abs {l : List Int} {i : Nat} {v : Int} {b : Nat} (h : ∀ x ∈ l, x.natAbs ≤ b) (hv : v.natAbs ≤ 1) : ∀ x ∈ bump l i v, x.natAbs ≤ b + 1 := fun x hx => by
  unfold bump at hx
  rcases List.mem_or_eq_of_mem_set hx with z | z
  · have := h x z
    omega
  · by_cases hi : i < l.length
    · rw [List.getD_eq_getElem?_getD, List.getElem?_eq_getElem hi] at z
      have := h _ (List.getElem_mem hi)
      simp only [Option.getD_some] at z
      omega
    · rw [List.getD_eq_getElem?_getD, List.getElem?_eq_none (by omega)] at z
      simp only [Option.getD_none] at z
      omega
theorem doM_abs {r r' : List Int} {k : List Nat} {i : Int} {b : Nat} (h : doM r k i = some r') (hr : ∀ x ∈ r, x.natAbs ≤ b) : ∀ x ∈ r', x.natAbs ≤ b + 2 := fun x hx => by
  unfold doM at h
  split at h
  · split at h
    · cases h
      unfold outR at hx
      have h2 := bump_abs (i := (i.toNat + 1) % r.length) (v := -1) (bump_abs (i := (i.toNat + r.length - 1) % r.length) (v := -1) hr (by decide)) (by decide)
      rcases List.mem_append.mp hx with z | z
      · exact h2 x (List.mem_of_mem_take z)
      · exact h2 x (List.mem_of_mem_drop z)
    · cases h
  · split at h
    · split at h
      · cases h
        unfold inR at hx
        have h2 := bump_abs (i := (i.toNat + 1) % r.length) (v := 1) (bump_abs (i := i.toNat) (v := 1) hr (by decide)) (by decide)
        rcases List.mem_append.mp hx with z | z
        · rcases List.mem_append.mp z with z | z
          · exact h2 x (List.mem_of_mem_take z)
          · rw [List.mem_singleton.mp z]
            omega
        · exact h2 x (List.mem_of_mem_drop z)
      · cases h
    · split at h
      · split at h
        · cases h
          unfold rot at hx
          rcases List.mem_append.mp hx with z | z
          · have := hr x (List.mem_of_mem_drop z)
            omega
          · have := hr x (List.mem_of_mem_take z)
            omega
        · cases h
      · cases h
theorem bd_led {r : List Int} {k : List Nat} {i : Nat} (h : ∀ x ∈ r, x.natAbs ≤ 1000) (hl : r.length ≤ 12) (hi : i < r.length) : bd 145 (ledM r k i) := by
  unfold ledM
  split
  · exact bd_out (fun x hx => by have := h x hx; omega) (by omega)
  · split
    · refine bd.inv (bd_out (fun x hx => ?_) (by rw [inR_len hi]; omega))
      unfold inR at hx
      have h2 := bump_abs (i := (i + 1) % r.length) (v := 1) (bump_abs (i := i) (v := 1) h (by decide)) (by decide)
      rcases List.mem_append.mp hx with z | z
      · rcases List.mem_append.mp z with z | z
        · have := h2 x (List.mem_of_mem_take z)
          omega
        · rw [List.mem_singleton.mp z]
          decide
      · have := h2 x (List.mem_of_mem_drop z)
        omega
    · exact (bd_turn (fun x hx => by have := h x hx; omega) (by omega)).mono (by decide)
end LandM

/-! Rst: tables by rests; how often a table leads back; lines that are kept. -/
namespace LandM
open Minus (M4 tb pt tb_det)
instance : DecidableEq M4 := fun A B => decidable_of_iff (A.p = B.p ∧ A.q = B.q ∧ A.r = B.r ∧ A.s = B.s) (by cases A; cases B; rw [M4.mk.injEq])
def m4 (N : Int) (A : M4) : M4 := ⟨A.p % N, A.q % N, A.r % N, A.s % N⟩
theorem m4_idem (N : Int) (A : M4) : m4 N (m4 N A) = m4 N A := by
  unfold m4
  simp only [Int.emod_emod_of_dvd _ (Int.dvd_refl N)]
theorem e_mul (N a b c d : Int) : (a % N * (b % N) + c % N * (d % N)) % N = (a * b + c * d) % N := by
  rw [Int.add_emod, ← Int.mul_emod, ← Int.mul_emod, ← Int.add_emod]
theorem m4_mul (N : Int) (A B : M4) : m4 N (mul (m4 N A) (m4 N B)) = m4 N (mul A B) := by
  unfold m4 mul
  simp only [e_mul]
def pw (A : M4) : Nat → M4
  | 0 => I4
  | n + 1 => mul (pw A n) A
theorem pw_add (A : M4) (a : Nat) : ∀ b, pw A (a + b) = mul (pw A a) (pw A b)
  | 0 => (mul_one' _).symm
  | b + 1 => by
    show mul (pw A (a + b)) A = mul (pw A a) (mul (pw A b) A)
    rw [pw_add A a b, mul_assoc']
theorem pw_one (A : M4) : pw A 1 = A := one_mul' A
def J4 : M4 := ⟨-1, 0, 0, -1⟩
def Cg (N : Int) (A B : M4) : Prop := m4 N A = m4 N B
theorem Cg.mul {N : Int} {A A' B B' : M4} (h : Cg N A A') (h' : Cg N B B') : Cg N (LandM.mul A B) (LandM.mul A' B') := by
  show m4 N _ = m4 N _
  rw [← m4_mul, h, h', m4_mul]
theorem Cg.refl (N : Int) (A : M4) : Cg N A A := rfl
theorem pw_next (N : Int) (A : M4) (k : Nat) : m4 N (mul (m4 N (pw A k)) (m4 N A)) = m4 N (pw A (k + 1)) := m4_mul N _ _
theorem pw_conj {g A B : M4} (h : mul g A = mul B g) : ∀ k, mul g (pw A k) = mul (pw B k) g
  | 0 => by rw [pw, pw, mul_one', one_mul']
  | k + 1 => by
    rw [pw, pw, ← mul_assoc', pw_conj h k, mul_assoc', h, mul_assoc']
theorem J_com (A : M4) : mul A J4 = mul J4 A := by
  unfold mul J4
  simp
theorem conj_cg {N : Int} {g A B c : M4} (hg : g.det = 1) (h : mul g A = mul B g) (hc : ∀ X, mul X c = mul c X) (k : Nat) (hk : Cg N (pw A k) c) : Cg N (pw B k) c := by
  have e := pw_conj h k
  obtain ⟨i1, i2⟩ := mul_inv hg
  have e2 : pw B k = mul (mul g (pw A k)) (inv4 g) := by rw [e, mul_assoc', i1, mul_one']
  have e3 : c = mul (mul g c) (inv4 g) := by rw [hc g, mul_assoc', i1, mul_one']
  rw [e2]
  conv => rhs; rw [e3]
  exact ((Cg.refl N g).mul hk).mul (Cg.refl N _)
def P1 (N : Int) (A : M4) (k : Nat) : Prop := Cg N (pw A k) I4
def P2 (N : Int) (A : M4) (k : Nat) : Prop := Cg N (pw A k) I4 ∨ Cg N (pw A k) J4
theorem I_com (A : M4) : mul A I4 = mul I4 A := by rw [mul_one', one_mul']
theorem conj_p1 {N : Int} {g A B : M4} (hg : g.det = 1) (h : mul g A = mul B g) (k : Nat) : P1 N A k ↔ P1 N B k :=
  ⟨conj_cg hg h I_com k, conj_cg (inv_det hg) (led_inv hg h) I_com k⟩
theorem conj_p2 {N : Int} {g A B : M4} (hg : g.det = 1) (h : mul g A = mul B g) (k : Nat) : P2 N A k ↔ P2 N B k :=
  ⟨fun z => z.elim (fun z => .inl (conj_cg hg h I_com k z)) fun z => .inr (conj_cg hg h J_com k z),
    fun z => z.elim (fun z => .inl (conj_cg (inv_det hg) (led_inv hg h) I_com k z)) fun z => .inr (conj_cg (inv_det hg) (led_inv hg h) J_com k z)⟩
def Fir (P : Nat → Prop) (k : Nat) : Prop := 1 ≤ k ∧ P k ∧ ∀ j, 1 ≤ j → j < k → ¬ P j
theorem Fir.uniq {P P' : Nat → Prop} {k j : Nat} (h : Fir P k) (h' : Fir P' j) (e : ∀ i, P i ↔ P' i) : k = j := by
  rcases Nat.lt_trichotomy k j with z | z | z
  · exact absurd ((e k).mp h.2.1) (h'.2.2 k h.1 z)
  · exact z
  · exact absurd ((e j).mpr h'.2.1) (h.2.2 j h'.1 z)
theorem Fir.ex {P : Nat → Prop} {B : Nat} (h : ∃ k, 1 ≤ k ∧ k ≤ B ∧ P k) : ∃ k, k ≤ B ∧ Fir P k := by
  obtain ⟨k, h1, h2, h3⟩ := h
  induction k using Nat.strongRecOn with
  | ind k ih =>
    by_cases c : ∃ j, 1 ≤ j ∧ j < k ∧ P j
    · obtain ⟨j, a, b, c⟩ := c
      exact ih j b a (by omega) c
    · exact ⟨k, h2, h1, h3, fun j a b z => c ⟨j, a, b, z⟩⟩
theorem J_J : mul J4 J4 = I4 := rfl
theorem dbl {N : Int} {A : M4} {k f : Nat} (hk : Fir (P1 N A) k) (hf : Fir (P2 N A) f) : k = f ∨ k = 2 * f := by
  have hfk : f ≤ k := by
    rcases Nat.lt_or_ge k f with z | z
    · exact absurd (.inl hk.2.1) (hf.2.2 k hk.1 z)
    · exact z
  rcases hf.2.1 with z | z
  · left
    rcases Nat.lt_or_ge f k with y | y
    · exact absurd z (hk.2.2 f hf.1 y)
    · omega
  · have h2 : P1 N A (2 * f) := by
      show Cg N (pw A (2 * f)) I4
      rw [show 2 * f = f + f by omega, pw_add, ← J_J]
      exact z.mul z
    have hk2 : k ≤ 2 * f := by
      rcases Nat.lt_or_ge (2 * f) k with y | y
      · exact absurd h2 (hk.2.2 _ (by have := hf.1; omega) y)
      · exact y
    rcases Nat.lt_or_ge f k with y | y
    · right
      have h3 : Cg N (pw A (k - f)) J4 := by
        have e : pw A (k - f) = mul (mul (pw A (k - f)) J4) J4 := by rw [mul_assoc', J_J, mul_one']
        rw [e]
        have e1 : Cg N (mul (pw A (k - f)) J4) I4 := by
          have h1 : Cg N (mul (pw A (k - f)) (pw A f)) I4 := by
            rw [← pw_add, show k - f + f = k by omega]
            exact hk.2.1
          exact (((Cg.refl N (pw A (k - f))).mul z).symm.trans h1)
        have := e1.mul (Cg.refl N J4)
        rwa [one_mul'] at this
      rcases Nat.lt_or_ge (k - f) f with x | x
      · exact absurd (.inr h3) (hf.2.2 _ (by omega) x)
      · omega
    · left
      omega
/-! ### how often -/
def UI (t : Int) : Nat → Int
  | 0 => 0
  | 1 => 1
  | k + 2 => t * UI t (k + 1) - UI t k
theorem pw_ui {A : M4} (hd : A.det = 1) : ∀ k, pw A (k + 1) = ⟨UI (A.p + A.s) (k + 1) * A.p - UI (A.p + A.s) k, UI (A.p + A.s) (k + 1) * A.q, UI (A.p + A.s) (k + 1) * A.r, UI (A.p + A.s) (k + 1) * A.s - UI (A.p + A.s) k⟩
  | 0 => by
    rw [pw_one]
    show A = ⟨1 * A.p - 0, 1 * A.q, 1 * A.r, 1 * A.s - 0⟩
    simp
  | k + 1 => by
    have hd : A.p * A.s - A.q * A.r = 1 := hd
    rw [pw, pw_ui hd k]
    have hu : UI (A.p + A.s) (k + 1 + 1) = (A.p + A.s) * UI (A.p + A.s) (k + 1) - UI (A.p + A.s) k := rfl
    rw [hu]
    generalize UI (A.p + A.s) (k + 1) = u
    generalize UI (A.p + A.s) k = v
    unfold mul
    dsimp only
    rw [M4.mk.injEq]
    refine ⟨?_, ?_, ?_, ?_⟩ <;> grind
def ck (N t : Nat) : Nat → Nat → Nat → Bool
  | 0, _, _ => false
  | n + 1, u, v => if u = 0 ∧ v = N - 1 then true else ck N t n ((t * u + (N - v)) % N) u
theorem ck_all : ∀ N : Fin 61, 2 ≤ N.val → ∀ t : Fin N.val, ck N.val t.val 900 1 0 = true := by decide +kernel
theorem ck_ex {N t : Nat} (hN : 2 ≤ N) {T : Int} (hT : T % N = t) : ∀ (n u v k : Nat), ck N t n u v = true → (UI T (k + 1)) % N = u → UI T k % N = v → v < N → ∃ j, k ≤ j ∧ j ≤ k + n ∧ UI T (j + 1) % N = 0 ∧ UI T j % N = (N - 1 : Nat)
  | 0, _, _, _, h, _, _, _ => by cases h
  | n + 1, u, v, k, h, h1, h2, hv => by
    unfold ck at h
    split at h
    · rename_i c
      exact ⟨k, Nat.le_refl _, by omega, by rw [h1, c.1]; rfl, by rw [h2, c.2]⟩
    · have hu : u < N := by
        have := Int.emod_lt_of_pos (UI T (k + 1)) (show (0 : Int) < N by omega)
        omega
      obtain ⟨j, a, b, c, d⟩ := ck_ex hN hT n _ _ (k + 1) h (by
        show (T * UI T (k + 1) - UI T k) % N = _
        rw [Int.natCast_emod, Int.natCast_add, Int.natCast_mul, Int.natCast_sub (by omega), ← h1, ← h2, ← hT]
        rw [show T % (N : Int) * (UI T (k + 1) % (N : Int)) + ((N : Int) - UI T k % (N : Int)) = (T % (N : Int) * (UI T (k + 1) % (N : Int)) - UI T k % (N : Int)) + (N : Int) by omega, Int.add_emod_right]
        rw [Int.sub_emod, Int.mul_emod, Int.sub_emod (T % (N : Int) * (UI T (k + 1) % (N : Int))), Int.emod_emod_of_dvd _ (Int.dvd_refl (N : Int))]) h1 hu
      exact ⟨j, by omega, by omega, c, d⟩
theorem dv {N : Nat} {x y : Int} : x % N = y % N ↔ (N : Int) ∣ x - y := Int.emod_eq_emod_iff_emod_sub_eq_zero.trans ⟨fun h => Int.dvd_of_emod_eq_zero h, fun h => Int.emod_eq_zero_of_dvd h⟩
theorem ord_ex {N : Nat} (h2 : 2 ≤ N) (h60 : N ≤ 60) {A : M4} (hd : A.det = 1) : ∃ k, 1 ≤ k ∧ k ≤ 1000 ∧ P1 N A k := by
  have t0 := Int.emod_nonneg (A.p + A.s) (show (N : Int) ≠ 0 by omega)
  have t1 := Int.emod_lt_of_pos (A.p + A.s) (show (0 : Int) < N by omega)
  obtain ⟨t, ht⟩ : ∃ t : Nat, (A.p + A.s) % (N : Int) = t := ⟨((A.p + A.s) % (N : Int)).toNat, by omega⟩
  have hc := ck_all ⟨N, by omega⟩ h2 ⟨t, by show t < N; omega⟩
  obtain ⟨j, _, b, c, d⟩ := ck_ex h2 ht 900 1 0 0 hc (by show (1 : Int) % N = _; exact Int.emod_eq_of_lt (by decide) (by omega)) (by show (0 : Int) % N = _; simp) (by omega)
  refine ⟨j + 1, by omega, by omega, ?_⟩
  show m4 N (pw A (j + 1)) = m4 N I4
  rw [pw_ui hd]
  have c' : (N : Int) ∣ UI (A.p + A.s) (j + 1) := Int.dvd_of_emod_eq_zero c
  have d' : (N : Int) ∣ UI (A.p + A.s) j + 1 := by
    have : UI (A.p + A.s) j % N = (-1 : Int) % N := by
      rw [d, show ((-1 : Int) % (N : Int)) = ((N : Int) - 1) by rw [← Int.add_emod_right, show (-1 : Int) + N = N - 1 by omega]; exact Int.emod_eq_of_lt (by omega) (by omega)]
      omega
    have := dv.mp this
    rwa [Int.sub_neg] at this
  generalize UI (A.p + A.s) (j + 1) = u at c' ⊢
  generalize UI (A.p + A.s) j = v at d' ⊢
  obtain ⟨a, rfl⟩ := c'
  obtain ⟨b', hb⟩ := d'
  have hv : v = N * b' - 1 := by omega
  subst hv
  unfold m4 I4
  dsimp only
  rw [M4.mk.injEq]
  refine ⟨dv.mpr ⟨a * A.p - b', ?_⟩, dv.mpr ⟨a * A.q, ?_⟩, dv.mpr ⟨a * A.r, ?_⟩, dv.mpr ⟨a * A.s - b', ?_⟩⟩ <;> grind
end LandM

/-! Kep: lines of rests, which a table keeps. -/
namespace LandM
open Minus (M4 tb pt tb_det)
def units (N : Nat) : List Nat := ((List.range (N - 1)).map fun i => 1 + i).filter fun k => decide (Nat.gcd k N = 1)
def mulP (N : Nat) (X Y : Int) (k : Nat) : Int × Int := ((k : Int) * X % (N : Int), (k : Int) * Y % (N : Int))
def mulL (N : Nat) (X Y : Int) : List (Int × Int) := (units N).map (mulP N X Y)
def lt2 (a b : Int × Int) : Bool := decide (a.1 < b.1 ∨ (a.1 = b.1 ∧ a.2 < b.2))
theorem lt2_tot {a b : Int × Int} (h : lt2 a b = false) (h' : lt2 b a = false) : a = b := by
  have h := of_decide_eq_false h
  have h' := of_decide_eq_false h'
  obtain ⟨a1, a2⟩ := a
  obtain ⟨b1, b2⟩ := b
  dsimp only at h h'
  rw [Prod.mk.injEq]
  omega
def leL (N : Nat) (X Y : Int) (m : Int × Int) : Prop := m ∈ mulL N X Y ∧ ∀ y ∈ mulL N X Y, lt2 y m = false
instance (N : Nat) (X Y : Int) (m : Int × Int) : Decidable (leL N X Y m) := inferInstanceAs (Decidable (_ ∧ _))
theorem leL.uniq {N : Nat} {X Y : Int} {m m' : Int × Int} (h : leL N X Y m) (h' : leL N X Y m') : m = m' := lt2_tot (h'.2 _ h.1) (h.2 _ h'.1)
def prL (N : Nat) : List (Nat × Nat) := (List.range N).flatMap fun x => (List.range N).map fun y => (x, y)
def gcdB (N : Nat) (z : Nat × Nat) : Bool := decide (Nat.gcd (Nat.gcd z.1 z.2) N = 1)
def leastB (N : Nat) (z : Nat × Nat) : Bool := decide (leL N z.1 z.2 (z.1, z.2))
def linesL (N : Nat) : List (Nat × Nat) := ((prL N).filter (gcdB N)).filter (leastB N)
theorem linesL_two (N : Nat) : (prL N).filter (fun z => gcdB N z && leastB N z) = linesL N := by
  unfold linesL
  rw [List.filter_filter]
  refine List.filter_congr fun z _ => Bool.and_comm _ _
theorem lines_least {N : Nat} {z : Nat × Nat} (h : z ∈ linesL N) : leL N z.1 z.2 (z.1, z.2) := of_decide_eq_true (List.mem_filter.mp h).2
theorem unit_mul : ∀ N : Fin 13, 2 ≤ N.val → ∀ k ∈ units N.val, ∀ j ∈ units N.val, k * j % N.val ∈ units N.val := by decide +kernel
theorem unit_inv : ∀ N : Fin 13, 2 ≤ N.val → ∀ k ∈ units N.val, ∃ j ∈ units N.val, k * j % N.val = 1 := by decide +kernel
theorem mulP_mod (N : Nat) (X Y : Int) (k : Nat) : mulP N (X % N) (Y % N) k = mulP N X Y k := by
  unfold mulP
  rw [Int.mul_emod _ (X % N), Int.mul_emod _ (Y % N), Int.emod_emod_of_dvd _ (Int.dvd_refl _), Int.emod_emod_of_dvd _ (Int.dvd_refl _), ← Int.mul_emod, ← Int.mul_emod]
theorem mulP_mul (N : Nat) (X Y : Int) (k j : Nat) : mulP N ((k : Int) * X) ((k : Int) * Y) j = mulP N X Y (j * k % N) := by
  unfold mulP
  rw [Int.natCast_emod, Int.natCast_mul, Prod.mk.injEq]
  refine ⟨?_, ?_⟩
  · rw [← Int.mul_assoc, Int.mul_emod ((j : Int) * k % N), Int.emod_emod_of_dvd _ (Int.dvd_refl _), ← Int.mul_emod]
  · rw [← Int.mul_assoc, Int.mul_emod ((j : Int) * k % N), Int.emod_emod_of_dvd _ (Int.dvd_refl _), ← Int.mul_emod]
theorem mulP_of {N : Nat} {X Y x y : Int} {k : Nat} (h : mulP N x y k = (X % N, Y % N)) (j : Nat) : mulP N X Y j = mulP N x y (j * k % N) := by
  rw [← mulP_mod, ← mulP_mul]
  unfold mulP at h
  rw [Prod.mk.injEq] at h
  rw [← h.1, ← h.2, mulP_mod]
/-- a line is kept just if it is led to one of its multiples -/
theorem kept_iff {N : Nat} (h2 : 2 ≤ N) (h12 : N ≤ 12) {x y : Nat} (hx : x < N) (hy : y < N) (hl : leL N x y (x, y)) (X Y : Int) : leL N X Y (x, y) ↔ ∃ k ∈ units N, mulP N x y k = (X % N, Y % N) := by
  have um := unit_mul ⟨N, by omega⟩ h2
  have ui := unit_inv ⟨N, by omega⟩ h2
  dsimp only at um ui
  constructor
  · rintro ⟨hm, _⟩
    obtain ⟨k, hk, e⟩ := List.mem_map.mp hm
    obtain ⟨j, hj, ej⟩ := ui k hk
    refine ⟨j, hj, ?_⟩
    unfold mulP at e ⊢
    rw [Prod.mk.injEq] at e ⊢
    have one : ∀ Z z : Int, (k : Int) * Z % N = z → (j : Int) * z % N = Z % N := fun Z z h => by
      rw [← h, Int.mul_emod, Int.emod_emod_of_dvd _ (Int.dvd_refl _), ← Int.mul_emod, ← Int.mul_assoc, Int.mul_emod, show ((j : Int) * k) % N = 1 by
        rw [Int.mul_comm, ← Int.natCast_mul, ← Int.natCast_emod, ej]
        rfl, Int.one_mul, Int.emod_emod_of_dvd _ (Int.dvd_refl _)]
    exact ⟨one X x e.1, one Y y e.2⟩
  · rintro ⟨k, hk, e⟩
    have hp := mulP_of e
    obtain ⟨j, hj, ej⟩ := ui k hk
    obtain ⟨hl1, hl2⟩ := hl
    constructor
    · refine List.mem_map.mpr ⟨j, hj, ?_⟩
      rw [hp, Nat.mul_comm, ej]
      unfold mulP
      rw [Prod.mk.injEq]
      exact ⟨by show (1 : Int) * x % N = x; rw [Int.one_mul]; exact Int.emod_eq_of_lt (by omega) (by omega), by show (1 : Int) * y % N = y; rw [Int.one_mul]; exact Int.emod_eq_of_lt (by omega) (by omega)⟩
    · intro z hz
      obtain ⟨i, hi, rfl⟩ := List.mem_map.mp hz
      rw [hp]
      exact hl2 _ (List.mem_map.mpr ⟨_, um i hi k hk, rfl⟩)
theorem prL_mem {N : Nat} {z : Nat × Nat} (h : z ∈ prL N) : z.1 < N ∧ z.2 < N := by
  obtain ⟨x, hx, h⟩ := List.mem_flatMap.mp h
  obtain ⟨y, hy, rfl⟩ := List.mem_map.mp h
  exact ⟨List.mem_range.mp hx, List.mem_range.mp hy⟩
theorem linesL_mem {N : Nat} {z : Nat × Nat} (h : z ∈ linesL N) : z.1 < N ∧ z.2 < N := prL_mem (List.mem_filter.mp (List.mem_filter.mp h).1).1
theorem one_unit {N : Nat} (h : 2 ≤ N) : 1 ∈ units N := List.mem_filter.mpr ⟨List.mem_map.mpr ⟨0, List.mem_range.mpr (by omega), rfl⟩, by simp⟩
def keptB (N : Nat) (A : M4) (z : Nat × Nat) : Bool := decide (leL N (A.p * z.1 + A.q * z.2) (A.r * z.1 + A.s * z.2) (z.1, z.2))
def keptL (N : Nat) (A : M4) : List Nat := (List.range (linesL N).length).filter fun i => keptB N A ((linesL N).getD i (0, 0))
end LandM
namespace LandM
open Minus (M4 tb pt tb_det)
def putG (l : List Int) (g : Nat) : List Int := (bump (bump l ((g + l.length - 1) % l.length) 1) (g % l.length) 1).take g ++ [1] ++ (bump (bump l ((g + l.length - 1) % l.length) 1) (g % l.length) 1).drop g
theorem putG_in {l : List Int} {g : Nat} (h1 : 1 ≤ g) (h : g ≤ l.length) : putG l g = inR l (g - 1) := by
  unfold putG inR
  rw [show (g + l.length - 1) % l.length = g - 1 by rw [show g + l.length - 1 = (g - 1) + l.length by omega, Nat.add_mod_right, Nat.mod_eq_of_lt (by omega)], show g - 1 + 1 = g by omega]
theorem putG_0 {l : List Int} (h0 : 0 < l.length) : putG l 0 = rot (inR l (l.length - 1)) l.length := by
  unfold putG inR rot
  rw [show (0 + l.length - 1) % l.length = l.length - 1 by rw [Nat.mod_eq_of_lt (by omega)]; omega, show l.length - 1 + 1 = l.length by omega, Nat.mod_self, Nat.zero_mod]
  have hb : (bump (bump l (l.length - 1) 1) 0 1).length = l.length := by rw [bump_len, bump_len]
  generalize bump (bump l (l.length - 1) 1) 0 1 = b at hb ⊢
  rw [List.take_zero, List.drop_zero, List.nil_append, List.take_of_length_le (show b.length ≤ l.length by omega), List.drop_of_length_le (show b.length ≤ l.length by omega), List.append_nil, ← hb, List.drop_left, List.take_left]
theorem putG_len {l : List Int} {g : Nat} (h : g ≤ l.length) : (putG l g).length = l.length + 1 := by
  unfold putG
  rw [List.length_append, List.length_append, List.length_take, List.length_drop, bump_len, bump_len]
  simp only [List.length_cons, List.length_nil]
  omega
theorem putG_conj {l : List Int} {g : Nat} (h0 : 0 < l.length) (h : g ≤ l.length) : ∃ X : M4, X.det = 1 ∧ mul X (tb (putG l g)) = mul (tb l) X := by
  have key : ∀ i, i < l.length → ∃ X : M4, X.det = 1 ∧ mul X (tb (inR l i)) = mul (tb l) X := fun i hi => by
    obtain ⟨a, b⟩ := in_out hi
    have hl := inR_len hi
    have h1 : i + 1 < (inR l i).length := by omega
    rw [List.getD_eq_getElem?_getD, List.getElem?_eq_getElem h1] at a
    obtain ⟨x, y⟩ := led_out h1 a (by omega)
    rw [b] at y
    exact ⟨_, x, y⟩
  rcases Nat.eq_zero_or_pos g with rfl | hg
  · rw [putG_0 h0]
    obtain ⟨X, x1, x2⟩ := key (l.length - 1) (by omega)
    obtain ⟨y1, y2⟩ := led_turn (inR l (l.length - 1)) l.length
    refine ⟨mul X (inv4 (ledTurn (inR l (l.length - 1)) l.length)), ?_, led_comp (led_inv y1 y2) x2⟩
    rw [det_mul, x1, inv_det y1]
    rfl
  · rw [putG_in hg h]
    exact key (g - 1) (by omega)
theorem putG_abs {l : List Int} {g b : Nat} (hb : 1 ≤ b) (h : ∀ x ∈ l, x.natAbs ≤ b) : ∀ x ∈ putG l g, x.natAbs ≤ b + 2 := fun x hx => by
  have h2 := bump_abs (i := g % l.length) (v := 1) (bump_abs (i := (g + l.length - 1) % l.length) (v := 1) h (by decide)) (by decide)
  unfold putG at hx
  rcases List.mem_append.mp hx with z | z
  · rcases List.mem_append.mp z with z | z
    · exact h2 x (List.mem_of_mem_take z)
    · rw [List.mem_singleton.mp z]
      show 1 ≤ b + 2
      omega
  · exact h2 x (List.mem_of_mem_drop z)
end LandM

/-! Cmp2: comprehensions with a condition; with two fors. -/
namespace DL
theorem compL_flt {own : List Nat} {g : Gt} {t : T} {e : M} {Q : List D → S → Prop} {s : S} (ds acc0 : List D) (p : D → Bool) (f : D → D) (J : S → Prop) (hJ : J s) (hl : acc0.length + ds.length ≤ LINE)
    (h : ∀ d s, d ∈ ds → J s → ∀ (C : Prop) (K1 : D → S → Prop) (K2 : S → Prop), C → (p d = true → ∀ s', J s' → K1 (f d) s') → (p d = false → ∀ s', J s' → K2 s') → g d { s with v := puts s.v own .gone } fun s1 => t s1 fun c s2 => if c = true then e s2 fun x s3 => frz x fun y => C ∧ K1 y s3 else K2 s2)
    (he : ∀ s', J s' → Q (acc0 ++ (ds.filter p).map f) s') : compL own g t e ds acc0 s Q := by
  refine compL_ix ds acc0 s (fun k acc s => acc = acc0 ++ ((ds.take k).filter p).map f ∧ J s) ⟨by simp, hJ⟩ ?_ ?_
  · rintro k d acc s hd ⟨rfl, hj⟩ K hK
    obtain ⟨hk, hde⟩ := List.getElem?_eq_some_iff.mp hd
    have e1 : (ds.take (k + 1)).filter p = (ds.take k).filter p ++ [d].filter p := by
      rw [List.take_add_one, hd, List.filter_append]
      rfl
    have hf := List.length_filter_le p (ds.take k)
    rw [List.length_take] at hf
    refine h d s (List.mem_of_getElem? hd) hj ((acc0 ++ ((ds.take k).filter p).map f).length < LINE) (fun y s3 => K (acc0 ++ ((ds.take k).filter p).map f ++ [y]) s3) (fun s3 => K (acc0 ++ ((ds.take k).filter p).map f) s3) (by rw [List.length_append, List.length_map]; omega) (fun c s' hj' => hK _ _ ⟨?_, hj'⟩) fun c s' hj' => hK _ _ ⟨?_, hj'⟩
    · rw [e1, List.filter_cons, if_pos c, List.map_append, List.append_assoc]
      rfl
    · rw [e1, List.filter_cons, if_neg (by rw [c]; decide), List.filter_nil, List.append_nil]
  · rintro acc s' ⟨rfl, hj⟩
    rw [List.take_length]
    exact he s' hj
theorem compL2_all {own own1 : List Nat} {g g1 : Gt} {t t1 : T} {src1 : Src} {e : M} (row : D → List D) (B : Nat) (J : S → Prop) : ∀ (ds acc0 : List D) {Q : List D → S → Prop} {s : S}, J s → acc0.length + ds.length * B ≤ LINE → (∀ d, d ∈ ds → (row d).length ≤ B) →
    (∀ d s acc, d ∈ ds → J s → acc.length + B ≤ LINE → ∀ K : List D → S → Prop, (∀ s', J s' → K (acc ++ row d) s') → g d { s with v := puts s.v own .gone } fun s1 => t s1 fun c s2 => if c = true then src1 s2 fun es s3 => compL own1 g1 t1 e es acc s3 K else K acc s2) →
    (∀ s', J s' → Q (acc0 ++ ds.flatMap row) s') → compL2 own own1 g t src1 g1 t1 e ds acc0 s Q
  | [], acc0, Q, s, hJ, _, _, _, he => by
    have := he s hJ
    rw [List.flatMap_nil, List.append_nil] at this
    exact this
  | d :: r, acc0, Q, s, hJ, hl, hr, h, he => by
    rw [List.length_cons, Nat.succ_mul] at hl
    have hd := hr d List.mem_cons_self
    refine h d s acc0 List.mem_cons_self hJ (by omega) (fun acc s4 => compL2 own own1 g t src1 g1 t1 e r acc s4 Q) fun s' hj => ?_
    refine compL2_all row B J r (acc0 ++ row d) hj (by rw [List.length_append]; omega) (fun d hd => hr d (List.mem_cons_of_mem _ hd)) (fun d s acc hd => h d s acc (List.mem_cons_of_mem _ hd)) fun s' hj' => ?_
    have := he s' hj'
    rw [List.flatMap_cons, ← List.append_assoc] at this
    exact this
end DL

/-! The meanings of the defs, printed by the generator. -/
namespace K30
open DL

abbrev c_NOTHING : D := .tup [(.int 1), (.int 0), (.int 0), (.int 1)]
abbrev c_CONTRARY : D := .tup [(.int (-1)), (.int 0), (.int 0), (.int (-1))]
def b__law_same (g__law_same : Sem) : MS :=
  (sSeq (sIf (tOr (tV (mIsI (mVar 1) .list)) (tV (mIsI (mVar 1) .tuple)))
  (sSeq (sIf (tOr (tB (mBin dNe (mIsI (mVar 0) .list) (mIsI (mVar 1) .list))) (tB (mBin dNe (mIsI (mVar 0) .tuple) (mIsI (mVar 1) .tuple))))
  (sRet (mC (.bool false)))
  sNil)
  (sRet (mAnd (mBin dEq (mUn dLen (mVar 0)) (mUn dLen (mVar 1))) (mUn dAll (mComp [2] (srcR1 (mUn dLen (mVar 1))) (gV 2) tYes (mCall g__law_same (msC (mBin dIx (mVar 0) (mVar 2)) (msC (mBin dIx (mVar 1) (mVar 2)) msN))))))))
  sNil)
  (sSeq (sIf (tOr (tB (mUn dIsN (mVar 1))) (tV (mIsI (mVar 1) .bool)))
  (sRet (mIf (tB (mUn dIsN (mVar 1))) (mUn dIsN (mVar 0)) (mAnd (mIsI (mVar 0) .bool) (mBin dEq (mVar 0) (mVar 1)))))
  sNil)
  (sSeq (sIf (tV (mIsI (mVar 1) .str))
  (sRet (mAnd (mIsI (mVar 0) .str) (mBin dEq (mVar 0) (mVar 1))))
  sNil)
  (sRet (mAnd (mIsI (mVar 0) .int) (mAnd (mNot (mIsI (mVar 0) .bool)) (mBin dEq (mVar 0) (mVar 1))))))))
def b__law_draw : MS :=
  (sSeq (sIf (tAnd (tB (mBin dEq (mFeed 0 2) (mC (.int 0)))) (tB (mBin dLt (mFeed 0 1) (mUn dLen (mFeed 0 0)))))
  (sSeq (sSet 2 (mUn dAbs (mUn dInt (mBin dIx (mFeed 0 0) (mFeed 0 1)))))
  (sSeq (sFeedA 0 1 1)
  (sIf (tB (mBin dGe (mVar 2) (mBin dPow (mC (.int 10)) (mC (.int 18)))))
  (sFeed 0 2 (mFzV 2))
  (sFeed 0 3 (mBin dMod (mUn dInt (mBin dAdd (mBin dAdd (mBin dMul (mFeed 0 3) (mC (.int 48271))) (mBin dMul (mVar 2) (mC (.int 69621)))) (mFeed 0 1))) (mC (.int 2147483647)))))))
  sNil)
  (sSeq (sIf (tB (mBin dGt (mFeed 0 2) (mC (.int 0))))
  (sSeq (sSet 3 (mBin dMod (mUn dInt (mFeed 0 2)) (mVar 1)))
  (sSeq (sFeed 0 2 (mBin dDiv (mFeed 0 2) (mVar 1)))
  (sRet (mVar 3))))
  sNil)
  (sSeq (sFeed 0 3 (mBin dMod (mUn dInt (mBin dAdd (mBin dMul (mFeed 0 3) (mC (.int 16807))) (mC (.int 12345)))) (mC (.int 2147483647))))
  (sSeq (sSet 4 (mBin dMod (mUn dInt (mBin dAdd (mBin dMul (mFeed 0 3) (mFeed 0 3)) (mFeed 0 3))) (mC (.int 2147483629))))
  (sRet (mBin dMod (mBin dDiv (mVar 4) (mC (.int 11))) (mVar 1)))))))
def b__law_drawn (g__law_draw : Sem) : MS :=
  (sSeq (sSet 2 (mBin dIx (mList (msC (mC (.int 3)) (msC (mC (.int 6)) (msC (mC (.int 99)) msN)))) (mCallF g__law_draw 0 (msC (mC (.int 3)) msN))))
  (sRet (mComp [3] (srcR1 (mBin dAdd (mC (.int 1)) (mCallF g__law_draw 0 (msC (mFzV 1) msN)))) (gV 3) tYes (mBin dAdd (mC (.int 1)) (mCallF g__law_draw 0 (msC (mFzV 2) msN))))))
def b__law_put : MS :=
  (sSeq (sSet 2 (mUn dLen (mVar 0)))
  (sSeq (sSet 3 (mUn dList (mVar 0)))
  (sSeq (sAugI 3 (fun i j => i + j) (mBin dSub (mVar 1) (mC (.int 1))) (mC (.int 1)))
  (sSeq (sAugI 3 (fun i j => i + j) (mBin dMod (mUn dInt (mVar 1)) (mVar 2)) (mC (.int 1)))
  (sRet (mBin dAdd (mBin dAdd (mSl (mVar 3) oN (oS (mVar 1))) (mList (msC (mC (.int 1)) msN))) (mSl (mVar 3) (oS (mVar 1)) oN)))))))
def b__law_grown (g__law_draw : Sem) (g__law_put : Sem) : MS :=
  (sSeq (sSet 3 (mUn dList (mVar 1)))
  (sSeq (sFor (srcR1 (mCallF g__law_draw 0 (msC (mFzV 2) msN))) (gV 4)
  (sIf (tB (mBin dLt (mUn dLen (mVar 3)) (mVar 2)))
  (sSet 3 (mCall g__law_put (msC (mFzV 3) (msC (mCallF g__law_draw 0 (msC (mBin dAdd (mUn dLen (mVar 3)) (mC (.int 1))) msN)) msN))))
  sNil))
  (sRet (mVar 3))))
def b_rests_of : MS :=
  (sSeq (sAsg (gT 4 (gsC (gV 2) (gsC (gV 3) (gsC (gV 4) (gsC (gV 5) gsN))))) (mFzV 1))
  (sRet (mTup (msC (mBin dMod (mVar 2) (mVar 0)) (msC (mBin dMod (mVar 3) (mVar 0)) (msC (mBin dMod (mVar 4) (mVar 0)) (msC (mBin dMod (mVar 5) (mVar 0)) msN)))))))
def b_multiplied : MS :=
  (sSeq (sAsg (gT 4 (gsC (gV 2) (gsC (gV 3) (gsC (gV 4) (gsC (gV 5) gsN))))) (mFzV 0))
  (sSeq (sAsg (gT 4 (gsC (gV 6) (gsC (gV 7) (gsC (gV 8) (gsC (gV 9) gsN))))) (mFzV 1))
  (sRet (mTup (msC (mBin dAdd (mBin dMul (mVar 2) (mVar 6)) (mBin dMul (mVar 3) (mVar 8))) (msC (mBin dAdd (mBin dMul (mVar 2) (mVar 7)) (mBin dMul (mVar 3) (mVar 9))) (msC (mBin dAdd (mBin dMul (mVar 4) (mVar 6)) (mBin dMul (mVar 5) (mVar 8))) (msC (mBin dAdd (mBin dMul (mVar 4) (mVar 7)) (mBin dMul (mVar 5) (mVar 9))) msN))))))))
def b_times_to (g_rests_of : Sem) (g_multiplied : Sem) : MS :=
  (sSeq (sSet 3 (mFzV 0))
  (sSeq (sSet 4 (mC (.int 1)))
  (sSeq (sWhile (tB (mBin (dIn true) (mVar 3) (mVar 2)))
  (sSeq (sSet 3 (mCall g_rests_of (msC (mFzV 1) (msC (mCall g_multiplied (msC (mFzV 3) (msC (mFzV 0) msN))) msN))))
  (sAug 4 (fun i j => i + j) (mC (.int 1)))))
  (sRet (mVar 4)))))
def b_turned_by (g_multiplied : Sem) : MS :=
  (sSeq (sSet 1 (mC c_NOTHING))
  (sSeq (sFor (srcV (mFzV 0)) (gV 2)
  (sSet 1 (mCall g_multiplied (msC (mFzV 1) (msC (mTup (msC (mFzV 2) (msC (mUn dNeg (mC (.int 1))) (msC (mC (.int 1)) (msC (mC (.int 0)) msN))))) msN)))))
  (sRet (mVar 1))))
def b_rest_table (g_rests_of : Sem) (g_turned_by : Sem) : MS :=
  (sRet (mCall g_rests_of (msC (mFzV 1) (msC (mCall g_turned_by (msC (mFzV 0) msN)) msN))))
def b_rest_times (g_times_to : Sem) (g_rest_table : Sem) (g_rests_of : Sem) : MS :=
  (sRet (mCall g_times_to (msC (mCall g_rest_table (msC (mFzV 0) (msC (mFzV 1) msN))) (msC (mFzV 1) (msC (mList (msC (mCall g_rests_of (msC (mFzV 1) (msC (mC c_NOTHING) msN))) msN)) msN)))))
def b__law_times : MS :=
  (sSeq (sSet 2 (mBin dAdd (mBin dMul (mBin dIx (mVar 0) (mC (.int 0))) (mBin dIx (mVar 1) (mC (.int 0)))) (mBin dMul (mBin dIx (mVar 0) (mC (.int 1))) (mBin dIx (mVar 1) (mC (.int 2))))))
  (sSeq (sSet 3 (mBin dAdd (mBin dMul (mBin dIx (mVar 0) (mC (.int 0))) (mBin dIx (mVar 1) (mC (.int 1)))) (mBin dMul (mBin dIx (mVar 0) (mC (.int 1))) (mBin dIx (mVar 1) (mC (.int 3))))))
  (sSeq (sSet 4 (mBin dAdd (mBin dMul (mBin dIx (mVar 0) (mC (.int 2))) (mBin dIx (mVar 1) (mC (.int 0)))) (mBin dMul (mBin dIx (mVar 0) (mC (.int 3))) (mBin dIx (mVar 1) (mC (.int 2))))))
  (sSeq (sSet 5 (mBin dAdd (mBin dMul (mBin dIx (mVar 0) (mC (.int 2))) (mBin dIx (mVar 1) (mC (.int 1)))) (mBin dMul (mBin dIx (mVar 0) (mC (.int 3))) (mBin dIx (mVar 1) (mC (.int 3))))))
  (sRet (mTup (msC (mFzV 2) (msC (mFzV 3) (msC (mFzV 4) (msC (mFzV 5) msN))))))))))
def b__law_table (g__law_times : Sem) : MS :=
  (sSeq (sSet 1 (mTup (msC (mC (.int 1)) (msC (mC (.int 0)) (msC (mC (.int 0)) (msC (mC (.int 1)) msN))))))
  (sSeq (sFor (srcV (mFzV 0)) (gV 2)
  (sSet 1 (mCall g__law_times (msC (mFzV 1) (msC (mTup (msC (mFzV 2) (msC (mUn dNeg (mC (.int 1))) (msC (mC (.int 1)) (msC (mC (.int 0)) msN))))) msN)))))
  (sRet (mVar 1))))
def b__law_divisor : MS :=
  (sSeq (sFor (srcR1 (mC (.int 100))) (gV 2)
  (sIf (tB (mBin dGt (mVar 1) (mC (.int 0))))
  (sPar 0 1 (mFzV 1) (mBin dMod (mUn dInt (mVar 0)) (mVar 1)))
  sNil))
  (sRet (mVar 0)))
def b__law_lines (g__law_divisor : Sem) : MS :=
  (sSeq (sSet 1 (mComp [5] (srcR2 (mC (.int 1)) (mVar 0)) (gV 5) (tB (mBin dEq (mCall g__law_divisor (msC (mFzV 0) (msC (mFzV 5) msN))) (mC (.int 1)))) (mFzV 5)))
  (sSeq (sSet 2 (mList msN))
  (sSeq (sFor (srcR1 (mVar 0)) (gV 3)
  (sFor (srcR1 (mVar 0)) (gV 4)
  (sIf (tB (mBin dEq (mCall g__law_divisor (msC (mFzV 0) (msC (mCall g__law_divisor (msC (mFzV 3) (msC (mFzV 4) msN))) msN))) (mC (.int 1))))
  (sIf (tB (mBin dEq (mUn dMinG (mComp [5] (srcV (mFzV 1)) (gV 5) tYes (mTup (msC (mBin dMod (mUn dInt (mBin dMul (mVar 5) (mVar 3))) (mVar 0)) (msC (mBin dMod (mUn dInt (mBin dMul (mVar 5) (mVar 4))) (mVar 0)) msN))))) (mTup (msC (mFzV 3) (msC (mFzV 4) msN)))))
  (sApp 2 (mTup (msC (mFzV 3) (msC (mFzV 4) msN))))
  sNil)
  sNil)))
  (sRet (mVar 2)))))
def b__law_kept (g__law_table : Sem) (g__law_divisor : Sem) (g__law_lines : Sem) : MS :=
  (sSeq (sAsg (gT 4 (gsC (gV 2) (gsC (gV 3) (gsC (gV 4) (gsC (gV 5) gsN))))) (mCall g__law_table (msC (mFzV 0) msN)))
  (sSeq (sSet 6 (mComp [13] (srcR2 (mC (.int 1)) (mVar 1)) (gV 13) (tB (mBin dEq (mCall g__law_divisor (msC (mFzV 1) (msC (mFzV 13) msN))) (mC (.int 1)))) (mFzV 13)))
  (sSeq (sSet 7 (mCall g__law_lines (msC (mFzV 1) msN)))
  (sSeq (sSet 8 (mList msN))
  (sSeq (sFor (srcR1 (mUn dLen (mVar 7))) (gV 9)
  (sSeq (sAsg (gT 2 (gsC (gV 10) (gsC (gV 11) gsN))) (mBin dIx (mVar 7) (mVar 9)))
  (sSeq (sSet 12 (mTup (msC (mBin dMod (mUn dInt (mBin dAdd (mBin dMul (mVar 2) (mVar 10)) (mBin dMul (mVar 3) (mVar 11)))) (mVar 1)) (msC (mBin dMod (mUn dInt (mBin dAdd (mBin dMul (mVar 4) (mVar 10)) (mBin dMul (mVar 5) (mVar 11)))) (mVar 1)) msN))))
  (sIf (tB (mBin dGt (mUn dLen (mComp [13] (srcV (mFzV 6)) (gV 13) (tB (mBin dEq (mTup (msC (mBin dMod (mUn dInt (mBin dMul (mVar 13) (mVar 10))) (mVar 1)) (msC (mBin dMod (mUn dInt (mBin dMul (mVar 13) (mVar 11))) (mVar 1)) msN))) (mVar 12))) (mFzV 13))) (mC (.int 0))))
  (sApp 8 (mFzV 9))
  sNil))))
  (sRet (mVar 8)))))))
def b_least_multiple : MS :=
  (sRet (mUn dMinG (mComp [3] (srcR2 (mC (.int 1)) (mVar 0)) (gV 3) (tB (mBin dEq (mBin dGcd (mVar 3) (mVar 0)) (mC (.int 1)))) (mTup (msC (mBin dMod (mBin dMul (mVar 3) (mVar 1)) (mVar 0)) (msC (mBin dMod (mBin dMul (mVar 3) (mVar 2)) (mVar 0)) msN))))))
def b_lines_of (g_least_multiple : Sem) : MS :=
  (sSeq (sSet 1 (mComp2 [2, 3] [3] (srcR1 (mVar 0)) (gV 2) tYes (srcR1 (mVar 0)) (gV 3) (tB (mBin dEq (mBin dGcd (mBin dGcd (mVar 2) (mVar 3)) (mVar 0)) (mC (.int 1)))) (mTup (msC (mFzV 2) (msC (mFzV 3) msN)))))
  (sRet (mComp [2, 3] (srcV (mFzV 1)) (gT 2 (gsC (gV 2) (gsC (gV 3) gsN))) (tB (mBin dEq (mCall g_least_multiple (msC (mFzV 0) (msC (mFzV 2) (msC (mFzV 3) msN)))) (mTup (msC (mFzV 2) (msC (mFzV 3) msN))))) (mTup (msC (mFzV 2) (msC (mFzV 3) msN))))))
def b_kept_lines (g_turned_by : Sem) (g_lines_of : Sem) (g_least_multiple : Sem) : MS :=
  (sSeq (sAsg (gT 4 (gsC (gV 2) (gsC (gV 3) (gsC (gV 4) (gsC (gV 5) gsN))))) (mCall g_turned_by (msC (mFzV 0) msN)))
  (sRet (mComp [6, 7, 8] (srcEnum (mCall g_lines_of (msC (mFzV 1) msN))) (gT 2 (gsC (gV 6) (gsC (gT 2 (gsC (gV 7) (gsC (gV 8) gsN))) gsN))) (tB (mBin dEq (mCall g_least_multiple (msC (mFzV 1) (msC (mBin dAdd (mBin dMul (mVar 2) (mVar 7)) (mBin dMul (mVar 3) (mVar 8))) (msC (mBin dAdd (mBin dMul (mVar 4) (mVar 7)) (mBin dMul (mVar 5) (mVar 8))) msN)))) (mTup (msC (mFzV 7) (msC (mFzV 8) msN))))) (mFzV 6))))
def b__law_kept_right (g__law_kept : Sem) (g_kept_lines : Sem) (g__law_same : Sem) : MS :=
  (sSeq (sSet 2 (mUn dList (mVar 0)))
  (sSeq (sSet 3 (mCall g__law_kept (msC (mFzV 0) (msC (mFzV 1) msN))))
  (sSeq (sSet 4 (mCall g_kept_lines (msC (mFzV 2) (msC (mFzV 1) msN))))
  (sSeq (sIf (tOr (tNot (tV (mCallB g__law_same [.nm 4, .nm 3]))) (tB (mBin dNe (mVar 2) (mVar 0))))
  (sRet (mC (.bool false)))
  sNil)
  (sSeq (sApp 4 (mC (.int 0)))
  (sRet (mCallB g__law_same [.ex (mCall g_kept_lines (msC (mFzV 2) (msC (mFzV 1) msN))), .nm 3])))))))
def b_sign_times (g_times_to : Sem) (g_rest_table : Sem) (g_rests_of : Sem) : MS :=
  (sRet (mCall g_times_to (msC (mCall g_rest_table (msC (mFzV 0) (msC (mFzV 1) msN))) (msC (mFzV 1) (msC (mList (msC (mCall g_rests_of (msC (mFzV 1) (msC (mC c_NOTHING) msN))) (msC (mCall g_rests_of (msC (mFzV 1) (msC (mC c_CONTRARY) msN))) msN))) msN)))))
def b__law_plain (g__law_draw : Sem) : MS :=
  (sSeq (sSet 2 (mBin dMul (mList (msC (mC (.int 2)) msN)) (mBin dAdd (mC (.int 1)) (mCallF g__law_draw 0 (msC (mFzV 1) msN)))))
  (sSeq (sFor (srcR1 (mBin dAdd (mC (.int 1)) (mCallF g__law_draw 0 (msC (mC (.int 12)) msN)))) (gV 3)
  (sAugI 2 (fun i j => i + j) (mCallF g__law_draw 0 (msC (mUn dLen (mVar 2)) msN)) (mC (.int 1))))
  (sRet (mVar 2))))
def b__law_rests : MS :=
  (sRet (mUn dTup (mComp [2] (srcV (mFzV 0)) (gV 2) tYes (mBin dMod (mUn dInt (mVar 2)) (mVar 1)))))
def b__law_how_often (g__law_rests : Sem) (g__law_table : Sem) (g__law_times : Sem) : MS :=
  (sSeq (sSet 2 (mCall g__law_rests (msC (mTup (msC (mC (.int 1)) (msC (mC (.int 0)) (msC (mC (.int 0)) (msC (mC (.int 1)) msN))))) (msC (mFzV 1) msN))))
  (sSeq (sSet 3 (mCall g__law_rests (msC (mTup (msC (mUn dNeg (mC (.int 1))) (msC (mC (.int 0)) (msC (mC (.int 0)) (msC (mUn dNeg (mC (.int 1))) msN))))) (msC (mFzV 1) msN))))
  (sSeq (sSet 4 (mCall g__law_rests (msC (mCall g__law_table (msC (mFzV 0) msN)) (msC (mFzV 1) msN))))
  (sSeq (sSet 5 (mFzV 4))
  (sSeq (sSet 6 (mC .none))
  (sSeq (sFor (srcR2 (mC (.int 1)) (mC (.int 4000))) (gV 7)
  (sSeq (sIf (tAnd (tB (mUn dIsN (mVar 6))) (tB (mBin (dIn false) (mVar 5) (mList (msC (mFzV 2) (msC (mFzV 3) msN))))))
  (sSet 6 (mFzV 7))
  sNil)
  (sSeq (sIf (tB (mBin dEq (mVar 5) (mVar 2)))
  (sRet (mTup (msC (mFzV 7) (msC (mFzV 6) msN))))
  sNil)
  (sSet 5 (mCall g__law_rests (msC (mCall g__law_times (msC (mFzV 5) (msC (mFzV 4) msN))) (msC (mFzV 1) msN)))))))
  (sRet (mTup (msC (mC (.int 0)) (msC (mC (.int 0)) msN))))))))))
def b__law_right (g__law_how_often : Sem) (g__law_same : Sem) (g_rest_table : Sem) (g__law_rests : Sem) (g__law_table : Sem) (g_rest_times : Sem) (g_sign_times : Sem) : MS :=
  (sSeq (sSet 2 (mUn dList (mVar 0)))
  (sSeq (sSet 3 (mCall g__law_how_often (msC (mFzV 0) (msC (mFzV 1) msN))))
  (sSeq (sIf (tNot (tV (mCall g__law_same (msC (mCall g_rest_table (msC (mFzV 2) (msC (mFzV 1) msN))) (msC (mCall g__law_rests (msC (mCall g__law_table (msC (mFzV 0) msN)) (msC (mFzV 1) msN))) msN)))))
  (sRet (mC (.bool false)))
  sNil)
  (sSeq (sSet 4 (mList (msC (mCall g_rest_times (msC (mFzV 2) (msC (mFzV 1) msN))) (msC (mCall g_sign_times (msC (mFzV 2) (msC (mFzV 1) msN))) msN))))
  (sSeq (sIf (tOr (tNot (tV (mCallB g__law_same [.nm 4, .ex (mList (msC (mBin dIx (mVar 3) (mC (.int 0))) (msC (mBin dIx (mVar 3) (mC (.int 1))) msN)))]))) (tB (mBin dNe (mVar 2) (mVar 0))))
  (sRet (mC (.bool false)))
  sNil)
  (sRet (mBin (dIn false) (mBin dIx (mVar 3) (mC (.int 0))) (mList (msC (mBin dIx (mVar 3) (mC (.int 1))) (msC (mBin dMul (mC (.int 2)) (mBin dIx (mVar 3) (mC (.int 1)))) msN))))))))))
def b_law (g__law_draw : Sem) (g__law_drawn : Sem) (g__law_grown : Sem) (g__law_plain : Sem) (g__law_put : Sem) (g__law_right : Sem) (g_rest_times : Sem) (g_sign_times : Sem) (g__law_kept_right : Sem) (g__law_same : Sem) (g_rest_table : Sem) (g_kept_lines : Sem) : MS :=
  (sSeq (sFor (srcR1 (mC (.int 3))) (gV 2)
  (sSeq (sSet 3 (mBin dAdd (mC (.int 2)) (mCallF g__law_draw 1 (msC (mBin dIx (mList (msC (mC (.int 11)) (msC (mC (.int 59)) msN))) (mCallF g__law_draw 1 (msC (mC (.int 2)) msN))) msN))))
  (sSeq (sSet 4 (mCallF g__law_drawn 1 (msC (mC (.int 11)) msN)))
  (sSeq (sIf (tB (mBin dEq (mVar 2) (mC (.int 1))))
  (sSet 4 (mCallF g__law_grown 1 (msC (mCallF g__law_plain 1 (msC (mC (.int 6)) msN)) (msC (mC (.int 11)) msN))))
  sNil)
  (sSeq (sSet 5 (mCallF g__law_draw 1 (msC (mBin dAdd (mUn dLen (mVar 4)) (mC (.int 1))) msN)))
  (sSeq (sSet 6 (mCall g__law_put (msC (mFzV 4) (msC (mFzV 5) msN))))
  (sSeq (sSet 7 (mCallF g__law_draw 1 (msC (mUn dLen (mVar 4)) msN)))
  (sSeq (sSet 8 (mBin dAdd (mSl (mVar 4) (oS (mVar 7)) oN) (mSl (mVar 4) oN (oS (mVar 7)))))
  (sSeq (sFor (srcV (mList (msC (mFzV 4) (msC (mFzV 8) (msC (mFzV 6) (msC (mBin dMul (mList (msC (mC (.int 2)) msN)) (mUn dLen (mVar 4))) msN)))))) (gV 9)
  (sIf (tAnd (tB (mBin dLt (mUn dMax (mVar 9)) (mC (.int 100)))) (tNot (tV (mCall g__law_right (msC (mFzV 9) (msC (mFzV 3) msN))))))
  (sRet (mC (.bool false)))
  sNil))
  (sSeq (sIf (tB (mBin dNe (mCall g_rest_times (msC (mFzV 8) (msC (mFzV 3) msN))) (mCall g_rest_times (msC (mUn dList (mVar 4)) (msC (mFzV 3) msN)))))
  (sRet (mC (.bool false)))
  sNil)
  (sSeq (sIf (tAnd (tB (mBin dLt (mUn dMax (mVar 6)) (mC (.int 100)))) (tB (mBin dNe (mCall g_sign_times (msC (mFzV 6) (msC (mFzV 3) msN))) (mCall g_sign_times (msC (mUn dList (mVar 4)) (msC (mFzV 3) msN))))))
  (sRet (mC (.bool false)))
  sNil)
  (sSeq (sSet 10 (mBin dAdd (mC (.int 2)) (mCallF g__law_draw 1 (msC (mC (.int 11)) msN))))
  (sIf (tNot (tV (mCall g__law_kept_right (msC (mFzV 4) (msC (mFzV 10) msN)))))
  (sRet (mC (.bool false)))
  sNil)))))))))))))
  (sSeq (sIf (tOr (tNot (tV (mCall g__law_kept_right (msC (mList (msC (mC (.int 2)) msN)) (msC (mBin dAdd (mC (.int 2)) (mCallF g__law_draw 1 (msC (mC (.int 11)) msN))) msN))))) (tNot (tV (mCall g__law_kept_right (msC (mList (msC (mC (.int 3)) msN)) (msC (mC (.int 12)) msN))))))
  (sRet (mC (.bool false)))
  sNil)
  (sSeq (sIf (tOr (tNot (tV (mCall g__law_same (msC (mCall g_rest_table (msC (mList (msC (mC (.int 3)) msN)) (msC (mC (.int 2)) msN))) (msC (mTup (msC (mC (.int 1)) (msC (mC (.int 1)) (msC (mC (.int 1)) (msC (mC (.int 0)) msN))))) msN))))) (tNot (tV (mCall g__law_same (msC (mCall g_kept_lines (msC (mList (msC (mC (.int 2)) (msC (mC (.int 2)) msN))) (msC (mC (.int 2)) msN))) (msC (mList (msC (mC (.int 0)) (msC (mC (.int 1)) (msC (mC (.int 2)) msN)))) msN))))))
  (sRet (mC (.bool false)))
  sNil)
  (sRet (mCall g__law_same (msC (mList (msC (mCall g_rest_times (msC (mList (msC (mC (.int 3)) msN)) (msC (mC (.int 2)) msN))) (msC (mCall g_sign_times (msC (mList (msC (mC (.int 3)) msN)) (msC (mC (.int 3)) msN))) (msC (mCall g_rest_times (msC (mList (msC (mC (.int 3)) msN)) (msC (mC (.int 3)) msN))) (msC (mCall g_rest_times (msC (mList (msC (mC (.int 2)) msN)) (msC (mC (.int 60)) msN))) msN))))) (msC (mList (msC (mC (.int 3)) (msC (mC (.int 2)) (msC (mC (.int 4)) (msC (mC (.int 60)) msN))))) msN)))))))
end K30

namespace K30
open DL LandM
open Minus (M4 tb tb_det Okl low_log)
def spec__law_draw : Sem := fun ds w Q => ∃ (many : Int), ds = [.int many] ∧ 0 < many ∧ many ≤ 1000000 ∧ Wok w ∧ ∀ r w', 0 ≤ r → r < many → Wok w' → Q (.val (.int r)) w'
theorem ar__law_draw (many : Int) (w : W) (Q : R → W → Prop) : ar 1 spec__law_draw [.int many] w Q = (0 < many ∧ many ≤ 1000000 ∧ Wok w ∧ ∀ r w', 0 ≤ r → r < many → Wok w' → Q (.val (.int r)) w') := by
  apply propext
  constructor
  · rintro ⟨_, many', e, h⟩
    simp only [List.cons.injEq, D.str.injEq, D.int.injEq, D.bool.injEq, D.tup.injEq, D.list.injEq, mapInt_inj, Int.natCast_inj, and_true, and_assoc] at e
    first | (obtain rfl := e; exact h) | (obtain ⟨rfl, _⟩ := e; exact h)
  · intro h
    exact ⟨rfl, many, rfl, h⟩
theorem vc__law_draw : ∀ ds w Q, spec__law_draw ds w Q → runF 5 (b__law_draw) ds w Q := by
  rintro ds w Q ⟨many, rfl, h⟩
  unfold b__law_draw
  obtain ⟨h0, h1, hw, h⟩ := h
  have gm : many.natAbs.log2 < 9000 := div62 (by omega) (by omega)
  obtain ⟨sc, ix, big, seed⟩ := w
  obtain ⟨wl, wi0, wi1, wb, ws0, ws1⟩ := hw
  dsimp only at wl wi0 wi1 wb ws0 ws1
  simp only [run, runF, DL.get, DL.put, puts, back, mC, mVar, mFzV, mFeed, frz, msN, msC, mBin, mUn, dAdd, dSub, dMul, dDiv, dMod, dPow, dNeg, dCmp, dLt, dLe, dGt, dGe, dEq, dNe, dIn, dIsN, dIsNotN, isN, dIs, dIsNot, dTab, flatD, okT, truth, tV, tB, tAnd, tOr, tNot, mAnd, mOr, mNot, mIf, mChain, mList, mTup, dIx, mSl, oN, oS, mRev, mRevTo, mCall, mCallF, dLen, dAbs, dInt, dMin2, dMax2, dList, dTup, dSum, dMin, dMax, dMinG, dMaxG, dAll, isTy, mIsI, gV, gSkip, gsN, gsC, gT, srcV, srcR1, srcR2, srcEnum, srcRev, mComp, tYes, isS, isL, mMS, mML, dIndexS, dIndexL, dIndexFrom, mMS2, dCount, dSplit, dJoin, sNil, sSeq, sSet, sAsg, sPar, sRet, retK, sRetN, sIf, sPass, sBrk, sCont, sNever, sExpr, sAug, ownAt, feedAt, intD, sApp, sExt, sSetI, sAugI, sFeed, sFeedA, popD, sPop, sAddPop, sFor, DL.W.set, DL.W.at, DL.R.d, okD, eqD_none_none, eqD_none_bool, eqD_none_int, eqD_none_str, eqD_none_list, eqD_none_tup, eqD_bool_none, eqD_bool_bool, eqD_bool_int, eqD_bool_str, eqD_bool_list, eqD_bool_tup, eqD_int_none, eqD_int_bool, eqD_int_int, eqD_int_str, eqD_int_list, eqD_int_tup, eqD_str_none, eqD_str_bool, eqD_str_int, eqD_str_str, eqD_str_list, eqD_str_tup, eqD_list_none, eqD_list_bool, eqD_list_int, eqD_list_str, eqD_list_list, eqD_list_tup, eqD_tup_none, eqD_tup_bool, eqD_tup_int, eqD_tup_str, eqD_tup_list, eqD_tup_tup, eqDs_nn, eqDs_cc, eqDs_nc, eqDs_cn, List.map_cons, List.map_nil, List.map, List.cons_append, List.nil_append, List.replicate, List.length_cons, List.length_nil, Nat.reduceAdd, Nat.reduceSub, List.all_cons, List.all_nil, Bool.and_true, Bool.true_and, true_and, and_true, atI_map, ex_map, ex_some, List.length_map, beq_int, decide_eq_true_eq, if_true, if_false, Bool.false_eq_true, if_pos, reduceIte, at0, at1, at2, at3, dP, mCallX, mCallB, peekA, evA, evAs, eq_self, sRaise0, sRaise1, sTry, caught, unslot, unheld, mXArg, mXIs, runX, List.contains_cons, List.contains_nil, Slot.isExn, String.reduceBEq, ex_arg, ex_valB, Bool.or_false, Bool.false_or, Bool.or_true, Bool.true_or, Bool.not_false, Bool.not_true, mComp2, dGcd]
  have m1 : ∀ a b : Int, 0 ≤ a → 0 < b → 0 ≤ a % b ∧ a % b < b := fun a b _ hb => ⟨Int.emod_nonneg _ (by omega), Int.emod_lt_of_pos _ hb⟩
  have e18 : (10 : Int) ^ Int.toNat 18 = 1000000000000000000 := by decide
  rw [e18]
  -- the later draws of a seed
  have tail : ∀ (ix' seed' : Int), 0 ≤ ix' → ix' ≤ sc.length → ∀ big', 0 ≤ big' → 0 ≤ seed' → seed' < 2147483648 →
    (1 ≤ 3 ∧ 3 ≤ 3) ∧ seed'.natAbs.log2 + (Int.natAbs 16807).log2 < 1000000 ∧ (0 : Int) < 2147483647 ∧ ((seed' * 16807 + 12345) % 2147483647).natAbs.log2 + ((seed' * 16807 + 12345) % 2147483647).natAbs.log2 < 1000000 ∧ (0 : Int) < 2147483629 ∧
      (0 : Int) < 11 ∧ (Int.natAbs 11).log2 < 9000 ∧ 0 < many ∧ Q (R.val (D.int (((seed' * 16807 + 12345) % 2147483647 * ((seed' * 16807 + 12345) % 2147483647) + (seed' * 16807 + 12345) % 2147483647) % 2147483629 / 11 % many))) { sc := sc, ix := ix', big := big', seed := (seed' * 16807 + 12345) % 2147483647 } := by
    intro ix' seed' i0 i1 big' b0 s0 s1
    have hs := m1 (seed' * 16807 + 12345) 2147483647 (by omega) (by decide)
    refine ⟨by decide, mul62 (by omega) (by omega) (by decide) (by decide), by decide, mul62 (by omega) (by omega) (by omega) (by omega), by decide, by decide, by decide, h0, ?_⟩
    exact h _ _ (Int.emod_nonneg _ (by omega)) (Int.emod_lt_of_pos _ h0) ⟨wl, i0, i1, b0, hs.1, by show (seed' * 16807 + 12345) % 2147483647 < 2147483648; omega⟩
  have take : ∀ (ix' big' seed' : Int), 0 ≤ ix' → ix' ≤ sc.length → 0 < big' → 0 ≤ seed' → seed' < 2147483648 → Q (R.val (D.int (big' % many))) { sc := sc, ix := ix', big := big' / many, seed := seed' } := by
    intro ix' big' seed' i0 i1 b0 s0 s1
    exact h _ _ (Int.emod_nonneg _ (by omega)) (Int.emod_lt_of_pos _ h0) ⟨wl, i0, i1, Int.ediv_nonneg (by omega) (by omega), s0, s1⟩
  have last : ∀ (ix' big' seed' : Int), 0 ≤ ix' → ix' ≤ sc.length → 0 ≤ big' → 0 ≤ seed' → seed' < 2147483648 →
    if 0 < big' then 0 < many ∧ (1 ≤ 2 ∧ 2 ≤ 3) ∧ 0 < many ∧ many.natAbs.log2 < 9000 ∧ Q (R.val (D.int (big' % many))) { sc := sc, ix := ix', big := big' / many, seed := seed' }
    else (1 ≤ 3 ∧ 3 ≤ 3) ∧ seed'.natAbs.log2 + (Int.natAbs 16807).log2 < 1000000 ∧ (0 : Int) < 2147483647 ∧ ((seed' * 16807 + 12345) % 2147483647).natAbs.log2 + ((seed' * 16807 + 12345) % 2147483647).natAbs.log2 < 1000000 ∧ (0 : Int) < 2147483629 ∧
      (0 : Int) < 11 ∧ (Int.natAbs 11).log2 < 9000 ∧ 0 < many ∧ Q (R.val (D.int (((seed' * 16807 + 12345) % 2147483647 * ((seed' * 16807 + 12345) % 2147483647) + (seed' * 16807 + 12345) % 2147483647) % 2147483629 / 11 % many))) { sc := sc, ix := ix', big := big', seed := (seed' * 16807 + 12345) % 2147483647 } := by
    intro ix' big' seed' i0 i1 b0 s0 s1
    split
    · exact ⟨h0, by decide, h0, gm, take _ _ _ i0 i1 (by omega) s0 s1⟩
    · exact tail _ _ i0 i1 _ b0 s0 s1
  split
  · split
    · rename_i hb hi
      refine ⟨_, atI_of wi0 hi, by decide, by decide, ?_⟩
      generalize sc[ix.toNat]'(by omega) = x
      have hx : 0 ≤ if x < 0 then -x else x := by split <;> omega
      generalize (if x < 0 then -x else x) = y at hx
      split
      · exact ⟨by decide, last (ix + 1) y seed (by omega) (by omega) hx ws0 ws1⟩
      · refine ⟨by decide, mul62 (by omega) (by omega) (by decide) (by decide), mul62 (by omega) (by omega) (by decide) (by decide), by decide, ?_⟩
        have hs := m1 (seed * 48271 + y * 69621 + (ix + 1)) 2147483647 (by omega) (by decide)
        exact last (ix + 1) big _ (by omega) (by omega) wb hs.1 (by omega)
    · exact last ix big seed wi0 wi1 wb ws0 ws1
  · exact last ix big seed wi0 wi1 wb ws0 ws1

theorem okInts (r : List Int) (k : Nat) : (r.map D.int).all (okD k) = true := List.all_eq_true.mpr fun d hd => by
  obtain ⟨x, _, rfl⟩ := List.mem_map.mp hd
  cases k <;> rfl
/-- a cut at a condition -/
theorem cond_cut {t : T} {a b : MS} {s : S} {O : Outs} (c : Bool) (h : ∀ K : Bool → S → Prop, K c s → t s K) (h1 : c = true → a s O) (h2 : c = false → b s O) : sIf t a b s O := by
  refine h _ ?_
  show if c = true then a s O else b s O
  cases c with
  | true => exact h1 rfl
  | false => exact h2 rfl
theorem atZ {l : List Int} {i : Nat} (h : i < l.length) : atI l (i : Int) = some (l.getD i 0) := by
  rw [atI_of (by omega) (by omega)]
  simp [List.getD_eq_getElem?_getD, List.getElem?_eq_getElem h]
noncomputable def rtB (a b : List Int) : Bool := @decide (RT a b) (Classical.propDecidable _)
theorem rtB_of {a b : List Int} {c : Bool} (h : c = true ↔ RT a b) : c = rtB a b := by
  unfold rtB
  rw [Bool.eq_iff_iff, h]
  simp
theorem like_ints : ∀ a b : List Int, likeDs (a.map D.int) (b.map D.int) = true
  | [], _ => by simp [likeDs]
  | _ :: _, [] => by simp [likeDs]
  | x :: a, y :: b => by rw [List.map_cons, List.map_cons, likeDs, likeD, like_ints a b]; rfl

instance (l : List Int) : Decidable (Nf l) := inferInstanceAs (Decidable (∀ x ∈ l, 2 ≤ x))
theorem bump_map (l : List Int) (i : Nat) (a : Int) : (l.map D.int).set i (D.int (l.getD i 0 + a)) = (bump l i a).map D.int := by
  unfold bump
  rw [List.map_set]
theorem get_map {l : List Int} {i : Nat} (h : i < l.length) : (l.map D.int)[i]? = some (D.int (l.getD i 0)) := by
  rw [List.getElem?_map, List.getElem?_eq_getElem h, List.getD_eq_getElem?_getD, List.getElem?_eq_getElem h]
  rfl
theorem ix_before {n i : Nat} (h : i < n) : ixN n ((i : Int) - 1) = some ((i + n - 1) % n) := by
  unfold ixN
  by_cases e : i = 0
  · subst e
    rw [if_neg (by omega), if_pos (by omega)]
    congr 1
    rw [Nat.mod_eq_of_lt (by omega)]
    omega
  · rw [if_pos (by omega), if_pos (by omega)]
    congr 1
    rw [show i + n - 1 = (i - 1) + n by omega, Nat.add_mod_right, Nat.mod_eq_of_lt (by omega)]
    omega
theorem ix_nat {n i : Nat} (h : i < n) : ixN n (i : Int) = some i := by
  unfold ixN
  rw [if_pos (by omega), if_pos (by omega)]
  rfl
theorem mod_lt {n i : Nat} (h : i < n) : (i + 1) % n < n := Nat.mod_lt _ (by omega)
theorem set_sub (l : List Int) (j : Nat) : (l.map D.int).set j (D.int (l.getD j 0 - 1)) = (bump l j (-1)).map D.int := bump_map l j (-1)
theorem set_add (l : List Int) (j : Nat) : (l.map D.int).set j (D.int (l.getD j 0 + 1)) = (bump l j 1).map D.int := bump_map l j 1
theorem ix_after {n m i : Nat} (h : i < n) (hm : m = n) : ixN m (((i : Int) + 1) % (n : Int)) = some ((i + 1) % n) := by
  subst hm
  rw [show (i : Int) + 1 = ((i + 1 : Nat) : Int) by omega, ← Int.natCast_emod]
  exact ix_nat (mod_lt h)
theorem min_low {l : List Int} {m : Int} (h : m ∈ l) (hle : ∀ y ∈ l, m ≤ y) (h1 : 1 < l.length) : low1 l ↔ m = 1 := by
  constructor
  · rintro ⟨_, h2, h3⟩
    have := h2 m h
    have := hle 1 h3
    omega
  · rintro rfl
    exact ⟨h1, hle, h⟩
theorem min_nf {l : List Int} {m : Int} (h : m ∈ l) (hle : ∀ y ∈ l, m ≤ y) : 1 < m ↔ Nf l := by
  constructor
  · intro h1 y hy
    have := hle y hy
    omega
  · intro h1
    have := h1 m h
    omega
theorem ok9 (l : List Int) : okD 9 (.list (l.map D.int)) = true := okInts l 8
abbrev ns (p : List Nat) : List D := p.map fun n : Nat => D.int n
theorem idx_ok {m : List Int} (h : (1 : Int) ∈ m) : ∃ z, (m.map D.int)[ix1 m]? = some z ∧ eqD z (.int 1) = true ∧ ∀ i y, i < ix1 m → (m.map D.int)[i]? = some y → eqD y (.int 1) = false := by
  obtain ⟨h1, h2, h3⟩ := ix1_spec h
  refine ⟨.int 1, by rw [List.getElem?_map, h2]; rfl, eqD_refl _, fun i y hi hy => ?_⟩
  rw [List.getElem?_map] at hy
  cases e : m[i]? with
  | none => rw [e] at hy; cases hy
  | some v =>
    rw [e] at hy
    cases hy
    rw [eqD_int_int]
    have := h3 i hi
    rw [e] at this
    simpa using this
theorem ns_app (p : List Nat) (i : Nat) : ns p ++ [D.int ((i : Nat) : Int)] = ns (p ++ [i]) := by
  unfold ns
  rw [List.map_append]
  rfl
theorem any_one (m : List Int) : ((m.map D.int).any fun d => eqD d (.int 1)) = decide ((1 : Int) ∈ m) := by
  induction m with
  | nil => rfl
  | cons x t ih =>
    rw [List.map_cons, List.any_cons, ih, eqD_int_int, Bool.eq_iff_iff]
    simp only [Bool.or_eq_true, beq_iff_eq, decide_eq_true_eq, List.mem_cons]
    exact ⟨fun h => h.elim (fun e => .inl e.symm) .inr, fun h => h.elim (fun e => .inl e.symm) .inr⟩
theorem at_end2 {α : Type} (xs : List α) (a b : α) : atI (xs ++ [a, b]) (-2) = some a := by
  unfold atI ixN
  rw [if_neg (by decide), if_pos (by simp only [List.length_append, List.length_cons, List.length_nil]; omega)]
  simp only [Option.bind_some, List.length_append, List.length_cons, List.length_nil]
  rw [show (-2 + ((xs.length + (0 + 1 + 1) : Nat) : Int)).toNat = xs.length by omega]
  simp
abbrev everS : D := .str [101, 118, 101, 114]

abbrev tM (m : M4) : D := .tup [.int m.p, .int m.q, .int m.r, .int m.s]
def okL (m : M4) : Prop := m.p.natAbs.log2 < 400000 ∧ m.q.natAbs.log2 < 400000 ∧ m.r.natAbs.log2 < 400000 ∧ m.s.natAbs.log2 < 400000
theorem lg1 : (1 : Int).natAbs.log2 < 400000 := by decide
theorem lg0 : (0 : Int).natAbs.log2 < 400000 := by decide
theorem lgm : (-1 : Int).natAbs.log2 < 400000 := by decide
theorem lgi {i : Int} (h1 : -1000000 ≤ i) (h2 : i ≤ 1000000) : i.natAbs.log2 < 400000 := by
  have := lg62 (i := i) (by omega) (by omega)
  omega
theorem lgn {n : Nat} (h : n ≤ 1000000) : ((n : Nat) : Int).natAbs.log2 < 400000 := lgi (by omega) (by omega)
theorem tb_ok {l : List Int} (h : Okl l) : okL (tb l) := by
  have c1 := low_log (h.low (v := (1, 0)) (by decide) (by decide))
  have c2 := low_log (h.low (v := (0, 1)) (by decide) (by decide))
  rw [Minus.tb_cols l]
  unfold okL
  dsimp only
  omega
def spec__law_times : Sem := fun ds w Q => ∃ (a : Int) (b : Int) (c : Int) (d : Int) (e : Int) (f : Int) (g : Int) (k : Int), ds = [.tup [.int a, .int b, .int c, .int d], .tup [.int e, .int f, .int g, .int k]] ∧ okL ⟨a, b, c, d⟩ ∧ okL ⟨e, f, g, k⟩ ∧ Q (.val (tM (mul ⟨a, b, c, d⟩ ⟨e, f, g, k⟩))) w
theorem ar__law_times (a : Int) (b : Int) (c : Int) (d : Int) (e : Int) (f : Int) (g : Int) (k : Int) (w : W) (Q : R → W → Prop) : ar 2 spec__law_times [.tup [.int a, .int b, .int c, .int d], .tup [.int e, .int f, .int g, .int k]] w Q = (okL ⟨a, b, c, d⟩ ∧ okL ⟨e, f, g, k⟩ ∧ Q (.val (tM (mul ⟨a, b, c, d⟩ ⟨e, f, g, k⟩))) w) := by
  apply propext
  constructor
  · rintro ⟨_, a', b', c', d', e', f', g', k', e, h⟩
    simp only [List.cons.injEq, D.str.injEq, D.int.injEq, D.bool.injEq, D.tup.injEq, D.list.injEq, mapInt_inj, Int.natCast_inj, and_true, and_assoc] at e
    first | (obtain ⟨rfl, rfl, rfl, rfl, rfl, rfl, rfl, rfl⟩ := e; exact h) | (obtain ⟨rfl, rfl, rfl, rfl, rfl, rfl, rfl, rfl, _⟩ := e; exact h)
  · intro h
    exact ⟨rfl, a, b, c, d, e, f, g, k, rfl, h⟩
theorem vc__law_times : ∀ ds w Q, spec__law_times ds w Q → run 6 (b__law_times) ds w Q := by
  rintro ds w Q ⟨a, b, c, d, e, f, g, k, rfl, h⟩
  unfold b__law_times
  simp only [run, runF, DL.get, DL.put, puts, back, mC, mVar, mFzV, mFeed, frz, msN, msC, mBin, mUn, dAdd, dSub, dMul, dDiv, dMod, dPow, dNeg, dCmp, dLt, dLe, dGt, dGe, dEq, dNe, dIn, dIsN, dIsNotN, isN, dIs, dIsNot, dTab, flatD, okT, truth, tV, tB, tAnd, tOr, tNot, mAnd, mOr, mNot, mIf, mChain, mList, mTup, dIx, mSl, oN, oS, mRev, mRevTo, mCall, mCallF, dLen, dAbs, dInt, dMin2, dMax2, dList, dTup, dSum, dMin, dMax, dMinG, dMaxG, dAll, isTy, mIsI, gV, gSkip, gsN, gsC, gT, srcV, srcR1, srcR2, srcEnum, srcRev, mComp, tYes, isS, isL, mMS, mML, dIndexS, dIndexL, dIndexFrom, mMS2, dCount, dSplit, dJoin, sNil, sSeq, sSet, sAsg, sPar, sRet, retK, sRetN, sIf, sPass, sBrk, sCont, sNever, sExpr, sAug, ownAt, feedAt, intD, sApp, sExt, sSetI, sAugI, sFeed, sFeedA, popD, sPop, sAddPop, sFor, DL.W.set, DL.W.at, DL.R.d, okD, eqD_none_none, eqD_none_bool, eqD_none_int, eqD_none_str, eqD_none_list, eqD_none_tup, eqD_bool_none, eqD_bool_bool, eqD_bool_int, eqD_bool_str, eqD_bool_list, eqD_bool_tup, eqD_int_none, eqD_int_bool, eqD_int_int, eqD_int_str, eqD_int_list, eqD_int_tup, eqD_str_none, eqD_str_bool, eqD_str_int, eqD_str_str, eqD_str_list, eqD_str_tup, eqD_list_none, eqD_list_bool, eqD_list_int, eqD_list_str, eqD_list_list, eqD_list_tup, eqD_tup_none, eqD_tup_bool, eqD_tup_int, eqD_tup_str, eqD_tup_list, eqD_tup_tup, eqDs_nn, eqDs_cc, eqDs_nc, eqDs_cn, List.map_cons, List.map_nil, List.map, List.cons_append, List.nil_append, List.replicate, List.length_cons, List.length_nil, Nat.reduceAdd, Nat.reduceSub, List.all_cons, List.all_nil, Bool.and_true, Bool.true_and, true_and, and_true, atI_map, ex_map, ex_some, List.length_map, beq_int, decide_eq_true_eq, if_true, if_false, Bool.false_eq_true, if_pos, reduceIte, at0, at1, at2, at3, dP, mCallX, mCallB, peekA, evA, evAs, eq_self, sRaise0, sRaise1, sTry, caught, unslot, unheld, mXArg, mXIs, runX, List.contains_cons, List.contains_nil, Slot.isExn, String.reduceBEq, ex_arg, ex_valB, Bool.or_false, Bool.false_or, Bool.or_true, Bool.true_or, Bool.not_false, Bool.not_true, mComp2, dGcd]
  obtain ⟨h1, h2, q⟩ := h
  unfold okL at h1 h2
  dsimp only at h1 h2
  exact ⟨by omega, by omega, by omega, by omega, by omega, by omega, by omega, by omega, by decide, q⟩
def spec_multiplied : Sem := fun ds w Q => ∃ (a : Int) (b : Int) (c : Int) (d : Int) (e : Int) (f : Int) (g : Int) (k : Int), ds = [.tup [.int a, .int b, .int c, .int d], .tup [.int e, .int f, .int g, .int k]] ∧ okL ⟨a, b, c, d⟩ ∧ okL ⟨e, f, g, k⟩ ∧ Q (.val (tM (mul ⟨a, b, c, d⟩ ⟨e, f, g, k⟩))) w
theorem ar_multiplied (a : Int) (b : Int) (c : Int) (d : Int) (e : Int) (f : Int) (g : Int) (k : Int) (w : W) (Q : R → W → Prop) : ar 2 spec_multiplied [.tup [.int a, .int b, .int c, .int d], .tup [.int e, .int f, .int g, .int k]] w Q = (okL ⟨a, b, c, d⟩ ∧ okL ⟨e, f, g, k⟩ ∧ Q (.val (tM (mul ⟨a, b, c, d⟩ ⟨e, f, g, k⟩))) w) := by
  apply propext
  constructor
  · rintro ⟨_, a', b', c', d', e', f', g', k', e, h⟩
    simp only [List.cons.injEq, D.str.injEq, D.int.injEq, D.bool.injEq, D.tup.injEq, D.list.injEq, mapInt_inj, Int.natCast_inj, and_true, and_assoc] at e
    first | (obtain ⟨rfl, rfl, rfl, rfl, rfl, rfl, rfl, rfl⟩ := e; exact h) | (obtain ⟨rfl, rfl, rfl, rfl, rfl, rfl, rfl, rfl, _⟩ := e; exact h)
  · intro h
    exact ⟨rfl, a, b, c, d, e, f, g, k, rfl, h⟩
theorem vc_multiplied : ∀ ds w Q, spec_multiplied ds w Q → run 10 (b_multiplied) ds w Q := by
  rintro ds w Q ⟨a, b, c, d, e, f, g, k, rfl, h⟩
  unfold b_multiplied
  simp only [run, runF, DL.get, DL.put, puts, back, mC, mVar, mFzV, mFeed, frz, msN, msC, mBin, mUn, dAdd, dSub, dMul, dDiv, dMod, dPow, dNeg, dCmp, dLt, dLe, dGt, dGe, dEq, dNe, dIn, dIsN, dIsNotN, isN, dIs, dIsNot, dTab, flatD, okT, truth, tV, tB, tAnd, tOr, tNot, mAnd, mOr, mNot, mIf, mChain, mList, mTup, dIx, mSl, oN, oS, mRev, mRevTo, mCall, mCallF, dLen, dAbs, dInt, dMin2, dMax2, dList, dTup, dSum, dMin, dMax, dMinG, dMaxG, dAll, isTy, mIsI, gV, gSkip, gsN, gsC, gT, srcV, srcR1, srcR2, srcEnum, srcRev, mComp, tYes, isS, isL, mMS, mML, dIndexS, dIndexL, dIndexFrom, mMS2, dCount, dSplit, dJoin, sNil, sSeq, sSet, sAsg, sPar, sRet, retK, sRetN, sIf, sPass, sBrk, sCont, sNever, sExpr, sAug, ownAt, feedAt, intD, sApp, sExt, sSetI, sAugI, sFeed, sFeedA, popD, sPop, sAddPop, sFor, DL.W.set, DL.W.at, DL.R.d, okD, eqD_none_none, eqD_none_bool, eqD_none_int, eqD_none_str, eqD_none_list, eqD_none_tup, eqD_bool_none, eqD_bool_bool, eqD_bool_int, eqD_bool_str, eqD_bool_list, eqD_bool_tup, eqD_int_none, eqD_int_bool, eqD_int_int, eqD_int_str, eqD_int_list, eqD_int_tup, eqD_str_none, eqD_str_bool, eqD_str_int, eqD_str_str, eqD_str_list, eqD_str_tup, eqD_list_none, eqD_list_bool, eqD_list_int, eqD_list_str, eqD_list_list, eqD_list_tup, eqD_tup_none, eqD_tup_bool, eqD_tup_int, eqD_tup_str, eqD_tup_list, eqD_tup_tup, eqDs_nn, eqDs_cc, eqDs_nc, eqDs_cn, List.map_cons, List.map_nil, List.map, List.cons_append, List.nil_append, List.replicate, List.length_cons, List.length_nil, Nat.reduceAdd, Nat.reduceSub, List.all_cons, List.all_nil, Bool.and_true, Bool.true_and, true_and, and_true, atI_map, ex_map, ex_some, List.length_map, beq_int, decide_eq_true_eq, if_true, if_false, Bool.false_eq_true, if_pos, reduceIte, at0, at1, at2, at3, dP, mCallX, mCallB, peekA, evA, evAs, eq_self, sRaise0, sRaise1, sTry, caught, unslot, unheld, mXArg, mXIs, runX, List.contains_cons, List.contains_nil, Slot.isExn, String.reduceBEq, ex_arg, ex_valB, Bool.or_false, Bool.false_or, Bool.or_true, Bool.true_or, Bool.not_false, Bool.not_true, mComp2, dGcd]
  obtain ⟨h1, h2, q⟩ := h
  unfold okL at h1 h2
  dsimp only at h1 h2
  exact ⟨by omega, by omega, by omega, by omega, by omega, by omega, by omega, by omega, by decide, q⟩


def spec_turned_by : Sem := fun ds w Q => ∃ (l : List Int), ds = [.list (l.map D.int)] ∧ Okl l ∧ Q (.val (tM (tb l))) w
theorem ar_turned_by (l : List Int) (w : W) (Q : R → W → Prop) : ar 1 spec_turned_by [.list (l.map D.int)] w Q = (Okl l ∧ Q (.val (tM (tb l))) w) := by
  apply propext
  constructor
  · rintro ⟨_, l', e, h⟩
    simp only [List.cons.injEq, D.str.injEq, D.int.injEq, D.bool.injEq, D.tup.injEq, D.list.injEq, mapInt_inj, Int.natCast_inj, and_true, and_assoc] at e
    first | (obtain rfl := e; exact h) | (obtain ⟨rfl, _⟩ := e; exact h)
  · intro h
    exact ⟨rfl, l, rfl, h⟩
theorem vc_turned_by : ∀ ds w Q, spec_turned_by ds w Q → run 3 (b_turned_by (ar 2 spec_multiplied)) ds w Q := by
  rintro ds w Q ⟨l, rfl, h⟩
  unfold b_turned_by
  simp only [run, runF, DL.get, DL.put, puts, back, mC, mVar, mFzV, mFeed, frz, msN, msC, mBin, mUn, dAdd, dSub, dMul, dDiv, dMod, dPow, dNeg, dCmp, dLt, dLe, dGt, dGe, dEq, dNe, dIn, dIsN, dIsNotN, isN, dIs, dIsNot, dTab, flatD, okT, truth, tV, tB, tAnd, tOr, tNot, mAnd, mOr, mNot, mIf, mChain, mList, mTup, dIx, mSl, oN, oS, mRev, mRevTo, mCall, mCallF, dLen, dAbs, dInt, dMin2, dMax2, dList, dTup, dSum, dMin, dMax, dMinG, dMaxG, dAll, isTy, mIsI, gV, gSkip, gsN, gsC, gT, srcV, srcR1, srcR2, srcEnum, srcRev, mComp, tYes, isS, isL, mMS, mML, dIndexS, dIndexL, dIndexFrom, mMS2, dCount, dSplit, dJoin, sNil, sSeq, sSet, sAsg, sPar, sRet, retK, sRetN, sIf, sPass, sBrk, sCont, sNever, sExpr, sAug, ownAt, feedAt, intD, sApp, sExt, sSetI, sAugI, sFeed, sFeedA, popD, sPop, sAddPop, sFor, DL.W.set, DL.W.at, DL.R.d, okD, eqD_none_none, eqD_none_bool, eqD_none_int, eqD_none_str, eqD_none_list, eqD_none_tup, eqD_bool_none, eqD_bool_bool, eqD_bool_int, eqD_bool_str, eqD_bool_list, eqD_bool_tup, eqD_int_none, eqD_int_bool, eqD_int_int, eqD_int_str, eqD_int_list, eqD_int_tup, eqD_str_none, eqD_str_bool, eqD_str_int, eqD_str_str, eqD_str_list, eqD_str_tup, eqD_list_none, eqD_list_bool, eqD_list_int, eqD_list_str, eqD_list_list, eqD_list_tup, eqD_tup_none, eqD_tup_bool, eqD_tup_int, eqD_tup_str, eqD_tup_list, eqD_tup_tup, eqDs_nn, eqDs_cc, eqDs_nc, eqDs_cn, List.map_cons, List.map_nil, List.map, List.cons_append, List.nil_append, List.replicate, List.length_cons, List.length_nil, Nat.reduceAdd, Nat.reduceSub, List.all_cons, List.all_nil, Bool.and_true, Bool.true_and, true_and, and_true, atI_map, ex_map, ex_some, List.length_map, beq_int, decide_eq_true_eq, if_true, if_false, Bool.false_eq_true, if_pos, reduceIte, at0, at1, at2, at3, dP, mCallX, mCallB, peekA, evA, evAs, eq_self, sRaise0, sRaise1, sTry, caught, unslot, unheld, mXArg, mXIs, runX, List.contains_cons, List.contains_nil, Slot.isExn, String.reduceBEq, ex_arg, ex_valB, Bool.or_false, Bool.false_or, Bool.or_true, Bool.true_or, Bool.not_false, Bool.not_true, mComp2, dGcd, ar_multiplied]
  obtain ⟨hl, q⟩ := h
  have hln := hl.len
  have hz : (2000 : Nat) ≤ LINE := by decide
  refine forL_ix _ (fun n st => ∃ x : Slot, n ≤ l.length ∧ st = ⟨[.val (.list (l.map D.int)), .val (tM (tb (l.take n))), x], w⟩) ?_ ?_ _ ⟨.gone, Nat.zero_le _, rfl⟩
  · rintro n d _ hd ⟨x, hn, rfl⟩ K hK
    obtain ⟨c, hc, rfl⟩ : ∃ c, l[n]? = some c ∧ d = .int c := by
      rw [List.getElem?_map] at hd
      cases e : l[n]? with
      | none => rw [e] at hd; cases hd
      | some c => rw [e] at hd; cases hd; exact ⟨c, rfl, rfl⟩
    obtain ⟨hn', hce⟩ := List.getElem?_eq_some_iff.mp hc
    have et : l.take (n + 1) = l.take n ++ [c] := by rw [List.take_succ_eq_append_getElem hn', hce]
    have hot := tb_ok (hl.take n)
    have hcl := Minus.all_log (hl.all c (List.mem_of_getElem? hc))
    rw [et, tb_snoc'] at hK
    generalize tb (l.take n) = m at *
    have hk : Minus.K0 = 12000 := rfl
    have hm : okL (Mn c) := ⟨by show c.natAbs.log2 < 400000; omega, lgm, lg1, lg0⟩
    simp only [run, runF, DL.get, DL.put, puts, back, mC, mVar, mFzV, mFeed, frz, msN, msC, mBin, mUn, dAdd, dSub, dMul, dDiv, dMod, dPow, dNeg, dCmp, dLt, dLe, dGt, dGe, dEq, dNe, dIn, dIsN, dIsNotN, isN, dIs, dIsNot, dTab, flatD, okT, truth, tV, tB, tAnd, tOr, tNot, mAnd, mOr, mNot, mIf, mChain, mList, mTup, dIx, mSl, oN, oS, mRev, mRevTo, mCall, mCallF, dLen, dAbs, dInt, dMin2, dMax2, dList, dTup, dSum, dMin, dMax, dMinG, dMaxG, dAll, isTy, mIsI, gV, gSkip, gsN, gsC, gT, srcV, srcR1, srcR2, srcEnum, srcRev, mComp, tYes, isS, isL, mMS, mML, dIndexS, dIndexL, dIndexFrom, mMS2, dCount, dSplit, dJoin, sNil, sSeq, sSet, sAsg, sPar, sRet, retK, sRetN, sIf, sPass, sBrk, sCont, sNever, sExpr, sAug, ownAt, feedAt, intD, sApp, sExt, sSetI, sAugI, sFeed, sFeedA, popD, sPop, sAddPop, sFor, DL.W.set, DL.W.at, DL.R.d, okD, eqD_none_none, eqD_none_bool, eqD_none_int, eqD_none_str, eqD_none_list, eqD_none_tup, eqD_bool_none, eqD_bool_bool, eqD_bool_int, eqD_bool_str, eqD_bool_list, eqD_bool_tup, eqD_int_none, eqD_int_bool, eqD_int_int, eqD_int_str, eqD_int_list, eqD_int_tup, eqD_str_none, eqD_str_bool, eqD_str_int, eqD_str_str, eqD_str_list, eqD_str_tup, eqD_list_none, eqD_list_bool, eqD_list_int, eqD_list_str, eqD_list_list, eqD_list_tup, eqD_tup_none, eqD_tup_bool, eqD_tup_int, eqD_tup_str, eqD_tup_list, eqD_tup_tup, eqDs_nn, eqDs_cc, eqDs_nc, eqDs_cn, List.map_cons, List.map_nil, List.map, List.cons_append, List.nil_append, List.replicate, List.length_cons, List.length_nil, Nat.reduceAdd, Nat.reduceSub, List.all_cons, List.all_nil, Bool.and_true, Bool.true_and, true_and, and_true, atI_map, ex_map, ex_some, List.length_map, beq_int, decide_eq_true_eq, if_true, if_false, Bool.false_eq_true, if_pos, reduceIte, at0, at1, at2, at3, dP, mCallX, mCallB, peekA, evA, evAs, eq_self, sRaise0, sRaise1, sTry, caught, unslot, unheld, mXArg, mXIs, runX, List.contains_cons, List.contains_nil, Slot.isExn, String.reduceBEq, ex_arg, ex_valB, Bool.or_false, Bool.false_or, Bool.or_true, Bool.true_or, Bool.not_false, Bool.not_true, mComp2, dGcd, ar_multiplied]
    exact ⟨by decide, hot, hm, hK _ ⟨_, hn', rfl⟩⟩
  · rintro _ ⟨x, hn, rfl⟩
    simp only [run, runF, DL.get, DL.put, puts, back, mC, mVar, mFzV, mFeed, frz, msN, msC, mBin, mUn, dAdd, dSub, dMul, dDiv, dMod, dPow, dNeg, dCmp, dLt, dLe, dGt, dGe, dEq, dNe, dIn, dIsN, dIsNotN, isN, dIs, dIsNot, dTab, flatD, okT, truth, tV, tB, tAnd, tOr, tNot, mAnd, mOr, mNot, mIf, mChain, mList, mTup, dIx, mSl, oN, oS, mRev, mRevTo, mCall, mCallF, dLen, dAbs, dInt, dMin2, dMax2, dList, dTup, dSum, dMin, dMax, dMinG, dMaxG, dAll, isTy, mIsI, gV, gSkip, gsN, gsC, gT, srcV, srcR1, srcR2, srcEnum, srcRev, mComp, tYes, isS, isL, mMS, mML, dIndexS, dIndexL, dIndexFrom, mMS2, dCount, dSplit, dJoin, sNil, sSeq, sSet, sAsg, sPar, sRet, retK, sRetN, sIf, sPass, sBrk, sCont, sNever, sExpr, sAug, ownAt, feedAt, intD, sApp, sExt, sSetI, sAugI, sFeed, sFeedA, popD, sPop, sAddPop, sFor, DL.W.set, DL.W.at, DL.R.d, okD, eqD_none_none, eqD_none_bool, eqD_none_int, eqD_none_str, eqD_none_list, eqD_none_tup, eqD_bool_none, eqD_bool_bool, eqD_bool_int, eqD_bool_str, eqD_bool_list, eqD_bool_tup, eqD_int_none, eqD_int_bool, eqD_int_int, eqD_int_str, eqD_int_list, eqD_int_tup, eqD_str_none, eqD_str_bool, eqD_str_int, eqD_str_str, eqD_str_list, eqD_str_tup, eqD_list_none, eqD_list_bool, eqD_list_int, eqD_list_str, eqD_list_list, eqD_list_tup, eqD_tup_none, eqD_tup_bool, eqD_tup_int, eqD_tup_str, eqD_tup_list, eqD_tup_tup, eqDs_nn, eqDs_cc, eqDs_nc, eqDs_cn, List.map_cons, List.map_nil, List.map, List.cons_append, List.nil_append, List.replicate, List.length_cons, List.length_nil, Nat.reduceAdd, Nat.reduceSub, List.all_cons, List.all_nil, Bool.and_true, Bool.true_and, true_and, and_true, atI_map, ex_map, ex_some, List.length_map, beq_int, decide_eq_true_eq, if_true, if_false, Bool.false_eq_true, if_pos, reduceIte, at0, at1, at2, at3, dP, mCallX, mCallB, peekA, evA, evAs, eq_self, sRaise0, sRaise1, sTry, caught, unslot, unheld, mXArg, mXIs, runX, List.contains_cons, List.contains_nil, Slot.isExn, String.reduceBEq, ex_arg, ex_valB, Bool.or_false, Bool.false_or, Bool.or_true, Bool.true_or, Bool.not_false, Bool.not_true, mComp2, dGcd]
    rw [List.take_length]
    exact q
def spec__law_table : Sem := fun ds w Q => ∃ (l : List Int), ds = [.list (l.map D.int)] ∧ Okl l ∧ Q (.val (tM (tb l))) w
theorem ar__law_table (l : List Int) (w : W) (Q : R → W → Prop) : ar 1 spec__law_table [.list (l.map D.int)] w Q = (Okl l ∧ Q (.val (tM (tb l))) w) := by
  apply propext
  constructor
  · rintro ⟨_, l', e, h⟩
    simp only [List.cons.injEq, D.str.injEq, D.int.injEq, D.bool.injEq, D.tup.injEq, D.list.injEq, mapInt_inj, Int.natCast_inj, and_true, and_assoc] at e
    first | (obtain rfl := e; exact h) | (obtain ⟨rfl, _⟩ := e; exact h)
  · intro h
    exact ⟨rfl, l, rfl, h⟩
theorem vc__law_table : ∀ ds w Q, spec__law_table ds w Q → run 3 (b__law_table (ar 2 spec__law_times)) ds w Q := by
  rintro ds w Q ⟨l, rfl, h⟩
  unfold b__law_table
  simp only [run, runF, DL.get, DL.put, puts, back, mC, mVar, mFzV, mFeed, frz, msN, msC, mBin, mUn, dAdd, dSub, dMul, dDiv, dMod, dPow, dNeg, dCmp, dLt, dLe, dGt, dGe, dEq, dNe, dIn, dIsN, dIsNotN, isN, dIs, dIsNot, dTab, flatD, okT, truth, tV, tB, tAnd, tOr, tNot, mAnd, mOr, mNot, mIf, mChain, mList, mTup, dIx, mSl, oN, oS, mRev, mRevTo, mCall, mCallF, dLen, dAbs, dInt, dMin2, dMax2, dList, dTup, dSum, dMin, dMax, dMinG, dMaxG, dAll, isTy, mIsI, gV, gSkip, gsN, gsC, gT, srcV, srcR1, srcR2, srcEnum, srcRev, mComp, tYes, isS, isL, mMS, mML, dIndexS, dIndexL, dIndexFrom, mMS2, dCount, dSplit, dJoin, sNil, sSeq, sSet, sAsg, sPar, sRet, retK, sRetN, sIf, sPass, sBrk, sCont, sNever, sExpr, sAug, ownAt, feedAt, intD, sApp, sExt, sSetI, sAugI, sFeed, sFeedA, popD, sPop, sAddPop, sFor, DL.W.set, DL.W.at, DL.R.d, okD, eqD_none_none, eqD_none_bool, eqD_none_int, eqD_none_str, eqD_none_list, eqD_none_tup, eqD_bool_none, eqD_bool_bool, eqD_bool_int, eqD_bool_str, eqD_bool_list, eqD_bool_tup, eqD_int_none, eqD_int_bool, eqD_int_int, eqD_int_str, eqD_int_list, eqD_int_tup, eqD_str_none, eqD_str_bool, eqD_str_int, eqD_str_str, eqD_str_list, eqD_str_tup, eqD_list_none, eqD_list_bool, eqD_list_int, eqD_list_str, eqD_list_list, eqD_list_tup, eqD_tup_none, eqD_tup_bool, eqD_tup_int, eqD_tup_str, eqD_tup_list, eqD_tup_tup, eqDs_nn, eqDs_cc, eqDs_nc, eqDs_cn, List.map_cons, List.map_nil, List.map, List.cons_append, List.nil_append, List.replicate, List.length_cons, List.length_nil, Nat.reduceAdd, Nat.reduceSub, List.all_cons, List.all_nil, Bool.and_true, Bool.true_and, true_and, and_true, atI_map, ex_map, ex_some, List.length_map, beq_int, decide_eq_true_eq, if_true, if_false, Bool.false_eq_true, if_pos, reduceIte, at0, at1, at2, at3, dP, mCallX, mCallB, peekA, evA, evAs, eq_self, sRaise0, sRaise1, sTry, caught, unslot, unheld, mXArg, mXIs, runX, List.contains_cons, List.contains_nil, Slot.isExn, String.reduceBEq, ex_arg, ex_valB, Bool.or_false, Bool.false_or, Bool.or_true, Bool.true_or, Bool.not_false, Bool.not_true, mComp2, dGcd, ar__law_times]
  obtain ⟨hl, q⟩ := h
  have hln := hl.len
  have hz : (2000 : Nat) ≤ LINE := by decide
  refine ⟨by decide, ?_⟩
  refine forL_ix _ (fun n st => ∃ x : Slot, n ≤ l.length ∧ st = ⟨[.val (.list (l.map D.int)), .val (tM (tb (l.take n))), x], w⟩) ?_ ?_ _ ⟨.gone, Nat.zero_le _, rfl⟩
  · rintro n d _ hd ⟨x, hn, rfl⟩ K hK
    obtain ⟨c, hc, rfl⟩ : ∃ c, l[n]? = some c ∧ d = .int c := by
      rw [List.getElem?_map] at hd
      cases e : l[n]? with
      | none => rw [e] at hd; cases hd
      | some c => rw [e] at hd; cases hd; exact ⟨c, rfl, rfl⟩
    obtain ⟨hn', hce⟩ := List.getElem?_eq_some_iff.mp hc
    have et : l.take (n + 1) = l.take n ++ [c] := by rw [List.take_succ_eq_append_getElem hn', hce]
    have hot := tb_ok (hl.take n)
    have hcl := Minus.all_log (hl.all c (List.mem_of_getElem? hc))
    rw [et, tb_snoc'] at hK
    generalize tb (l.take n) = m at *
    have hk : Minus.K0 = 12000 := rfl
    have hm : okL (Mn c) := ⟨by show c.natAbs.log2 < 400000; omega, lgm, lg1, lg0⟩
    simp only [run, runF, DL.get, DL.put, puts, back, mC, mVar, mFzV, mFeed, frz, msN, msC, mBin, mUn, dAdd, dSub, dMul, dDiv, dMod, dPow, dNeg, dCmp, dLt, dLe, dGt, dGe, dEq, dNe, dIn, dIsN, dIsNotN, isN, dIs, dIsNot, dTab, flatD, okT, truth, tV, tB, tAnd, tOr, tNot, mAnd, mOr, mNot, mIf, mChain, mList, mTup, dIx, mSl, oN, oS, mRev, mRevTo, mCall, mCallF, dLen, dAbs, dInt, dMin2, dMax2, dList, dTup, dSum, dMin, dMax, dMinG, dMaxG, dAll, isTy, mIsI, gV, gSkip, gsN, gsC, gT, srcV, srcR1, srcR2, srcEnum, srcRev, mComp, tYes, isS, isL, mMS, mML, dIndexS, dIndexL, dIndexFrom, mMS2, dCount, dSplit, dJoin, sNil, sSeq, sSet, sAsg, sPar, sRet, retK, sRetN, sIf, sPass, sBrk, sCont, sNever, sExpr, sAug, ownAt, feedAt, intD, sApp, sExt, sSetI, sAugI, sFeed, sFeedA, popD, sPop, sAddPop, sFor, DL.W.set, DL.W.at, DL.R.d, okD, eqD_none_none, eqD_none_bool, eqD_none_int, eqD_none_str, eqD_none_list, eqD_none_tup, eqD_bool_none, eqD_bool_bool, eqD_bool_int, eqD_bool_str, eqD_bool_list, eqD_bool_tup, eqD_int_none, eqD_int_bool, eqD_int_int, eqD_int_str, eqD_int_list, eqD_int_tup, eqD_str_none, eqD_str_bool, eqD_str_int, eqD_str_str, eqD_str_list, eqD_str_tup, eqD_list_none, eqD_list_bool, eqD_list_int, eqD_list_str, eqD_list_list, eqD_list_tup, eqD_tup_none, eqD_tup_bool, eqD_tup_int, eqD_tup_str, eqD_tup_list, eqD_tup_tup, eqDs_nn, eqDs_cc, eqDs_nc, eqDs_cn, List.map_cons, List.map_nil, List.map, List.cons_append, List.nil_append, List.replicate, List.length_cons, List.length_nil, Nat.reduceAdd, Nat.reduceSub, List.all_cons, List.all_nil, Bool.and_true, Bool.true_and, true_and, and_true, atI_map, ex_map, ex_some, List.length_map, beq_int, decide_eq_true_eq, if_true, if_false, Bool.false_eq_true, if_pos, reduceIte, at0, at1, at2, at3, dP, mCallX, mCallB, peekA, evA, evAs, eq_self, sRaise0, sRaise1, sTry, caught, unslot, unheld, mXArg, mXIs, runX, List.contains_cons, List.contains_nil, Slot.isExn, String.reduceBEq, ex_arg, ex_valB, Bool.or_false, Bool.false_or, Bool.or_true, Bool.true_or, Bool.not_false, Bool.not_true, mComp2, dGcd, ar__law_times]
    exact ⟨by decide, hot, hm, hK _ ⟨_, hn', rfl⟩⟩
  · rintro _ ⟨x, hn, rfl⟩
    simp only [run, runF, DL.get, DL.put, puts, back, mC, mVar, mFzV, mFeed, frz, msN, msC, mBin, mUn, dAdd, dSub, dMul, dDiv, dMod, dPow, dNeg, dCmp, dLt, dLe, dGt, dGe, dEq, dNe, dIn, dIsN, dIsNotN, isN, dIs, dIsNot, dTab, flatD, okT, truth, tV, tB, tAnd, tOr, tNot, mAnd, mOr, mNot, mIf, mChain, mList, mTup, dIx, mSl, oN, oS, mRev, mRevTo, mCall, mCallF, dLen, dAbs, dInt, dMin2, dMax2, dList, dTup, dSum, dMin, dMax, dMinG, dMaxG, dAll, isTy, mIsI, gV, gSkip, gsN, gsC, gT, srcV, srcR1, srcR2, srcEnum, srcRev, mComp, tYes, isS, isL, mMS, mML, dIndexS, dIndexL, dIndexFrom, mMS2, dCount, dSplit, dJoin, sNil, sSeq, sSet, sAsg, sPar, sRet, retK, sRetN, sIf, sPass, sBrk, sCont, sNever, sExpr, sAug, ownAt, feedAt, intD, sApp, sExt, sSetI, sAugI, sFeed, sFeedA, popD, sPop, sAddPop, sFor, DL.W.set, DL.W.at, DL.R.d, okD, eqD_none_none, eqD_none_bool, eqD_none_int, eqD_none_str, eqD_none_list, eqD_none_tup, eqD_bool_none, eqD_bool_bool, eqD_bool_int, eqD_bool_str, eqD_bool_list, eqD_bool_tup, eqD_int_none, eqD_int_bool, eqD_int_int, eqD_int_str, eqD_int_list, eqD_int_tup, eqD_str_none, eqD_str_bool, eqD_str_int, eqD_str_str, eqD_str_list, eqD_str_tup, eqD_list_none, eqD_list_bool, eqD_list_int, eqD_list_str, eqD_list_list, eqD_list_tup, eqD_tup_none, eqD_tup_bool, eqD_tup_int, eqD_tup_str, eqD_tup_list, eqD_tup_tup, eqDs_nn, eqDs_cc, eqDs_nc, eqDs_cn, List.map_cons, List.map_nil, List.map, List.cons_append, List.nil_append, List.replicate, List.length_cons, List.length_nil, Nat.reduceAdd, Nat.reduceSub, List.all_cons, List.all_nil, Bool.and_true, Bool.true_and, true_and, and_true, atI_map, ex_map, ex_some, List.length_map, beq_int, decide_eq_true_eq, if_true, if_false, Bool.false_eq_true, if_pos, reduceIte, at0, at1, at2, at3, dP, mCallX, mCallB, peekA, evA, evAs, eq_self, sRaise0, sRaise1, sTry, caught, unslot, unheld, mXArg, mXIs, runX, List.contains_cons, List.contains_nil, Slot.isExn, String.reduceBEq, ex_arg, ex_valB, Bool.or_false, Bool.false_or, Bool.or_true, Bool.true_or, Bool.not_false, Bool.not_true, mComp2, dGcd]
    rw [List.take_length]
    exact q

theorem tM_eq (A B : M4) : eqD (tM A) (tM B) = decide (A = B) := by
  obtain ⟨a, b, c, d⟩ := A
  obtain ⟨e, f, g, h⟩ := B
  show eqD (.tup ([a, b, c, d].map D.int)) (.tup ([e, f, g, h].map D.int)) = _
  rw [eqD_tup_tup, eqDs_ints]
  exact decide_eq_decide.mpr (by rw [M4.mk.injEq]; simp)
theorem tM_any (G : List M4) (X : M4) : ((G.map tM).any fun d => eqD d (tM X)) = decide (X ∈ G) := by
  induction G with
  | nil => rfl
  | cons A G ih =>
    rw [List.map_cons, List.any_cons, ih, tM_eq, Bool.eq_iff_iff]
    simp only [Bool.or_eq_true, decide_eq_true_eq, List.mem_cons]
    exact ⟨fun h => h.elim (fun e => .inl e.symm) .inr, fun h => h.elim (fun e => .inl e.symm) .inr⟩
def shp : Nat → D → Prop
  | 0, d => ∃ i : Int, d = .int i
  | n + 1, d => (∃ i : Int, d = .int i) ∨ ∃ es : List D, (d = .list es ∨ d = .tup es) ∧ es.length ≤ 4000 ∧ ∀ e ∈ es, shp n e
def spec__law_same : Nat → Sem
  | 0 => fun _ _ _ => False
  | k + 1 => fun ds w Q => ∃ d : D, ds = [d, d] ∧ shp k d ∧ Q (.val (.bool true)) w
theorem ar__law_same (d e : D) (w : W) (Q : R → W → Prop) : ar 2 (spec__law_same 6) [d, e] w Q = (e = d ∧ shp 5 d ∧ Q (.val (.bool true)) w) := by
  apply propext
  constructor
  · rintro ⟨_, d', e, h1, h2⟩
    simp only [List.cons.injEq, and_true] at e
    obtain ⟨rfl, rfl⟩ := e
    exact ⟨rfl, h1, h2⟩
  · rintro ⟨rfl, h1, h2⟩
    exact ⟨rfl, _, rfl, h1, h2⟩
theorem same_next (k : Nat) (d : D) (w : W) (Q : R → W → Prop) (h : shp k d) (q : Q (.val (.bool true)) w) : ar 2 (spec__law_same (k + 1)) [d, d] w Q := ⟨rfl, d, rfl, h, q⟩
theorem vc__law_same : ∀ j ds w Q, spec__law_same (j + 1) ds w Q → run 3 (b__law_same (ar 2 (spec__law_same j))) ds w Q := by
  rintro j ds w Q ⟨d, rfl, h, q⟩
  unfold b__law_same
  have hz : (2000000 : Nat) ≤ LINE := by decide
  have hint : ∀ i : Int, run 3 (b__law_same (ar 2 (spec__law_same j))) [.int i, .int i] w Q := fun i => by
    unfold b__law_same
    simp only [run, runF, DL.get, DL.put, puts, back, mC, mVar, mFzV, mFeed, frz, msN, msC, mBin, mUn, dAdd, dSub, dMul, dDiv, dMod, dPow, dNeg, dCmp, dLt, dLe, dGt, dGe, dEq, dNe, dIn, dIsN, dIsNotN, isN, dIs, dIsNot, dTab, flatD, okT, truth, tV, tB, tAnd, tOr, tNot, mAnd, mOr, mNot, mIf, mChain, mList, mTup, dIx, mSl, oN, oS, mRev, mRevTo, mCall, mCallF, dLen, dAbs, dInt, dMin2, dMax2, dList, dTup, dSum, dMin, dMax, dMinG, dMaxG, dAll, isTy, mIsI, gV, gSkip, gsN, gsC, gT, srcV, srcR1, srcR2, srcEnum, srcRev, mComp, tYes, isS, isL, mMS, mML, dIndexS, dIndexL, dIndexFrom, mMS2, dCount, dSplit, dJoin, sNil, sSeq, sSet, sAsg, sPar, sRet, retK, sRetN, sIf, sPass, sBrk, sCont, sNever, sExpr, sAug, ownAt, feedAt, intD, sApp, sExt, sSetI, sAugI, sFeed, sFeedA, popD, sPop, sAddPop, sFor, DL.W.set, DL.W.at, DL.R.d, okD, eqD_none_none, eqD_none_bool, eqD_none_int, eqD_none_str, eqD_none_list, eqD_none_tup, eqD_bool_none, eqD_bool_bool, eqD_bool_int, eqD_bool_str, eqD_bool_list, eqD_bool_tup, eqD_int_none, eqD_int_bool, eqD_int_int, eqD_int_str, eqD_int_list, eqD_int_tup, eqD_str_none, eqD_str_bool, eqD_str_int, eqD_str_str, eqD_str_list, eqD_str_tup, eqD_list_none, eqD_list_bool, eqD_list_int, eqD_list_str, eqD_list_list, eqD_list_tup, eqD_tup_none, eqD_tup_bool, eqD_tup_int, eqD_tup_str, eqD_tup_list, eqD_tup_tup, eqDs_nn, eqDs_cc, eqDs_nc, eqDs_cn, List.map_cons, List.map_nil, List.map, List.cons_append, List.nil_append, List.replicate, List.length_cons, List.length_nil, Nat.reduceAdd, Nat.reduceSub, List.all_cons, List.all_nil, Bool.and_true, Bool.true_and, true_and, and_true, atI_map, ex_map, ex_some, List.length_map, beq_int, decide_eq_true_eq, if_true, if_false, Bool.false_eq_true, if_pos, reduceIte, at0, at1, at2, at3, dP, mCallX, mCallB, peekA, evA, evAs, eq_self, sRaise0, sRaise1, sTry, caught, unslot, unheld, mXArg, mXIs, runX, List.contains_cons, List.contains_nil, Slot.isExn, String.reduceBEq, ex_arg, ex_valB, Bool.or_false, Bool.false_or, Bool.or_true, Bool.true_or, Bool.not_false, Bool.not_true, mComp2, dGcd]
    exact q
  cases j with
  | zero =>
    obtain ⟨i, rfl⟩ := h
    have := hint i
    unfold b__law_same at this
    exact this
  | succ n =>
    rcases h with ⟨i, rfl⟩ | ⟨es, rfl | rfl, hl, hes⟩
    · have := hint i
      unfold b__law_same at this
      exact this
    · simp only [run, runF, DL.get, DL.put, puts, back, mC, mVar, mFzV, mFeed, frz, msN, msC, mBin, mUn, dAdd, dSub, dMul, dDiv, dMod, dPow, dNeg, dCmp, dLt, dLe, dGt, dGe, dEq, dNe, dIn, dIsN, dIsNotN, isN, dIs, dIsNot, dTab, flatD, okT, truth, tV, tB, tAnd, tOr, tNot, mAnd, mOr, mNot, mIf, mChain, mList, mTup, dIx, mSl, oN, oS, mRev, mRevTo, mCall, mCallF, dLen, dAbs, dInt, dMin2, dMax2, dList, dTup, dSum, dMin, dMax, dMinG, dMaxG, dAll, isTy, mIsI, gV, gSkip, gsN, gsC, gT, srcV, srcR1, srcR2, srcEnum, srcRev, mComp, tYes, isS, isL, mMS, mML, dIndexS, dIndexL, dIndexFrom, mMS2, dCount, dSplit, dJoin, sNil, sSeq, sSet, sAsg, sPar, sRet, retK, sRetN, sIf, sPass, sBrk, sCont, sNever, sExpr, sAug, ownAt, feedAt, intD, sApp, sExt, sSetI, sAugI, sFeed, sFeedA, popD, sPop, sAddPop, sFor, DL.W.set, DL.W.at, DL.R.d, okD, eqD_none_none, eqD_none_bool, eqD_none_int, eqD_none_str, eqD_none_list, eqD_none_tup, eqD_bool_none, eqD_bool_bool, eqD_bool_int, eqD_bool_str, eqD_bool_list, eqD_bool_tup, eqD_int_none, eqD_int_bool, eqD_int_int, eqD_int_str, eqD_int_list, eqD_int_tup, eqD_str_none, eqD_str_bool, eqD_str_int, eqD_str_str, eqD_str_list, eqD_str_tup, eqD_list_none, eqD_list_bool, eqD_list_int, eqD_list_str, eqD_list_list, eqD_list_tup, eqD_tup_none, eqD_tup_bool, eqD_tup_int, eqD_tup_str, eqD_tup_list, eqD_tup_tup, eqDs_nn, eqDs_cc, eqDs_nc, eqDs_cn, List.map_cons, List.map_nil, List.map, List.cons_append, List.nil_append, List.replicate, List.length_cons, List.length_nil, Nat.reduceAdd, Nat.reduceSub, List.all_cons, List.all_nil, Bool.and_true, Bool.true_and, true_and, and_true, atI_map, ex_map, ex_some, List.length_map, beq_int, decide_eq_true_eq, if_true, if_false, Bool.false_eq_true, if_pos, reduceIte, at0, at1, at2, at3, dP, mCallX, mCallB, peekA, evA, evAs, eq_self, sRaise0, sRaise1, sTry, caught, unslot, unheld, mXArg, mXIs, runX, List.contains_cons, List.contains_nil, Slot.isExn, String.reduceBEq, ex_arg, ex_valB, Bool.or_false, Bool.false_or, Bool.or_true, Bool.true_or, Bool.not_false, Bool.not_true, mComp2, dGcd]
      rw [if_neg (by decide), if_neg (by decide)]
      refine ⟨by omega, ?_⟩
      rw [Int.toNat_natCast]
      refine compL_f _ (fun _ => .bool true) (fun st => ∃ x, st = ⟨[.val (.list es), .val (.list es), x], w⟩) ⟨_, rfl⟩ (by rw [ran_len]; omega) ?_ ?_
      · rintro d _ hd ⟨x, rfl⟩ C K hC hK
        obtain ⟨i, hi⟩ := List.getElem?_of_mem hd
        obtain ⟨hi', rfl⟩ := ran_get hi
        rw [Int.zero_add]
        have hg : atI es (i : Int) = some (es[i]'hi') := by rw [atI_at (by omega) (by rw [Int.toNat_natCast]; exact List.getElem?_eq_getElem hi')]
        simp only [run, runF, DL.get, DL.put, puts, back, mC, mVar, mFzV, mFeed, frz, msN, msC, mBin, mUn, dAdd, dSub, dMul, dDiv, dMod, dPow, dNeg, dCmp, dLt, dLe, dGt, dGe, dEq, dNe, dIn, dIsN, dIsNotN, isN, dIs, dIsNot, dTab, flatD, okT, truth, tV, tB, tAnd, tOr, tNot, mAnd, mOr, mNot, mIf, mChain, mList, mTup, dIx, mSl, oN, oS, mRev, mRevTo, mCall, mCallF, dLen, dAbs, dInt, dMin2, dMax2, dList, dTup, dSum, dMin, dMax, dMinG, dMaxG, dAll, isTy, mIsI, gV, gSkip, gsN, gsC, gT, srcV, srcR1, srcR2, srcEnum, srcRev, mComp, tYes, isS, isL, mMS, mML, dIndexS, dIndexL, dIndexFrom, mMS2, dCount, dSplit, dJoin, sNil, sSeq, sSet, sAsg, sPar, sRet, retK, sRetN, sIf, sPass, sBrk, sCont, sNever, sExpr, sAug, ownAt, feedAt, intD, sApp, sExt, sSetI, sAugI, sFeed, sFeedA, popD, sPop, sAddPop, sFor, DL.W.set, DL.W.at, DL.R.d, okD, eqD_none_none, eqD_none_bool, eqD_none_int, eqD_none_str, eqD_none_list, eqD_none_tup, eqD_bool_none, eqD_bool_bool, eqD_bool_int, eqD_bool_str, eqD_bool_list, eqD_bool_tup, eqD_int_none, eqD_int_bool, eqD_int_int, eqD_int_str, eqD_int_list, eqD_int_tup, eqD_str_none, eqD_str_bool, eqD_str_int, eqD_str_str, eqD_str_list, eqD_str_tup, eqD_list_none, eqD_list_bool, eqD_list_int, eqD_list_str, eqD_list_list, eqD_list_tup, eqD_tup_none, eqD_tup_bool, eqD_tup_int, eqD_tup_str, eqD_tup_list, eqD_tup_tup, eqDs_nn, eqDs_cc, eqDs_nc, eqDs_cn, List.map_cons, List.map_nil, List.map, List.cons_append, List.nil_append, List.replicate, List.length_cons, List.length_nil, Nat.reduceAdd, Nat.reduceSub, List.all_cons, List.all_nil, Bool.and_true, Bool.true_and, true_and, and_true, atI_map, ex_map, ex_some, List.length_map, beq_int, decide_eq_true_eq, if_true, if_false, Bool.false_eq_true, if_pos, reduceIte, at0, at1, at2, at3, dP, mCallX, mCallB, peekA, evA, evAs, eq_self, sRaise0, sRaise1, sTry, caught, unslot, unheld, mXArg, mXIs, runX, List.contains_cons, List.contains_nil, Slot.isExn, String.reduceBEq, ex_arg, ex_valB, Bool.or_false, Bool.false_or, Bool.or_true, Bool.true_or, Bool.not_false, Bool.not_true, mComp2, dGcd]
        refine ⟨_, hg, _, hg, ?_⟩
        exact same_next n _ _ _ (hes _ (List.getElem_mem hi')) ⟨hC, hK _ ⟨_, rfl⟩⟩
      · rintro _ ⟨x, rfl⟩
        refine ⟨List.replicate es.length true, ?_, ?_⟩
        · rw [List.map_replicate, List.map_const', ran_len]
        · rw [List.all_replicate]
          simpa using q
    · simp only [run, runF, DL.get, DL.put, puts, back, mC, mVar, mFzV, mFeed, frz, msN, msC, mBin, mUn, dAdd, dSub, dMul, dDiv, dMod, dPow, dNeg, dCmp, dLt, dLe, dGt, dGe, dEq, dNe, dIn, dIsN, dIsNotN, isN, dIs, dIsNot, dTab, flatD, okT, truth, tV, tB, tAnd, tOr, tNot, mAnd, mOr, mNot, mIf, mChain, mList, mTup, dIx, mSl, oN, oS, mRev, mRevTo, mCall, mCallF, dLen, dAbs, dInt, dMin2, dMax2, dList, dTup, dSum, dMin, dMax, dMinG, dMaxG, dAll, isTy, mIsI, gV, gSkip, gsN, gsC, gT, srcV, srcR1, srcR2, srcEnum, srcRev, mComp, tYes, isS, isL, mMS, mML, dIndexS, dIndexL, dIndexFrom, mMS2, dCount, dSplit, dJoin, sNil, sSeq, sSet, sAsg, sPar, sRet, retK, sRetN, sIf, sPass, sBrk, sCont, sNever, sExpr, sAug, ownAt, feedAt, intD, sApp, sExt, sSetI, sAugI, sFeed, sFeedA, popD, sPop, sAddPop, sFor, DL.W.set, DL.W.at, DL.R.d, okD, eqD_none_none, eqD_none_bool, eqD_none_int, eqD_none_str, eqD_none_list, eqD_none_tup, eqD_bool_none, eqD_bool_bool, eqD_bool_int, eqD_bool_str, eqD_bool_list, eqD_bool_tup, eqD_int_none, eqD_int_bool, eqD_int_int, eqD_int_str, eqD_int_list, eqD_int_tup, eqD_str_none, eqD_str_bool, eqD_str_int, eqD_str_str, eqD_str_list, eqD_str_tup, eqD_list_none, eqD_list_bool, eqD_list_int, eqD_list_str, eqD_list_list, eqD_list_tup, eqD_tup_none, eqD_tup_bool, eqD_tup_int, eqD_tup_str, eqD_tup_list, eqD_tup_tup, eqDs_nn, eqDs_cc, eqDs_nc, eqDs_cn, List.map_cons, List.map_nil, List.map, List.cons_append, List.nil_append, List.replicate, List.length_cons, List.length_nil, Nat.reduceAdd, Nat.reduceSub, List.all_cons, List.all_nil, Bool.and_true, Bool.true_and, true_and, and_true, atI_map, ex_map, ex_some, List.length_map, beq_int, decide_eq_true_eq, if_true, if_false, Bool.false_eq_true, if_pos, reduceIte, at0, at1, at2, at3, dP, mCallX, mCallB, peekA, evA, evAs, eq_self, sRaise0, sRaise1, sTry, caught, unslot, unheld, mXArg, mXIs, runX, List.contains_cons, List.contains_nil, Slot.isExn, String.reduceBEq, ex_arg, ex_valB, Bool.or_false, Bool.false_or, Bool.or_true, Bool.true_or, Bool.not_false, Bool.not_true, mComp2, dGcd]
      rw [if_neg (by decide), if_neg (by decide)]
      refine ⟨by omega, ?_⟩
      rw [Int.toNat_natCast]
      refine compL_f _ (fun _ => .bool true) (fun st => ∃ x, st = ⟨[.val (.tup es), .val (.tup es), x], w⟩) ⟨_, rfl⟩ (by rw [ran_len]; omega) ?_ ?_
      · rintro d _ hd ⟨x, rfl⟩ C K hC hK
        obtain ⟨i, hi⟩ := List.getElem?_of_mem hd
        obtain ⟨hi', rfl⟩ := ran_get hi
        rw [Int.zero_add]
        have hg : atI es (i : Int) = some (es[i]'hi') := by rw [atI_at (by omega) (by rw [Int.toNat_natCast]; exact List.getElem?_eq_getElem hi')]
        simp only [run, runF, DL.get, DL.put, puts, back, mC, mVar, mFzV, mFeed, frz, msN, msC, mBin, mUn, dAdd, dSub, dMul, dDiv, dMod, dPow, dNeg, dCmp, dLt, dLe, dGt, dGe, dEq, dNe, dIn, dIsN, dIsNotN, isN, dIs, dIsNot, dTab, flatD, okT, truth, tV, tB, tAnd, tOr, tNot, mAnd, mOr, mNot, mIf, mChain, mList, mTup, dIx, mSl, oN, oS, mRev, mRevTo, mCall, mCallF, dLen, dAbs, dInt, dMin2, dMax2, dList, dTup, dSum, dMin, dMax, dMinG, dMaxG, dAll, isTy, mIsI, gV, gSkip, gsN, gsC, gT, srcV, srcR1, srcR2, srcEnum, srcRev, mComp, tYes, isS, isL, mMS, mML, dIndexS, dIndexL, dIndexFrom, mMS2, dCount, dSplit, dJoin, sNil, sSeq, sSet, sAsg, sPar, sRet, retK, sRetN, sIf, sPass, sBrk, sCont, sNever, sExpr, sAug, ownAt, feedAt, intD, sApp, sExt, sSetI, sAugI, sFeed, sFeedA, popD, sPop, sAddPop, sFor, DL.W.set, DL.W.at, DL.R.d, okD, eqD_none_none, eqD_none_bool, eqD_none_int, eqD_none_str, eqD_none_list, eqD_none_tup, eqD_bool_none, eqD_bool_bool, eqD_bool_int, eqD_bool_str, eqD_bool_list, eqD_bool_tup, eqD_int_none, eqD_int_bool, eqD_int_int, eqD_int_str, eqD_int_list, eqD_int_tup, eqD_str_none, eqD_str_bool, eqD_str_int, eqD_str_str, eqD_str_list, eqD_str_tup, eqD_list_none, eqD_list_bool, eqD_list_int, eqD_list_str, eqD_list_list, eqD_list_tup, eqD_tup_none, eqD_tup_bool, eqD_tup_int, eqD_tup_str, eqD_tup_list, eqD_tup_tup, eqDs_nn, eqDs_cc, eqDs_nc, eqDs_cn, List.map_cons, List.map_nil, List.map, List.cons_append, List.nil_append, List.replicate, List.length_cons, List.length_nil, Nat.reduceAdd, Nat.reduceSub, List.all_cons, List.all_nil, Bool.and_true, Bool.true_and, true_and, and_true, atI_map, ex_map, ex_some, List.length_map, beq_int, decide_eq_true_eq, if_true, if_false, Bool.false_eq_true, if_pos, reduceIte, at0, at1, at2, at3, dP, mCallX, mCallB, peekA, evA, evAs, eq_self, sRaise0, sRaise1, sTry, caught, unslot, unheld, mXArg, mXIs, runX, List.contains_cons, List.contains_nil, Slot.isExn, String.reduceBEq, ex_arg, ex_valB, Bool.or_false, Bool.false_or, Bool.or_true, Bool.true_or, Bool.not_false, Bool.not_true, mComp2, dGcd]
        refine ⟨_, hg, _, hg, ?_⟩
        exact same_next n _ _ _ (hes _ (List.getElem_mem hi')) ⟨hC, hK _ ⟨_, rfl⟩⟩
      · rintro _ ⟨x, rfl⟩
        refine ⟨List.replicate es.length true, ?_, ?_⟩
        · rw [List.map_replicate, List.map_const', ran_len]
        · rw [List.all_replicate]
          simpa using q
def spec__law_drawn : Sem := fun ds w Q => ∃ (most : Int), ds = [.int most] ∧ most = 11 ∧ Wok w ∧ ∀ (r : List Int) (w' : W), 0 < r.length → r.length ≤ 11 → (∀ x ∈ r, x.natAbs ≤ 99) → Wok w' → Q (.own (r.map D.int)) w'
theorem ar__law_drawn (most : Int) (w : W) (Q : R → W → Prop) : ar 1 spec__law_drawn [.int most] w Q = (most = 11 ∧ Wok w ∧ ∀ (r : List Int) (w' : W), 0 < r.length → r.length ≤ 11 → (∀ x ∈ r, x.natAbs ≤ 99) → Wok w' → Q (.own (r.map D.int)) w') := by
  apply propext
  constructor
  · rintro ⟨_, most', e, h⟩
    simp only [List.cons.injEq, D.str.injEq, D.int.injEq, D.bool.injEq, D.tup.injEq, D.list.injEq, mapInt_inj, Int.natCast_inj, and_true, and_assoc] at e
    first | (obtain rfl := e; exact h) | (obtain ⟨rfl, _⟩ := e; exact h)
  · intro h
    exact ⟨rfl, most, rfl, h⟩
theorem vc__law_drawn : ∀ ds w Q, spec__law_drawn ds w Q → runF 4 (b__law_drawn (ar 1 spec__law_draw)) ds w Q := by
  rintro ds w Q ⟨most, rfl, h⟩
  unfold b__law_drawn
  simp only [run, runF, DL.get, DL.put, puts, back, mC, mVar, mFzV, mFeed, frz, msN, msC, mBin, mUn, dAdd, dSub, dMul, dDiv, dMod, dPow, dNeg, dCmp, dLt, dLe, dGt, dGe, dEq, dNe, dIn, dIsN, dIsNotN, isN, dIs, dIsNot, dTab, flatD, okT, truth, tV, tB, tAnd, tOr, tNot, mAnd, mOr, mNot, mIf, mChain, mList, mTup, dIx, mSl, oN, oS, mRev, mRevTo, mCall, mCallF, dLen, dAbs, dInt, dMin2, dMax2, dList, dTup, dSum, dMin, dMax, dMinG, dMaxG, dAll, isTy, mIsI, gV, gSkip, gsN, gsC, gT, srcV, srcR1, srcR2, srcEnum, srcRev, mComp, tYes, isS, isL, mMS, mML, dIndexS, dIndexL, dIndexFrom, mMS2, dCount, dSplit, dJoin, sNil, sSeq, sSet, sAsg, sPar, sRet, retK, sRetN, sIf, sPass, sBrk, sCont, sNever, sExpr, sAug, ownAt, feedAt, intD, sApp, sExt, sSetI, sAugI, sFeed, sFeedA, popD, sPop, sAddPop, sFor, DL.W.set, DL.W.at, DL.R.d, okD, eqD_none_none, eqD_none_bool, eqD_none_int, eqD_none_str, eqD_none_list, eqD_none_tup, eqD_bool_none, eqD_bool_bool, eqD_bool_int, eqD_bool_str, eqD_bool_list, eqD_bool_tup, eqD_int_none, eqD_int_bool, eqD_int_int, eqD_int_str, eqD_int_list, eqD_int_tup, eqD_str_none, eqD_str_bool, eqD_str_int, eqD_str_str, eqD_str_list, eqD_str_tup, eqD_list_none, eqD_list_bool, eqD_list_int, eqD_list_str, eqD_list_list, eqD_list_tup, eqD_tup_none, eqD_tup_bool, eqD_tup_int, eqD_tup_str, eqD_tup_list, eqD_tup_tup, eqDs_nn, eqDs_cc, eqDs_nc, eqDs_cn, List.map_cons, List.map_nil, List.map, List.cons_append, List.nil_append, List.replicate, List.length_cons, List.length_nil, Nat.reduceAdd, Nat.reduceSub, List.all_cons, List.all_nil, Bool.and_true, Bool.true_and, true_and, and_true, atI_map, ex_map, ex_some, List.length_map, beq_int, decide_eq_true_eq, if_true, if_false, Bool.false_eq_true, if_pos, reduceIte, at0, at1, at2, at3, dP, mCallX, mCallB, peekA, evA, evAs, eq_self, sRaise0, sRaise1, sTry, caught, unslot, unheld, mXArg, mXIs, runX, List.contains_cons, List.contains_nil, Slot.isExn, String.reduceBEq, ex_arg, ex_valB, Bool.or_false, Bool.false_or, Bool.or_true, Bool.true_or, Bool.not_false, Bool.not_true, mComp2, dGcd, ar__law_draw]
  obtain ⟨rfl, hw, q⟩ := h
  have hz : (2000 : Nat) ≤ LINE := by decide
  refine ⟨by omega, by decide, by decide, hw, fun t w1 t0 t3 hw1 => ?_⟩
  have go : ∀ top : Int, 0 < top → top ≤ 99 → 0 < (11 : Int) ∧ (11 : Int) ≤ 1000000 ∧ Wok w1 ∧ ∀ (r : Int) (w' : W), 0 ≤ r → r < 11 → Wok w' → (-2 ^ 62 ≤ 1 + r ∧ 1 + r < 2 ^ 62) ∧
      compL [3] (gV 3) tYes (mBin dAdd (mC (.int 1)) (mCallF (ar 1 spec__law_draw) 0 (msC (mFzV 2) msN))) (ran 0 (1 + r).toNat) [] ⟨[.feed, .val (.int 11), .val (.int top), .gone], w'⟩ fun acc s2 => Q (.own acc) s2.w := fun top p0 p1 => by
    refine ⟨by decide, by decide, hw1, fun n w2 n0 n1 hw2 => ⟨by omega, ?_⟩⟩
    refine compL_ix _ _ _ (fun k acc st => ∃ (l : List Int) (d : Slot) (w' : W), acc = l.map D.int ∧ l.length = k ∧ (∀ x ∈ l, x.natAbs ≤ 99) ∧ Wok w' ∧ st = ⟨[.feed, .val (.int 11), .val (.int top), d], w'⟩) ⟨[], _, w2, rfl, rfl, fun x h => (by cases h), hw2, rfl⟩ ?_ ?_
    · rintro k d acc _ hd ⟨l, e, w', rfl, hl, hb, hw', rfl⟩ K hK
      obtain ⟨hk, rfl⟩ := ran_get hd
      simp only [run, runF, DL.get, DL.put, puts, back, mC, mVar, mFzV, mFeed, frz, msN, msC, mBin, mUn, dAdd, dSub, dMul, dDiv, dMod, dPow, dNeg, dCmp, dLt, dLe, dGt, dGe, dEq, dNe, dIn, dIsN, dIsNotN, isN, dIs, dIsNot, dTab, flatD, okT, truth, tV, tB, tAnd, tOr, tNot, mAnd, mOr, mNot, mIf, mChain, mList, mTup, dIx, mSl, oN, oS, mRev, mRevTo, mCall, mCallF, dLen, dAbs, dInt, dMin2, dMax2, dList, dTup, dSum, dMin, dMax, dMinG, dMaxG, dAll, isTy, mIsI, gV, gSkip, gsN, gsC, gT, srcV, srcR1, srcR2, srcEnum, srcRev, mComp, tYes, isS, isL, mMS, mML, dIndexS, dIndexL, dIndexFrom, mMS2, dCount, dSplit, dJoin, sNil, sSeq, sSet, sAsg, sPar, sRet, retK, sRetN, sIf, sPass, sBrk, sCont, sNever, sExpr, sAug, ownAt, feedAt, intD, sApp, sExt, sSetI, sAugI, sFeed, sFeedA, popD, sPop, sAddPop, sFor, DL.W.set, DL.W.at, DL.R.d, okD, eqD_none_none, eqD_none_bool, eqD_none_int, eqD_none_str, eqD_none_list, eqD_none_tup, eqD_bool_none, eqD_bool_bool, eqD_bool_int, eqD_bool_str, eqD_bool_list, eqD_bool_tup, eqD_int_none, eqD_int_bool, eqD_int_int, eqD_int_str, eqD_int_list, eqD_int_tup, eqD_str_none, eqD_str_bool, eqD_str_int, eqD_str_str, eqD_str_list, eqD_str_tup, eqD_list_none, eqD_list_bool, eqD_list_int, eqD_list_str, eqD_list_list, eqD_list_tup, eqD_tup_none, eqD_tup_bool, eqD_tup_int, eqD_tup_str, eqD_tup_list, eqD_tup_tup, eqDs_nn, eqDs_cc, eqDs_nc, eqDs_cn, List.map_cons, List.map_nil, List.map, List.cons_append, List.nil_append, List.replicate, List.length_cons, List.length_nil, Nat.reduceAdd, Nat.reduceSub, List.all_cons, List.all_nil, Bool.and_true, Bool.true_and, true_and, and_true, atI_map, ex_map, ex_some, List.length_map, beq_int, decide_eq_true_eq, if_true, if_false, Bool.false_eq_true, if_pos, reduceIte, at0, at1, at2, at3, dP, mCallX, mCallB, peekA, evA, evAs, eq_self, sRaise0, sRaise1, sTry, caught, unslot, unheld, mXArg, mXIs, runX, List.contains_cons, List.contains_nil, Slot.isExn, String.reduceBEq, ex_arg, ex_valB, Bool.or_false, Bool.false_or, Bool.or_true, Bool.true_or, Bool.not_false, Bool.not_true, mComp2, dGcd, ar__law_draw]
      refine ⟨by omega, by omega, hw', fun v w'' v0 v1 hw'' => ⟨by omega, ?_⟩⟩
      rw [show [D.int (1 + v)] = [1 + v].map D.int from rfl, ← List.map_append]
      refine hK _ _ ⟨l ++ [1 + v], _, w'', rfl, by rw [List.length_append, hl]; rfl, fun x hx => ?_, hw'', rfl⟩
      rcases List.mem_append.mp hx with z | z
      · exact hb x z
      · rw [List.mem_singleton.mp z]
        omega
    · rintro acc _ ⟨l, e, w', rfl, hl, hb, hw', rfl⟩
      rw [ran_len] at hl
      exact q l w' (by omega) (by omega) hb hw'
  rcases (by omega : t = 0 ∨ t = 1 ∨ t = 2) with rfl | rfl | rfl
  · exact ⟨_, at0 _ _, go 3 (by decide) (by decide)⟩
  · exact ⟨_, at1 _ _ _, go 6 (by decide) (by decide)⟩
  · exact ⟨_, at2 _ _ _ _, go 99 (by decide) (by decide)⟩
def spec__law_put : Sem := fun ds w Q => ∃ (l : List Int) (g : Nat), ds = [.list (l.map D.int), .int g] ∧ 0 < l.length ∧ l.length ≤ 1000 ∧ g ≤ l.length ∧ Q (.own ((putG l g).map D.int)) w
theorem ar__law_put (l : List Int) (g : Nat) (w : W) (Q : R → W → Prop) : ar 2 spec__law_put [.list (l.map D.int), .int g] w Q = (0 < l.length ∧ l.length ≤ 1000 ∧ g ≤ l.length ∧ Q (.own ((putG l g).map D.int)) w) := by
  apply propext
  constructor
  · rintro ⟨_, l', g', e, h⟩
    simp only [List.cons.injEq, D.str.injEq, D.int.injEq, D.bool.injEq, D.tup.injEq, D.list.injEq, mapInt_inj, Int.natCast_inj, and_true, and_assoc] at e
    first | (obtain ⟨rfl, rfl⟩ := e; exact h) | (obtain ⟨rfl, rfl, _⟩ := e; exact h)
  · intro h
    exact ⟨rfl, l, g, rfl, h⟩
theorem vc__law_put : ∀ ds w Q, spec__law_put ds w Q → run 4 (b__law_put) ds w Q := by
  rintro ds w Q ⟨l, g, rfl, h⟩
  unfold b__law_put
  simp only [run, runF, DL.get, DL.put, puts, back, mC, mVar, mFzV, mFeed, frz, msN, msC, mBin, mUn, dAdd, dSub, dMul, dDiv, dMod, dPow, dNeg, dCmp, dLt, dLe, dGt, dGe, dEq, dNe, dIn, dIsN, dIsNotN, isN, dIs, dIsNot, dTab, flatD, okT, truth, tV, tB, tAnd, tOr, tNot, mAnd, mOr, mNot, mIf, mChain, mList, mTup, dIx, mSl, oN, oS, mRev, mRevTo, mCall, mCallF, dLen, dAbs, dInt, dMin2, dMax2, dList, dTup, dSum, dMin, dMax, dMinG, dMaxG, dAll, isTy, mIsI, gV, gSkip, gsN, gsC, gT, srcV, srcR1, srcR2, srcEnum, srcRev, mComp, tYes, isS, isL, mMS, mML, dIndexS, dIndexL, dIndexFrom, mMS2, dCount, dSplit, dJoin, sNil, sSeq, sSet, sAsg, sPar, sRet, retK, sRetN, sIf, sPass, sBrk, sCont, sNever, sExpr, sAug, ownAt, feedAt, intD, sApp, sExt, sSetI, sAugI, sFeed, sFeedA, popD, sPop, sAddPop, sFor, DL.W.set, DL.W.at, DL.R.d, okD, eqD_none_none, eqD_none_bool, eqD_none_int, eqD_none_str, eqD_none_list, eqD_none_tup, eqD_bool_none, eqD_bool_bool, eqD_bool_int, eqD_bool_str, eqD_bool_list, eqD_bool_tup, eqD_int_none, eqD_int_bool, eqD_int_int, eqD_int_str, eqD_int_list, eqD_int_tup, eqD_str_none, eqD_str_bool, eqD_str_int, eqD_str_str, eqD_str_list, eqD_str_tup, eqD_list_none, eqD_list_bool, eqD_list_int, eqD_list_str, eqD_list_list, eqD_list_tup, eqD_tup_none, eqD_tup_bool, eqD_tup_int, eqD_tup_str, eqD_tup_list, eqD_tup_tup, eqDs_nn, eqDs_cc, eqDs_nc, eqDs_cn, List.map_cons, List.map_nil, List.map, List.cons_append, List.nil_append, List.replicate, List.length_cons, List.length_nil, Nat.reduceAdd, Nat.reduceSub, List.all_cons, List.all_nil, Bool.and_true, Bool.true_and, true_and, and_true, atI_map, ex_map, ex_some, List.length_map, beq_int, decide_eq_true_eq, if_true, if_false, Bool.false_eq_true, if_pos, reduceIte, at0, at1, at2, at3, dP, mCallX, mCallB, peekA, evA, evAs, eq_self, sRaise0, sRaise1, sTry, caught, unslot, unheld, mXArg, mXIs, runX, List.contains_cons, List.contains_nil, Slot.isExn, String.reduceBEq, ex_arg, ex_valB, Bool.or_false, Bool.false_or, Bool.or_true, Bool.true_or, Bool.not_false, Bool.not_true, mComp2, dGcd]
  obtain ⟨h0, hl, hg, q⟩ := h
  have hz : (2000 : Nat) ≤ LINE := by decide
  have hj : (g + l.length - 1) % l.length < l.length := Nat.mod_lt _ h0
  have hm : g % l.length < l.length := Nat.mod_lt _ h0
  have e1 : ixN l.length ((g : Int) - 1) = some ((g + l.length - 1) % l.length) := by
    rcases Nat.lt_or_ge g l.length with z | z
    · exact ix_before z
    · have : g = l.length := by omega
      subst this
      rw [show l.length + l.length - 1 = (l.length - 1) + l.length by omega, Nat.add_mod_right, Nat.mod_eq_of_lt (by omega), show (l.length : Int) - 1 = ((l.length - 1 : Nat) : Int) by omega]
      exact ix_nat (by omega)
  refine ⟨_, _, e1, get_map hj, by omega, _, _, by rw [List.length_set, List.length_map, ← Int.natCast_emod]; exact ix_nat hm, by rw [set_add]; exact get_map (by rw [bump_len]; exact hm), ?_⟩
  rw [set_add, set_add, cut_to, cut_from, ← List.map_take, ← List.map_drop, show [D.int 1] = [1].map D.int from rfl, ← List.map_append, ← List.map_append]
  have ht : ((bump (bump l ((g + l.length - 1) % l.length) 1) (g % l.length) 1)).length = l.length := by rw [bump_len, bump_len]
  refine ⟨by omega, ?_, ?_, q⟩
  · rw [List.length_map, List.length_take, ht]
    omega
  · rw [List.length_map, List.length_map, List.length_append, List.length_take, List.length_drop, ht]
    simp only [List.length_cons, List.length_nil]
    omega
def spec__law_grown : Sem := fun ds w Q => ∃ (r : List Int) (most : Int), ds = [.list (r.map D.int), .int most] ∧ most = 11 ∧ 0 < r.length ∧ r.length ≤ 11 ∧ (∀ x ∈ r, x.natAbs ≤ 40) ∧ Wok w ∧ ∀ (r : List Int) (w' : W), 0 < r.length → r.length ≤ 11 → (∀ x ∈ r, x.natAbs ≤ 99) → Wok w' → Q (.own (r.map D.int)) w'
theorem ar__law_grown (r : List Int) (most : Int) (w : W) (Q : R → W → Prop) : ar 2 spec__law_grown [.list (r.map D.int), .int most] w Q = (most = 11 ∧ 0 < r.length ∧ r.length ≤ 11 ∧ (∀ x ∈ r, x.natAbs ≤ 40) ∧ Wok w ∧ ∀ (r : List Int) (w' : W), 0 < r.length → r.length ≤ 11 → (∀ x ∈ r, x.natAbs ≤ 99) → Wok w' → Q (.own (r.map D.int)) w') := by
  apply propext
  constructor
  · rintro ⟨_, r', most', e, h⟩
    simp only [List.cons.injEq, D.str.injEq, D.int.injEq, D.bool.injEq, D.tup.injEq, D.list.injEq, mapInt_inj, Int.natCast_inj, and_true, and_assoc] at e
    first | (obtain ⟨rfl, rfl⟩ := e; exact h) | (obtain ⟨rfl, rfl, _⟩ := e; exact h)
  · intro h
    exact ⟨rfl, r, most, rfl, h⟩
theorem vc__law_grown : ∀ ds w Q, spec__law_grown ds w Q → runF 5 (b__law_grown (ar 1 spec__law_draw) (ar 2 spec__law_put)) ds w Q := by
  rintro ds w Q ⟨r, most, rfl, h⟩
  unfold b__law_grown
  simp only [run, runF, DL.get, DL.put, puts, back, mC, mVar, mFzV, mFeed, frz, msN, msC, mBin, mUn, dAdd, dSub, dMul, dDiv, dMod, dPow, dNeg, dCmp, dLt, dLe, dGt, dGe, dEq, dNe, dIn, dIsN, dIsNotN, isN, dIs, dIsNot, dTab, flatD, okT, truth, tV, tB, tAnd, tOr, tNot, mAnd, mOr, mNot, mIf, mChain, mList, mTup, dIx, mSl, oN, oS, mRev, mRevTo, mCall, mCallF, dLen, dAbs, dInt, dMin2, dMax2, dList, dTup, dSum, dMin, dMax, dMinG, dMaxG, dAll, isTy, mIsI, gV, gSkip, gsN, gsC, gT, srcV, srcR1, srcR2, srcEnum, srcRev, mComp, tYes, isS, isL, mMS, mML, dIndexS, dIndexL, dIndexFrom, mMS2, dCount, dSplit, dJoin, sNil, sSeq, sSet, sAsg, sPar, sRet, retK, sRetN, sIf, sPass, sBrk, sCont, sNever, sExpr, sAug, ownAt, feedAt, intD, sApp, sExt, sSetI, sAugI, sFeed, sFeedA, popD, sPop, sAddPop, sFor, DL.W.set, DL.W.at, DL.R.d, okD, eqD_none_none, eqD_none_bool, eqD_none_int, eqD_none_str, eqD_none_list, eqD_none_tup, eqD_bool_none, eqD_bool_bool, eqD_bool_int, eqD_bool_str, eqD_bool_list, eqD_bool_tup, eqD_int_none, eqD_int_bool, eqD_int_int, eqD_int_str, eqD_int_list, eqD_int_tup, eqD_str_none, eqD_str_bool, eqD_str_int, eqD_str_str, eqD_str_list, eqD_str_tup, eqD_list_none, eqD_list_bool, eqD_list_int, eqD_list_str, eqD_list_list, eqD_list_tup, eqD_tup_none, eqD_tup_bool, eqD_tup_int, eqD_tup_str, eqD_tup_list, eqD_tup_tup, eqDs_nn, eqDs_cc, eqDs_nc, eqDs_cn, List.map_cons, List.map_nil, List.map, List.cons_append, List.nil_append, List.replicate, List.length_cons, List.length_nil, Nat.reduceAdd, Nat.reduceSub, List.all_cons, List.all_nil, Bool.and_true, Bool.true_and, true_and, and_true, atI_map, ex_map, ex_some, List.length_map, beq_int, decide_eq_true_eq, if_true, if_false, Bool.false_eq_true, if_pos, reduceIte, at0, at1, at2, at3, dP, mCallX, mCallB, peekA, evA, evAs, eq_self, sRaise0, sRaise1, sTry, caught, unslot, unheld, mXArg, mXIs, runX, List.contains_cons, List.contains_nil, Slot.isExn, String.reduceBEq, ex_arg, ex_valB, Bool.or_false, Bool.false_or, Bool.or_true, Bool.true_or, Bool.not_false, Bool.not_true, mComp2, dGcd, ar__law_draw, ar__law_put]
  obtain ⟨rfl, h0, hl, hb, hw, q⟩ := h
  have hz : (2000 : Nat) ≤ LINE := by decide
  refine ⟨by decide, by decide, hw, fun n w1 n0 n1 hw1 => ⟨by omega, ?_⟩⟩
  refine forL_ran (fun k st => ∃ (m : List Int) (x : Slot) (w' : W), 0 < m.length ∧ m.length ≤ 11 ∧ (∀ x ∈ m, x.natAbs ≤ 40 + 2 * k) ∧ Wok w' ∧ st = ⟨[.feed, .val (.list (r.map D.int)), .val (.int 11), .own (m.map D.int), x], w'⟩) _ ⟨r, _, w1, h0, hl, hb, hw1, rfl⟩ ?_ ?_
  · rintro k _ hk ⟨m, x, w', m0, ml, mb, hw', rfl⟩ K hK
    simp only [run, runF, DL.get, DL.put, puts, back, mC, mVar, mFzV, mFeed, frz, msN, msC, mBin, mUn, dAdd, dSub, dMul, dDiv, dMod, dPow, dNeg, dCmp, dLt, dLe, dGt, dGe, dEq, dNe, dIn, dIsN, dIsNotN, isN, dIs, dIsNot, dTab, flatD, okT, truth, tV, tB, tAnd, tOr, tNot, mAnd, mOr, mNot, mIf, mChain, mList, mTup, dIx, mSl, oN, oS, mRev, mRevTo, mCall, mCallF, dLen, dAbs, dInt, dMin2, dMax2, dList, dTup, dSum, dMin, dMax, dMinG, dMaxG, dAll, isTy, mIsI, gV, gSkip, gsN, gsC, gT, srcV, srcR1, srcR2, srcEnum, srcRev, mComp, tYes, isS, isL, mMS, mML, dIndexS, dIndexL, dIndexFrom, mMS2, dCount, dSplit, dJoin, sNil, sSeq, sSet, sAsg, sPar, sRet, retK, sRetN, sIf, sPass, sBrk, sCont, sNever, sExpr, sAug, ownAt, feedAt, intD, sApp, sExt, sSetI, sAugI, sFeed, sFeedA, popD, sPop, sAddPop, sFor, DL.W.set, DL.W.at, DL.R.d, okD, eqD_none_none, eqD_none_bool, eqD_none_int, eqD_none_str, eqD_none_list, eqD_none_tup, eqD_bool_none, eqD_bool_bool, eqD_bool_int, eqD_bool_str, eqD_bool_list, eqD_bool_tup, eqD_int_none, eqD_int_bool, eqD_int_int, eqD_int_str, eqD_int_list, eqD_int_tup, eqD_str_none, eqD_str_bool, eqD_str_int, eqD_str_str, eqD_str_list, eqD_str_tup, eqD_list_none, eqD_list_bool, eqD_list_int, eqD_list_str, eqD_list_list, eqD_list_tup, eqD_tup_none, eqD_tup_bool, eqD_tup_int, eqD_tup_str, eqD_tup_list, eqD_tup_tup, eqDs_nn, eqDs_cc, eqDs_nc, eqDs_cn, List.map_cons, List.map_nil, List.map, List.cons_append, List.nil_append, List.replicate, List.length_cons, List.length_nil, Nat.reduceAdd, Nat.reduceSub, List.all_cons, List.all_nil, Bool.and_true, Bool.true_and, true_and, and_true, atI_map, ex_map, ex_some, List.length_map, beq_int, decide_eq_true_eq, if_true, if_false, Bool.false_eq_true, if_pos, reduceIte, at0, at1, at2, at3, dP, mCallX, mCallB, peekA, evA, evAs, eq_self, sRaise0, sRaise1, sTry, caught, unslot, unheld, mXArg, mXIs, runX, List.contains_cons, List.contains_nil, Slot.isExn, String.reduceBEq, ex_arg, ex_valB, Bool.or_false, Bool.false_or, Bool.or_true, Bool.true_or, Bool.not_false, Bool.not_true, mComp2, dGcd, ar__law_draw, ar__law_put]
    by_cases c : m.length < 11
    · rw [if_pos (by omega)]
      refine ⟨by omega, by omega, hw', fun g w'' g0 g1 hw'' => ?_⟩
      obtain ⟨g, rfl⟩ : ∃ g' : Nat, g = g' := ⟨g.toNat, by omega⟩
      rw [ar__law_put]
      refine ⟨m0, by omega, by omega, hK _ ⟨putG m g, _, w'', by rw [putG_len (by omega)]; omega, by rw [putG_len (by omega)]; omega, fun x hx => ?_, hw'', rfl⟩⟩
      have := putG_abs (by omega) mb x hx
      omega
    · rw [if_neg (by omega)]
      exact hK _ ⟨m, _, w', m0, ml, fun x hx => by have := mb x hx; omega, hw', rfl⟩
  · rintro _ ⟨m, x, w', m0, ml, mb, hw', rfl⟩
    exact q m w' m0 ml (fun x hx => by have := mb x hx; omega) hw'
def spec_rests_of : Sem := fun ds w Q => ∃ (N : Nat) (p : Int) (q : Int) (r : Int) (s : Int), ds = [.int N, .tup [.int p, .int q, .int r, .int s]] ∧ 0 < N ∧ Q (.val (tM (m4 N ⟨p, q, r, s⟩))) w
theorem ar_rests_of (N : Nat) (p : Int) (q : Int) (r : Int) (s : Int) (w : W) (Q : R → W → Prop) : ar 2 spec_rests_of [.int N, .tup [.int p, .int q, .int r, .int s]] w Q = (0 < N ∧ Q (.val (tM (m4 N ⟨p, q, r, s⟩))) w) := by
  apply propext
  constructor
  · rintro ⟨_, N', p', q', r', s', e, h⟩
    simp only [List.cons.injEq, D.str.injEq, D.int.injEq, D.bool.injEq, D.tup.injEq, D.list.injEq, mapInt_inj, Int.natCast_inj, and_true, and_assoc] at e
    first | (obtain ⟨rfl, rfl, rfl, rfl, rfl⟩ := e; exact h) | (obtain ⟨rfl, rfl, rfl, rfl, rfl, _⟩ := e; exact h)
  · intro h
    exact ⟨rfl, N, p, q, r, s, rfl, h⟩
theorem vc_rests_of : ∀ ds w Q, spec_rests_of ds w Q → run 6 (b_rests_of) ds w Q := by
  rintro ds w Q ⟨N, p, q, r, s, rfl, h⟩
  unfold b_rests_of
  simp only [run, runF, DL.get, DL.put, puts, back, mC, mVar, mFzV, mFeed, frz, msN, msC, mBin, mUn, dAdd, dSub, dMul, dDiv, dMod, dPow, dNeg, dCmp, dLt, dLe, dGt, dGe, dEq, dNe, dIn, dIsN, dIsNotN, isN, dIs, dIsNot, dTab, flatD, okT, truth, tV, tB, tAnd, tOr, tNot, mAnd, mOr, mNot, mIf, mChain, mList, mTup, dIx, mSl, oN, oS, mRev, mRevTo, mCall, mCallF, dLen, dAbs, dInt, dMin2, dMax2, dList, dTup, dSum, dMin, dMax, dMinG, dMaxG, dAll, isTy, mIsI, gV, gSkip, gsN, gsC, gT, srcV, srcR1, srcR2, srcEnum, srcRev, mComp, tYes, isS, isL, mMS, mML, dIndexS, dIndexL, dIndexFrom, mMS2, dCount, dSplit, dJoin, sNil, sSeq, sSet, sAsg, sPar, sRet, retK, sRetN, sIf, sPass, sBrk, sCont, sNever, sExpr, sAug, ownAt, feedAt, intD, sApp, sExt, sSetI, sAugI, sFeed, sFeedA, popD, sPop, sAddPop, sFor, DL.W.set, DL.W.at, DL.R.d, okD, eqD_none_none, eqD_none_bool, eqD_none_int, eqD_none_str, eqD_none_list, eqD_none_tup, eqD_bool_none, eqD_bool_bool, eqD_bool_int, eqD_bool_str, eqD_bool_list, eqD_bool_tup, eqD_int_none, eqD_int_bool, eqD_int_int, eqD_int_str, eqD_int_list, eqD_int_tup, eqD_str_none, eqD_str_bool, eqD_str_int, eqD_str_str, eqD_str_list, eqD_str_tup, eqD_list_none, eqD_list_bool, eqD_list_int, eqD_list_str, eqD_list_list, eqD_list_tup, eqD_tup_none, eqD_tup_bool, eqD_tup_int, eqD_tup_str, eqD_tup_list, eqD_tup_tup, eqDs_nn, eqDs_cc, eqDs_nc, eqDs_cn, List.map_cons, List.map_nil, List.map, List.cons_append, List.nil_append, List.replicate, List.length_cons, List.length_nil, Nat.reduceAdd, Nat.reduceSub, List.all_cons, List.all_nil, Bool.and_true, Bool.true_and, true_and, and_true, atI_map, ex_map, ex_some, List.length_map, beq_int, decide_eq_true_eq, if_true, if_false, Bool.false_eq_true, if_pos, reduceIte, at0, at1, at2, at3, dP, mCallX, mCallB, peekA, evA, evAs, eq_self, sRaise0, sRaise1, sTry, caught, unslot, unheld, mXArg, mXIs, runX, List.contains_cons, List.contains_nil, Slot.isExn, String.reduceBEq, ex_arg, ex_valB, Bool.or_false, Bool.false_or, Bool.or_true, Bool.true_or, Bool.not_false, Bool.not_true, mComp2, dGcd]
  obtain ⟨h0, q⟩ := h
  exact ⟨by omega, by omega, by omega, by omega, by decide, q⟩
def spec__law_rests : Sem := fun ds w Q => ∃ (p : Int) (q : Int) (r : Int) (s : Int) (N : Nat), ds = [.tup [.int p, .int q, .int r, .int s], .int N] ∧ 0 < N ∧ Q (.val (tM (m4 N ⟨p, q, r, s⟩))) w
theorem ar__law_rests (p : Int) (q : Int) (r : Int) (s : Int) (N : Nat) (w : W) (Q : R → W → Prop) : ar 2 spec__law_rests [.tup [.int p, .int q, .int r, .int s], .int N] w Q = (0 < N ∧ Q (.val (tM (m4 N ⟨p, q, r, s⟩))) w) := by
  apply propext
  constructor
  · rintro ⟨_, p', q', r', s', N', e, h⟩
    simp only [List.cons.injEq, D.str.injEq, D.int.injEq, D.bool.injEq, D.tup.injEq, D.list.injEq, mapInt_inj, Int.natCast_inj, and_true, and_assoc] at e
    first | (obtain ⟨rfl, rfl, rfl, rfl, rfl⟩ := e; exact h) | (obtain ⟨rfl, rfl, rfl, rfl, rfl, _⟩ := e; exact h)
  · intro h
    exact ⟨rfl, p, q, r, s, N, rfl, h⟩
theorem vc__law_rests : ∀ ds w Q, spec__law_rests ds w Q → run 3 (b__law_rests) ds w Q := by
  rintro ds w Q ⟨p, q, r, s, N, rfl, h⟩
  unfold b__law_rests
  simp only [run, runF, DL.get, DL.put, puts, back, mC, mVar, mFzV, mFeed, frz, msN, msC, mBin, mUn, dAdd, dSub, dMul, dDiv, dMod, dPow, dNeg, dCmp, dLt, dLe, dGt, dGe, dEq, dNe, dIn, dIsN, dIsNotN, isN, dIs, dIsNot, dTab, flatD, okT, truth, tV, tB, tAnd, tOr, tNot, mAnd, mOr, mNot, mIf, mChain, mList, mTup, dIx, mSl, oN, oS, mRev, mRevTo, mCall, mCallF, dLen, dAbs, dInt, dMin2, dMax2, dList, dTup, dSum, dMin, dMax, dMinG, dMaxG, dAll, isTy, mIsI, gV, gSkip, gsN, gsC, gT, srcV, srcR1, srcR2, srcEnum, srcRev, mComp, tYes, isS, isL, mMS, mML, dIndexS, dIndexL, dIndexFrom, mMS2, dCount, dSplit, dJoin, sNil, sSeq, sSet, sAsg, sPar, sRet, retK, sRetN, sIf, sPass, sBrk, sCont, sNever, sExpr, sAug, ownAt, feedAt, intD, sApp, sExt, sSetI, sAugI, sFeed, sFeedA, popD, sPop, sAddPop, sFor, DL.W.set, DL.W.at, DL.R.d, okD, eqD_none_none, eqD_none_bool, eqD_none_int, eqD_none_str, eqD_none_list, eqD_none_tup, eqD_bool_none, eqD_bool_bool, eqD_bool_int, eqD_bool_str, eqD_bool_list, eqD_bool_tup, eqD_int_none, eqD_int_bool, eqD_int_int, eqD_int_str, eqD_int_list, eqD_int_tup, eqD_str_none, eqD_str_bool, eqD_str_int, eqD_str_str, eqD_str_list, eqD_str_tup, eqD_list_none, eqD_list_bool, eqD_list_int, eqD_list_str, eqD_list_list, eqD_list_tup, eqD_tup_none, eqD_tup_bool, eqD_tup_int, eqD_tup_str, eqD_tup_list, eqD_tup_tup, eqDs_nn, eqDs_cc, eqDs_nc, eqDs_cn, List.map_cons, List.map_nil, List.map, List.cons_append, List.nil_append, List.replicate, List.length_cons, List.length_nil, Nat.reduceAdd, Nat.reduceSub, List.all_cons, List.all_nil, Bool.and_true, Bool.true_and, true_and, and_true, atI_map, ex_map, ex_some, List.length_map, beq_int, decide_eq_true_eq, if_true, if_false, Bool.false_eq_true, if_pos, reduceIte, at0, at1, at2, at3, dP, mCallX, mCallB, peekA, evA, evAs, eq_self, sRaise0, sRaise1, sTry, caught, unslot, unheld, mXArg, mXIs, runX, List.contains_cons, List.contains_nil, Slot.isExn, String.reduceBEq, ex_arg, ex_valB, Bool.or_false, Bool.false_or, Bool.or_true, Bool.true_or, Bool.not_false, Bool.not_true, mComp2, dGcd]
  obtain ⟨h0, q0⟩ := h
  refine compL_f _ (fun d => match d with | .int i => .int (i % N) | d => d) (fun st => ∃ x, st = ⟨[.val (.tup ([p, q, r, s].map D.int)), .val (.int N), x], w⟩) ⟨_, rfl⟩ (show 4 ≤ LINE by decide) ?_ ?_
  · rintro d _ hd ⟨x, rfl⟩ C K hC hK
    obtain ⟨i, rfl⟩ : ∃ i : Int, d = .int i := by
      simp only [List.mem_cons, List.not_mem_nil, or_false] at hd
      rcases hd with rfl | rfl | rfl | rfl <;> exact ⟨_, rfl⟩
    simp only [run, runF, DL.get, DL.put, puts, back, mC, mVar, mFzV, mFeed, frz, msN, msC, mBin, mUn, dAdd, dSub, dMul, dDiv, dMod, dPow, dNeg, dCmp, dLt, dLe, dGt, dGe, dEq, dNe, dIn, dIsN, dIsNotN, isN, dIs, dIsNot, dTab, flatD, okT, truth, tV, tB, tAnd, tOr, tNot, mAnd, mOr, mNot, mIf, mChain, mList, mTup, dIx, mSl, oN, oS, mRev, mRevTo, mCall, mCallF, dLen, dAbs, dInt, dMin2, dMax2, dList, dTup, dSum, dMin, dMax, dMinG, dMaxG, dAll, isTy, mIsI, gV, gSkip, gsN, gsC, gT, srcV, srcR1, srcR2, srcEnum, srcRev, mComp, tYes, isS, isL, mMS, mML, dIndexS, dIndexL, dIndexFrom, mMS2, dCount, dSplit, dJoin, sNil, sSeq, sSet, sAsg, sPar, sRet, retK, sRetN, sIf, sPass, sBrk, sCont, sNever, sExpr, sAug, ownAt, feedAt, intD, sApp, sExt, sSetI, sAugI, sFeed, sFeedA, popD, sPop, sAddPop, sFor, DL.W.set, DL.W.at, DL.R.d, okD, eqD_none_none, eqD_none_bool, eqD_none_int, eqD_none_str, eqD_none_list, eqD_none_tup, eqD_bool_none, eqD_bool_bool, eqD_bool_int, eqD_bool_str, eqD_bool_list, eqD_bool_tup, eqD_int_none, eqD_int_bool, eqD_int_int, eqD_int_str, eqD_int_list, eqD_int_tup, eqD_str_none, eqD_str_bool, eqD_str_int, eqD_str_str, eqD_str_list, eqD_str_tup, eqD_list_none, eqD_list_bool, eqD_list_int, eqD_list_str, eqD_list_list, eqD_list_tup, eqD_tup_none, eqD_tup_bool, eqD_tup_int, eqD_tup_str, eqD_tup_list, eqD_tup_tup, eqDs_nn, eqDs_cc, eqDs_nc, eqDs_cn, List.map_cons, List.map_nil, List.map, List.cons_append, List.nil_append, List.replicate, List.length_cons, List.length_nil, Nat.reduceAdd, Nat.reduceSub, List.all_cons, List.all_nil, Bool.and_true, Bool.true_and, true_and, and_true, atI_map, ex_map, ex_some, List.length_map, beq_int, decide_eq_true_eq, if_true, if_false, Bool.false_eq_true, if_pos, reduceIte, at0, at1, at2, at3, dP, mCallX, mCallB, peekA, evA, evAs, eq_self, sRaise0, sRaise1, sTry, caught, unslot, unheld, mXArg, mXIs, runX, List.contains_cons, List.contains_nil, Slot.isExn, String.reduceBEq, ex_arg, ex_valB, Bool.or_false, Bool.false_or, Bool.or_true, Bool.true_or, Bool.not_false, Bool.not_true, mComp2, dGcd]
    exact ⟨by omega, hC, hK _ ⟨_, rfl⟩⟩
  · rintro _ ⟨x, rfl⟩
    exact q0
theorem okm {N : Nat} (h2 : 2 ≤ N) (h60 : N ≤ 60) (A : M4) : okL (m4 N A) := by
  have o : ∀ x : Int, (x % (N : Int)).natAbs.log2 < 400000 := fun x => by
    have a := Int.emod_nonneg x (show (N : Int) ≠ 0 by omega)
    have b := Int.emod_lt_of_pos x (show (0 : Int) < N by omega)
    exact lgi (by omega) (by omega)
  exact ⟨o _, o _, o _, o _⟩
def spec_times_to : Sem := fun ds w Q => ∃ (p : Int) (q : Int) (r : Int) (s : Int) (N : Nat) (gs : List D), ds = [.tup [.int p, .int q, .int r, .int s], .int N, .list gs] ∧ ∃ (A : M4) (G : List M4), 2 ≤ N ∧ N ≤ 60 ∧ (⟨p, q, r, s⟩ : M4) = m4 N A ∧ gs = G.map tM ∧ gs.length ≤ 2 ∧ (∃ k, 1 ≤ k ∧ k ≤ 1000 ∧ m4 N (pw A k) ∈ G) ∧ ∀ k : Nat, Fir (fun j => m4 N (pw A j) ∈ G) k → Q (.val (.int k)) w
theorem ar_times_to (p : Int) (q : Int) (r : Int) (s : Int) (N : Nat) (gs : List D) (w : W) (Q : R → W → Prop) : ar 3 spec_times_to [.tup [.int p, .int q, .int r, .int s], .int N, .list gs] w Q = (∃ (A : M4) (G : List M4), 2 ≤ N ∧ N ≤ 60 ∧ (⟨p, q, r, s⟩ : M4) = m4 N A ∧ gs = G.map tM ∧ gs.length ≤ 2 ∧ (∃ k, 1 ≤ k ∧ k ≤ 1000 ∧ m4 N (pw A k) ∈ G) ∧ ∀ k : Nat, Fir (fun j => m4 N (pw A j) ∈ G) k → Q (.val (.int k)) w) := by
  apply propext
  constructor
  · rintro ⟨_, p', q', r', s', N', gs', e, h⟩
    simp only [List.cons.injEq, D.str.injEq, D.int.injEq, D.bool.injEq, D.tup.injEq, D.list.injEq, mapInt_inj, Int.natCast_inj, and_true, and_assoc] at e
    first | (obtain ⟨rfl, rfl, rfl, rfl, rfl, rfl⟩ := e; exact h) | (obtain ⟨rfl, rfl, rfl, rfl, rfl, rfl, _⟩ := e; exact h)
  · intro h
    exact ⟨rfl, p, q, r, s, N, gs, rfl, h⟩
theorem vc_times_to : ∀ ds w Q, spec_times_to ds w Q → run 5 (b_times_to (ar 2 spec_rests_of) (ar 2 spec_multiplied)) ds w Q := by
  rintro ds w Q ⟨p, q, r, s, N, gs, rfl, h⟩
  unfold b_times_to
  obtain ⟨A, G, h2, h60, hA, rfl, hl, hex, q0⟩ := h
  have hz : (2000 : Nat) ≤ LINE := by decide
  obtain ⟨k, hk, F⟩ := Fir.ex hex
  have qk := q0 k F
  simp only [run, runF, DL.get, DL.put, puts, back, mC, mVar, mFzV, mFeed, frz, msN, msC, mBin, mUn, dAdd, dSub, dMul, dDiv, dMod, dPow, dNeg, dCmp, dLt, dLe, dGt, dGe, dEq, dNe, dIn, dIsN, dIsNotN, isN, dIs, dIsNot, dTab, flatD, okT, truth, tV, tB, tAnd, tOr, tNot, mAnd, mOr, mNot, mIf, mChain, mList, mTup, dIx, mSl, oN, oS, mRev, mRevTo, mCall, mCallF, dLen, dAbs, dInt, dMin2, dMax2, dList, dTup, dSum, dMin, dMax, dMinG, dMaxG, dAll, isTy, mIsI, gV, gSkip, gsN, gsC, gT, srcV, srcR1, srcR2, srcEnum, srcRev, mComp, tYes, isS, isL, mMS, mML, dIndexS, dIndexL, dIndexFrom, mMS2, dCount, dSplit, dJoin, sNil, sSeq, sSet, sAsg, sPar, sRet, retK, sRetN, sIf, sPass, sBrk, sCont, sNever, sExpr, sAug, ownAt, feedAt, intD, sApp, sExt, sSetI, sAugI, sFeed, sFeedA, popD, sPop, sAddPop, sFor, DL.W.set, DL.W.at, DL.R.d, okD, eqD_none_none, eqD_none_bool, eqD_none_int, eqD_none_str, eqD_none_list, eqD_none_tup, eqD_bool_none, eqD_bool_bool, eqD_bool_int, eqD_bool_str, eqD_bool_list, eqD_bool_tup, eqD_int_none, eqD_int_bool, eqD_int_int, eqD_int_str, eqD_int_list, eqD_int_tup, eqD_str_none, eqD_str_bool, eqD_str_int, eqD_str_str, eqD_str_list, eqD_str_tup, eqD_list_none, eqD_list_bool, eqD_list_int, eqD_list_str, eqD_list_list, eqD_list_tup, eqD_tup_none, eqD_tup_bool, eqD_tup_int, eqD_tup_str, eqD_tup_list, eqD_tup_tup, eqDs_nn, eqDs_cc, eqDs_nc, eqDs_cn, List.map_cons, List.map_nil, List.map, List.cons_append, List.nil_append, List.replicate, List.length_cons, List.length_nil, Nat.reduceAdd, Nat.reduceSub, List.all_cons, List.all_nil, Bool.and_true, Bool.true_and, true_and, and_true, atI_map, ex_map, ex_some, List.length_map, beq_int, decide_eq_true_eq, if_true, if_false, Bool.false_eq_true, if_pos, reduceIte, at0, at1, at2, at3, dP, mCallX, mCallB, peekA, evA, evAs, eq_self, sRaise0, sRaise1, sTry, caught, unslot, unheld, mXArg, mXIs, runX, List.contains_cons, List.contains_nil, Slot.isExn, String.reduceBEq, ex_arg, ex_valB, Bool.or_false, Bool.false_or, Bool.or_true, Bool.true_or, Bool.not_false, Bool.not_true, mComp2, dGcd, ar_rests_of, ar_multiplied]
  have e0 : D.tup [.int p, .int q, .int r, .int s] = tM (m4 N A) := by rw [← hA]
  rw [e0]
  have ini : m4 N A = m4 N (pw A 1) := by rw [pw_one]
  refine while_of (fun c st => ∃ n : Nat, 1 ≤ n ∧ c + n = k ∧ st = ⟨[.val (tM (m4 N A)), .val (.int N), .val (.list (G.map tM)), .val (tM (m4 N (pw A n))), .val (.int n)], w⟩) (k - 1) ⟨1, by omega, by have := F.1; omega, by rw [ini]; rfl⟩ ?_
  rintro c _ ⟨n, n1, hc, rfl⟩ K hK
  have hok : (G.map tM).all (okD 8) = true := List.all_eq_true.mpr fun d hd => by
    obtain ⟨X, _, rfl⟩ := List.mem_map.mp hd
    rfl
  simp only [run, runF, DL.get, DL.put, puts, back, mC, mVar, mFzV, mFeed, frz, msN, msC, mBin, mUn, dAdd, dSub, dMul, dDiv, dMod, dPow, dNeg, dCmp, dLt, dLe, dGt, dGe, dEq, dNe, dIn, dIsN, dIsNotN, isN, dIs, dIsNot, dTab, flatD, okT, truth, tV, tB, tAnd, tOr, tNot, mAnd, mOr, mNot, mIf, mChain, mList, mTup, dIx, mSl, oN, oS, mRev, mRevTo, mCall, mCallF, dLen, dAbs, dInt, dMin2, dMax2, dList, dTup, dSum, dMin, dMax, dMinG, dMaxG, dAll, isTy, mIsI, gV, gSkip, gsN, gsC, gT, srcV, srcR1, srcR2, srcEnum, srcRev, mComp, tYes, isS, isL, mMS, mML, dIndexS, dIndexL, dIndexFrom, mMS2, dCount, dSplit, dJoin, sNil, sSeq, sSet, sAsg, sPar, sRet, retK, sRetN, sIf, sPass, sBrk, sCont, sNever, sExpr, sAug, ownAt, feedAt, intD, sApp, sExt, sSetI, sAugI, sFeed, sFeedA, popD, sPop, sAddPop, sFor, DL.W.set, DL.W.at, DL.R.d, okD, eqD_none_none, eqD_none_bool, eqD_none_int, eqD_none_str, eqD_none_list, eqD_none_tup, eqD_bool_none, eqD_bool_bool, eqD_bool_int, eqD_bool_str, eqD_bool_list, eqD_bool_tup, eqD_int_none, eqD_int_bool, eqD_int_int, eqD_int_str, eqD_int_list, eqD_int_tup, eqD_str_none, eqD_str_bool, eqD_str_int, eqD_str_str, eqD_str_list, eqD_str_tup, eqD_list_none, eqD_list_bool, eqD_list_int, eqD_list_str, eqD_list_list, eqD_list_tup, eqD_tup_none, eqD_tup_bool, eqD_tup_int, eqD_tup_str, eqD_tup_list, eqD_tup_tup, eqDs_nn, eqDs_cc, eqDs_nc, eqDs_cn, List.map_cons, List.map_nil, List.map, List.cons_append, List.nil_append, List.replicate, List.length_cons, List.length_nil, Nat.reduceAdd, Nat.reduceSub, List.all_cons, List.all_nil, Bool.and_true, Bool.true_and, true_and, and_true, atI_map, ex_map, ex_some, List.length_map, beq_int, decide_eq_true_eq, if_true, if_false, Bool.false_eq_true, if_pos, reduceIte, at0, at1, at2, at3, dP, mCallX, mCallB, peekA, evA, evAs, eq_self, sRaise0, sRaise1, sTry, caught, unslot, unheld, mXArg, mXIs, runX, List.contains_cons, List.contains_nil, Slot.isExn, String.reduceBEq, ex_arg, ex_valB, Bool.or_false, Bool.false_or, Bool.or_true, Bool.true_or, Bool.not_false, Bool.not_true, mComp2, dGcd, ar_rests_of, ar_multiplied]
  rw [tM_any]
  refine ⟨hok, ?_⟩
  by_cases cg : m4 N (pw A n) ∈ G
  · rw [decide_eq_true cg, if_neg (by decide)]
    have : n = k := by
      rcases Nat.lt_or_ge n k with z | z
      · exact absurd cg (F.2.2 n n1 z)
      · omega
    subst this
    exact qk
  · rw [decide_eq_false cg, if_pos (by decide)]
    have nk : n ≠ k := fun z => cg (z ▸ F.2.1)
    refine ⟨okm h2 h60 _, okm h2 h60 _, by omega, hK (c - 1) _ (by omega) ⟨n + 1, by omega, by omega, ?_⟩⟩
    show _ = (⟨[_, _, _, .val (tM (m4 N (pw A (n + 1)))), .val (.int ((n + 1 : Nat) : Int))], w⟩ : S)
    rw [← pw_next]
    rfl
def spec__law_plain : Sem := fun ds w Q => ∃ (most : Int), ds = [.int most] ∧ most = 6 ∧ Wok w ∧ ∀ (r : List Int) (w' : W), 0 < r.length → r.length ≤ 11 → (∀ x ∈ r, x.natAbs ≤ 40) → Wok w' → Q (.own (r.map D.int)) w'
theorem ar__law_plain (most : Int) (w : W) (Q : R → W → Prop) : ar 1 spec__law_plain [.int most] w Q = (most = 6 ∧ Wok w ∧ ∀ (r : List Int) (w' : W), 0 < r.length → r.length ≤ 11 → (∀ x ∈ r, x.natAbs ≤ 40) → Wok w' → Q (.own (r.map D.int)) w') := by
  apply propext
  constructor
  · rintro ⟨_, most', e, h⟩
    simp only [List.cons.injEq, D.str.injEq, D.int.injEq, D.bool.injEq, D.tup.injEq, D.list.injEq, mapInt_inj, Int.natCast_inj, and_true, and_assoc] at e
    first | (obtain rfl := e; exact h) | (obtain ⟨rfl, _⟩ := e; exact h)
  · intro h
    exact ⟨rfl, most, rfl, h⟩
theorem vc__law_plain : ∀ ds w Q, spec__law_plain ds w Q → runF 4 (b__law_plain (ar 1 spec__law_draw)) ds w Q := by
  rintro ds w Q ⟨most, rfl, h⟩
  unfold b__law_plain
  simp only [run, runF, DL.get, DL.put, puts, back, mC, mVar, mFzV, mFeed, frz, msN, msC, mBin, mUn, dAdd, dSub, dMul, dDiv, dMod, dPow, dNeg, dCmp, dLt, dLe, dGt, dGe, dEq, dNe, dIn, dIsN, dIsNotN, isN, dIs, dIsNot, dTab, flatD, okT, truth, tV, tB, tAnd, tOr, tNot, mAnd, mOr, mNot, mIf, mChain, mList, mTup, dIx, mSl, oN, oS, mRev, mRevTo, mCall, mCallF, dLen, dAbs, dInt, dMin2, dMax2, dList, dTup, dSum, dMin, dMax, dMinG, dMaxG, dAll, isTy, mIsI, gV, gSkip, gsN, gsC, gT, srcV, srcR1, srcR2, srcEnum, srcRev, mComp, tYes, isS, isL, mMS, mML, dIndexS, dIndexL, dIndexFrom, mMS2, dCount, dSplit, dJoin, sNil, sSeq, sSet, sAsg, sPar, sRet, retK, sRetN, sIf, sPass, sBrk, sCont, sNever, sExpr, sAug, ownAt, feedAt, intD, sApp, sExt, sSetI, sAugI, sFeed, sFeedA, popD, sPop, sAddPop, sFor, DL.W.set, DL.W.at, DL.R.d, okD, eqD_none_none, eqD_none_bool, eqD_none_int, eqD_none_str, eqD_none_list, eqD_none_tup, eqD_bool_none, eqD_bool_bool, eqD_bool_int, eqD_bool_str, eqD_bool_list, eqD_bool_tup, eqD_int_none, eqD_int_bool, eqD_int_int, eqD_int_str, eqD_int_list, eqD_int_tup, eqD_str_none, eqD_str_bool, eqD_str_int, eqD_str_str, eqD_str_list, eqD_str_tup, eqD_list_none, eqD_list_bool, eqD_list_int, eqD_list_str, eqD_list_list, eqD_list_tup, eqD_tup_none, eqD_tup_bool, eqD_tup_int, eqD_tup_str, eqD_tup_list, eqD_tup_tup, eqDs_nn, eqDs_cc, eqDs_nc, eqDs_cn, List.map_cons, List.map_nil, List.map, List.cons_append, List.nil_append, List.replicate, List.length_cons, List.length_nil, Nat.reduceAdd, Nat.reduceSub, List.all_cons, List.all_nil, Bool.and_true, Bool.true_and, true_and, and_true, atI_map, ex_map, ex_some, List.length_map, beq_int, decide_eq_true_eq, if_true, if_false, Bool.false_eq_true, if_pos, reduceIte, at0, at1, at2, at3, dP, mCallX, mCallB, peekA, evA, evAs, eq_self, sRaise0, sRaise1, sTry, caught, unslot, unheld, mXArg, mXIs, runX, List.contains_cons, List.contains_nil, Slot.isExn, String.reduceBEq, ex_arg, ex_valB, Bool.or_false, Bool.false_or, Bool.or_true, Bool.true_or, Bool.not_false, Bool.not_true, mComp2, dGcd, ar__law_draw]
  obtain ⟨rfl, hw, q⟩ := h
  have hz : (2000 : Nat) ≤ LINE := by decide
  refine ⟨by decide, by decide, by decide, hw, fun n w1 n0 n1 hw1 => ⟨by omega, by omega, by decide, by decide, hw1, fun m w2 m0 m1 hw2 => ⟨by omega, ?_⟩⟩⟩
  obtain ⟨n, rfl⟩ : ∃ n' : Nat, n = n' := ⟨n.toNat, by omega⟩
  have e : (List.replicate (1 + (n : Int)).toNat [D.int 2]).flatten = (List.replicate (1 + n) (2 : Int)).map D.int := by
    rw [show (1 + (n : Int)).toNat = 1 + n by omega, List.map_replicate]
    generalize 1 + n = k
    induction k with
    | zero => rfl
    | succ k ih => rw [List.replicate_succ, List.flatten_cons, ih, List.replicate_succ]; rfl
  rw [e]
  refine forL_ran (fun k st => ∃ (l : List Int) (x : Slot) (w' : W), l.length = 1 + n ∧ (∀ x ∈ l, x.natAbs ≤ 2 + k) ∧ Wok w' ∧ st = ⟨[.feed, .val (.int 6), .own (l.map D.int), x], w'⟩) _ ⟨List.replicate (1 + n) 2, _, w2, List.length_replicate, fun x hx => by rw [List.eq_of_mem_replicate hx]; decide, hw2, rfl⟩ ?_ ?_
  · rintro k _ hk ⟨l, x, w', ll, lb, hw', rfl⟩ K hK
    simp only [run, runF, DL.get, DL.put, puts, back, mC, mVar, mFzV, mFeed, frz, msN, msC, mBin, mUn, dAdd, dSub, dMul, dDiv, dMod, dPow, dNeg, dCmp, dLt, dLe, dGt, dGe, dEq, dNe, dIn, dIsN, dIsNotN, isN, dIs, dIsNot, dTab, flatD, okT, truth, tV, tB, tAnd, tOr, tNot, mAnd, mOr, mNot, mIf, mChain, mList, mTup, dIx, mSl, oN, oS, mRev, mRevTo, mCall, mCallF, dLen, dAbs, dInt, dMin2, dMax2, dList, dTup, dSum, dMin, dMax, dMinG, dMaxG, dAll, isTy, mIsI, gV, gSkip, gsN, gsC, gT, srcV, srcR1, srcR2, srcEnum, srcRev, mComp, tYes, isS, isL, mMS, mML, dIndexS, dIndexL, dIndexFrom, mMS2, dCount, dSplit, dJoin, sNil, sSeq, sSet, sAsg, sPar, sRet, retK, sRetN, sIf, sPass, sBrk, sCont, sNever, sExpr, sAug, ownAt, feedAt, intD, sApp, sExt, sSetI, sAugI, sFeed, sFeedA, popD, sPop, sAddPop, sFor, DL.W.set, DL.W.at, DL.R.d, okD, eqD_none_none, eqD_none_bool, eqD_none_int, eqD_none_str, eqD_none_list, eqD_none_tup, eqD_bool_none, eqD_bool_bool, eqD_bool_int, eqD_bool_str, eqD_bool_list, eqD_bool_tup, eqD_int_none, eqD_int_bool, eqD_int_int, eqD_int_str, eqD_int_list, eqD_int_tup, eqD_str_none, eqD_str_bool, eqD_str_int, eqD_str_str, eqD_str_list, eqD_str_tup, eqD_list_none, eqD_list_bool, eqD_list_int, eqD_list_str, eqD_list_list, eqD_list_tup, eqD_tup_none, eqD_tup_bool, eqD_tup_int, eqD_tup_str, eqD_tup_list, eqD_tup_tup, eqDs_nn, eqDs_cc, eqDs_nc, eqDs_cn, List.map_cons, List.map_nil, List.map, List.cons_append, List.nil_append, List.replicate, List.length_cons, List.length_nil, Nat.reduceAdd, Nat.reduceSub, List.all_cons, List.all_nil, Bool.and_true, Bool.true_and, true_and, and_true, atI_map, ex_map, ex_some, List.length_map, beq_int, decide_eq_true_eq, if_true, if_false, Bool.false_eq_true, if_pos, reduceIte, at0, at1, at2, at3, dP, mCallX, mCallB, peekA, evA, evAs, eq_self, sRaise0, sRaise1, sTry, caught, unslot, unheld, mXArg, mXIs, runX, List.contains_cons, List.contains_nil, Slot.isExn, String.reduceBEq, ex_arg, ex_valB, Bool.or_false, Bool.false_or, Bool.or_true, Bool.true_or, Bool.not_false, Bool.not_true, mComp2, dGcd, ar__law_draw]
    refine ⟨by omega, by omega, hw', fun g w'' g0 g1 hw'' => ?_⟩
    obtain ⟨g, rfl⟩ : ∃ g' : Nat, g = g' := ⟨g.toNat, by omega⟩
    have hg : g < l.length := by omega
    refine ⟨_, _, ix_nat hg, get_map hg, ?_⟩
    rw [set_add]
    exact hK _ ⟨bump l g 1, _, w'', by rw [bump_len]; exact ll, fun x hx => bump_abs lb (by decide) x hx, hw'', rfl⟩
  · rintro _ ⟨l, x, w', ll, lb, hw', rfl⟩
    exact q l w' (by omega) (by omega) (fun x hx => by have := lb x hx; omega) hw'
def spec__law_divisor : Sem := fun ds w Q => ∃ (a : Nat) (b : Nat), ds = [.int a, .int b] ∧ b ≤ 99 ∧ Q (.val (.int ((Nat.gcd a b : Nat) : Int))) w
theorem ar__law_divisor (a : Nat) (b : Nat) (w : W) (Q : R → W → Prop) : ar 2 spec__law_divisor [.int a, .int b] w Q = (b ≤ 99 ∧ Q (.val (.int ((Nat.gcd a b : Nat) : Int))) w) := by
  apply propext
  constructor
  · rintro ⟨_, a', b', e, h⟩
    simp only [List.cons.injEq, D.str.injEq, D.int.injEq, D.bool.injEq, D.tup.injEq, D.list.injEq, mapInt_inj, Int.natCast_inj, and_true, and_assoc] at e
    first | (obtain ⟨rfl, rfl⟩ := e; exact h) | (obtain ⟨rfl, rfl, _⟩ := e; exact h)
  · intro h
    exact ⟨rfl, a, b, rfl, h⟩
theorem vc__law_divisor : ∀ ds w Q, spec__law_divisor ds w Q → run 3 (b__law_divisor) ds w Q := by
  rintro ds w Q ⟨a, b, rfl, h⟩
  unfold b__law_divisor
  simp only [run, runF, DL.get, DL.put, puts, back, mC, mVar, mFzV, mFeed, frz, msN, msC, mBin, mUn, dAdd, dSub, dMul, dDiv, dMod, dPow, dNeg, dCmp, dLt, dLe, dGt, dGe, dEq, dNe, dIn, dIsN, dIsNotN, isN, dIs, dIsNot, dTab, flatD, okT, truth, tV, tB, tAnd, tOr, tNot, mAnd, mOr, mNot, mIf, mChain, mList, mTup, dIx, mSl, oN, oS, mRev, mRevTo, mCall, mCallF, dLen, dAbs, dInt, dMin2, dMax2, dList, dTup, dSum, dMin, dMax, dMinG, dMaxG, dAll, isTy, mIsI, gV, gSkip, gsN, gsC, gT, srcV, srcR1, srcR2, srcEnum, srcRev, mComp, tYes, isS, isL, mMS, mML, dIndexS, dIndexL, dIndexFrom, mMS2, dCount, dSplit, dJoin, sNil, sSeq, sSet, sAsg, sPar, sRet, retK, sRetN, sIf, sPass, sBrk, sCont, sNever, sExpr, sAug, ownAt, feedAt, intD, sApp, sExt, sSetI, sAugI, sFeed, sFeedA, popD, sPop, sAddPop, sFor, DL.W.set, DL.W.at, DL.R.d, okD, eqD_none_none, eqD_none_bool, eqD_none_int, eqD_none_str, eqD_none_list, eqD_none_tup, eqD_bool_none, eqD_bool_bool, eqD_bool_int, eqD_bool_str, eqD_bool_list, eqD_bool_tup, eqD_int_none, eqD_int_bool, eqD_int_int, eqD_int_str, eqD_int_list, eqD_int_tup, eqD_str_none, eqD_str_bool, eqD_str_int, eqD_str_str, eqD_str_list, eqD_str_tup, eqD_list_none, eqD_list_bool, eqD_list_int, eqD_list_str, eqD_list_list, eqD_list_tup, eqD_tup_none, eqD_tup_bool, eqD_tup_int, eqD_tup_str, eqD_tup_list, eqD_tup_tup, eqDs_nn, eqDs_cc, eqDs_nc, eqDs_cn, List.map_cons, List.map_nil, List.map, List.cons_append, List.nil_append, List.replicate, List.length_cons, List.length_nil, Nat.reduceAdd, Nat.reduceSub, List.all_cons, List.all_nil, Bool.and_true, Bool.true_and, true_and, and_true, atI_map, ex_map, ex_some, List.length_map, beq_int, decide_eq_true_eq, if_true, if_false, Bool.false_eq_true, if_pos, reduceIte, at0, at1, at2, at3, dP, mCallX, mCallB, peekA, evA, evAs, eq_self, sRaise0, sRaise1, sTry, caught, unslot, unheld, mXArg, mXIs, runX, List.contains_cons, List.contains_nil, Slot.isExn, String.reduceBEq, ex_arg, ex_valB, Bool.or_false, Bool.false_or, Bool.or_true, Bool.true_or, Bool.not_false, Bool.not_true, mComp2, dGcd]
  obtain ⟨hb, q⟩ := h
  refine ⟨by decide, ?_⟩
  refine forL_ran (fun k st => ∃ (c d : Nat) (x : Slot), Nat.gcd c d = Nat.gcd a b ∧ (d = 0 ∨ d + k ≤ 99) ∧ st = ⟨[.val (.int c), .val (.int d), x], w⟩) _ ⟨a, b, _, rfl, .inr (by omega), rfl⟩ ?_ ?_
  · rintro k _ hk ⟨c, d, x, hg, hd, rfl⟩ K hK
    simp only [run, runF, DL.get, DL.put, puts, back, mC, mVar, mFzV, mFeed, frz, msN, msC, mBin, mUn, dAdd, dSub, dMul, dDiv, dMod, dPow, dNeg, dCmp, dLt, dLe, dGt, dGe, dEq, dNe, dIn, dIsN, dIsNotN, isN, dIs, dIsNot, dTab, flatD, okT, truth, tV, tB, tAnd, tOr, tNot, mAnd, mOr, mNot, mIf, mChain, mList, mTup, dIx, mSl, oN, oS, mRev, mRevTo, mCall, mCallF, dLen, dAbs, dInt, dMin2, dMax2, dList, dTup, dSum, dMin, dMax, dMinG, dMaxG, dAll, isTy, mIsI, gV, gSkip, gsN, gsC, gT, srcV, srcR1, srcR2, srcEnum, srcRev, mComp, tYes, isS, isL, mMS, mML, dIndexS, dIndexL, dIndexFrom, mMS2, dCount, dSplit, dJoin, sNil, sSeq, sSet, sAsg, sPar, sRet, retK, sRetN, sIf, sPass, sBrk, sCont, sNever, sExpr, sAug, ownAt, feedAt, intD, sApp, sExt, sSetI, sAugI, sFeed, sFeedA, popD, sPop, sAddPop, sFor, DL.W.set, DL.W.at, DL.R.d, okD, eqD_none_none, eqD_none_bool, eqD_none_int, eqD_none_str, eqD_none_list, eqD_none_tup, eqD_bool_none, eqD_bool_bool, eqD_bool_int, eqD_bool_str, eqD_bool_list, eqD_bool_tup, eqD_int_none, eqD_int_bool, eqD_int_int, eqD_int_str, eqD_int_list, eqD_int_tup, eqD_str_none, eqD_str_bool, eqD_str_int, eqD_str_str, eqD_str_list, eqD_str_tup, eqD_list_none, eqD_list_bool, eqD_list_int, eqD_list_str, eqD_list_list, eqD_list_tup, eqD_tup_none, eqD_tup_bool, eqD_tup_int, eqD_tup_str, eqD_tup_list, eqD_tup_tup, eqDs_nn, eqDs_cc, eqDs_nc, eqDs_cn, List.map_cons, List.map_nil, List.map, List.cons_append, List.nil_append, List.replicate, List.length_cons, List.length_nil, Nat.reduceAdd, Nat.reduceSub, List.all_cons, List.all_nil, Bool.and_true, Bool.true_and, true_and, and_true, atI_map, ex_map, ex_some, List.length_map, beq_int, decide_eq_true_eq, if_true, if_false, Bool.false_eq_true, if_pos, reduceIte, at0, at1, at2, at3, dP, mCallX, mCallB, peekA, evA, evAs, eq_self, sRaise0, sRaise1, sTry, caught, unslot, unheld, mXArg, mXIs, runX, List.contains_cons, List.contains_nil, Slot.isExn, String.reduceBEq, ex_arg, ex_valB, Bool.or_false, Bool.false_or, Bool.or_true, Bool.true_or, Bool.not_false, Bool.not_true, mComp2, dGcd]
    by_cases z : d = 0
    · subst z
      rw [if_neg (by decide)]
      exact hK _ ⟨c, 0, _, hg, .inl rfl, rfl⟩
    · rw [if_pos (by omega)]
      have := Nat.mod_lt c (show 0 < d by omega)
      refine ⟨by omega, hK _ ⟨d, c % d, _, ?_, ?_, by rw [Int.natCast_emod]⟩⟩
      · rw [← hg, Nat.gcd_comm c d, Nat.gcd_rec d c, Nat.gcd_comm]
      · rcases Nat.eq_zero_or_pos (c % d) with y | y
        · exact .inl y
        · right
          omega
  · rintro _ ⟨c, d, x, hg, hd, rfl⟩
    have h0 : d = 0 := by
      have : Int.toNat 100 = 100 := rfl
      omega
    subst h0
    rw [Nat.gcd_zero_right] at hg
    subst hg
    exact q
theorem num_small {r : List Int} (hl : r.length ≤ 20) (hb : ∀ x ∈ r, x.natAbs ≤ 200) : Okl r := Okl.of (by omega) fun x hx => by
  have := hb x hx
  omega
def spec_rest_table : Sem := fun ds w Q => ∃ (r : List Int) (N : Nat), ds = [.list (r.map D.int), .int N] ∧ 2 ≤ N ∧ Okl r ∧ Q (.val (tM (m4 N (tb r)))) w
theorem ar_rest_table (r : List Int) (N : Nat) (w : W) (Q : R → W → Prop) : ar 2 spec_rest_table [.list (r.map D.int), .int N] w Q = (2 ≤ N ∧ Okl r ∧ Q (.val (tM (m4 N (tb r)))) w) := by
  apply propext
  constructor
  · rintro ⟨_, r', N', e, h⟩
    simp only [List.cons.injEq, D.str.injEq, D.int.injEq, D.bool.injEq, D.tup.injEq, D.list.injEq, mapInt_inj, Int.natCast_inj, and_true, and_assoc] at e
    first | (obtain ⟨rfl, rfl⟩ := e; exact h) | (obtain ⟨rfl, rfl, _⟩ := e; exact h)
  · intro h
    exact ⟨rfl, r, N, rfl, h⟩
theorem vc_rest_table : ∀ ds w Q, spec_rest_table ds w Q → run 2 (b_rest_table (ar 2 spec_rests_of) (ar 1 spec_turned_by)) ds w Q := by
  rintro ds w Q ⟨r, N, rfl, h⟩
  unfold b_rest_table
  simp only [run, runF, DL.get, DL.put, puts, back, mC, mVar, mFzV, mFeed, frz, msN, msC, mBin, mUn, dAdd, dSub, dMul, dDiv, dMod, dPow, dNeg, dCmp, dLt, dLe, dGt, dGe, dEq, dNe, dIn, dIsN, dIsNotN, isN, dIs, dIsNot, dTab, flatD, okT, truth, tV, tB, tAnd, tOr, tNot, mAnd, mOr, mNot, mIf, mChain, mList, mTup, dIx, mSl, oN, oS, mRev, mRevTo, mCall, mCallF, dLen, dAbs, dInt, dMin2, dMax2, dList, dTup, dSum, dMin, dMax, dMinG, dMaxG, dAll, isTy, mIsI, gV, gSkip, gsN, gsC, gT, srcV, srcR1, srcR2, srcEnum, srcRev, mComp, tYes, isS, isL, mMS, mML, dIndexS, dIndexL, dIndexFrom, mMS2, dCount, dSplit, dJoin, sNil, sSeq, sSet, sAsg, sPar, sRet, retK, sRetN, sIf, sPass, sBrk, sCont, sNever, sExpr, sAug, ownAt, feedAt, intD, sApp, sExt, sSetI, sAugI, sFeed, sFeedA, popD, sPop, sAddPop, sFor, DL.W.set, DL.W.at, DL.R.d, okD, eqD_none_none, eqD_none_bool, eqD_none_int, eqD_none_str, eqD_none_list, eqD_none_tup, eqD_bool_none, eqD_bool_bool, eqD_bool_int, eqD_bool_str, eqD_bool_list, eqD_bool_tup, eqD_int_none, eqD_int_bool, eqD_int_int, eqD_int_str, eqD_int_list, eqD_int_tup, eqD_str_none, eqD_str_bool, eqD_str_int, eqD_str_str, eqD_str_list, eqD_str_tup, eqD_list_none, eqD_list_bool, eqD_list_int, eqD_list_str, eqD_list_list, eqD_list_tup, eqD_tup_none, eqD_tup_bool, eqD_tup_int, eqD_tup_str, eqD_tup_list, eqD_tup_tup, eqDs_nn, eqDs_cc, eqDs_nc, eqDs_cn, List.map_cons, List.map_nil, List.map, List.cons_append, List.nil_append, List.replicate, List.length_cons, List.length_nil, Nat.reduceAdd, Nat.reduceSub, List.all_cons, List.all_nil, Bool.and_true, Bool.true_and, true_and, and_true, atI_map, ex_map, ex_some, List.length_map, beq_int, decide_eq_true_eq, if_true, if_false, Bool.false_eq_true, if_pos, reduceIte, at0, at1, at2, at3, dP, mCallX, mCallB, peekA, evA, evAs, eq_self, sRaise0, sRaise1, sTry, caught, unslot, unheld, mXArg, mXIs, runX, List.contains_cons, List.contains_nil, Slot.isExn, String.reduceBEq, ex_arg, ex_valB, Bool.or_false, Bool.false_or, Bool.or_true, Bool.true_or, Bool.not_false, Bool.not_true, mComp2, dGcd, ar_rests_of, ar_turned_by]
  obtain ⟨h2, hr, q⟩ := h
  exact ⟨hr, by omega, q⟩
theorem p1_mem {N : Nat} {A : M4} (j : Nat) : m4 N (pw A j) ∈ [m4 N I4] ↔ P1 N A j := by
  rw [List.mem_singleton]
  exact Iff.rfl
theorem p2_mem {N : Nat} {A : M4} (j : Nat) : m4 N (pw A j) ∈ [m4 N I4, m4 N J4] ↔ P2 N A j := by
  simp only [List.mem_cons, List.not_mem_nil, or_false]
  exact Iff.rfl
theorem fir_imp {P P' : Nat → Prop} {k : Nat} (h : Fir P k) (e : ∀ i, P i ↔ P' i) : Fir P' k := ⟨h.1, (e k).mp h.2.1, fun j a b c => h.2.2 j a b ((e j).mpr c)⟩
def spec_rest_times : Sem := fun ds w Q => ∃ (r : List Int) (N : Nat), ds = [.list (r.map D.int), .int N] ∧ 2 ≤ N ∧ N ≤ 60 ∧ Okl r ∧ ∀ k : Nat, Fir (P1 N (tb r)) k → Q (.val (.int k)) w
theorem ar_rest_times (r : List Int) (N : Nat) (w : W) (Q : R → W → Prop) : ar 2 spec_rest_times [.list (r.map D.int), .int N] w Q = (2 ≤ N ∧ N ≤ 60 ∧ Okl r ∧ ∀ k : Nat, Fir (P1 N (tb r)) k → Q (.val (.int k)) w) := by
  apply propext
  constructor
  · rintro ⟨_, r', N', e, h⟩
    simp only [List.cons.injEq, D.str.injEq, D.int.injEq, D.bool.injEq, D.tup.injEq, D.list.injEq, mapInt_inj, Int.natCast_inj, and_true, and_assoc] at e
    first | (obtain ⟨rfl, rfl⟩ := e; exact h) | (obtain ⟨rfl, rfl, _⟩ := e; exact h)
  · intro h
    exact ⟨rfl, r, N, rfl, h⟩
theorem vc_rest_times : ∀ ds w Q, spec_rest_times ds w Q → run 2 (b_rest_times (ar 3 spec_times_to) (ar 2 spec_rest_table) (ar 2 spec_rests_of)) ds w Q := by
  rintro ds w Q ⟨r, N, rfl, h⟩
  unfold b_rest_times
  simp only [run, runF, DL.get, DL.put, puts, back, mC, mVar, mFzV, mFeed, frz, msN, msC, mBin, mUn, dAdd, dSub, dMul, dDiv, dMod, dPow, dNeg, dCmp, dLt, dLe, dGt, dGe, dEq, dNe, dIn, dIsN, dIsNotN, isN, dIs, dIsNot, dTab, flatD, okT, truth, tV, tB, tAnd, tOr, tNot, mAnd, mOr, mNot, mIf, mChain, mList, mTup, dIx, mSl, oN, oS, mRev, mRevTo, mCall, mCallF, dLen, dAbs, dInt, dMin2, dMax2, dList, dTup, dSum, dMin, dMax, dMinG, dMaxG, dAll, isTy, mIsI, gV, gSkip, gsN, gsC, gT, srcV, srcR1, srcR2, srcEnum, srcRev, mComp, tYes, isS, isL, mMS, mML, dIndexS, dIndexL, dIndexFrom, mMS2, dCount, dSplit, dJoin, sNil, sSeq, sSet, sAsg, sPar, sRet, retK, sRetN, sIf, sPass, sBrk, sCont, sNever, sExpr, sAug, ownAt, feedAt, intD, sApp, sExt, sSetI, sAugI, sFeed, sFeedA, popD, sPop, sAddPop, sFor, DL.W.set, DL.W.at, DL.R.d, okD, eqD_none_none, eqD_none_bool, eqD_none_int, eqD_none_str, eqD_none_list, eqD_none_tup, eqD_bool_none, eqD_bool_bool, eqD_bool_int, eqD_bool_str, eqD_bool_list, eqD_bool_tup, eqD_int_none, eqD_int_bool, eqD_int_int, eqD_int_str, eqD_int_list, eqD_int_tup, eqD_str_none, eqD_str_bool, eqD_str_int, eqD_str_str, eqD_str_list, eqD_str_tup, eqD_list_none, eqD_list_bool, eqD_list_int, eqD_list_str, eqD_list_list, eqD_list_tup, eqD_tup_none, eqD_tup_bool, eqD_tup_int, eqD_tup_str, eqD_tup_list, eqD_tup_tup, eqDs_nn, eqDs_cc, eqDs_nc, eqDs_cn, List.map_cons, List.map_nil, List.map, List.cons_append, List.nil_append, List.replicate, List.length_cons, List.length_nil, Nat.reduceAdd, Nat.reduceSub, List.all_cons, List.all_nil, Bool.and_true, Bool.true_and, true_and, and_true, atI_map, ex_map, ex_some, List.length_map, beq_int, decide_eq_true_eq, if_true, if_false, Bool.false_eq_true, if_pos, reduceIte, at0, at1, at2, at3, dP, mCallX, mCallB, peekA, evA, evAs, eq_self, sRaise0, sRaise1, sTry, caught, unslot, unheld, mXArg, mXIs, runX, List.contains_cons, List.contains_nil, Slot.isExn, String.reduceBEq, ex_arg, ex_valB, Bool.or_false, Bool.false_or, Bool.or_true, Bool.true_or, Bool.not_false, Bool.not_true, mComp2, dGcd, ar_times_to, ar_rest_table, ar_rests_of]
  obtain ⟨h2, h60, hr, q⟩ := h
  refine ⟨h2, hr, by omega, by decide, tb r, [m4 N I4], h2, h60, rfl, rfl, by decide, ?_, fun k F => q k (fir_imp F p1_mem)⟩
  obtain ⟨k, a, b, c⟩ := ord_ex h2 h60 (tb_det r)
  exact ⟨k, a, b, (p1_mem k).mpr c⟩
def spec_sign_times : Sem := fun ds w Q => ∃ (r : List Int) (N : Nat), ds = [.list (r.map D.int), .int N] ∧ 2 ≤ N ∧ N ≤ 60 ∧ Okl r ∧ ∀ k : Nat, Fir (P2 N (tb r)) k → Q (.val (.int k)) w
theorem ar_sign_times (r : List Int) (N : Nat) (w : W) (Q : R → W → Prop) : ar 2 spec_sign_times [.list (r.map D.int), .int N] w Q = (2 ≤ N ∧ N ≤ 60 ∧ Okl r ∧ ∀ k : Nat, Fir (P2 N (tb r)) k → Q (.val (.int k)) w) := by
  apply propext
  constructor
  · rintro ⟨_, r', N', e, h⟩
    simp only [List.cons.injEq, D.str.injEq, D.int.injEq, D.bool.injEq, D.tup.injEq, D.list.injEq, mapInt_inj, Int.natCast_inj, and_true, and_assoc] at e
    first | (obtain ⟨rfl, rfl⟩ := e; exact h) | (obtain ⟨rfl, rfl, _⟩ := e; exact h)
  · intro h
    exact ⟨rfl, r, N, rfl, h⟩
theorem vc_sign_times : ∀ ds w Q, spec_sign_times ds w Q → run 2 (b_sign_times (ar 3 spec_times_to) (ar 2 spec_rest_table) (ar 2 spec_rests_of)) ds w Q := by
  rintro ds w Q ⟨r, N, rfl, h⟩
  unfold b_sign_times
  simp only [run, runF, DL.get, DL.put, puts, back, mC, mVar, mFzV, mFeed, frz, msN, msC, mBin, mUn, dAdd, dSub, dMul, dDiv, dMod, dPow, dNeg, dCmp, dLt, dLe, dGt, dGe, dEq, dNe, dIn, dIsN, dIsNotN, isN, dIs, dIsNot, dTab, flatD, okT, truth, tV, tB, tAnd, tOr, tNot, mAnd, mOr, mNot, mIf, mChain, mList, mTup, dIx, mSl, oN, oS, mRev, mRevTo, mCall, mCallF, dLen, dAbs, dInt, dMin2, dMax2, dList, dTup, dSum, dMin, dMax, dMinG, dMaxG, dAll, isTy, mIsI, gV, gSkip, gsN, gsC, gT, srcV, srcR1, srcR2, srcEnum, srcRev, mComp, tYes, isS, isL, mMS, mML, dIndexS, dIndexL, dIndexFrom, mMS2, dCount, dSplit, dJoin, sNil, sSeq, sSet, sAsg, sPar, sRet, retK, sRetN, sIf, sPass, sBrk, sCont, sNever, sExpr, sAug, ownAt, feedAt, intD, sApp, sExt, sSetI, sAugI, sFeed, sFeedA, popD, sPop, sAddPop, sFor, DL.W.set, DL.W.at, DL.R.d, okD, eqD_none_none, eqD_none_bool, eqD_none_int, eqD_none_str, eqD_none_list, eqD_none_tup, eqD_bool_none, eqD_bool_bool, eqD_bool_int, eqD_bool_str, eqD_bool_list, eqD_bool_tup, eqD_int_none, eqD_int_bool, eqD_int_int, eqD_int_str, eqD_int_list, eqD_int_tup, eqD_str_none, eqD_str_bool, eqD_str_int, eqD_str_str, eqD_str_list, eqD_str_tup, eqD_list_none, eqD_list_bool, eqD_list_int, eqD_list_str, eqD_list_list, eqD_list_tup, eqD_tup_none, eqD_tup_bool, eqD_tup_int, eqD_tup_str, eqD_tup_list, eqD_tup_tup, eqDs_nn, eqDs_cc, eqDs_nc, eqDs_cn, List.map_cons, List.map_nil, List.map, List.cons_append, List.nil_append, List.replicate, List.length_cons, List.length_nil, Nat.reduceAdd, Nat.reduceSub, List.all_cons, List.all_nil, Bool.and_true, Bool.true_and, true_and, and_true, atI_map, ex_map, ex_some, List.length_map, beq_int, decide_eq_true_eq, if_true, if_false, Bool.false_eq_true, if_pos, reduceIte, at0, at1, at2, at3, dP, mCallX, mCallB, peekA, evA, evAs, eq_self, sRaise0, sRaise1, sTry, caught, unslot, unheld, mXArg, mXIs, runX, List.contains_cons, List.contains_nil, Slot.isExn, String.reduceBEq, ex_arg, ex_valB, Bool.or_false, Bool.false_or, Bool.or_true, Bool.true_or, Bool.not_false, Bool.not_true, mComp2, dGcd, ar_times_to, ar_rest_table, ar_rests_of]
  obtain ⟨h2, h60, hr, q⟩ := h
  refine ⟨h2, hr, by omega, by omega, by decide, tb r, [m4 N I4, m4 N J4], h2, h60, rfl, rfl, by decide, ?_, fun k F => q k (fir_imp F p2_mem)⟩
  obtain ⟨k, a, b, c⟩ := ord_ex h2 h60 (tb_det r)
  exact ⟨k, a, b, (p2_mem k).mpr (.inl c)⟩
abbrev pT (z : Int × Int) : D := .tup [.int z.1, .int z.2]
abbrev pN (z : Nat × Nat) : D := .tup [.int z.1, .int z.2]
theorem pT_eq (a b : Int × Int) : eqD (pT a) (pT b) = decide (a = b) := by
  obtain ⟨a1, a2⟩ := a
  obtain ⟨b1, b2⟩ := b
  show eqD (.tup ([a1, a2].map D.int)) (.tup ([b1, b2].map D.int)) = _
  rw [eqD_tup_tup, eqDs_ints]
  exact decide_eq_decide.mpr (by rw [Prod.mk.injEq]; simp)
theorem pT_lt (a b : Int × Int) : ltD (pT a) (pT b) = lt2 a b := by
  simp only [ltD, ltDs]
  rw [eqD_int_int, eqD_int_int]
  unfold lt2
  by_cases c : a.1 = b.1
  · rw [if_pos (by simpa using c)]
    by_cases c2 : a.2 = b.2
    · rw [if_pos (by simpa using c2)]
      exact (decide_eq_false (by omega)).symm
    · rw [if_neg (by simpa using c2)]
      exact decide_eq_decide.mpr (by omega)
  · rw [if_neg (by simpa using c)]
    exact decide_eq_decide.mpr (by omega)
def uB (N : Nat) : D → Bool
  | .int k => decide (Nat.gcd k.natAbs N = 1)
  | _ => false
theorem ran_units (N : Nat) : (ran 1 (N - 1)).filter (uB N) = (units N).map fun k : Nat => D.int k := by
  unfold ran units
  rw [List.filter_map, List.filter_map, List.map_map]
  have e : ((uB N) ∘ fun i : Nat => D.int (1 + (i : Int))) = ((fun k => decide (Nat.gcd k N = 1)) ∘ fun i => 1 + i) := by
    funext i
    show decide (Nat.gcd (1 + (i : Int)).natAbs N = 1) = decide (Nat.gcd (1 + i) N = 1)
    rw [show (1 + (i : Int)).natAbs = 1 + i by omega]
  rw [e]
  refine List.map_congr_left fun i _ => ?_
  show D.int (1 + (i : Int)) = D.int ((1 + i : Nat) : Int)
  rw [show ((1 + i : Nat) : Int) = 1 + (i : Int) by omega]
def mD (N : Nat) (X Y : Int) : D → D
  | .int k => .tup [.int (k * X % N), .int (k * Y % N)]
  | d => d
theorem mulD (N : Nat) (X Y : Int) : ((units N).map fun k : Nat => D.int k).map (mD N X Y) = (mulL N X Y).map pT := by
  unfold mulL
  rw [List.map_map, List.map_map]
  rfl
theorem minG_pT {l : List (Int × Int)} {k : D → Prop} (h0 : 0 < l.length) (h : ∀ m ∈ l, (∀ y ∈ l, lt2 y m = false) → k (pT m)) : (∀ x, x ∈ l.map pT → ∀ y, y ∈ l.map pT → likeD x y = true) ∧ (l.map pT).all (okD 8) = true ∧ 0 < (l.map pT).length ∧ ∀ m, m ∈ l.map pT → (∀ y, y ∈ l.map pT → ltD y m = false) → k m := by
  refine ⟨fun x hx y hy => ?_, ?_, by rw [List.length_map]; exact h0, fun m hm hle => ?_⟩
  · obtain ⟨a, _, rfl⟩ := List.mem_map.mp hx
    obtain ⟨b, _, rfl⟩ := List.mem_map.mp hy
    rfl
  · rw [List.all_eq_true]
    intro d hd
    obtain ⟨a, _, rfl⟩ := List.mem_map.mp hd
    rfl
  · obtain ⟨a, ha, rfl⟩ := List.mem_map.mp hm
    refine h a ha fun y hy => ?_
    have := hle _ (List.mem_map.mpr ⟨y, hy, rfl⟩)
    rwa [pT_lt] at this
theorem mulL_pos {N : Nat} (h : 2 ≤ N) (X Y : Int) : 0 < (mulL N X Y).length := List.length_pos_iff.mpr (List.ne_nil_of_mem (List.mem_map.mpr ⟨1, one_unit h, rfl⟩))
def spec_least_multiple : Sem := fun ds w Q => ∃ (N : Nat) (X : Int) (Y : Int), ds = [.int N, .int X, .int Y] ∧ 2 ≤ N ∧ N ≤ 12 ∧ X.natAbs.log2 < 400000 ∧ Y.natAbs.log2 < 400000 ∧ ∀ m : Int × Int, leL N X Y m → Q (.val (.tup [.int m.1, .int m.2])) w
theorem ar_least_multiple (N : Nat) (X : Int) (Y : Int) (w : W) (Q : R → W → Prop) : ar 3 spec_least_multiple [.int N, .int X, .int Y] w Q = (2 ≤ N ∧ N ≤ 12 ∧ X.natAbs.log2 < 400000 ∧ Y.natAbs.log2 < 400000 ∧ ∀ m : Int × Int, leL N X Y m → Q (.val (.tup [.int m.1, .int m.2])) w) := by
  apply propext
  constructor
  · rintro ⟨_, N', X', Y', e, h⟩
    simp only [List.cons.injEq, D.str.injEq, D.int.injEq, D.bool.injEq, D.tup.injEq, D.list.injEq, mapInt_inj, Int.natCast_inj, and_true, and_assoc] at e
    first | (obtain ⟨rfl, rfl, rfl⟩ := e; exact h) | (obtain ⟨rfl, rfl, rfl, _⟩ := e; exact h)
  · intro h
    exact ⟨rfl, N, X, Y, rfl, h⟩
theorem vc_least_multiple : ∀ ds w Q, spec_least_multiple ds w Q → run 4 (b_least_multiple) ds w Q := by
  rintro ds w Q ⟨N, X, Y, rfl, h⟩
  unfold b_least_multiple
  simp only [run, runF, DL.get, DL.put, puts, back, mC, mVar, mFzV, mFeed, frz, msN, msC, mBin, mUn, dAdd, dSub, dMul, dDiv, dMod, dPow, dNeg, dCmp, dLt, dLe, dGt, dGe, dEq, dNe, dIn, dIsN, dIsNotN, isN, dIs, dIsNot, dTab, flatD, okT, truth, tV, tB, tAnd, tOr, tNot, mAnd, mOr, mNot, mIf, mChain, mList, mTup, dIx, mSl, oN, oS, mRev, mRevTo, mCall, mCallF, dLen, dAbs, dInt, dMin2, dMax2, dList, dTup, dSum, dMin, dMax, dMinG, dMaxG, dAll, isTy, mIsI, gV, gSkip, gsN, gsC, gT, srcV, srcR1, srcR2, srcEnum, srcRev, mComp, tYes, isS, isL, mMS, mML, dIndexS, dIndexL, dIndexFrom, mMS2, dCount, dSplit, dJoin, sNil, sSeq, sSet, sAsg, sPar, sRet, retK, sRetN, sIf, sPass, sBrk, sCont, sNever, sExpr, sAug, ownAt, feedAt, intD, sApp, sExt, sSetI, sAugI, sFeed, sFeedA, popD, sPop, sAddPop, sFor, DL.W.set, DL.W.at, DL.R.d, okD, eqD_none_none, eqD_none_bool, eqD_none_int, eqD_none_str, eqD_none_list, eqD_none_tup, eqD_bool_none, eqD_bool_bool, eqD_bool_int, eqD_bool_str, eqD_bool_list, eqD_bool_tup, eqD_int_none, eqD_int_bool, eqD_int_int, eqD_int_str, eqD_int_list, eqD_int_tup, eqD_str_none, eqD_str_bool, eqD_str_int, eqD_str_str, eqD_str_list, eqD_str_tup, eqD_list_none, eqD_list_bool, eqD_list_int, eqD_list_str, eqD_list_list, eqD_list_tup, eqD_tup_none, eqD_tup_bool, eqD_tup_int, eqD_tup_str, eqD_tup_list, eqD_tup_tup, eqDs_nn, eqDs_cc, eqDs_nc, eqDs_cn, List.map_cons, List.map_nil, List.map, List.cons_append, List.nil_append, List.replicate, List.length_cons, List.length_nil, Nat.reduceAdd, Nat.reduceSub, List.all_cons, List.all_nil, Bool.and_true, Bool.true_and, true_and, and_true, atI_map, ex_map, ex_some, List.length_map, beq_int, decide_eq_true_eq, if_true, if_false, Bool.false_eq_true, if_pos, reduceIte, at0, at1, at2, at3, dP, mCallX, mCallB, peekA, evA, evAs, eq_self, sRaise0, sRaise1, sTry, caught, unslot, unheld, mXArg, mXIs, runX, List.contains_cons, List.contains_nil, Slot.isExn, String.reduceBEq, ex_arg, ex_valB, Bool.or_false, Bool.false_or, Bool.or_true, Bool.true_or, Bool.not_false, Bool.not_true, mComp2, dGcd]
  obtain ⟨h2, h12, hX, hY, q⟩ := h
  have hz : (2000 : Nat) ≤ LINE := by decide
  refine ⟨by omega, ?_⟩
  rw [show ((N : Int) - 1).toNat = N - 1 by omega]
  refine compL_flt _ [] (uB N) (mD N X Y) (fun st => ∃ x, st = ⟨[.val (.int N), .val (.int X), .val (.int Y), x], w⟩) ⟨_, rfl⟩ (by rw [ran_len]; simp only [List.length_nil]; omega) ?_ ?_
  · rintro d _ hd ⟨x, rfl⟩ C K1 K2 hC hK1 hK2
    obtain ⟨i, hi⟩ := List.getElem?_of_mem hd
    obtain ⟨hi, rfl⟩ := ran_get hi
    have hk := lgi (i := 1 + (i : Int)) (by omega) (by omega)
    simp only [run, runF, DL.get, DL.put, puts, back, mC, mVar, mFzV, mFeed, frz, msN, msC, mBin, mUn, dAdd, dSub, dMul, dDiv, dMod, dPow, dNeg, dCmp, dLt, dLe, dGt, dGe, dEq, dNe, dIn, dIsN, dIsNotN, isN, dIs, dIsNot, dTab, flatD, okT, truth, tV, tB, tAnd, tOr, tNot, mAnd, mOr, mNot, mIf, mChain, mList, mTup, dIx, mSl, oN, oS, mRev, mRevTo, mCall, mCallF, dLen, dAbs, dInt, dMin2, dMax2, dList, dTup, dSum, dMin, dMax, dMinG, dMaxG, dAll, isTy, mIsI, gV, gSkip, gsN, gsC, gT, srcV, srcR1, srcR2, srcEnum, srcRev, mComp, tYes, isS, isL, mMS, mML, dIndexS, dIndexL, dIndexFrom, mMS2, dCount, dSplit, dJoin, sNil, sSeq, sSet, sAsg, sPar, sRet, retK, sRetN, sIf, sPass, sBrk, sCont, sNever, sExpr, sAug, ownAt, feedAt, intD, sApp, sExt, sSetI, sAugI, sFeed, sFeedA, popD, sPop, sAddPop, sFor, DL.W.set, DL.W.at, DL.R.d, okD, eqD_none_none, eqD_none_bool, eqD_none_int, eqD_none_str, eqD_none_list, eqD_none_tup, eqD_bool_none, eqD_bool_bool, eqD_bool_int, eqD_bool_str, eqD_bool_list, eqD_bool_tup, eqD_int_none, eqD_int_bool, eqD_int_int, eqD_int_str, eqD_int_list, eqD_int_tup, eqD_str_none, eqD_str_bool, eqD_str_int, eqD_str_str, eqD_str_list, eqD_str_tup, eqD_list_none, eqD_list_bool, eqD_list_int, eqD_list_str, eqD_list_list, eqD_list_tup, eqD_tup_none, eqD_tup_bool, eqD_tup_int, eqD_tup_str, eqD_tup_list, eqD_tup_tup, eqDs_nn, eqDs_cc, eqDs_nc, eqDs_cn, List.map_cons, List.map_nil, List.map, List.cons_append, List.nil_append, List.replicate, List.length_cons, List.length_nil, Nat.reduceAdd, Nat.reduceSub, List.all_cons, List.all_nil, Bool.and_true, Bool.true_and, true_and, and_true, atI_map, ex_map, ex_some, List.length_map, beq_int, decide_eq_true_eq, if_true, if_false, Bool.false_eq_true, if_pos, reduceIte, at0, at1, at2, at3, dP, mCallX, mCallB, peekA, evA, evAs, eq_self, sRaise0, sRaise1, sTry, caught, unslot, unheld, mXArg, mXIs, runX, List.contains_cons, List.contains_nil, Slot.isExn, String.reduceBEq, ex_arg, ex_valB, Bool.or_false, Bool.false_or, Bool.or_true, Bool.true_or, Bool.not_false, Bool.not_true, mComp2, dGcd]
    rw [Int.natAbs_natCast]
    split
    · rename_i c
      have c : Nat.gcd (1 + (i : Int)).natAbs N = 1 := by omega
      exact ⟨by omega, by omega, by omega, by omega, by decide, hC, hK1 (decide_eq_true c) _ ⟨_, rfl⟩⟩
    · rename_i c
      have c : ¬ Nat.gcd (1 + (i : Int)).natAbs N = 1 := by omega
      exact hK2 (decide_eq_false c) _ ⟨_, rfl⟩
  · rintro _ ⟨x, rfl⟩
    rw [List.nil_append, ran_units, mulD]
    exact minG_pT (mulL_pos h2 X Y) fun m hm hle => q m ⟨hm, hle⟩
def uB2 (N x : Nat) : D → Bool
  | .int y => gcdB N (x, y.toNat)
  | _ => false
def lB (N : Nat) : D → Bool
  | .tup [.int x, .int y] => leastB N (x.toNat, y.toNat)
  | _ => false
def pX (x : Nat) : D → D
  | .int y => .tup [.int x, .int y]
  | d => d
theorem row_eq (N x : Nat) : ((ran 0 N).filter (uB2 N x)).map (pX x) = (((List.range N).map fun y => (x, y)).filter (gcdB N)).map pN := by
  unfold ran
  rw [List.filter_map, List.filter_map, List.map_map, List.map_map]
  have e : ((uB2 N x) ∘ fun i : Nat => D.int (0 + (i : Int))) = ((gcdB N) ∘ fun y => (x, y)) := by
    funext i
    show gcdB N (x, (0 + (i : Int)).toNat) = gcdB N (x, i)
    rw [show (0 + (i : Int)).toNat = i by omega]
  rw [e]
  refine List.map_congr_left fun i _ => ?_
  show D.tup [.int x, .int (0 + (i : Int))] = D.tup [.int x, .int i]
  rw [Int.zero_add]
def rowD (N : Nat) : D → List D
  | .int x => ((ran 0 N).filter (uB2 N x.toNat)).map (pX x.toNat)
  | _ => []
theorem rows_eq (N : Nat) : (ran 0 N).flatMap (rowD N) = ((prL N).filter (gcdB N)).map pN := by
  unfold prL
  rw [List.filter_flatMap, List.map_flatMap]
  show ((List.range N).map fun i : Nat => D.int (0 + (i : Int))).flatMap (rowD N) = _
  rw [List.flatMap_map]
  congr 1
  funext i
  show ((ran 0 N).filter (uB2 N (0 + (i : Int)).toNat)).map (pX (0 + (i : Int)).toNat) = _
  rw [show (0 + (i : Int)).toNat = i by omega]
  exact row_eq N i
theorem lines_eq (N : Nat) : (((prL N).filter (gcdB N)).map pN).filter (lB N) = (linesL N).map pN := by
  unfold linesL
  rw [List.filter_map]
  rfl
def spec_lines_of : Sem := fun ds w Q => ∃ (N : Nat), ds = [.int N] ∧ 2 ≤ N ∧ N ≤ 12 ∧ Q (.own ((linesL N).map pN)) w
theorem ar_lines_of (N : Nat) (w : W) (Q : R → W → Prop) : ar 1 spec_lines_of [.int N] w Q = (2 ≤ N ∧ N ≤ 12 ∧ Q (.own ((linesL N).map pN)) w) := by
  apply propext
  constructor
  · rintro ⟨_, N', e, h⟩
    simp only [List.cons.injEq, D.str.injEq, D.int.injEq, D.bool.injEq, D.tup.injEq, D.list.injEq, mapInt_inj, Int.natCast_inj, and_true, and_assoc] at e
    first | (obtain rfl := e; exact h) | (obtain ⟨rfl, _⟩ := e; exact h)
  · intro h
    exact ⟨rfl, N, rfl, h⟩
theorem vc_lines_of : ∀ ds w Q, spec_lines_of ds w Q → run 4 (b_lines_of (ar 3 spec_least_multiple)) ds w Q := by
  rintro ds w Q ⟨N, rfl, h⟩
  unfold b_lines_of
  simp only [run, runF, DL.get, DL.put, puts, back, mC, mVar, mFzV, mFeed, frz, msN, msC, mBin, mUn, dAdd, dSub, dMul, dDiv, dMod, dPow, dNeg, dCmp, dLt, dLe, dGt, dGe, dEq, dNe, dIn, dIsN, dIsNotN, isN, dIs, dIsNot, dTab, flatD, okT, truth, tV, tB, tAnd, tOr, tNot, mAnd, mOr, mNot, mIf, mChain, mList, mTup, dIx, mSl, oN, oS, mRev, mRevTo, mCall, mCallF, dLen, dAbs, dInt, dMin2, dMax2, dList, dTup, dSum, dMin, dMax, dMinG, dMaxG, dAll, isTy, mIsI, gV, gSkip, gsN, gsC, gT, srcV, srcR1, srcR2, srcEnum, srcRev, mComp, tYes, isS, isL, mMS, mML, dIndexS, dIndexL, dIndexFrom, mMS2, dCount, dSplit, dJoin, sNil, sSeq, sSet, sAsg, sPar, sRet, retK, sRetN, sIf, sPass, sBrk, sCont, sNever, sExpr, sAug, ownAt, feedAt, intD, sApp, sExt, sSetI, sAugI, sFeed, sFeedA, popD, sPop, sAddPop, sFor, DL.W.set, DL.W.at, DL.R.d, okD, eqD_none_none, eqD_none_bool, eqD_none_int, eqD_none_str, eqD_none_list, eqD_none_tup, eqD_bool_none, eqD_bool_bool, eqD_bool_int, eqD_bool_str, eqD_bool_list, eqD_bool_tup, eqD_int_none, eqD_int_bool, eqD_int_int, eqD_int_str, eqD_int_list, eqD_int_tup, eqD_str_none, eqD_str_bool, eqD_str_int, eqD_str_str, eqD_str_list, eqD_str_tup, eqD_list_none, eqD_list_bool, eqD_list_int, eqD_list_str, eqD_list_list, eqD_list_tup, eqD_tup_none, eqD_tup_bool, eqD_tup_int, eqD_tup_str, eqD_tup_list, eqD_tup_tup, eqDs_nn, eqDs_cc, eqDs_nc, eqDs_cn, List.map_cons, List.map_nil, List.map, List.cons_append, List.nil_append, List.replicate, List.length_cons, List.length_nil, Nat.reduceAdd, Nat.reduceSub, List.all_cons, List.all_nil, Bool.and_true, Bool.true_and, true_and, and_true, atI_map, ex_map, ex_some, List.length_map, beq_int, decide_eq_true_eq, if_true, if_false, Bool.false_eq_true, if_pos, reduceIte, at0, at1, at2, at3, dP, mCallX, mCallB, peekA, evA, evAs, eq_self, sRaise0, sRaise1, sTry, caught, unslot, unheld, mXArg, mXIs, runX, List.contains_cons, List.contains_nil, Slot.isExn, String.reduceBEq, ex_arg, ex_valB, Bool.or_false, Bool.false_or, Bool.or_true, Bool.true_or, Bool.not_false, Bool.not_true, mComp2, dGcd, ar_least_multiple]
  obtain ⟨h2, h12, q⟩ := h
  have hz : (2000 : Nat) ≤ LINE := by decide
  refine ⟨by omega, ?_⟩
  rw [Int.toNat_natCast]
  have rl : ∀ d, d ∈ ran 0 N → (rowD N d).length ≤ N := fun d hd => by
    obtain ⟨i, hi⟩ := List.getElem?_of_mem hd
    obtain ⟨hi, rfl⟩ := ran_get hi
    show (((ran 0 N).filter _).map _).length ≤ N
    rw [List.length_map]
    exact Nat.le_trans (List.length_filter_le _ _) (by rw [ran_len]; exact Nat.le_refl N)
  have pl : ((prL N).filter (gcdB N)).length ≤ 144 := by
    have h1 := List.length_filter_le (gcdB N) (prL N)
    have h3 : (prL N).length = N * N := by unfold prL; rw [List.length_flatMap]; simp [List.map_const', List.sum_replicate_nat]
    have := Nat.mul_le_mul h12 h12
    omega
  have nn : (ran 0 N).length * N ≤ 144 := by
    rw [ran_len]
    exact Nat.mul_le_mul h12 h12
  refine compL2_all (rowD N) N (fun st => ∃ x y, st = ⟨[.val (.int N), .gone, x, y], w⟩) _ [] ⟨_, _, rfl⟩ (by simp only [List.length_nil]; omega) rl ?_ ?_
  · rintro d _ acc hd ⟨x, y, rfl⟩ hl K hK
    obtain ⟨i, hi⟩ := List.getElem?_of_mem hd
    obtain ⟨hi, rfl⟩ := ran_get hi
    simp only [run, runF, DL.get, DL.put, puts, back, mC, mVar, mFzV, mFeed, frz, msN, msC, mBin, mUn, dAdd, dSub, dMul, dDiv, dMod, dPow, dNeg, dCmp, dLt, dLe, dGt, dGe, dEq, dNe, dIn, dIsN, dIsNotN, isN, dIs, dIsNot, dTab, flatD, okT, truth, tV, tB, tAnd, tOr, tNot, mAnd, mOr, mNot, mIf, mChain, mList, mTup, dIx, mSl, oN, oS, mRev, mRevTo, mCall, mCallF, dLen, dAbs, dInt, dMin2, dMax2, dList, dTup, dSum, dMin, dMax, dMinG, dMaxG, dAll, isTy, mIsI, gV, gSkip, gsN, gsC, gT, srcV, srcR1, srcR2, srcEnum, srcRev, mComp, tYes, isS, isL, mMS, mML, dIndexS, dIndexL, dIndexFrom, mMS2, dCount, dSplit, dJoin, sNil, sSeq, sSet, sAsg, sPar, sRet, retK, sRetN, sIf, sPass, sBrk, sCont, sNever, sExpr, sAug, ownAt, feedAt, intD, sApp, sExt, sSetI, sAugI, sFeed, sFeedA, popD, sPop, sAddPop, sFor, DL.W.set, DL.W.at, DL.R.d, okD, eqD_none_none, eqD_none_bool, eqD_none_int, eqD_none_str, eqD_none_list, eqD_none_tup, eqD_bool_none, eqD_bool_bool, eqD_bool_int, eqD_bool_str, eqD_bool_list, eqD_bool_tup, eqD_int_none, eqD_int_bool, eqD_int_int, eqD_int_str, eqD_int_list, eqD_int_tup, eqD_str_none, eqD_str_bool, eqD_str_int, eqD_str_str, eqD_str_list, eqD_str_tup, eqD_list_none, eqD_list_bool, eqD_list_int, eqD_list_str, eqD_list_list, eqD_list_tup, eqD_tup_none, eqD_tup_bool, eqD_tup_int, eqD_tup_str, eqD_tup_list, eqD_tup_tup, eqDs_nn, eqDs_cc, eqDs_nc, eqDs_cn, List.map_cons, List.map_nil, List.map, List.cons_append, List.nil_append, List.replicate, List.length_cons, List.length_nil, Nat.reduceAdd, Nat.reduceSub, List.all_cons, List.all_nil, Bool.and_true, Bool.true_and, true_and, and_true, atI_map, ex_map, ex_some, List.length_map, beq_int, decide_eq_true_eq, if_true, if_false, Bool.false_eq_true, if_pos, reduceIte, at0, at1, at2, at3, dP, mCallX, mCallB, peekA, evA, evAs, eq_self, sRaise0, sRaise1, sTry, caught, unslot, unheld, mXArg, mXIs, runX, List.contains_cons, List.contains_nil, Slot.isExn, String.reduceBEq, ex_arg, ex_valB, Bool.or_false, Bool.false_or, Bool.or_true, Bool.true_or, Bool.not_false, Bool.not_true, mComp2, dGcd, ar_least_multiple]
    refine ⟨by omega, ?_⟩
    rw [Int.toNat_natCast]
    have hK : ∀ s', (∃ y, s' = ⟨[.val (.int N), .gone, .val (.int (0 + (i : Int))), y], w⟩) → K (acc ++ ((ran 0 N).filter (uB2 N i)).map (pX i)) s' := fun s' ⟨y, e⟩ => by
      have := hK s' ⟨_, y, e⟩
      rwa [show rowD N (.int (0 + (i : Int))) = ((ran 0 N).filter (uB2 N i)).map (pX i) by show ((ran 0 N).filter (uB2 N (0 + (i : Int)).toNat)).map (pX (0 + (i : Int)).toNat) = _; rw [show (0 + (i : Int)).toNat = i by omega]] at this
    refine compL_flt _ acc (uB2 N i) (pX i) (fun st => ∃ y, st = ⟨[.val (.int N), .gone, .val (.int (0 + (i : Int))), y], w⟩) ⟨_, rfl⟩ (by rw [ran_len]; exact hl) ?_ hK
    rintro d _ hd ⟨y, rfl⟩ C K1 K2 hC hK1 hK2
    obtain ⟨j, hj⟩ := List.getElem?_of_mem hd
    obtain ⟨hj, rfl⟩ := ran_get hj
    rw [Int.zero_add, Int.zero_add] at *
    simp only [run, runF, DL.get, DL.put, puts, back, mC, mVar, mFzV, mFeed, frz, msN, msC, mBin, mUn, dAdd, dSub, dMul, dDiv, dMod, dPow, dNeg, dCmp, dLt, dLe, dGt, dGe, dEq, dNe, dIn, dIsN, dIsNotN, isN, dIs, dIsNot, dTab, flatD, okT, truth, tV, tB, tAnd, tOr, tNot, mAnd, mOr, mNot, mIf, mChain, mList, mTup, dIx, mSl, oN, oS, mRev, mRevTo, mCall, mCallF, dLen, dAbs, dInt, dMin2, dMax2, dList, dTup, dSum, dMin, dMax, dMinG, dMaxG, dAll, isTy, mIsI, gV, gSkip, gsN, gsC, gT, srcV, srcR1, srcR2, srcEnum, srcRev, mComp, tYes, isS, isL, mMS, mML, dIndexS, dIndexL, dIndexFrom, mMS2, dCount, dSplit, dJoin, sNil, sSeq, sSet, sAsg, sPar, sRet, retK, sRetN, sIf, sPass, sBrk, sCont, sNever, sExpr, sAug, ownAt, feedAt, intD, sApp, sExt, sSetI, sAugI, sFeed, sFeedA, popD, sPop, sAddPop, sFor, DL.W.set, DL.W.at, DL.R.d, okD, eqD_none_none, eqD_none_bool, eqD_none_int, eqD_none_str, eqD_none_list, eqD_none_tup, eqD_bool_none, eqD_bool_bool, eqD_bool_int, eqD_bool_str, eqD_bool_list, eqD_bool_tup, eqD_int_none, eqD_int_bool, eqD_int_int, eqD_int_str, eqD_int_list, eqD_int_tup, eqD_str_none, eqD_str_bool, eqD_str_int, eqD_str_str, eqD_str_list, eqD_str_tup, eqD_list_none, eqD_list_bool, eqD_list_int, eqD_list_str, eqD_list_list, eqD_list_tup, eqD_tup_none, eqD_tup_bool, eqD_tup_int, eqD_tup_str, eqD_tup_list, eqD_tup_tup, eqDs_nn, eqDs_cc, eqDs_nc, eqDs_cn, List.map_cons, List.map_nil, List.map, List.cons_append, List.nil_append, List.replicate, List.length_cons, List.length_nil, Nat.reduceAdd, Nat.reduceSub, List.all_cons, List.all_nil, Bool.and_true, Bool.true_and, true_and, and_true, atI_map, ex_map, ex_some, List.length_map, beq_int, decide_eq_true_eq, if_true, if_false, Bool.false_eq_true, if_pos, reduceIte, at0, at1, at2, at3, dP, mCallX, mCallB, peekA, evA, evAs, eq_self, sRaise0, sRaise1, sTry, caught, unslot, unheld, mXArg, mXIs, runX, List.contains_cons, List.contains_nil, Slot.isExn, String.reduceBEq, ex_arg, ex_valB, Bool.or_false, Bool.false_or, Bool.or_true, Bool.true_or, Bool.not_false, Bool.not_true, mComp2, dGcd, ar_least_multiple]
    rw [Int.natAbs_natCast, Int.natAbs_natCast, Int.natAbs_natCast, Int.natAbs_natCast]
    split
    · rename_i c
      exact ⟨by decide, hC, hK1 (decide_eq_true (by show Nat.gcd (Nat.gcd i j) N = 1; omega)) _ ⟨_, rfl⟩⟩
    · rename_i c
      exact hK2 (decide_eq_false (by show ¬ Nat.gcd (Nat.gcd i j) N = 1; omega)) _ ⟨_, rfl⟩
  · rintro _ ⟨x, y, rfl⟩
    rw [List.nil_append, rows_eq]
    simp only [run, runF, DL.get, DL.put, puts, back, mC, mVar, mFzV, mFeed, frz, msN, msC, mBin, mUn, dAdd, dSub, dMul, dDiv, dMod, dPow, dNeg, dCmp, dLt, dLe, dGt, dGe, dEq, dNe, dIn, dIsN, dIsNotN, isN, dIs, dIsNot, dTab, flatD, okT, truth, tV, tB, tAnd, tOr, tNot, mAnd, mOr, mNot, mIf, mChain, mList, mTup, dIx, mSl, oN, oS, mRev, mRevTo, mCall, mCallF, dLen, dAbs, dInt, dMin2, dMax2, dList, dTup, dSum, dMin, dMax, dMinG, dMaxG, dAll, isTy, mIsI, gV, gSkip, gsN, gsC, gT, srcV, srcR1, srcR2, srcEnum, srcRev, mComp, tYes, isS, isL, mMS, mML, dIndexS, dIndexL, dIndexFrom, mMS2, dCount, dSplit, dJoin, sNil, sSeq, sSet, sAsg, sPar, sRet, retK, sRetN, sIf, sPass, sBrk, sCont, sNever, sExpr, sAug, ownAt, feedAt, intD, sApp, sExt, sSetI, sAugI, sFeed, sFeedA, popD, sPop, sAddPop, sFor, DL.W.set, DL.W.at, DL.R.d, okD, eqD_none_none, eqD_none_bool, eqD_none_int, eqD_none_str, eqD_none_list, eqD_none_tup, eqD_bool_none, eqD_bool_bool, eqD_bool_int, eqD_bool_str, eqD_bool_list, eqD_bool_tup, eqD_int_none, eqD_int_bool, eqD_int_int, eqD_int_str, eqD_int_list, eqD_int_tup, eqD_str_none, eqD_str_bool, eqD_str_int, eqD_str_str, eqD_str_list, eqD_str_tup, eqD_list_none, eqD_list_bool, eqD_list_int, eqD_list_str, eqD_list_list, eqD_list_tup, eqD_tup_none, eqD_tup_bool, eqD_tup_int, eqD_tup_str, eqD_tup_list, eqD_tup_tup, eqDs_nn, eqDs_cc, eqDs_nc, eqDs_cn, List.map_cons, List.map_nil, List.map, List.cons_append, List.nil_append, List.replicate, List.length_cons, List.length_nil, Nat.reduceAdd, Nat.reduceSub, List.all_cons, List.all_nil, Bool.and_true, Bool.true_and, true_and, and_true, atI_map, ex_map, ex_some, List.length_map, beq_int, decide_eq_true_eq, if_true, if_false, Bool.false_eq_true, if_pos, reduceIte, at0, at1, at2, at3, dP, mCallX, mCallB, peekA, evA, evAs, eq_self, sRaise0, sRaise1, sTry, caught, unslot, unheld, mXArg, mXIs, runX, List.contains_cons, List.contains_nil, Slot.isExn, String.reduceBEq, ex_arg, ex_valB, Bool.or_false, Bool.false_or, Bool.or_true, Bool.true_or, Bool.not_false, Bool.not_true, mComp2, dGcd, ar_least_multiple]
    refine compL_flt _ [] (lB N) (fun d => d) (fun st => ∃ x y, st = ⟨[.val (.int N), .val (.list (((prL N).filter (gcdB N)).map pN)), x, y], w⟩) ⟨_, _, rfl⟩ (by rw [List.length_map]; simp only [List.length_nil]; omega) ?_ ?_
    · rintro d _ hd ⟨x, y, rfl⟩ C K1 K2 hC hK1 hK2
      obtain ⟨z, hz', rfl⟩ := List.mem_map.mp hd
      obtain ⟨z1, z2⟩ := prL_mem (List.mem_filter.mp hz').1
      simp only [run, runF, DL.get, DL.put, puts, back, mC, mVar, mFzV, mFeed, frz, msN, msC, mBin, mUn, dAdd, dSub, dMul, dDiv, dMod, dPow, dNeg, dCmp, dLt, dLe, dGt, dGe, dEq, dNe, dIn, dIsN, dIsNotN, isN, dIs, dIsNot, dTab, flatD, okT, truth, tV, tB, tAnd, tOr, tNot, mAnd, mOr, mNot, mIf, mChain, mList, mTup, dIx, mSl, oN, oS, mRev, mRevTo, mCall, mCallF, dLen, dAbs, dInt, dMin2, dMax2, dList, dTup, dSum, dMin, dMax, dMinG, dMaxG, dAll, isTy, mIsI, gV, gSkip, gsN, gsC, gT, srcV, srcR1, srcR2, srcEnum, srcRev, mComp, tYes, isS, isL, mMS, mML, dIndexS, dIndexL, dIndexFrom, mMS2, dCount, dSplit, dJoin, sNil, sSeq, sSet, sAsg, sPar, sRet, retK, sRetN, sIf, sPass, sBrk, sCont, sNever, sExpr, sAug, ownAt, feedAt, intD, sApp, sExt, sSetI, sAugI, sFeed, sFeedA, popD, sPop, sAddPop, sFor, DL.W.set, DL.W.at, DL.R.d, okD, eqD_none_none, eqD_none_bool, eqD_none_int, eqD_none_str, eqD_none_list, eqD_none_tup, eqD_bool_none, eqD_bool_bool, eqD_bool_int, eqD_bool_str, eqD_bool_list, eqD_bool_tup, eqD_int_none, eqD_int_bool, eqD_int_int, eqD_int_str, eqD_int_list, eqD_int_tup, eqD_str_none, eqD_str_bool, eqD_str_int, eqD_str_str, eqD_str_list, eqD_str_tup, eqD_list_none, eqD_list_bool, eqD_list_int, eqD_list_str, eqD_list_list, eqD_list_tup, eqD_tup_none, eqD_tup_bool, eqD_tup_int, eqD_tup_str, eqD_tup_list, eqD_tup_tup, eqDs_nn, eqDs_cc, eqDs_nc, eqDs_cn, List.map_cons, List.map_nil, List.map, List.cons_append, List.nil_append, List.replicate, List.length_cons, List.length_nil, Nat.reduceAdd, Nat.reduceSub, List.all_cons, List.all_nil, Bool.and_true, Bool.true_and, true_and, and_true, atI_map, ex_map, ex_some, List.length_map, beq_int, decide_eq_true_eq, if_true, if_false, Bool.false_eq_true, if_pos, reduceIte, at0, at1, at2, at3, dP, mCallX, mCallB, peekA, evA, evAs, eq_self, sRaise0, sRaise1, sTry, caught, unslot, unheld, mXArg, mXIs, runX, List.contains_cons, List.contains_nil, Slot.isExn, String.reduceBEq, ex_arg, ex_valB, Bool.or_false, Bool.false_or, Bool.or_true, Bool.true_or, Bool.not_false, Bool.not_true, mComp2, dGcd, ar_least_multiple]
      refine ⟨h2, h12, lgn (by omega), lgn (by omega), fun m hm => ⟨by decide, ?_⟩⟩
      by_cases c : leL N z.1 z.2 (z.1, z.2)
      · have e := hm.uniq c
        subst e
        rw [if_pos (by simp)]
        exact ⟨by decide, hC, hK1 (decide_eq_true c) _ ⟨_, _, rfl⟩⟩
      · rw [if_neg (fun e => c ?_)]
        · exact hK2 (decide_eq_false c) _ ⟨_, _, rfl⟩
        · rw [Bool.and_eq_true, decide_eq_true_eq, decide_eq_true_eq] at e
          have : m = ((z.1 : Int), (z.2 : Int)) := by rw [← e.1, ← e.2]
          rwa [this] at hm
    · rintro _ ⟨x, y, rfl⟩
      rw [List.nil_append, lines_eq, List.map_id']
      exact q
theorem tb_bd {l : List Int} (h : Okl l) : bd 24000 (tb l) := by
  have c1 := h.low (v := (1, 0)) (by decide) (by decide)
  have c2 := h.low (v := (0, 1)) (by decide) (by decide)
  rw [Minus.tb_cols l]
  exact ⟨c1.1, c2.1, c1.2, c2.2⟩
theorem lin_lg {a b : Int} {x y : Nat} (ha : a.natAbs ≤ 2 ^ 24000) (hb : b.natAbs ≤ 2 ^ 24000) (hx : x ≤ 12) (hy : y ≤ 12) : (a * (x : Int) + b * (y : Int)).natAbs.log2 < 400000 := by
  have h1 : (a * (x : Int) + b * (y : Int)).natAbs ≤ a.natAbs * x + b.natAbs * y := by
    refine Nat.le_trans (Int.natAbs_add_le _ _) ?_
    rw [Int.natAbs_mul, Int.natAbs_mul]
    exact Nat.le_refl _
  have h2 := Nat.mul_le_mul ha hx
  have h3 := Nat.mul_le_mul hb hy
  have h4 : (2 : Nat) ^ 24005 = 2 ^ 24000 * 32 := by rw [show 24005 = 24000 + 5 from rfl, Nat.pow_add]
  have h5 : 0 < (2 : Nat) ^ 24000 := Nat.pow_pos (by decide)
  have := lg_lt (n := (a * (x : Int) + b * (y : Int)).natAbs) (k := 24005) (by rw [h4]; generalize 2 ^ 24000 = P at *; omega) (by decide)
  omega
def spec_kept_lines : Sem := fun ds w Q => ∃ (r : List Int) (N : Nat), ds = [.list (r.map D.int), .int N] ∧ 2 ≤ N ∧ N ≤ 12 ∧ Okl r ∧ Q (.own ((keptL N (tb r)).map fun i : Nat => .int i)) w
theorem ar_kept_lines (r : List Int) (N : Nat) (w : W) (Q : R → W → Prop) : ar 2 spec_kept_lines [.list (r.map D.int), .int N] w Q = (2 ≤ N ∧ N ≤ 12 ∧ Okl r ∧ Q (.own ((keptL N (tb r)).map fun i : Nat => .int i)) w) := by
  apply propext
  constructor
  · rintro ⟨_, r', N', e, h⟩
    simp only [List.cons.injEq, D.str.injEq, D.int.injEq, D.bool.injEq, D.tup.injEq, D.list.injEq, mapInt_inj, Int.natCast_inj, and_true, and_assoc] at e
    first | (obtain ⟨rfl, rfl⟩ := e; exact h) | (obtain ⟨rfl, rfl, _⟩ := e; exact h)
  · intro h
    exact ⟨rfl, r, N, rfl, h⟩
theorem vc_kept_lines : ∀ ds w Q, spec_kept_lines ds w Q → run 9 (b_kept_lines (ar 1 spec_turned_by) (ar 1 spec_lines_of) (ar 3 spec_least_multiple)) ds w Q := by
  rintro ds w Q ⟨r, N, rfl, h⟩
  unfold b_kept_lines
  simp only [run, runF, DL.get, DL.put, puts, back, mC, mVar, mFzV, mFeed, frz, msN, msC, mBin, mUn, dAdd, dSub, dMul, dDiv, dMod, dPow, dNeg, dCmp, dLt, dLe, dGt, dGe, dEq, dNe, dIn, dIsN, dIsNotN, isN, dIs, dIsNot, dTab, flatD, okT, truth, tV, tB, tAnd, tOr, tNot, mAnd, mOr, mNot, mIf, mChain, mList, mTup, dIx, mSl, oN, oS, mRev, mRevTo, mCall, mCallF, dLen, dAbs, dInt, dMin2, dMax2, dList, dTup, dSum, dMin, dMax, dMinG, dMaxG, dAll, isTy, mIsI, gV, gSkip, gsN, gsC, gT, srcV, srcR1, srcR2, srcEnum, srcRev, mComp, tYes, isS, isL, mMS, mML, dIndexS, dIndexL, dIndexFrom, mMS2, dCount, dSplit, dJoin, sNil, sSeq, sSet, sAsg, sPar, sRet, retK, sRetN, sIf, sPass, sBrk, sCont, sNever, sExpr, sAug, ownAt, feedAt, intD, sApp, sExt, sSetI, sAugI, sFeed, sFeedA, popD, sPop, sAddPop, sFor, DL.W.set, DL.W.at, DL.R.d, okD, eqD_none_none, eqD_none_bool, eqD_none_int, eqD_none_str, eqD_none_list, eqD_none_tup, eqD_bool_none, eqD_bool_bool, eqD_bool_int, eqD_bool_str, eqD_bool_list, eqD_bool_tup, eqD_int_none, eqD_int_bool, eqD_int_int, eqD_int_str, eqD_int_list, eqD_int_tup, eqD_str_none, eqD_str_bool, eqD_str_int, eqD_str_str, eqD_str_list, eqD_str_tup, eqD_list_none, eqD_list_bool, eqD_list_int, eqD_list_str, eqD_list_list, eqD_list_tup, eqD_tup_none, eqD_tup_bool, eqD_tup_int, eqD_tup_str, eqD_tup_list, eqD_tup_tup, eqDs_nn, eqDs_cc, eqDs_nc, eqDs_cn, List.map_cons, List.map_nil, List.map, List.cons_append, List.nil_append, List.replicate, List.length_cons, List.length_nil, Nat.reduceAdd, Nat.reduceSub, List.all_cons, List.all_nil, Bool.and_true, Bool.true_and, true_and, and_true, atI_map, ex_map, ex_some, List.length_map, beq_int, decide_eq_true_eq, if_true, if_false, Bool.false_eq_true, if_pos, reduceIte, at0, at1, at2, at3, dP, mCallX, mCallB, peekA, evA, evAs, eq_self, sRaise0, sRaise1, sTry, caught, unslot, unheld, mXArg, mXIs, runX, List.contains_cons, List.contains_nil, Slot.isExn, String.reduceBEq, ex_arg, ex_valB, Bool.or_false, Bool.false_or, Bool.or_true, Bool.true_or, Bool.not_false, Bool.not_true, mComp2, dGcd, ar_turned_by, ar_lines_of, ar_least_multiple]
  obtain ⟨h2, h12, hr, q⟩ := h
  have hz : (2000 : Nat) ≤ LINE := by decide
  have pl : (linesL N).length ≤ 144 := by
    have h1 := List.length_filter_le (leastB N) ((prL N).filter (gcdB N))
    have h1' := List.length_filter_le (gcdB N) (prL N)
    have h3 : (prL N).length = N * N := by unfold prL; rw [List.length_flatMap]; simp [List.map_const', List.sum_replicate_nat]
    have := Nat.mul_le_mul h12 h12
    have : (linesL N).length ≤ ((prL N).filter (gcdB N)).length := h1
    omega
  obtain ⟨o1, o2, o3, o4⟩ := tb_ok hr
  obtain ⟨b1, b2, b3, b4⟩ := tb_bd hr
  refine ⟨hr, h2, h12, ?_⟩
  generalize tb r = A at *
  refine compL_ix _ [] _ (fun k acc st => acc = ((List.range k).filter fun i => keptB N A ((linesL N).getD i (0, 0))).map (fun i : Nat => D.int i) ∧ ∃ x y z, st = ⟨[.val (.list (r.map D.int)), .val (.int N), .val (.int A.p), .val (.int A.q), .val (.int A.r), .val (.int A.s), x, y, z], w⟩) ⟨rfl, _, _, _, rfl⟩ ?_ ?_
  · rintro k d acc _ hd ⟨rfl, x, y, z, rfl⟩ K hK
    obtain ⟨d', h4, rfl⟩ := enum_get 0 _ k d hd
    rw [List.getElem?_map] at h4
    cases e : (linesL N)[k]? with
    | none => rw [e] at h4; cases h4
    | some z =>
      rw [e] at h4
      cases h4
      obtain ⟨hk, hk'⟩ := List.getElem?_eq_some_iff.mp e
      have hm : z ∈ linesL N := List.mem_of_getElem? e
      obtain ⟨z1, z2⟩ := linesL_mem hm
      have hg : (linesL N).getD k (0, 0) = z := by rw [List.getD_eq_getElem?_getD, e]; rfl
      have e1 : (List.range (k + 1)).filter (fun i => keptB N A ((linesL N).getD i (0, 0))) = (List.range k).filter (fun i => keptB N A ((linesL N).getD i (0, 0))) ++ (if keptB N A z = true then [k] else []) := by
        rw [List.range_succ, List.filter_append, List.filter_cons, List.filter_nil, hg]
      have hf := List.length_filter_le (fun i => keptB N A ((linesL N).getD i (0, 0))) (List.range k)
      rw [List.length_range] at hf
      rw [e1, List.map_append] at hK
      simp only [run, runF, DL.get, DL.put, puts, back, mC, mVar, mFzV, mFeed, frz, msN, msC, mBin, mUn, dAdd, dSub, dMul, dDiv, dMod, dPow, dNeg, dCmp, dLt, dLe, dGt, dGe, dEq, dNe, dIn, dIsN, dIsNotN, isN, dIs, dIsNot, dTab, flatD, okT, truth, tV, tB, tAnd, tOr, tNot, mAnd, mOr, mNot, mIf, mChain, mList, mTup, dIx, mSl, oN, oS, mRev, mRevTo, mCall, mCallF, dLen, dAbs, dInt, dMin2, dMax2, dList, dTup, dSum, dMin, dMax, dMinG, dMaxG, dAll, isTy, mIsI, gV, gSkip, gsN, gsC, gT, srcV, srcR1, srcR2, srcEnum, srcRev, mComp, tYes, isS, isL, mMS, mML, dIndexS, dIndexL, dIndexFrom, mMS2, dCount, dSplit, dJoin, sNil, sSeq, sSet, sAsg, sPar, sRet, retK, sRetN, sIf, sPass, sBrk, sCont, sNever, sExpr, sAug, ownAt, feedAt, intD, sApp, sExt, sSetI, sAugI, sFeed, sFeedA, popD, sPop, sAddPop, sFor, DL.W.set, DL.W.at, DL.R.d, okD, eqD_none_none, eqD_none_bool, eqD_none_int, eqD_none_str, eqD_none_list, eqD_none_tup, eqD_bool_none, eqD_bool_bool, eqD_bool_int, eqD_bool_str, eqD_bool_list, eqD_bool_tup, eqD_int_none, eqD_int_bool, eqD_int_int, eqD_int_str, eqD_int_list, eqD_int_tup, eqD_str_none, eqD_str_bool, eqD_str_int, eqD_str_str, eqD_str_list, eqD_str_tup, eqD_list_none, eqD_list_bool, eqD_list_int, eqD_list_str, eqD_list_list, eqD_list_tup, eqD_tup_none, eqD_tup_bool, eqD_tup_int, eqD_tup_str, eqD_tup_list, eqD_tup_tup, eqDs_nn, eqDs_cc, eqDs_nc, eqDs_cn, List.map_cons, List.map_nil, List.map, List.cons_append, List.nil_append, List.replicate, List.length_cons, List.length_nil, Nat.reduceAdd, Nat.reduceSub, List.all_cons, List.all_nil, Bool.and_true, Bool.true_and, true_and, and_true, atI_map, ex_map, ex_some, List.length_map, beq_int, decide_eq_true_eq, if_true, if_false, Bool.false_eq_true, if_pos, reduceIte, at0, at1, at2, at3, dP, mCallX, mCallB, peekA, evA, evAs, eq_self, sRaise0, sRaise1, sTry, caught, unslot, unheld, mXArg, mXIs, runX, List.contains_cons, List.contains_nil, Slot.isExn, String.reduceBEq, ex_arg, ex_valB, Bool.or_false, Bool.false_or, Bool.or_true, Bool.true_or, Bool.not_false, Bool.not_true, mComp2, dGcd, ar_turned_by, ar_lines_of, ar_least_multiple]
      have y1 := lgn (n := z.1) (by omega)
      have y2 := lgn (n := z.2) (by omega)
      refine ⟨by omega, by omega, by omega, by omega, h2, h12, lin_lg b1 b2 (by omega) (by omega), lin_lg b3 b4 (by omega) (by omega), fun m hmm => ⟨by decide, ?_⟩⟩
      by_cases c : leL N (A.p * z.1 + A.q * z.2) (A.r * z.1 + A.s * z.2) (z.1, z.2)
      · have e := hmm.uniq c
        subst e
        rw [if_pos (by simp)]
        rw [if_pos (show keptB N A z = true from decide_eq_true c)] at hK
        refine ⟨by omega, hK _ _ ⟨?_, _, _, _, rfl⟩⟩
        rw [Nat.zero_add]
        rfl
      · rw [if_neg (fun e => c ?_)]
        · rw [if_neg (show ¬ keptB N A z = true from fun e => c (of_decide_eq_true e))] at hK
          exact hK _ _ ⟨(List.append_nil _).symm, _, _, _, rfl⟩
        · rw [Bool.and_eq_true, decide_eq_true_eq, decide_eq_true_eq] at e
          have : m = ((z.1 : Int), (z.2 : Int)) := by rw [← e.1, ← e.2]
          rwa [this] at hmm
  · rintro acc _ ⟨rfl, x, y, z, rfl⟩
    rw [enum_len, List.length_map]
    exact q
def pairAt (N n : Nat) : List (Nat × Nat) := (List.range n).flatMap fun x => (List.range N).map fun y => (x, y)
def okB (N : Nat) (z : Nat × Nat) : Bool := gcdB N z && leastB N z
def part (N x j : Nat) : List (Nat × Nat) := (pairAt N x ++ (List.range j).map fun y => (x, y)).filter (okB N)
theorem part_next (N x j : Nat) : part N x (j + 1) = part N x j ++ (if okB N (x, j) = true then [(x, j)] else []) := by
  unfold part
  rw [List.range_succ, List.map_append, ← List.append_assoc, List.filter_append]
  congr 1
  rw [List.map_cons, List.map_nil, List.filter_cons, List.filter_nil]
theorem part_row (N x : Nat) : part N (x + 1) 0 = part N x N := by
  unfold part pairAt
  rw [List.range_succ, List.flatMap_append]
  congr 1
  rw [List.range_zero, List.map_nil, List.append_nil, List.flatMap_cons, List.flatMap_nil, List.append_nil]
theorem part_end (N : Nat) : part N N 0 = linesL N := by
  rw [← linesL_two]
  unfold part pairAt prL
  rw [List.range_zero, List.map_nil, List.append_nil]
  rfl
theorem part_zero (N : Nat) : part N 0 0 = [] := rfl
theorem part_len (N x j : Nat) (hx : x ≤ 12) (hN : N ≤ 12) (hj : j ≤ 12) : (part N x j).length ≤ 200 := by
  unfold part
  have h1 := List.length_filter_le (okB N) (pairAt N x ++ (List.range j).map fun y => (x, y))
  have h3 : (pairAt N x).length = x * N := by unfold pairAt; rw [List.length_flatMap]; simp [List.map_const', List.sum_replicate_nat]
  rw [List.length_append, List.length_map, List.length_range, h3] at h1
  have := Nat.mul_le_mul hx hN
  omega
abbrev uD (N : Nat) : List D := (units N).map fun k : Nat => D.int k
theorem units_len {N : Nat} (h : N ≤ 12) : (units N).length ≤ 12 := by
  have := List.length_filter_le (fun k => decide (Nat.gcd k N = 1)) ((List.range (N - 1)).map fun i => 1 + i)
  rw [List.length_map, List.length_range] at this
  have : (units N).length ≤ N - 1 := this
  omega
theorem units_mem {N k : Nat} (h : k ∈ units N) : k < N := by
  obtain ⟨i, hi, rfl⟩ := List.mem_map.mp (List.mem_filter.mp h).1
  rw [List.mem_range] at hi
  omega
theorem cond_cut3 {t : T} {a b : MS} {s : S} {O : Outs} {r : MS} (c : Bool) (h : ∀ K : Bool → S → Prop, K c s → t s K) (h1 : c = true → sSeq a r s O) (h2 : c = false → sSeq b r s O) : sSeq (sIf t a b) r s O := by
  refine h _ ?_
  cases c with
  | true => exact h1 rfl
  | false => exact h2 rfl
theorem cond_cut2 {t : T} {a b : MS} {s : S} {O : Outs} (c : Bool) (J : S → Prop) (h : ∀ K : Bool → S → Prop, (∀ s', J s' → K c s') → t s K) (h1 : c = true → ∀ s', J s' → a s' O) (h2 : c = false → ∀ s', J s' → b s' O) : sIf t a b s O := by
  refine h _ fun s' hj => ?_
  cases c with
  | true => exact h1 rfl s' hj
  | false => exact h2 rfl s' hj
def spec__law_lines : Sem := fun ds w Q => ∃ (N : Nat), ds = [.int N] ∧ 2 ≤ N ∧ N ≤ 12 ∧ Q (.own ((linesL N).map pN)) w
theorem ar__law_lines (N : Nat) (w : W) (Q : R → W → Prop) : ar 1 spec__law_lines [.int N] w Q = (2 ≤ N ∧ N ≤ 12 ∧ Q (.own ((linesL N).map pN)) w) := by
  apply propext
  constructor
  · rintro ⟨_, N', e, h⟩
    simp only [List.cons.injEq, D.str.injEq, D.int.injEq, D.bool.injEq, D.tup.injEq, D.list.injEq, mapInt_inj, Int.natCast_inj, and_true, and_assoc] at e
    first | (obtain rfl := e; exact h) | (obtain ⟨rfl, _⟩ := e; exact h)
  · intro h
    exact ⟨rfl, N, rfl, h⟩
theorem vc__law_lines : ∀ ds w Q, spec__law_lines ds w Q → run 6 (b__law_lines (ar 2 spec__law_divisor)) ds w Q := by
  rintro ds w Q ⟨N, rfl, h⟩
  unfold b__law_lines
  obtain ⟨h2, h12, q⟩ := h
  have hz : (2000 : Nat) ≤ LINE := by decide
  show sSeq _ _ ⟨[.val (.int N), .gone, .gone, .gone, .gone, .gone], w⟩ _
  refine seq_cut (fun s' => ∃ x, s' = ⟨[.val (.int N), .own (uD N), .gone, .gone, .gone, x], w⟩) ?_ ?_
  · intro K hK
    simp only [run, runF, DL.get, DL.put, puts, back, mC, mVar, mFzV, mFeed, frz, msN, msC, mBin, mUn, dAdd, dSub, dMul, dDiv, dMod, dPow, dNeg, dCmp, dLt, dLe, dGt, dGe, dEq, dNe, dIn, dIsN, dIsNotN, isN, dIs, dIsNot, dTab, flatD, okT, truth, tV, tB, tAnd, tOr, tNot, mAnd, mOr, mNot, mIf, mChain, mList, mTup, dIx, mSl, oN, oS, mRev, mRevTo, mCall, mCallF, dLen, dAbs, dInt, dMin2, dMax2, dList, dTup, dSum, dMin, dMax, dMinG, dMaxG, dAll, isTy, mIsI, gV, gSkip, gsN, gsC, gT, srcV, srcR1, srcR2, srcEnum, srcRev, mComp, tYes, isS, isL, mMS, mML, dIndexS, dIndexL, dIndexFrom, mMS2, dCount, dSplit, dJoin, sNil, sSeq, sSet, sAsg, sPar, sRet, retK, sRetN, sIf, sPass, sBrk, sCont, sNever, sExpr, sAug, ownAt, feedAt, intD, sApp, sExt, sSetI, sAugI, sFeed, sFeedA, popD, sPop, sAddPop, sFor, DL.W.set, DL.W.at, DL.R.d, okD, eqD_none_none, eqD_none_bool, eqD_none_int, eqD_none_str, eqD_none_list, eqD_none_tup, eqD_bool_none, eqD_bool_bool, eqD_bool_int, eqD_bool_str, eqD_bool_list, eqD_bool_tup, eqD_int_none, eqD_int_bool, eqD_int_int, eqD_int_str, eqD_int_list, eqD_int_tup, eqD_str_none, eqD_str_bool, eqD_str_int, eqD_str_str, eqD_str_list, eqD_str_tup, eqD_list_none, eqD_list_bool, eqD_list_int, eqD_list_str, eqD_list_list, eqD_list_tup, eqD_tup_none, eqD_tup_bool, eqD_tup_int, eqD_tup_str, eqD_tup_list, eqD_tup_tup, eqDs_nn, eqDs_cc, eqDs_nc, eqDs_cn, List.map_cons, List.map_nil, List.map, List.cons_append, List.nil_append, List.replicate, List.length_cons, List.length_nil, Nat.reduceAdd, Nat.reduceSub, List.all_cons, List.all_nil, Bool.and_true, Bool.true_and, true_and, and_true, atI_map, ex_map, ex_some, List.length_map, beq_int, decide_eq_true_eq, if_true, if_false, Bool.false_eq_true, if_pos, reduceIte, at0, at1, at2, at3, dP, mCallX, mCallB, peekA, evA, evAs, eq_self, sRaise0, sRaise1, sTry, caught, unslot, unheld, mXArg, mXIs, runX, List.contains_cons, List.contains_nil, Slot.isExn, String.reduceBEq, ex_arg, ex_valB, Bool.or_false, Bool.false_or, Bool.or_true, Bool.true_or, Bool.not_false, Bool.not_true, mComp2, dGcd, ar__law_divisor]
    refine ⟨by omega, ?_⟩
    rw [show ((N : Int) - 1).toNat = N - 1 by omega]
    refine compL_flt _ [] (uB N) (fun d => d) (fun st => ∃ x, st = ⟨[.val (.int N), .gone, .gone, .gone, .gone, x], w⟩) ⟨_, rfl⟩ (by rw [ran_len]; simp only [List.length_nil]; omega) ?_ ?_
    · rintro d _ hd ⟨x, rfl⟩ C K1 K2 hC hK1 hK2
      obtain ⟨i, hi⟩ := List.getElem?_of_mem hd
      obtain ⟨hi, rfl⟩ := ran_get hi
      rw [show D.int (1 + (i : Int)) = D.int ((1 + i : Nat) : Int) by rw [show ((1 + i : Nat) : Int) = 1 + (i : Int) by omega]] at *
      simp only [run, runF, DL.get, DL.put, puts, back, mC, mVar, mFzV, mFeed, frz, msN, msC, mBin, mUn, dAdd, dSub, dMul, dDiv, dMod, dPow, dNeg, dCmp, dLt, dLe, dGt, dGe, dEq, dNe, dIn, dIsN, dIsNotN, isN, dIs, dIsNot, dTab, flatD, okT, truth, tV, tB, tAnd, tOr, tNot, mAnd, mOr, mNot, mIf, mChain, mList, mTup, dIx, mSl, oN, oS, mRev, mRevTo, mCall, mCallF, dLen, dAbs, dInt, dMin2, dMax2, dList, dTup, dSum, dMin, dMax, dMinG, dMaxG, dAll, isTy, mIsI, gV, gSkip, gsN, gsC, gT, srcV, srcR1, srcR2, srcEnum, srcRev, mComp, tYes, isS, isL, mMS, mML, dIndexS, dIndexL, dIndexFrom, mMS2, dCount, dSplit, dJoin, sNil, sSeq, sSet, sAsg, sPar, sRet, retK, sRetN, sIf, sPass, sBrk, sCont, sNever, sExpr, sAug, ownAt, feedAt, intD, sApp, sExt, sSetI, sAugI, sFeed, sFeedA, popD, sPop, sAddPop, sFor, DL.W.set, DL.W.at, DL.R.d, okD, eqD_none_none, eqD_none_bool, eqD_none_int, eqD_none_str, eqD_none_list, eqD_none_tup, eqD_bool_none, eqD_bool_bool, eqD_bool_int, eqD_bool_str, eqD_bool_list, eqD_bool_tup, eqD_int_none, eqD_int_bool, eqD_int_int, eqD_int_str, eqD_int_list, eqD_int_tup, eqD_str_none, eqD_str_bool, eqD_str_int, eqD_str_str, eqD_str_list, eqD_str_tup, eqD_list_none, eqD_list_bool, eqD_list_int, eqD_list_str, eqD_list_list, eqD_list_tup, eqD_tup_none, eqD_tup_bool, eqD_tup_int, eqD_tup_str, eqD_tup_list, eqD_tup_tup, eqDs_nn, eqDs_cc, eqDs_nc, eqDs_cn, List.map_cons, List.map_nil, List.map, List.cons_append, List.nil_append, List.replicate, List.length_cons, List.length_nil, Nat.reduceAdd, Nat.reduceSub, List.all_cons, List.all_nil, Bool.and_true, Bool.true_and, true_and, and_true, atI_map, ex_map, ex_some, List.length_map, beq_int, decide_eq_true_eq, if_true, if_false, Bool.false_eq_true, if_pos, reduceIte, at0, at1, at2, at3, dP, mCallX, mCallB, peekA, evA, evAs, eq_self, sRaise0, sRaise1, sTry, caught, unslot, unheld, mXArg, mXIs, runX, List.contains_cons, List.contains_nil, Slot.isExn, String.reduceBEq, ex_arg, ex_valB, Bool.or_false, Bool.false_or, Bool.or_true, Bool.true_or, Bool.not_false, Bool.not_true, mComp2, dGcd, ar__law_divisor]
      refine ⟨by omega, ?_⟩
      split
      · rename_i c
        exact ⟨hC, hK1 (decide_eq_true (by show Nat.gcd (1 + i) N = 1; rw [Nat.gcd_comm]; omega)) _ ⟨_, rfl⟩⟩
      · rename_i c
        exact hK2 (decide_eq_false (by show ¬ Nat.gcd (1 + i) N = 1; rw [Nat.gcd_comm]; omega)) _ ⟨_, rfl⟩
    · rintro _ ⟨x, rfl⟩
      rw [List.nil_append, ran_units, List.map_id']
      exact hK _ ⟨_, rfl⟩
  rintro _ ⟨x0, rfl⟩
  refine seq_cut (fun s' => s' = ⟨[.val (.int N), .own (uD N), .own [], .gone, .gone, x0], w⟩) ?_ ?_
  · intro K hK
    simp only [run, runF, DL.get, DL.put, puts, back, mC, mVar, mFzV, mFeed, frz, msN, msC, mBin, mUn, dAdd, dSub, dMul, dDiv, dMod, dPow, dNeg, dCmp, dLt, dLe, dGt, dGe, dEq, dNe, dIn, dIsN, dIsNotN, isN, dIs, dIsNot, dTab, flatD, okT, truth, tV, tB, tAnd, tOr, tNot, mAnd, mOr, mNot, mIf, mChain, mList, mTup, dIx, mSl, oN, oS, mRev, mRevTo, mCall, mCallF, dLen, dAbs, dInt, dMin2, dMax2, dList, dTup, dSum, dMin, dMax, dMinG, dMaxG, dAll, isTy, mIsI, gV, gSkip, gsN, gsC, gT, srcV, srcR1, srcR2, srcEnum, srcRev, mComp, tYes, isS, isL, mMS, mML, dIndexS, dIndexL, dIndexFrom, mMS2, dCount, dSplit, dJoin, sNil, sSeq, sSet, sAsg, sPar, sRet, retK, sRetN, sIf, sPass, sBrk, sCont, sNever, sExpr, sAug, ownAt, feedAt, intD, sApp, sExt, sSetI, sAugI, sFeed, sFeedA, popD, sPop, sAddPop, sFor, DL.W.set, DL.W.at, DL.R.d, okD, eqD_none_none, eqD_none_bool, eqD_none_int, eqD_none_str, eqD_none_list, eqD_none_tup, eqD_bool_none, eqD_bool_bool, eqD_bool_int, eqD_bool_str, eqD_bool_list, eqD_bool_tup, eqD_int_none, eqD_int_bool, eqD_int_int, eqD_int_str, eqD_int_list, eqD_int_tup, eqD_str_none, eqD_str_bool, eqD_str_int, eqD_str_str, eqD_str_list, eqD_str_tup, eqD_list_none, eqD_list_bool, eqD_list_int, eqD_list_str, eqD_list_list, eqD_list_tup, eqD_tup_none, eqD_tup_bool, eqD_tup_int, eqD_tup_str, eqD_tup_list, eqD_tup_tup, eqDs_nn, eqDs_cc, eqDs_nc, eqDs_cn, List.map_cons, List.map_nil, List.map, List.cons_append, List.nil_append, List.replicate, List.length_cons, List.length_nil, Nat.reduceAdd, Nat.reduceSub, List.all_cons, List.all_nil, Bool.and_true, Bool.true_and, true_and, and_true, atI_map, ex_map, ex_some, List.length_map, beq_int, decide_eq_true_eq, if_true, if_false, Bool.false_eq_true, if_pos, reduceIte, at0, at1, at2, at3, dP, mCallX, mCallB, peekA, evA, evAs, eq_self, sRaise0, sRaise1, sTry, caught, unslot, unheld, mXArg, mXIs, runX, List.contains_cons, List.contains_nil, Slot.isExn, String.reduceBEq, ex_arg, ex_valB, Bool.or_false, Bool.false_or, Bool.or_true, Bool.true_or, Bool.not_false, Bool.not_true, mComp2, dGcd, ar__law_divisor]
    exact ⟨by omega, hK _ rfl⟩
  rintro _ rfl
  refine seq_cut (fun s' => ∃ a x y z, s' = ⟨[.val (.int N), a, .own ((linesL N).map pN), x, y, z], w⟩) ?_ ?_
  · intro K hK
    refine for_r1 N (fun n s' => ∃ a x y z, (a = .own (uD N) ∨ a = .val (.list (uD N))) ∧ s' = ⟨[.val (.int N), a, .own ((part N n 0).map pN), x, y, z], w⟩) _ (fun K h => h) (by omega) ⟨_, _, _, _, .inl rfl, rfl⟩ ?_ ?_
    · rintro n _ hn ⟨a, x, y, z, ha, rfl⟩ K hK
      show sFor _ _ _ ⟨[.val (.int N), a, .own ((part N n 0).map pN), .val (.int n), y, z], w⟩ _
      refine for_r1 N (fun j s' => ∃ a y z, (a = .own (uD N) ∨ a = .val (.list (uD N))) ∧ s' = ⟨[.val (.int N), a, .own ((part N n j).map pN), .val (.int n), y, z], w⟩) _ (fun K h => h) (by omega) ⟨_, _, _, ha, rfl⟩ ?_ ?_
      · rintro j _ hj ⟨a, y, z, ha, rfl⟩ K hK
        rw [part_next, List.map_append] at hK
        have pl := part_len N n j (by omega) h12 (by omega)
        show sIf _ _ _ ⟨[.val (.int N), a, .own ((part N n j).map pN), .val (.int n), .val (.int j), z], w⟩ _
        refine cond_cut (gcdB N (n, j)) ?_ (fun c => ?_) fun c => ?_
        · intro K hK
          have hgc : Nat.gcd n j ≤ 99 := by
            rcases Nat.eq_zero_or_pos n with z | z
            · subst z
              rw [Nat.gcd_zero_left]
              omega
            · have := Nat.gcd_le_left j z
              omega
          have he : decide (((N.gcd (n.gcd j) : Nat) : Int) = 1) = gcdB N (n, j) := by
            show _ = decide (Nat.gcd (Nat.gcd n j) N = 1)
            rw [Nat.gcd_comm]
            exact decide_eq_decide.mpr (by omega)
          rcases ha with rfl | rfl
          · simp only [run, runF, DL.get, DL.put, puts, back, mC, mVar, mFzV, mFeed, frz, msN, msC, mBin, mUn, dAdd, dSub, dMul, dDiv, dMod, dPow, dNeg, dCmp, dLt, dLe, dGt, dGe, dEq, dNe, dIn, dIsN, dIsNotN, isN, dIs, dIsNot, dTab, flatD, okT, truth, tV, tB, tAnd, tOr, tNot, mAnd, mOr, mNot, mIf, mChain, mList, mTup, dIx, mSl, oN, oS, mRev, mRevTo, mCall, mCallF, dLen, dAbs, dInt, dMin2, dMax2, dList, dTup, dSum, dMin, dMax, dMinG, dMaxG, dAll, isTy, mIsI, gV, gSkip, gsN, gsC, gT, srcV, srcR1, srcR2, srcEnum, srcRev, mComp, tYes, isS, isL, mMS, mML, dIndexS, dIndexL, dIndexFrom, mMS2, dCount, dSplit, dJoin, sNil, sSeq, sSet, sAsg, sPar, sRet, retK, sRetN, sIf, sPass, sBrk, sCont, sNever, sExpr, sAug, ownAt, feedAt, intD, sApp, sExt, sSetI, sAugI, sFeed, sFeedA, popD, sPop, sAddPop, sFor, DL.W.set, DL.W.at, DL.R.d, okD, eqD_none_none, eqD_none_bool, eqD_none_int, eqD_none_str, eqD_none_list, eqD_none_tup, eqD_bool_none, eqD_bool_bool, eqD_bool_int, eqD_bool_str, eqD_bool_list, eqD_bool_tup, eqD_int_none, eqD_int_bool, eqD_int_int, eqD_int_str, eqD_int_list, eqD_int_tup, eqD_str_none, eqD_str_bool, eqD_str_int, eqD_str_str, eqD_str_list, eqD_str_tup, eqD_list_none, eqD_list_bool, eqD_list_int, eqD_list_str, eqD_list_list, eqD_list_tup, eqD_tup_none, eqD_tup_bool, eqD_tup_int, eqD_tup_str, eqD_tup_list, eqD_tup_tup, eqDs_nn, eqDs_cc, eqDs_nc, eqDs_cn, List.map_cons, List.map_nil, List.map, List.cons_append, List.nil_append, List.replicate, List.length_cons, List.length_nil, Nat.reduceAdd, Nat.reduceSub, List.all_cons, List.all_nil, Bool.and_true, Bool.true_and, true_and, and_true, atI_map, ex_map, ex_some, List.length_map, beq_int, decide_eq_true_eq, if_true, if_false, Bool.false_eq_true, if_pos, reduceIte, at0, at1, at2, at3, dP, mCallX, mCallB, peekA, evA, evAs, eq_self, sRaise0, sRaise1, sTry, caught, unslot, unheld, mXArg, mXIs, runX, List.contains_cons, List.contains_nil, Slot.isExn, String.reduceBEq, ex_arg, ex_valB, Bool.or_false, Bool.false_or, Bool.or_true, Bool.true_or, Bool.not_false, Bool.not_true, mComp2, dGcd, ar__law_divisor]
            refine ⟨by omega, hgc, ?_⟩
            rw [he]
            exact hK
          · simp only [run, runF, DL.get, DL.put, puts, back, mC, mVar, mFzV, mFeed, frz, msN, msC, mBin, mUn, dAdd, dSub, dMul, dDiv, dMod, dPow, dNeg, dCmp, dLt, dLe, dGt, dGe, dEq, dNe, dIn, dIsN, dIsNotN, isN, dIs, dIsNot, dTab, flatD, okT, truth, tV, tB, tAnd, tOr, tNot, mAnd, mOr, mNot, mIf, mChain, mList, mTup, dIx, mSl, oN, oS, mRev, mRevTo, mCall, mCallF, dLen, dAbs, dInt, dMin2, dMax2, dList, dTup, dSum, dMin, dMax, dMinG, dMaxG, dAll, isTy, mIsI, gV, gSkip, gsN, gsC, gT, srcV, srcR1, srcR2, srcEnum, srcRev, mComp, tYes, isS, isL, mMS, mML, dIndexS, dIndexL, dIndexFrom, mMS2, dCount, dSplit, dJoin, sNil, sSeq, sSet, sAsg, sPar, sRet, retK, sRetN, sIf, sPass, sBrk, sCont, sNever, sExpr, sAug, ownAt, feedAt, intD, sApp, sExt, sSetI, sAugI, sFeed, sFeedA, popD, sPop, sAddPop, sFor, DL.W.set, DL.W.at, DL.R.d, okD, eqD_none_none, eqD_none_bool, eqD_none_int, eqD_none_str, eqD_none_list, eqD_none_tup, eqD_bool_none, eqD_bool_bool, eqD_bool_int, eqD_bool_str, eqD_bool_list, eqD_bool_tup, eqD_int_none, eqD_int_bool, eqD_int_int, eqD_int_str, eqD_int_list, eqD_int_tup, eqD_str_none, eqD_str_bool, eqD_str_int, eqD_str_str, eqD_str_list, eqD_str_tup, eqD_list_none, eqD_list_bool, eqD_list_int, eqD_list_str, eqD_list_list, eqD_list_tup, eqD_tup_none, eqD_tup_bool, eqD_tup_int, eqD_tup_str, eqD_tup_list, eqD_tup_tup, eqDs_nn, eqDs_cc, eqDs_nc, eqDs_cn, List.map_cons, List.map_nil, List.map, List.cons_append, List.nil_append, List.replicate, List.length_cons, List.length_nil, Nat.reduceAdd, Nat.reduceSub, List.all_cons, List.all_nil, Bool.and_true, Bool.true_and, true_and, and_true, atI_map, ex_map, ex_some, List.length_map, beq_int, decide_eq_true_eq, if_true, if_false, Bool.false_eq_true, if_pos, reduceIte, at0, at1, at2, at3, dP, mCallX, mCallB, peekA, evA, evAs, eq_self, sRaise0, sRaise1, sTry, caught, unslot, unheld, mXArg, mXIs, runX, List.contains_cons, List.contains_nil, Slot.isExn, String.reduceBEq, ex_arg, ex_valB, Bool.or_false, Bool.false_or, Bool.or_true, Bool.true_or, Bool.not_false, Bool.not_true, mComp2, dGcd, ar__law_divisor]
            refine ⟨by omega, hgc, ?_⟩
            rw [he]
            exact hK
        · have qs : okB N (n, j) = leastB N (n, j) := by
            show (gcdB N (n, j) && leastB N (n, j)) = _
            rw [c, Bool.true_and]
          rw [qs] at hK
          refine cond_cut2 (leastB N (n, j)) (fun s' => ∃ z, s' = ⟨[.val (.int N), .val (.list (uD N)), .own ((part N n j).map pN), .val (.int n), .val (.int j), z], w⟩) ?_ (fun c s' hs => ?_) fun c s' hs => ?_
          · intro K hK
            have fin : ∀ (s0 : S) (Q1 : List D → S → Prop), (∃ z, s0 = ⟨[.val (.int N), .val (.list (uD N)), .own ((part N n j).map pN), .val (.int n), .val (.int j), z], w⟩) → (∀ z, Q1 ((mulL N n j).map pT) ⟨[.val (.int N), .val (.list (uD N)), .own ((part N n j).map pN), .val (.int n), .val (.int j), z], w⟩) → compL [5] (gV 5) tYes (mTup (msC (mBin dMod (mUn dInt (mBin dMul (mVar 5) (mVar 3))) (mVar 0)) (msC (mBin dMod (mUn dInt (mBin dMul (mVar 5) (mVar 4))) (mVar 0)) msN))) (uD N) [] s0 Q1 := fun s0 Q1 h0 h1 => by
              refine compL_f _ (mD N n j) (fun st => ∃ z, st = ⟨[.val (.int N), .val (.list (uD N)), .own ((part N n j).map pN), .val (.int n), .val (.int j), z], w⟩) h0 (by rw [List.length_map]; have := units_len h12; omega) ?_ ?_
              · rintro d _ hd ⟨z, rfl⟩ C K hC hK
                obtain ⟨k, hk, rfl⟩ := List.mem_map.mp hd
                have ku := units_mem hk
                have l1 := lgn (n := k) (by omega)
                have l2 := lgn (n := n) (by omega)
                have l3 := lgn (n := j) (by omega)
                simp only [run, runF, DL.get, DL.put, puts, back, mC, mVar, mFzV, mFeed, frz, msN, msC, mBin, mUn, dAdd, dSub, dMul, dDiv, dMod, dPow, dNeg, dCmp, dLt, dLe, dGt, dGe, dEq, dNe, dIn, dIsN, dIsNotN, isN, dIs, dIsNot, dTab, flatD, okT, truth, tV, tB, tAnd, tOr, tNot, mAnd, mOr, mNot, mIf, mChain, mList, mTup, dIx, mSl, oN, oS, mRev, mRevTo, mCall, mCallF, dLen, dAbs, dInt, dMin2, dMax2, dList, dTup, dSum, dMin, dMax, dMinG, dMaxG, dAll, isTy, mIsI, gV, gSkip, gsN, gsC, gT, srcV, srcR1, srcR2, srcEnum, srcRev, mComp, tYes, isS, isL, mMS, mML, dIndexS, dIndexL, dIndexFrom, mMS2, dCount, dSplit, dJoin, sNil, sSeq, sSet, sAsg, sPar, sRet, retK, sRetN, sIf, sPass, sBrk, sCont, sNever, sExpr, sAug, ownAt, feedAt, intD, sApp, sExt, sSetI, sAugI, sFeed, sFeedA, popD, sPop, sAddPop, sFor, DL.W.set, DL.W.at, DL.R.d, okD, eqD_none_none, eqD_none_bool, eqD_none_int, eqD_none_str, eqD_none_list, eqD_none_tup, eqD_bool_none, eqD_bool_bool, eqD_bool_int, eqD_bool_str, eqD_bool_list, eqD_bool_tup, eqD_int_none, eqD_int_bool, eqD_int_int, eqD_int_str, eqD_int_list, eqD_int_tup, eqD_str_none, eqD_str_bool, eqD_str_int, eqD_str_str, eqD_str_list, eqD_str_tup, eqD_list_none, eqD_list_bool, eqD_list_int, eqD_list_str, eqD_list_list, eqD_list_tup, eqD_tup_none, eqD_tup_bool, eqD_tup_int, eqD_tup_str, eqD_tup_list, eqD_tup_tup, eqDs_nn, eqDs_cc, eqDs_nc, eqDs_cn, List.map_cons, List.map_nil, List.map, List.cons_append, List.nil_append, List.replicate, List.length_cons, List.length_nil, Nat.reduceAdd, Nat.reduceSub, List.all_cons, List.all_nil, Bool.and_true, Bool.true_and, true_and, and_true, atI_map, ex_map, ex_some, List.length_map, beq_int, decide_eq_true_eq, if_true, if_false, Bool.false_eq_true, if_pos, reduceIte, at0, at1, at2, at3, dP, mCallX, mCallB, peekA, evA, evAs, eq_self, sRaise0, sRaise1, sTry, caught, unslot, unheld, mXArg, mXIs, runX, List.contains_cons, List.contains_nil, Slot.isExn, String.reduceBEq, ex_arg, ex_valB, Bool.or_false, Bool.false_or, Bool.or_true, Bool.true_or, Bool.not_false, Bool.not_true, mComp2, dGcd, ar__law_divisor]
                exact ⟨by omega, by omega, by omega, by omega, by decide, hC, hK _ ⟨_, rfl⟩⟩
              · rintro _ ⟨z, rfl⟩
                rw [mulD]
                exact h1 _
            have done : ∀ m, leL N n j m → (decide (m.1 = (n : Int)) && decide (m.2 = (j : Int))) = leastB N (n, j) := fun m hm => by
              rw [Bool.eq_iff_iff, Bool.and_eq_true, decide_eq_true_eq, decide_eq_true_eq]
              constructor
              · rintro ⟨e1, e2⟩
                refine decide_eq_true ?_
                have : m = ((n : Int), (j : Int)) := by rw [← e1, ← e2]
                rwa [this] at hm
              · intro e
                rw [hm.uniq (of_decide_eq_true e)]
                exact ⟨rfl, rfl⟩
            rcases ha with rfl | rfl
            · simp only [run, runF, DL.get, DL.put, puts, back, mC, mVar, mFzV, mFeed, frz, msN, msC, mBin, mUn, dAdd, dSub, dMul, dDiv, dMod, dPow, dNeg, dCmp, dLt, dLe, dGt, dGe, dEq, dNe, dIn, dIsN, dIsNotN, isN, dIs, dIsNot, dTab, flatD, okT, truth, tV, tB, tAnd, tOr, tNot, mAnd, mOr, mNot, mIf, mChain, mList, mTup, dIx, mSl, oN, oS, mRev, mRevTo, mCall, mCallF, dLen, dAbs, dInt, dMin2, dMax2, dList, dTup, dSum, dMin, dMax, dMinG, dMaxG, dAll, isTy, mIsI, gV, gSkip, gsN, gsC, gT, srcV, srcR1, srcR2, srcEnum, srcRev, mComp, tYes, isS, isL, mMS, mML, dIndexS, dIndexL, dIndexFrom, mMS2, dCount, dSplit, dJoin, sNil, sSeq, sSet, sAsg, sPar, sRet, retK, sRetN, sIf, sPass, sBrk, sCont, sNever, sExpr, sAug, ownAt, feedAt, intD, sApp, sExt, sSetI, sAugI, sFeed, sFeedA, popD, sPop, sAddPop, sFor, DL.W.set, DL.W.at, DL.R.d, okD, eqD_none_none, eqD_none_bool, eqD_none_int, eqD_none_str, eqD_none_list, eqD_none_tup, eqD_bool_none, eqD_bool_bool, eqD_bool_int, eqD_bool_str, eqD_bool_list, eqD_bool_tup, eqD_int_none, eqD_int_bool, eqD_int_int, eqD_int_str, eqD_int_list, eqD_int_tup, eqD_str_none, eqD_str_bool, eqD_str_int, eqD_str_str, eqD_str_list, eqD_str_tup, eqD_list_none, eqD_list_bool, eqD_list_int, eqD_list_str, eqD_list_list, eqD_list_tup, eqD_tup_none, eqD_tup_bool, eqD_tup_int, eqD_tup_str, eqD_tup_list, eqD_tup_tup, eqDs_nn, eqDs_cc, eqDs_nc, eqDs_cn, List.map_cons, List.map_nil, List.map, List.cons_append, List.nil_append, List.replicate, List.length_cons, List.length_nil, Nat.reduceAdd, Nat.reduceSub, List.all_cons, List.all_nil, Bool.and_true, Bool.true_and, true_and, and_true, atI_map, ex_map, ex_some, List.length_map, beq_int, decide_eq_true_eq, if_true, if_false, Bool.false_eq_true, if_pos, reduceIte, at0, at1, at2, at3, dP, mCallX, mCallB, peekA, evA, evAs, eq_self, sRaise0, sRaise1, sTry, caught, unslot, unheld, mXArg, mXIs, runX, List.contains_cons, List.contains_nil, Slot.isExn, String.reduceBEq, ex_arg, ex_valB, Bool.or_false, Bool.false_or, Bool.or_true, Bool.true_or, Bool.not_false, Bool.not_true, mComp2, dGcd, ar__law_divisor]
              refine fin _ _ ⟨_, rfl⟩ fun z' => minG_pT (mulL_pos h2 n j) fun m hm hle => ?_
              simp only [run, runF, DL.get, DL.put, puts, back, mC, mVar, mFzV, mFeed, frz, msN, msC, mBin, mUn, dAdd, dSub, dMul, dDiv, dMod, dPow, dNeg, dCmp, dLt, dLe, dGt, dGe, dEq, dNe, dIn, dIsN, dIsNotN, isN, dIs, dIsNot, dTab, flatD, okT, truth, tV, tB, tAnd, tOr, tNot, mAnd, mOr, mNot, mIf, mChain, mList, mTup, dIx, mSl, oN, oS, mRev, mRevTo, mCall, mCallF, dLen, dAbs, dInt, dMin2, dMax2, dList, dTup, dSum, dMin, dMax, dMinG, dMaxG, dAll, isTy, mIsI, gV, gSkip, gsN, gsC, gT, srcV, srcR1, srcR2, srcEnum, srcRev, mComp, tYes, isS, isL, mMS, mML, dIndexS, dIndexL, dIndexFrom, mMS2, dCount, dSplit, dJoin, sNil, sSeq, sSet, sAsg, sPar, sRet, retK, sRetN, sIf, sPass, sBrk, sCont, sNever, sExpr, sAug, ownAt, feedAt, intD, sApp, sExt, sSetI, sAugI, sFeed, sFeedA, popD, sPop, sAddPop, sFor, DL.W.set, DL.W.at, DL.R.d, okD, eqD_none_none, eqD_none_bool, eqD_none_int, eqD_none_str, eqD_none_list, eqD_none_tup, eqD_bool_none, eqD_bool_bool, eqD_bool_int, eqD_bool_str, eqD_bool_list, eqD_bool_tup, eqD_int_none, eqD_int_bool, eqD_int_int, eqD_int_str, eqD_int_list, eqD_int_tup, eqD_str_none, eqD_str_bool, eqD_str_int, eqD_str_str, eqD_str_list, eqD_str_tup, eqD_list_none, eqD_list_bool, eqD_list_int, eqD_list_str, eqD_list_list, eqD_list_tup, eqD_tup_none, eqD_tup_bool, eqD_tup_int, eqD_tup_str, eqD_tup_list, eqD_tup_tup, eqDs_nn, eqDs_cc, eqDs_nc, eqDs_cn, List.map_cons, List.map_nil, List.map, List.cons_append, List.nil_append, List.replicate, List.length_cons, List.length_nil, Nat.reduceAdd, Nat.reduceSub, List.all_cons, List.all_nil, Bool.and_true, Bool.true_and, true_and, and_true, atI_map, ex_map, ex_some, List.length_map, beq_int, decide_eq_true_eq, if_true, if_false, Bool.false_eq_true, if_pos, reduceIte, at0, at1, at2, at3, dP, mCallX, mCallB, peekA, evA, evAs, eq_self, sRaise0, sRaise1, sTry, caught, unslot, unheld, mXArg, mXIs, runX, List.contains_cons, List.contains_nil, Slot.isExn, String.reduceBEq, ex_arg, ex_valB, Bool.or_false, Bool.false_or, Bool.or_true, Bool.true_or, Bool.not_false, Bool.not_true, mComp2, dGcd, ar__law_divisor]
              refine ⟨by omega, ?_⟩
              rw [done m ⟨hm, hle⟩]
              exact hK _ ⟨_, rfl⟩
            · simp only [run, runF, DL.get, DL.put, puts, back, mC, mVar, mFzV, mFeed, frz, msN, msC, mBin, mUn, dAdd, dSub, dMul, dDiv, dMod, dPow, dNeg, dCmp, dLt, dLe, dGt, dGe, dEq, dNe, dIn, dIsN, dIsNotN, isN, dIs, dIsNot, dTab, flatD, okT, truth, tV, tB, tAnd, tOr, tNot, mAnd, mOr, mNot, mIf, mChain, mList, mTup, dIx, mSl, oN, oS, mRev, mRevTo, mCall, mCallF, dLen, dAbs, dInt, dMin2, dMax2, dList, dTup, dSum, dMin, dMax, dMinG, dMaxG, dAll, isTy, mIsI, gV, gSkip, gsN, gsC, gT, srcV, srcR1, srcR2, srcEnum, srcRev, mComp, tYes, isS, isL, mMS, mML, dIndexS, dIndexL, dIndexFrom, mMS2, dCount, dSplit, dJoin, sNil, sSeq, sSet, sAsg, sPar, sRet, retK, sRetN, sIf, sPass, sBrk, sCont, sNever, sExpr, sAug, ownAt, feedAt, intD, sApp, sExt, sSetI, sAugI, sFeed, sFeedA, popD, sPop, sAddPop, sFor, DL.W.set, DL.W.at, DL.R.d, okD, eqD_none_none, eqD_none_bool, eqD_none_int, eqD_none_str, eqD_none_list, eqD_none_tup, eqD_bool_none, eqD_bool_bool, eqD_bool_int, eqD_bool_str, eqD_bool_list, eqD_bool_tup, eqD_int_none, eqD_int_bool, eqD_int_int, eqD_int_str, eqD_int_list, eqD_int_tup, eqD_str_none, eqD_str_bool, eqD_str_int, eqD_str_str, eqD_str_list, eqD_str_tup, eqD_list_none, eqD_list_bool, eqD_list_int, eqD_list_str, eqD_list_list, eqD_list_tup, eqD_tup_none, eqD_tup_bool, eqD_tup_int, eqD_tup_str, eqD_tup_list, eqD_tup_tup, eqDs_nn, eqDs_cc, eqDs_nc, eqDs_cn, List.map_cons, List.map_nil, List.map, List.cons_append, List.nil_append, List.replicate, List.length_cons, List.length_nil, Nat.reduceAdd, Nat.reduceSub, List.all_cons, List.all_nil, Bool.and_true, Bool.true_and, true_and, and_true, atI_map, ex_map, ex_some, List.length_map, beq_int, decide_eq_true_eq, if_true, if_false, Bool.false_eq_true, if_pos, reduceIte, at0, at1, at2, at3, dP, mCallX, mCallB, peekA, evA, evAs, eq_self, sRaise0, sRaise1, sTry, caught, unslot, unheld, mXArg, mXIs, runX, List.contains_cons, List.contains_nil, Slot.isExn, String.reduceBEq, ex_arg, ex_valB, Bool.or_false, Bool.false_or, Bool.or_true, Bool.true_or, Bool.not_false, Bool.not_true, mComp2, dGcd, ar__law_divisor]
              refine fin _ _ ⟨_, rfl⟩ fun z' => minG_pT (mulL_pos h2 n j) fun m hm hle => ?_
              simp only [run, runF, DL.get, DL.put, puts, back, mC, mVar, mFzV, mFeed, frz, msN, msC, mBin, mUn, dAdd, dSub, dMul, dDiv, dMod, dPow, dNeg, dCmp, dLt, dLe, dGt, dGe, dEq, dNe, dIn, dIsN, dIsNotN, isN, dIs, dIsNot, dTab, flatD, okT, truth, tV, tB, tAnd, tOr, tNot, mAnd, mOr, mNot, mIf, mChain, mList, mTup, dIx, mSl, oN, oS, mRev, mRevTo, mCall, mCallF, dLen, dAbs, dInt, dMin2, dMax2, dList, dTup, dSum, dMin, dMax, dMinG, dMaxG, dAll, isTy, mIsI, gV, gSkip, gsN, gsC, gT, srcV, srcR1, srcR2, srcEnum, srcRev, mComp, tYes, isS, isL, mMS, mML, dIndexS, dIndexL, dIndexFrom, mMS2, dCount, dSplit, dJoin, sNil, sSeq, sSet, sAsg, sPar, sRet, retK, sRetN, sIf, sPass, sBrk, sCont, sNever, sExpr, sAug, ownAt, feedAt, intD, sApp, sExt, sSetI, sAugI, sFeed, sFeedA, popD, sPop, sAddPop, sFor, DL.W.set, DL.W.at, DL.R.d, okD, eqD_none_none, eqD_none_bool, eqD_none_int, eqD_none_str, eqD_none_list, eqD_none_tup, eqD_bool_none, eqD_bool_bool, eqD_bool_int, eqD_bool_str, eqD_bool_list, eqD_bool_tup, eqD_int_none, eqD_int_bool, eqD_int_int, eqD_int_str, eqD_int_list, eqD_int_tup, eqD_str_none, eqD_str_bool, eqD_str_int, eqD_str_str, eqD_str_list, eqD_str_tup, eqD_list_none, eqD_list_bool, eqD_list_int, eqD_list_str, eqD_list_list, eqD_list_tup, eqD_tup_none, eqD_tup_bool, eqD_tup_int, eqD_tup_str, eqD_tup_list, eqD_tup_tup, eqDs_nn, eqDs_cc, eqDs_nc, eqDs_cn, List.map_cons, List.map_nil, List.map, List.cons_append, List.nil_append, List.replicate, List.length_cons, List.length_nil, Nat.reduceAdd, Nat.reduceSub, List.all_cons, List.all_nil, Bool.and_true, Bool.true_and, true_and, and_true, atI_map, ex_map, ex_some, List.length_map, beq_int, decide_eq_true_eq, if_true, if_false, Bool.false_eq_true, if_pos, reduceIte, at0, at1, at2, at3, dP, mCallX, mCallB, peekA, evA, evAs, eq_self, sRaise0, sRaise1, sTry, caught, unslot, unheld, mXArg, mXIs, runX, List.contains_cons, List.contains_nil, Slot.isExn, String.reduceBEq, ex_arg, ex_valB, Bool.or_false, Bool.false_or, Bool.or_true, Bool.true_or, Bool.not_false, Bool.not_true, mComp2, dGcd, ar__law_divisor]
              refine ⟨by omega, ?_⟩
              rw [done m ⟨hm, hle⟩]
              exact hK _ ⟨_, rfl⟩
          · obtain ⟨z, rfl⟩ := hs
            rw [c, if_pos rfl] at hK
            simp only [run, runF, DL.get, DL.put, puts, back, mC, mVar, mFzV, mFeed, frz, msN, msC, mBin, mUn, dAdd, dSub, dMul, dDiv, dMod, dPow, dNeg, dCmp, dLt, dLe, dGt, dGe, dEq, dNe, dIn, dIsN, dIsNotN, isN, dIs, dIsNot, dTab, flatD, okT, truth, tV, tB, tAnd, tOr, tNot, mAnd, mOr, mNot, mIf, mChain, mList, mTup, dIx, mSl, oN, oS, mRev, mRevTo, mCall, mCallF, dLen, dAbs, dInt, dMin2, dMax2, dList, dTup, dSum, dMin, dMax, dMinG, dMaxG, dAll, isTy, mIsI, gV, gSkip, gsN, gsC, gT, srcV, srcR1, srcR2, srcEnum, srcRev, mComp, tYes, isS, isL, mMS, mML, dIndexS, dIndexL, dIndexFrom, mMS2, dCount, dSplit, dJoin, sNil, sSeq, sSet, sAsg, sPar, sRet, retK, sRetN, sIf, sPass, sBrk, sCont, sNever, sExpr, sAug, ownAt, feedAt, intD, sApp, sExt, sSetI, sAugI, sFeed, sFeedA, popD, sPop, sAddPop, sFor, DL.W.set, DL.W.at, DL.R.d, okD, eqD_none_none, eqD_none_bool, eqD_none_int, eqD_none_str, eqD_none_list, eqD_none_tup, eqD_bool_none, eqD_bool_bool, eqD_bool_int, eqD_bool_str, eqD_bool_list, eqD_bool_tup, eqD_int_none, eqD_int_bool, eqD_int_int, eqD_int_str, eqD_int_list, eqD_int_tup, eqD_str_none, eqD_str_bool, eqD_str_int, eqD_str_str, eqD_str_list, eqD_str_tup, eqD_list_none, eqD_list_bool, eqD_list_int, eqD_list_str, eqD_list_list, eqD_list_tup, eqD_tup_none, eqD_tup_bool, eqD_tup_int, eqD_tup_str, eqD_tup_list, eqD_tup_tup, eqDs_nn, eqDs_cc, eqDs_nc, eqDs_cn, List.map_cons, List.map_nil, List.map, List.cons_append, List.nil_append, List.replicate, List.length_cons, List.length_nil, Nat.reduceAdd, Nat.reduceSub, List.all_cons, List.all_nil, Bool.and_true, Bool.true_and, true_and, and_true, atI_map, ex_map, ex_some, List.length_map, beq_int, decide_eq_true_eq, if_true, if_false, Bool.false_eq_true, if_pos, reduceIte, at0, at1, at2, at3, dP, mCallX, mCallB, peekA, evA, evAs, eq_self, sRaise0, sRaise1, sTry, caught, unslot, unheld, mXArg, mXIs, runX, List.contains_cons, List.contains_nil, Slot.isExn, String.reduceBEq, ex_arg, ex_valB, Bool.or_false, Bool.false_or, Bool.or_true, Bool.true_or, Bool.not_false, Bool.not_true, mComp2, dGcd, ar__law_divisor]
            refine ⟨by omega, by omega, ?_⟩
            exact hK _ ⟨_, _, _, .inr rfl, rfl⟩
          · obtain ⟨z, rfl⟩ := hs
            rw [c, if_neg (by decide), List.map_nil, List.append_nil] at hK
            exact hK _ ⟨_, _, _, .inr rfl, rfl⟩
        · have qs : okB N (n, j) = false := by
            show (gcdB N (n, j) && leastB N (n, j)) = _
            rw [c, Bool.false_and]
          rw [qs, if_neg (by decide), List.map_nil, List.append_nil] at hK
          exact hK _ ⟨_, _, _, ha, rfl⟩
      · rintro _ ⟨a, y, z, ha, rfl⟩
        rw [← part_row]
        exact hK _ ⟨_, _, _, _, ha, rfl⟩
    · rintro _ ⟨a, x, y, z, ha, rfl⟩
      rw [part_end]
      exact hK _ ⟨_, _, _, _, rfl⟩
  rintro _ ⟨a, x, y, z, rfl⟩
  simp only [run, runF, DL.get, DL.put, puts, back, mC, mVar, mFzV, mFeed, frz, msN, msC, mBin, mUn, dAdd, dSub, dMul, dDiv, dMod, dPow, dNeg, dCmp, dLt, dLe, dGt, dGe, dEq, dNe, dIn, dIsN, dIsNotN, isN, dIs, dIsNot, dTab, flatD, okT, truth, tV, tB, tAnd, tOr, tNot, mAnd, mOr, mNot, mIf, mChain, mList, mTup, dIx, mSl, oN, oS, mRev, mRevTo, mCall, mCallF, dLen, dAbs, dInt, dMin2, dMax2, dList, dTup, dSum, dMin, dMax, dMinG, dMaxG, dAll, isTy, mIsI, gV, gSkip, gsN, gsC, gT, srcV, srcR1, srcR2, srcEnum, srcRev, mComp, tYes, isS, isL, mMS, mML, dIndexS, dIndexL, dIndexFrom, mMS2, dCount, dSplit, dJoin, sNil, sSeq, sSet, sAsg, sPar, sRet, retK, sRetN, sIf, sPass, sBrk, sCont, sNever, sExpr, sAug, ownAt, feedAt, intD, sApp, sExt, sSetI, sAugI, sFeed, sFeedA, popD, sPop, sAddPop, sFor, DL.W.set, DL.W.at, DL.R.d, okD, eqD_none_none, eqD_none_bool, eqD_none_int, eqD_none_str, eqD_none_list, eqD_none_tup, eqD_bool_none, eqD_bool_bool, eqD_bool_int, eqD_bool_str, eqD_bool_list, eqD_bool_tup, eqD_int_none, eqD_int_bool, eqD_int_int, eqD_int_str, eqD_int_list, eqD_int_tup, eqD_str_none, eqD_str_bool, eqD_str_int, eqD_str_str, eqD_str_list, eqD_str_tup, eqD_list_none, eqD_list_bool, eqD_list_int, eqD_list_str, eqD_list_list, eqD_list_tup, eqD_tup_none, eqD_tup_bool, eqD_tup_int, eqD_tup_str, eqD_tup_list, eqD_tup_tup, eqDs_nn, eqDs_cc, eqDs_nc, eqDs_cn, List.map_cons, List.map_nil, List.map, List.cons_append, List.nil_append, List.replicate, List.length_cons, List.length_nil, Nat.reduceAdd, Nat.reduceSub, List.all_cons, List.all_nil, Bool.and_true, Bool.true_and, true_and, and_true, atI_map, ex_map, ex_some, List.length_map, beq_int, decide_eq_true_eq, if_true, if_false, Bool.false_eq_true, if_pos, reduceIte, at0, at1, at2, at3, dP, mCallX, mCallB, peekA, evA, evAs, eq_self, sRaise0, sRaise1, sTry, caught, unslot, unheld, mXArg, mXIs, runX, List.contains_cons, List.contains_nil, Slot.isExn, String.reduceBEq, ex_arg, ex_valB, Bool.or_false, Bool.false_or, Bool.or_true, Bool.true_or, Bool.not_false, Bool.not_true, mComp2, dGcd, ar__law_divisor]
  exact q
def spec__law_kept : Sem := fun ds w Q => ∃ (r : List Int) (N : Nat), ds = [.list (r.map D.int), .int N] ∧ 2 ≤ N ∧ N ≤ 12 ∧ Okl r ∧ Q (.own ((keptL N (tb r)).map fun i : Nat => .int i)) w
theorem ar__law_kept (r : List Int) (N : Nat) (w : W) (Q : R → W → Prop) : ar 2 spec__law_kept [.list (r.map D.int), .int N] w Q = (2 ≤ N ∧ N ≤ 12 ∧ Okl r ∧ Q (.own ((keptL N (tb r)).map fun i : Nat => .int i)) w) := by
  apply propext
  constructor
  · rintro ⟨_, r', N', e, h⟩
    simp only [List.cons.injEq, D.str.injEq, D.int.injEq, D.bool.injEq, D.tup.injEq, D.list.injEq, mapInt_inj, Int.natCast_inj, and_true, and_assoc] at e
    first | (obtain ⟨rfl, rfl⟩ := e; exact h) | (obtain ⟨rfl, rfl, _⟩ := e; exact h)
  · intro h
    exact ⟨rfl, r, N, rfl, h⟩
theorem vc__law_kept : ∀ ds w Q, spec__law_kept ds w Q → run 14 (b__law_kept (ar 1 spec__law_table) (ar 2 spec__law_divisor) (ar 1 spec__law_lines)) ds w Q := by
  rintro ds w Q ⟨r, N, rfl, h⟩
  unfold b__law_kept
  obtain ⟨h2, h12, hr, q⟩ := h
  have hz : (2000 : Nat) ≤ LINE := by decide
  have pl : (linesL N).length ≤ 144 := by
    have h1 := List.length_filter_le (leastB N) ((prL N).filter (gcdB N))
    have h1' := List.length_filter_le (gcdB N) (prL N)
    have h3 : (prL N).length = N * N := by unfold prL; rw [List.length_flatMap]; simp [List.map_const', List.sum_replicate_nat]
    have := Nat.mul_le_mul h12 h12
    have : (linesL N).length ≤ ((prL N).filter (gcdB N)).length := h1
    omega
  obtain ⟨o1, o2, o3, o4⟩ := tb_ok hr
  obtain ⟨b1, b2, b3, b4⟩ := tb_bd hr
  show sSeq _ _ ⟨[.val (.list (r.map D.int)), .val (.int N), .gone, .gone, .gone, .gone, .gone, .gone, .gone, .gone, .gone, .gone, .gone, .gone], w⟩ _
  refine seq_cut (fun s' => s' = ⟨[.val (.list (r.map D.int)), .val (.int N), .val (.int (tb r).p), .val (.int (tb r).q), .val (.int (tb r).r), .val (.int (tb r).s), .gone, .gone, .gone, .gone, .gone, .gone, .gone, .gone], w⟩) ?_ ?_
  · intro K hK
    simp only [run, runF, DL.get, DL.put, puts, back, mC, mVar, mFzV, mFeed, frz, msN, msC, mBin, mUn, dAdd, dSub, dMul, dDiv, dMod, dPow, dNeg, dCmp, dLt, dLe, dGt, dGe, dEq, dNe, dIn, dIsN, dIsNotN, isN, dIs, dIsNot, dTab, flatD, okT, truth, tV, tB, tAnd, tOr, tNot, mAnd, mOr, mNot, mIf, mChain, mList, mTup, dIx, mSl, oN, oS, mRev, mRevTo, mCall, mCallF, dLen, dAbs, dInt, dMin2, dMax2, dList, dTup, dSum, dMin, dMax, dMinG, dMaxG, dAll, isTy, mIsI, gV, gSkip, gsN, gsC, gT, srcV, srcR1, srcR2, srcEnum, srcRev, mComp, tYes, isS, isL, mMS, mML, dIndexS, dIndexL, dIndexFrom, mMS2, dCount, dSplit, dJoin, sNil, sSeq, sSet, sAsg, sPar, sRet, retK, sRetN, sIf, sPass, sBrk, sCont, sNever, sExpr, sAug, ownAt, feedAt, intD, sApp, sExt, sSetI, sAugI, sFeed, sFeedA, popD, sPop, sAddPop, sFor, DL.W.set, DL.W.at, DL.R.d, okD, eqD_none_none, eqD_none_bool, eqD_none_int, eqD_none_str, eqD_none_list, eqD_none_tup, eqD_bool_none, eqD_bool_bool, eqD_bool_int, eqD_bool_str, eqD_bool_list, eqD_bool_tup, eqD_int_none, eqD_int_bool, eqD_int_int, eqD_int_str, eqD_int_list, eqD_int_tup, eqD_str_none, eqD_str_bool, eqD_str_int, eqD_str_str, eqD_str_list, eqD_str_tup, eqD_list_none, eqD_list_bool, eqD_list_int, eqD_list_str, eqD_list_list, eqD_list_tup, eqD_tup_none, eqD_tup_bool, eqD_tup_int, eqD_tup_str, eqD_tup_list, eqD_tup_tup, eqDs_nn, eqDs_cc, eqDs_nc, eqDs_cn, List.map_cons, List.map_nil, List.map, List.cons_append, List.nil_append, List.replicate, List.length_cons, List.length_nil, Nat.reduceAdd, Nat.reduceSub, List.all_cons, List.all_nil, Bool.and_true, Bool.true_and, true_and, and_true, atI_map, ex_map, ex_some, List.length_map, beq_int, decide_eq_true_eq, if_true, if_false, Bool.false_eq_true, if_pos, reduceIte, at0, at1, at2, at3, dP, mCallX, mCallB, peekA, evA, evAs, eq_self, sRaise0, sRaise1, sTry, caught, unslot, unheld, mXArg, mXIs, runX, List.contains_cons, List.contains_nil, Slot.isExn, String.reduceBEq, ex_arg, ex_valB, Bool.or_false, Bool.false_or, Bool.or_true, Bool.true_or, Bool.not_false, Bool.not_true, mComp2, dGcd, ar__law_table, ar__law_divisor, ar__law_lines]
    exact ⟨hr, hK _ rfl⟩
  rintro _ rfl
  generalize tb r = A at *
  refine seq_cut (fun s' => ∃ x, s' = ⟨[.val (.list (r.map D.int)), .val (.int N), .val (.int A.p), .val (.int A.q), .val (.int A.r), .val (.int A.s), .own (uD N), .gone, .gone, .gone, .gone, .gone, .gone, x], w⟩) ?_ ?_
  · intro K hK
    simp only [run, runF, DL.get, DL.put, puts, back, mC, mVar, mFzV, mFeed, frz, msN, msC, mBin, mUn, dAdd, dSub, dMul, dDiv, dMod, dPow, dNeg, dCmp, dLt, dLe, dGt, dGe, dEq, dNe, dIn, dIsN, dIsNotN, isN, dIs, dIsNot, dTab, flatD, okT, truth, tV, tB, tAnd, tOr, tNot, mAnd, mOr, mNot, mIf, mChain, mList, mTup, dIx, mSl, oN, oS, mRev, mRevTo, mCall, mCallF, dLen, dAbs, dInt, dMin2, dMax2, dList, dTup, dSum, dMin, dMax, dMinG, dMaxG, dAll, isTy, mIsI, gV, gSkip, gsN, gsC, gT, srcV, srcR1, srcR2, srcEnum, srcRev, mComp, tYes, isS, isL, mMS, mML, dIndexS, dIndexL, dIndexFrom, mMS2, dCount, dSplit, dJoin, sNil, sSeq, sSet, sAsg, sPar, sRet, retK, sRetN, sIf, sPass, sBrk, sCont, sNever, sExpr, sAug, ownAt, feedAt, intD, sApp, sExt, sSetI, sAugI, sFeed, sFeedA, popD, sPop, sAddPop, sFor, DL.W.set, DL.W.at, DL.R.d, okD, eqD_none_none, eqD_none_bool, eqD_none_int, eqD_none_str, eqD_none_list, eqD_none_tup, eqD_bool_none, eqD_bool_bool, eqD_bool_int, eqD_bool_str, eqD_bool_list, eqD_bool_tup, eqD_int_none, eqD_int_bool, eqD_int_int, eqD_int_str, eqD_int_list, eqD_int_tup, eqD_str_none, eqD_str_bool, eqD_str_int, eqD_str_str, eqD_str_list, eqD_str_tup, eqD_list_none, eqD_list_bool, eqD_list_int, eqD_list_str, eqD_list_list, eqD_list_tup, eqD_tup_none, eqD_tup_bool, eqD_tup_int, eqD_tup_str, eqD_tup_list, eqD_tup_tup, eqDs_nn, eqDs_cc, eqDs_nc, eqDs_cn, List.map_cons, List.map_nil, List.map, List.cons_append, List.nil_append, List.replicate, List.length_cons, List.length_nil, Nat.reduceAdd, Nat.reduceSub, List.all_cons, List.all_nil, Bool.and_true, Bool.true_and, true_and, and_true, atI_map, ex_map, ex_some, List.length_map, beq_int, decide_eq_true_eq, if_true, if_false, Bool.false_eq_true, if_pos, reduceIte, at0, at1, at2, at3, dP, mCallX, mCallB, peekA, evA, evAs, eq_self, sRaise0, sRaise1, sTry, caught, unslot, unheld, mXArg, mXIs, runX, List.contains_cons, List.contains_nil, Slot.isExn, String.reduceBEq, ex_arg, ex_valB, Bool.or_false, Bool.false_or, Bool.or_true, Bool.true_or, Bool.not_false, Bool.not_true, mComp2, dGcd, ar__law_table, ar__law_divisor, ar__law_lines]
    refine ⟨by omega, ?_⟩
    rw [show ((N : Int) - 1).toNat = N - 1 by omega]
    refine compL_flt _ [] (uB N) (fun d => d) (fun st => ∃ x, st = ⟨[.val (.list (r.map D.int)), .val (.int N), .val (.int A.p), .val (.int A.q), .val (.int A.r), .val (.int A.s), .gone, .gone, .gone, .gone, .gone, .gone, .gone, x], w⟩) ⟨_, rfl⟩ (by rw [ran_len]; simp only [List.length_nil]; omega) ?_ ?_
    · rintro d _ hd ⟨x, rfl⟩ C K1 K2 hC hK1 hK2
      obtain ⟨i, hi⟩ := List.getElem?_of_mem hd
      obtain ⟨hi, rfl⟩ := ran_get hi
      rw [show D.int (1 + (i : Int)) = D.int ((1 + i : Nat) : Int) by rw [show ((1 + i : Nat) : Int) = 1 + (i : Int) by omega]] at *
      simp only [run, runF, DL.get, DL.put, puts, back, mC, mVar, mFzV, mFeed, frz, msN, msC, mBin, mUn, dAdd, dSub, dMul, dDiv, dMod, dPow, dNeg, dCmp, dLt, dLe, dGt, dGe, dEq, dNe, dIn, dIsN, dIsNotN, isN, dIs, dIsNot, dTab, flatD, okT, truth, tV, tB, tAnd, tOr, tNot, mAnd, mOr, mNot, mIf, mChain, mList, mTup, dIx, mSl, oN, oS, mRev, mRevTo, mCall, mCallF, dLen, dAbs, dInt, dMin2, dMax2, dList, dTup, dSum, dMin, dMax, dMinG, dMaxG, dAll, isTy, mIsI, gV, gSkip, gsN, gsC, gT, srcV, srcR1, srcR2, srcEnum, srcRev, mComp, tYes, isS, isL, mMS, mML, dIndexS, dIndexL, dIndexFrom, mMS2, dCount, dSplit, dJoin, sNil, sSeq, sSet, sAsg, sPar, sRet, retK, sRetN, sIf, sPass, sBrk, sCont, sNever, sExpr, sAug, ownAt, feedAt, intD, sApp, sExt, sSetI, sAugI, sFeed, sFeedA, popD, sPop, sAddPop, sFor, DL.W.set, DL.W.at, DL.R.d, okD, eqD_none_none, eqD_none_bool, eqD_none_int, eqD_none_str, eqD_none_list, eqD_none_tup, eqD_bool_none, eqD_bool_bool, eqD_bool_int, eqD_bool_str, eqD_bool_list, eqD_bool_tup, eqD_int_none, eqD_int_bool, eqD_int_int, eqD_int_str, eqD_int_list, eqD_int_tup, eqD_str_none, eqD_str_bool, eqD_str_int, eqD_str_str, eqD_str_list, eqD_str_tup, eqD_list_none, eqD_list_bool, eqD_list_int, eqD_list_str, eqD_list_list, eqD_list_tup, eqD_tup_none, eqD_tup_bool, eqD_tup_int, eqD_tup_str, eqD_tup_list, eqD_tup_tup, eqDs_nn, eqDs_cc, eqDs_nc, eqDs_cn, List.map_cons, List.map_nil, List.map, List.cons_append, List.nil_append, List.replicate, List.length_cons, List.length_nil, Nat.reduceAdd, Nat.reduceSub, List.all_cons, List.all_nil, Bool.and_true, Bool.true_and, true_and, and_true, atI_map, ex_map, ex_some, List.length_map, beq_int, decide_eq_true_eq, if_true, if_false, Bool.false_eq_true, if_pos, reduceIte, at0, at1, at2, at3, dP, mCallX, mCallB, peekA, evA, evAs, eq_self, sRaise0, sRaise1, sTry, caught, unslot, unheld, mXArg, mXIs, runX, List.contains_cons, List.contains_nil, Slot.isExn, String.reduceBEq, ex_arg, ex_valB, Bool.or_false, Bool.false_or, Bool.or_true, Bool.true_or, Bool.not_false, Bool.not_true, mComp2, dGcd, ar__law_table, ar__law_divisor, ar__law_lines]
      refine ⟨by omega, ?_⟩
      split
      · rename_i c
        exact ⟨hC, hK1 (decide_eq_true (by show Nat.gcd (1 + i) N = 1; rw [Nat.gcd_comm]; omega)) _ ⟨_, rfl⟩⟩
      · rename_i c
        exact hK2 (decide_eq_false (by show ¬ Nat.gcd (1 + i) N = 1; rw [Nat.gcd_comm]; omega)) _ ⟨_, rfl⟩
    · rintro _ ⟨x, rfl⟩
      rw [List.nil_append, ran_units, List.map_id']
      exact hK _ ⟨_, rfl⟩
  rintro _ ⟨x0, rfl⟩
  refine seq_cut (fun s' => s' = ⟨[.val (.list (r.map D.int)), .val (.int N), .val (.int A.p), .val (.int A.q), .val (.int A.r), .val (.int A.s), .own (uD N), .own ((linesL N).map pN), .gone, .gone, .gone, .gone, .gone, x0], w⟩) ?_ ?_
  · intro K hK
    simp only [run, runF, DL.get, DL.put, puts, back, mC, mVar, mFzV, mFeed, frz, msN, msC, mBin, mUn, dAdd, dSub, dMul, dDiv, dMod, dPow, dNeg, dCmp, dLt, dLe, dGt, dGe, dEq, dNe, dIn, dIsN, dIsNotN, isN, dIs, dIsNot, dTab, flatD, okT, truth, tV, tB, tAnd, tOr, tNot, mAnd, mOr, mNot, mIf, mChain, mList, mTup, dIx, mSl, oN, oS, mRev, mRevTo, mCall, mCallF, dLen, dAbs, dInt, dMin2, dMax2, dList, dTup, dSum, dMin, dMax, dMinG, dMaxG, dAll, isTy, mIsI, gV, gSkip, gsN, gsC, gT, srcV, srcR1, srcR2, srcEnum, srcRev, mComp, tYes, isS, isL, mMS, mML, dIndexS, dIndexL, dIndexFrom, mMS2, dCount, dSplit, dJoin, sNil, sSeq, sSet, sAsg, sPar, sRet, retK, sRetN, sIf, sPass, sBrk, sCont, sNever, sExpr, sAug, ownAt, feedAt, intD, sApp, sExt, sSetI, sAugI, sFeed, sFeedA, popD, sPop, sAddPop, sFor, DL.W.set, DL.W.at, DL.R.d, okD, eqD_none_none, eqD_none_bool, eqD_none_int, eqD_none_str, eqD_none_list, eqD_none_tup, eqD_bool_none, eqD_bool_bool, eqD_bool_int, eqD_bool_str, eqD_bool_list, eqD_bool_tup, eqD_int_none, eqD_int_bool, eqD_int_int, eqD_int_str, eqD_int_list, eqD_int_tup, eqD_str_none, eqD_str_bool, eqD_str_int, eqD_str_str, eqD_str_list, eqD_str_tup, eqD_list_none, eqD_list_bool, eqD_list_int, eqD_list_str, eqD_list_list, eqD_list_tup, eqD_tup_none, eqD_tup_bool, eqD_tup_int, eqD_tup_str, eqD_tup_list, eqD_tup_tup, eqDs_nn, eqDs_cc, eqDs_nc, eqDs_cn, List.map_cons, List.map_nil, List.map, List.cons_append, List.nil_append, List.replicate, List.length_cons, List.length_nil, Nat.reduceAdd, Nat.reduceSub, List.all_cons, List.all_nil, Bool.and_true, Bool.true_and, true_and, and_true, atI_map, ex_map, ex_some, List.length_map, beq_int, decide_eq_true_eq, if_true, if_false, Bool.false_eq_true, if_pos, reduceIte, at0, at1, at2, at3, dP, mCallX, mCallB, peekA, evA, evAs, eq_self, sRaise0, sRaise1, sTry, caught, unslot, unheld, mXArg, mXIs, runX, List.contains_cons, List.contains_nil, Slot.isExn, String.reduceBEq, ex_arg, ex_valB, Bool.or_false, Bool.false_or, Bool.or_true, Bool.true_or, Bool.not_false, Bool.not_true, mComp2, dGcd, ar__law_table, ar__law_divisor, ar__law_lines]
    exact ⟨h2, h12, hK _ rfl⟩
  rintro _ rfl
  refine seq_cut (fun s' => s' = ⟨[.val (.list (r.map D.int)), .val (.int N), .val (.int A.p), .val (.int A.q), .val (.int A.r), .val (.int A.s), .own (uD N), .own ((linesL N).map pN), .own [], .gone, .gone, .gone, .gone, x0], w⟩) ?_ ?_
  · intro K hK
    simp only [run, runF, DL.get, DL.put, puts, back, mC, mVar, mFzV, mFeed, frz, msN, msC, mBin, mUn, dAdd, dSub, dMul, dDiv, dMod, dPow, dNeg, dCmp, dLt, dLe, dGt, dGe, dEq, dNe, dIn, dIsN, dIsNotN, isN, dIs, dIsNot, dTab, flatD, okT, truth, tV, tB, tAnd, tOr, tNot, mAnd, mOr, mNot, mIf, mChain, mList, mTup, dIx, mSl, oN, oS, mRev, mRevTo, mCall, mCallF, dLen, dAbs, dInt, dMin2, dMax2, dList, dTup, dSum, dMin, dMax, dMinG, dMaxG, dAll, isTy, mIsI, gV, gSkip, gsN, gsC, gT, srcV, srcR1, srcR2, srcEnum, srcRev, mComp, tYes, isS, isL, mMS, mML, dIndexS, dIndexL, dIndexFrom, mMS2, dCount, dSplit, dJoin, sNil, sSeq, sSet, sAsg, sPar, sRet, retK, sRetN, sIf, sPass, sBrk, sCont, sNever, sExpr, sAug, ownAt, feedAt, intD, sApp, sExt, sSetI, sAugI, sFeed, sFeedA, popD, sPop, sAddPop, sFor, DL.W.set, DL.W.at, DL.R.d, okD, eqD_none_none, eqD_none_bool, eqD_none_int, eqD_none_str, eqD_none_list, eqD_none_tup, eqD_bool_none, eqD_bool_bool, eqD_bool_int, eqD_bool_str, eqD_bool_list, eqD_bool_tup, eqD_int_none, eqD_int_bool, eqD_int_int, eqD_int_str, eqD_int_list, eqD_int_tup, eqD_str_none, eqD_str_bool, eqD_str_int, eqD_str_str, eqD_str_list, eqD_str_tup, eqD_list_none, eqD_list_bool, eqD_list_int, eqD_list_str, eqD_list_list, eqD_list_tup, eqD_tup_none, eqD_tup_bool, eqD_tup_int, eqD_tup_str, eqD_tup_list, eqD_tup_tup, eqDs_nn, eqDs_cc, eqDs_nc, eqDs_cn, List.map_cons, List.map_nil, List.map, List.cons_append, List.nil_append, List.replicate, List.length_cons, List.length_nil, Nat.reduceAdd, Nat.reduceSub, List.all_cons, List.all_nil, Bool.and_true, Bool.true_and, true_and, and_true, atI_map, ex_map, ex_some, List.length_map, beq_int, decide_eq_true_eq, if_true, if_false, Bool.false_eq_true, if_pos, reduceIte, at0, at1, at2, at3, dP, mCallX, mCallB, peekA, evA, evAs, eq_self, sRaise0, sRaise1, sTry, caught, unslot, unheld, mXArg, mXIs, runX, List.contains_cons, List.contains_nil, Slot.isExn, String.reduceBEq, ex_arg, ex_valB, Bool.or_false, Bool.false_or, Bool.or_true, Bool.true_or, Bool.not_false, Bool.not_true, mComp2, dGcd, ar__law_table, ar__law_divisor, ar__law_lines]
    exact ⟨by omega, hK _ rfl⟩
  rintro _ rfl
  refine seq_cut (fun s' => ∃ a x y z t m u, s' = ⟨[.val (.list (r.map D.int)), .val (.int N), .val (.int A.p), .val (.int A.q), .val (.int A.r), .val (.int A.s), a, x, .own ((keptL N A).map fun i : Nat => .int i), y, z, t, m, u], w⟩) ?_ ?_
  · intro K hK
    refine for_r1 (linesL N).length (fun n s' => ∃ a y z t m u, (a = .own (uD N) ∨ a = .val (.list (uD N))) ∧ s' = ⟨[.val (.list (r.map D.int)), .val (.int N), .val (.int A.p), .val (.int A.q), .val (.int A.r), .val (.int A.s), a, .own ((linesL N).map pN), .own (((List.range n).filter fun i => keptB N A ((linesL N).getD i (0, 0))).map fun i : Nat => D.int i), y, z, t, m, u], w⟩) ⟨[.val (.list (r.map D.int)), .val (.int N), .val (.int A.p), .val (.int A.q), .val (.int A.r), .val (.int A.s), .own (uD N), .own ((linesL N).map pN), .own [], .gone, .gone, .gone, .gone, x0], w⟩ (fun K h => ?_) (by omega) ⟨_, _, _, _, _, _, .inl rfl, rfl⟩ ?_ ?_
    · simp only [run, runF, DL.get, DL.put, puts, back, mC, mVar, mFzV, mFeed, frz, msN, msC, mBin, mUn, dAdd, dSub, dMul, dDiv, dMod, dPow, dNeg, dCmp, dLt, dLe, dGt, dGe, dEq, dNe, dIn, dIsN, dIsNotN, isN, dIs, dIsNot, dTab, flatD, okT, truth, tV, tB, tAnd, tOr, tNot, mAnd, mOr, mNot, mIf, mChain, mList, mTup, dIx, mSl, oN, oS, mRev, mRevTo, mCall, mCallF, dLen, dAbs, dInt, dMin2, dMax2, dList, dTup, dSum, dMin, dMax, dMinG, dMaxG, dAll, isTy, mIsI, gV, gSkip, gsN, gsC, gT, srcV, srcR1, srcR2, srcEnum, srcRev, mComp, tYes, isS, isL, mMS, mML, dIndexS, dIndexL, dIndexFrom, mMS2, dCount, dSplit, dJoin, sNil, sSeq, sSet, sAsg, sPar, sRet, retK, sRetN, sIf, sPass, sBrk, sCont, sNever, sExpr, sAug, ownAt, feedAt, intD, sApp, sExt, sSetI, sAugI, sFeed, sFeedA, popD, sPop, sAddPop, sFor, DL.W.set, DL.W.at, DL.R.d, okD, eqD_none_none, eqD_none_bool, eqD_none_int, eqD_none_str, eqD_none_list, eqD_none_tup, eqD_bool_none, eqD_bool_bool, eqD_bool_int, eqD_bool_str, eqD_bool_list, eqD_bool_tup, eqD_int_none, eqD_int_bool, eqD_int_int, eqD_int_str, eqD_int_list, eqD_int_tup, eqD_str_none, eqD_str_bool, eqD_str_int, eqD_str_str, eqD_str_list, eqD_str_tup, eqD_list_none, eqD_list_bool, eqD_list_int, eqD_list_str, eqD_list_list, eqD_list_tup, eqD_tup_none, eqD_tup_bool, eqD_tup_int, eqD_tup_str, eqD_tup_list, eqD_tup_tup, eqDs_nn, eqDs_cc, eqDs_nc, eqDs_cn, List.map_cons, List.map_nil, List.map, List.cons_append, List.nil_append, List.replicate, List.length_cons, List.length_nil, Nat.reduceAdd, Nat.reduceSub, List.all_cons, List.all_nil, Bool.and_true, Bool.true_and, true_and, and_true, atI_map, ex_map, ex_some, List.length_map, beq_int, decide_eq_true_eq, if_true, if_false, Bool.false_eq_true, if_pos, reduceIte, at0, at1, at2, at3, dP, mCallX, mCallB, peekA, evA, evAs, eq_self, sRaise0, sRaise1, sTry, caught, unslot, unheld, mXArg, mXIs, runX, List.contains_cons, List.contains_nil, Slot.isExn, String.reduceBEq, ex_arg, ex_valB, Bool.or_false, Bool.false_or, Bool.or_true, Bool.true_or, Bool.not_false, Bool.not_true, mComp2, dGcd, ar__law_table, ar__law_divisor, ar__law_lines]
      exact h
    · rintro n _ hn ⟨a, y, z0, t, m, u, ha, rfl⟩ K hK
      obtain ⟨z, hz0⟩ : ∃ z, (linesL N)[n]? = some z := ⟨_, List.getElem?_eq_getElem hn⟩
      have hm : z ∈ linesL N := List.mem_of_getElem? hz0
      obtain ⟨z1, z2⟩ := linesL_mem hm
      have hleast := lines_least hm
      have hg : (linesL N).getD n (0, 0) = z := by rw [List.getD_eq_getElem?_getD, hz0]; rfl
      have hat : atI (linesL N) (n : Int) = some z := by rw [atI_at (by omega) (by rw [Int.toNat_natCast]; exact hz0)]
      rw [List.range_succ, List.filter_append, List.filter_cons, List.filter_nil, hg, List.map_append] at hK
      have hf := List.length_filter_le (fun i => keptB N A ((linesL N).getD i (0, 0))) (List.range n)
      rw [List.length_range] at hf
      generalize (List.range n).filter (fun i => keptB N A ((linesL N).getD i (0, 0))) = fs at *
      have y1 := lgn (n := z.1) (by omega)
      have y2 := lgn (n := z.2) (by omega)
      show sSeq _ _ ⟨[.val (.list (r.map D.int)), .val (.int N), .val (.int A.p), .val (.int A.q), .val (.int A.r), .val (.int A.s), a, .own ((linesL N).map pN), .own (fs.map fun i : Nat => D.int i), .val (.int n), z0, t, m, u], w⟩ _
      refine seq_cut (fun s' => s' = ⟨[.val (.list (r.map D.int)), .val (.int N), .val (.int A.p), .val (.int A.q), .val (.int A.r), .val (.int A.s), a, .own ((linesL N).map pN), .own (fs.map fun i : Nat => D.int i), .val (.int n), .val (.int z.1), .val (.int z.2), m, u], w⟩) ?_ ?_
      · intro K hK
        simp only [run, runF, DL.get, DL.put, puts, back, mC, mVar, mFzV, mFeed, frz, msN, msC, mBin, mUn, dAdd, dSub, dMul, dDiv, dMod, dPow, dNeg, dCmp, dLt, dLe, dGt, dGe, dEq, dNe, dIn, dIsN, dIsNotN, isN, dIs, dIsNot, dTab, flatD, okT, truth, tV, tB, tAnd, tOr, tNot, mAnd, mOr, mNot, mIf, mChain, mList, mTup, dIx, mSl, oN, oS, mRev, mRevTo, mCall, mCallF, dLen, dAbs, dInt, dMin2, dMax2, dList, dTup, dSum, dMin, dMax, dMinG, dMaxG, dAll, isTy, mIsI, gV, gSkip, gsN, gsC, gT, srcV, srcR1, srcR2, srcEnum, srcRev, mComp, tYes, isS, isL, mMS, mML, dIndexS, dIndexL, dIndexFrom, mMS2, dCount, dSplit, dJoin, sNil, sSeq, sSet, sAsg, sPar, sRet, retK, sRetN, sIf, sPass, sBrk, sCont, sNever, sExpr, sAug, ownAt, feedAt, intD, sApp, sExt, sSetI, sAugI, sFeed, sFeedA, popD, sPop, sAddPop, sFor, DL.W.set, DL.W.at, DL.R.d, okD, eqD_none_none, eqD_none_bool, eqD_none_int, eqD_none_str, eqD_none_list, eqD_none_tup, eqD_bool_none, eqD_bool_bool, eqD_bool_int, eqD_bool_str, eqD_bool_list, eqD_bool_tup, eqD_int_none, eqD_int_bool, eqD_int_int, eqD_int_str, eqD_int_list, eqD_int_tup, eqD_str_none, eqD_str_bool, eqD_str_int, eqD_str_str, eqD_str_list, eqD_str_tup, eqD_list_none, eqD_list_bool, eqD_list_int, eqD_list_str, eqD_list_list, eqD_list_tup, eqD_tup_none, eqD_tup_bool, eqD_tup_int, eqD_tup_str, eqD_tup_list, eqD_tup_tup, eqDs_nn, eqDs_cc, eqDs_nc, eqDs_cn, List.map_cons, List.map_nil, List.map, List.cons_append, List.nil_append, List.replicate, List.length_cons, List.length_nil, Nat.reduceAdd, Nat.reduceSub, List.all_cons, List.all_nil, Bool.and_true, Bool.true_and, true_and, and_true, atI_map, ex_map, ex_some, List.length_map, beq_int, decide_eq_true_eq, if_true, if_false, Bool.false_eq_true, if_pos, reduceIte, at0, at1, at2, at3, dP, mCallX, mCallB, peekA, evA, evAs, eq_self, sRaise0, sRaise1, sTry, caught, unslot, unheld, mXArg, mXIs, runX, List.contains_cons, List.contains_nil, Slot.isExn, String.reduceBEq, ex_arg, ex_valB, Bool.or_false, Bool.false_or, Bool.or_true, Bool.true_or, Bool.not_false, Bool.not_true, mComp2, dGcd, ar__law_table, ar__law_divisor, ar__law_lines]
        exact ⟨_, hat, hK _ rfl⟩
      rintro _ rfl
      refine seq_cut (fun s' => s' = ⟨[.val (.list (r.map D.int)), .val (.int N), .val (.int A.p), .val (.int A.q), .val (.int A.r), .val (.int A.s), a, .own ((linesL N).map pN), .own (fs.map fun i : Nat => D.int i), .val (.int n), .val (.int z.1), .val (.int z.2), .val (pT ((A.p * z.1 + A.q * z.2) % N, (A.r * z.1 + A.s * z.2) % N)), u], w⟩) ?_ ?_
      · intro K hK
        simp only [run, runF, DL.get, DL.put, puts, back, mC, mVar, mFzV, mFeed, frz, msN, msC, mBin, mUn, dAdd, dSub, dMul, dDiv, dMod, dPow, dNeg, dCmp, dLt, dLe, dGt, dGe, dEq, dNe, dIn, dIsN, dIsNotN, isN, dIs, dIsNot, dTab, flatD, okT, truth, tV, tB, tAnd, tOr, tNot, mAnd, mOr, mNot, mIf, mChain, mList, mTup, dIx, mSl, oN, oS, mRev, mRevTo, mCall, mCallF, dLen, dAbs, dInt, dMin2, dMax2, dList, dTup, dSum, dMin, dMax, dMinG, dMaxG, dAll, isTy, mIsI, gV, gSkip, gsN, gsC, gT, srcV, srcR1, srcR2, srcEnum, srcRev, mComp, tYes, isS, isL, mMS, mML, dIndexS, dIndexL, dIndexFrom, mMS2, dCount, dSplit, dJoin, sNil, sSeq, sSet, sAsg, sPar, sRet, retK, sRetN, sIf, sPass, sBrk, sCont, sNever, sExpr, sAug, ownAt, feedAt, intD, sApp, sExt, sSetI, sAugI, sFeed, sFeedA, popD, sPop, sAddPop, sFor, DL.W.set, DL.W.at, DL.R.d, okD, eqD_none_none, eqD_none_bool, eqD_none_int, eqD_none_str, eqD_none_list, eqD_none_tup, eqD_bool_none, eqD_bool_bool, eqD_bool_int, eqD_bool_str, eqD_bool_list, eqD_bool_tup, eqD_int_none, eqD_int_bool, eqD_int_int, eqD_int_str, eqD_int_list, eqD_int_tup, eqD_str_none, eqD_str_bool, eqD_str_int, eqD_str_str, eqD_str_list, eqD_str_tup, eqD_list_none, eqD_list_bool, eqD_list_int, eqD_list_str, eqD_list_list, eqD_list_tup, eqD_tup_none, eqD_tup_bool, eqD_tup_int, eqD_tup_str, eqD_tup_list, eqD_tup_tup, eqDs_nn, eqDs_cc, eqDs_nc, eqDs_cn, List.map_cons, List.map_nil, List.map, List.cons_append, List.nil_append, List.replicate, List.length_cons, List.length_nil, Nat.reduceAdd, Nat.reduceSub, List.all_cons, List.all_nil, Bool.and_true, Bool.true_and, true_and, and_true, atI_map, ex_map, ex_some, List.length_map, beq_int, decide_eq_true_eq, if_true, if_false, Bool.false_eq_true, if_pos, reduceIte, at0, at1, at2, at3, dP, mCallX, mCallB, peekA, evA, evAs, eq_self, sRaise0, sRaise1, sTry, caught, unslot, unheld, mXArg, mXIs, runX, List.contains_cons, List.contains_nil, Slot.isExn, String.reduceBEq, ex_arg, ex_valB, Bool.or_false, Bool.false_or, Bool.or_true, Bool.true_or, Bool.not_false, Bool.not_true, mComp2, dGcd, ar__law_table, ar__law_divisor, ar__law_lines]
        exact ⟨by omega, by omega, by omega, by omega, by omega, by omega, by omega, hK _ rfl⟩
      rintro _ rfl
      have ki := kept_iff h2 h12 z1 z2 hleast (A.p * z.1 + A.q * z.2) (A.r * z.1 + A.s * z.2)
      refine cond_cut2 (keptB N A z) (fun s' => ∃ u, s' = ⟨[.val (.list (r.map D.int)), .val (.int N), .val (.int A.p), .val (.int A.q), .val (.int A.r), .val (.int A.s), .val (.list (uD N)), .own ((linesL N).map pN), .own (fs.map fun i : Nat => D.int i), .val (.int n), .val (.int z.1), .val (.int z.2), .val (pT ((A.p * z.1 + A.q * z.2) % N, (A.r * z.1 + A.s * z.2) % N)), u], w⟩) ?_ (fun c s' hs => ?_) fun c s' hs => ?_
      · intro K hK
        have fin : ∀ (s0 : S) (Q1 : List D → S → Prop), (∃ u, s0 = ⟨[.val (.list (r.map D.int)), .val (.int N), .val (.int A.p), .val (.int A.q), .val (.int A.r), .val (.int A.s), .val (.list (uD N)), .own ((linesL N).map pN), .own (fs.map fun i : Nat => D.int i), .val (.int n), .val (.int z.1), .val (.int z.2), .val (pT ((A.p * z.1 + A.q * z.2) % N, (A.r * z.1 + A.s * z.2) % N)), u], w⟩) → (∀ acc u, decide (0 < (acc.length : Int)) = keptB N A z → Q1 acc ⟨[.val (.list (r.map D.int)), .val (.int N), .val (.int A.p), .val (.int A.q), .val (.int A.r), .val (.int A.s), .val (.list (uD N)), .own ((linesL N).map pN), .own (fs.map fun i : Nat => D.int i), .val (.int n), .val (.int z.1), .val (.int z.2), .val (pT ((A.p * z.1 + A.q * z.2) % N, (A.r * z.1 + A.s * z.2) % N)), u], w⟩) →
            compL [13] (gV 13) (tB (mBin dEq (mTup (msC (mBin dMod (mUn dInt (mBin dMul (mVar 13) (mVar 10))) (mVar 1)) (msC (mBin dMod (mUn dInt (mBin dMul (mVar 13) (mVar 11))) (mVar 1)) msN))) (mVar 12))) (mFzV 13) (uD N) [] s0 Q1 := fun s0 Q1 h0 h1 => by
          have ul := units_len h12
          refine compL_flt _ [] (fun d => match d with | .int k => decide (mulP N z.1 z.2 k.toNat = ((A.p * z.1 + A.q * z.2) % N, (A.r * z.1 + A.s * z.2) % N)) | _ => false) (fun d => d) (fun st => ∃ u, st = ⟨[.val (.list (r.map D.int)), .val (.int N), .val (.int A.p), .val (.int A.q), .val (.int A.r), .val (.int A.s), .val (.list (uD N)), .own ((linesL N).map pN), .own (fs.map fun i : Nat => D.int i), .val (.int n), .val (.int z.1), .val (.int z.2), .val (pT ((A.p * z.1 + A.q * z.2) % N, (A.r * z.1 + A.s * z.2) % N)), u], w⟩) h0 (by rw [List.length_map]; simp only [List.length_nil]; omega) ?_ ?_
          · rintro d _ hd ⟨u, rfl⟩ C K1 K2 hC hK1 hK2
            obtain ⟨k, hk, rfl⟩ := List.mem_map.mp hd
            have ku := units_mem hk
            have l1 := lgn (n := k) (by omega)
            have hb : (decide ((k : Int) * z.1 % N = (A.p * z.1 + A.q * z.2) % N) && decide ((k : Int) * z.2 % N = (A.r * z.1 + A.s * z.2) % N)) = decide (mulP N z.1 z.2 k = ((A.p * z.1 + A.q * z.2) % N, (A.r * z.1 + A.s * z.2) % N)) := by
              unfold mulP
              rw [Bool.eq_iff_iff, Bool.and_eq_true, decide_eq_true_eq, decide_eq_true_eq, decide_eq_true_eq, Prod.mk.injEq]
            simp only [run, runF, DL.get, DL.put, puts, back, mC, mVar, mFzV, mFeed, frz, msN, msC, mBin, mUn, dAdd, dSub, dMul, dDiv, dMod, dPow, dNeg, dCmp, dLt, dLe, dGt, dGe, dEq, dNe, dIn, dIsN, dIsNotN, isN, dIs, dIsNot, dTab, flatD, okT, truth, tV, tB, tAnd, tOr, tNot, mAnd, mOr, mNot, mIf, mChain, mList, mTup, dIx, mSl, oN, oS, mRev, mRevTo, mCall, mCallF, dLen, dAbs, dInt, dMin2, dMax2, dList, dTup, dSum, dMin, dMax, dMinG, dMaxG, dAll, isTy, mIsI, gV, gSkip, gsN, gsC, gT, srcV, srcR1, srcR2, srcEnum, srcRev, mComp, tYes, isS, isL, mMS, mML, dIndexS, dIndexL, dIndexFrom, mMS2, dCount, dSplit, dJoin, sNil, sSeq, sSet, sAsg, sPar, sRet, retK, sRetN, sIf, sPass, sBrk, sCont, sNever, sExpr, sAug, ownAt, feedAt, intD, sApp, sExt, sSetI, sAugI, sFeed, sFeedA, popD, sPop, sAddPop, sFor, DL.W.set, DL.W.at, DL.R.d, okD, eqD_none_none, eqD_none_bool, eqD_none_int, eqD_none_str, eqD_none_list, eqD_none_tup, eqD_bool_none, eqD_bool_bool, eqD_bool_int, eqD_bool_str, eqD_bool_list, eqD_bool_tup, eqD_int_none, eqD_int_bool, eqD_int_int, eqD_int_str, eqD_int_list, eqD_int_tup, eqD_str_none, eqD_str_bool, eqD_str_int, eqD_str_str, eqD_str_list, eqD_str_tup, eqD_list_none, eqD_list_bool, eqD_list_int, eqD_list_str, eqD_list_list, eqD_list_tup, eqD_tup_none, eqD_tup_bool, eqD_tup_int, eqD_tup_str, eqD_tup_list, eqD_tup_tup, eqDs_nn, eqDs_cc, eqDs_nc, eqDs_cn, List.map_cons, List.map_nil, List.map, List.cons_append, List.nil_append, List.replicate, List.length_cons, List.length_nil, Nat.reduceAdd, Nat.reduceSub, List.all_cons, List.all_nil, Bool.and_true, Bool.true_and, true_and, and_true, atI_map, ex_map, ex_some, List.length_map, beq_int, decide_eq_true_eq, if_true, if_false, Bool.false_eq_true, if_pos, reduceIte, at0, at1, at2, at3, dP, mCallX, mCallB, peekA, evA, evAs, eq_self, sRaise0, sRaise1, sTry, caught, unslot, unheld, mXArg, mXIs, runX, List.contains_cons, List.contains_nil, Slot.isExn, String.reduceBEq, ex_arg, ex_valB, Bool.or_false, Bool.false_or, Bool.or_true, Bool.true_or, Bool.not_false, Bool.not_true, mComp2, dGcd, ar__law_table, ar__law_divisor, ar__law_lines]
            refine ⟨by omega, by omega, by omega, by omega, by decide, ?_⟩
            rw [hb]
            split
            · rename_i c
              exact ⟨hC, hK1 c _ ⟨_, rfl⟩⟩
            · rename_i c
              exact hK2 (by simpa using c) _ ⟨_, rfl⟩
          · rintro _ ⟨u, rfl⟩
            rw [List.nil_append, List.map_id']
            refine h1 _ _ ?_
            rw [Bool.eq_iff_iff, decide_eq_true_eq]
            constructor
            · intro hpos
              obtain ⟨d, hd⟩ := List.exists_mem_of_length_pos (Int.natCast_pos.mp hpos)
              obtain ⟨hd1, hd2⟩ := List.mem_filter.mp hd
              obtain ⟨k, hk, rfl⟩ := List.mem_map.mp hd1
              exact decide_eq_true (ki.mpr ⟨k, hk, of_decide_eq_true hd2⟩)
            · intro hb
              obtain ⟨k, hk, e⟩ := ki.mp (of_decide_eq_true hb)
              have : 0 < ((uD N).filter (fun d => match d with | .int k => decide (mulP N z.1 z.2 k.toNat = ((A.p * z.1 + A.q * z.2) % N, (A.r * z.1 + A.s * z.2) % N)) | _ => false)).length := List.length_pos_iff.mpr (List.ne_nil_of_mem (List.mem_filter.mpr ⟨List.mem_map.mpr ⟨k, hk, rfl⟩, decide_eq_true e⟩))
              omega
        rcases ha with rfl | rfl
        · simp only [run, runF, DL.get, DL.put, puts, back, mC, mVar, mFzV, mFeed, frz, msN, msC, mBin, mUn, dAdd, dSub, dMul, dDiv, dMod, dPow, dNeg, dCmp, dLt, dLe, dGt, dGe, dEq, dNe, dIn, dIsN, dIsNotN, isN, dIs, dIsNot, dTab, flatD, okT, truth, tV, tB, tAnd, tOr, tNot, mAnd, mOr, mNot, mIf, mChain, mList, mTup, dIx, mSl, oN, oS, mRev, mRevTo, mCall, mCallF, dLen, dAbs, dInt, dMin2, dMax2, dList, dTup, dSum, dMin, dMax, dMinG, dMaxG, dAll, isTy, mIsI, gV, gSkip, gsN, gsC, gT, srcV, srcR1, srcR2, srcEnum, srcRev, mComp, tYes, isS, isL, mMS, mML, dIndexS, dIndexL, dIndexFrom, mMS2, dCount, dSplit, dJoin, sNil, sSeq, sSet, sAsg, sPar, sRet, retK, sRetN, sIf, sPass, sBrk, sCont, sNever, sExpr, sAug, ownAt, feedAt, intD, sApp, sExt, sSetI, sAugI, sFeed, sFeedA, popD, sPop, sAddPop, sFor, DL.W.set, DL.W.at, DL.R.d, okD, eqD_none_none, eqD_none_bool, eqD_none_int, eqD_none_str, eqD_none_list, eqD_none_tup, eqD_bool_none, eqD_bool_bool, eqD_bool_int, eqD_bool_str, eqD_bool_list, eqD_bool_tup, eqD_int_none, eqD_int_bool, eqD_int_int, eqD_int_str, eqD_int_list, eqD_int_tup, eqD_str_none, eqD_str_bool, eqD_str_int, eqD_str_str, eqD_str_list, eqD_str_tup, eqD_list_none, eqD_list_bool, eqD_list_int, eqD_list_str, eqD_list_list, eqD_list_tup, eqD_tup_none, eqD_tup_bool, eqD_tup_int, eqD_tup_str, eqD_tup_list, eqD_tup_tup, eqDs_nn, eqDs_cc, eqDs_nc, eqDs_cn, List.map_cons, List.map_nil, List.map, List.cons_append, List.nil_append, List.replicate, List.length_cons, List.length_nil, Nat.reduceAdd, Nat.reduceSub, List.all_cons, List.all_nil, Bool.and_true, Bool.true_and, true_and, and_true, atI_map, ex_map, ex_some, List.length_map, beq_int, decide_eq_true_eq, if_true, if_false, Bool.false_eq_true, if_pos, reduceIte, at0, at1, at2, at3, dP, mCallX, mCallB, peekA, evA, evAs, eq_self, sRaise0, sRaise1, sTry, caught, unslot, unheld, mXArg, mXIs, runX, List.contains_cons, List.contains_nil, Slot.isExn, String.reduceBEq, ex_arg, ex_valB, Bool.or_false, Bool.false_or, Bool.or_true, Bool.true_or, Bool.not_false, Bool.not_true, mComp2, dGcd, ar__law_table, ar__law_divisor, ar__law_lines]
          refine fin _ _ ⟨_, rfl⟩ fun acc u' hb => ?_
          rw [hb]
          exact hK _ ⟨_, rfl⟩
        · simp only [run, runF, DL.get, DL.put, puts, back, mC, mVar, mFzV, mFeed, frz, msN, msC, mBin, mUn, dAdd, dSub, dMul, dDiv, dMod, dPow, dNeg, dCmp, dLt, dLe, dGt, dGe, dEq, dNe, dIn, dIsN, dIsNotN, isN, dIs, dIsNot, dTab, flatD, okT, truth, tV, tB, tAnd, tOr, tNot, mAnd, mOr, mNot, mIf, mChain, mList, mTup, dIx, mSl, oN, oS, mRev, mRevTo, mCall, mCallF, dLen, dAbs, dInt, dMin2, dMax2, dList, dTup, dSum, dMin, dMax, dMinG, dMaxG, dAll, isTy, mIsI, gV, gSkip, gsN, gsC, gT, srcV, srcR1, srcR2, srcEnum, srcRev, mComp, tYes, isS, isL, mMS, mML, dIndexS, dIndexL, dIndexFrom, mMS2, dCount, dSplit, dJoin, sNil, sSeq, sSet, sAsg, sPar, sRet, retK, sRetN, sIf, sPass, sBrk, sCont, sNever, sExpr, sAug, ownAt, feedAt, intD, sApp, sExt, sSetI, sAugI, sFeed, sFeedA, popD, sPop, sAddPop, sFor, DL.W.set, DL.W.at, DL.R.d, okD, eqD_none_none, eqD_none_bool, eqD_none_int, eqD_none_str, eqD_none_list, eqD_none_tup, eqD_bool_none, eqD_bool_bool, eqD_bool_int, eqD_bool_str, eqD_bool_list, eqD_bool_tup, eqD_int_none, eqD_int_bool, eqD_int_int, eqD_int_str, eqD_int_list, eqD_int_tup, eqD_str_none, eqD_str_bool, eqD_str_int, eqD_str_str, eqD_str_list, eqD_str_tup, eqD_list_none, eqD_list_bool, eqD_list_int, eqD_list_str, eqD_list_list, eqD_list_tup, eqD_tup_none, eqD_tup_bool, eqD_tup_int, eqD_tup_str, eqD_tup_list, eqD_tup_tup, eqDs_nn, eqDs_cc, eqDs_nc, eqDs_cn, List.map_cons, List.map_nil, List.map, List.cons_append, List.nil_append, List.replicate, List.length_cons, List.length_nil, Nat.reduceAdd, Nat.reduceSub, List.all_cons, List.all_nil, Bool.and_true, Bool.true_and, true_and, and_true, atI_map, ex_map, ex_some, List.length_map, beq_int, decide_eq_true_eq, if_true, if_false, Bool.false_eq_true, if_pos, reduceIte, at0, at1, at2, at3, dP, mCallX, mCallB, peekA, evA, evAs, eq_self, sRaise0, sRaise1, sTry, caught, unslot, unheld, mXArg, mXIs, runX, List.contains_cons, List.contains_nil, Slot.isExn, String.reduceBEq, ex_arg, ex_valB, Bool.or_false, Bool.false_or, Bool.or_true, Bool.true_or, Bool.not_false, Bool.not_true, mComp2, dGcd, ar__law_table, ar__law_divisor, ar__law_lines]
          refine fin _ _ ⟨_, rfl⟩ fun acc u' hb => ?_
          rw [hb]
          exact hK _ ⟨_, rfl⟩
      · obtain ⟨u, rfl⟩ := hs
        rw [c, if_pos rfl] at hK
        simp only [run, runF, DL.get, DL.put, puts, back, mC, mVar, mFzV, mFeed, frz, msN, msC, mBin, mUn, dAdd, dSub, dMul, dDiv, dMod, dPow, dNeg, dCmp, dLt, dLe, dGt, dGe, dEq, dNe, dIn, dIsN, dIsNotN, isN, dIs, dIsNot, dTab, flatD, okT, truth, tV, tB, tAnd, tOr, tNot, mAnd, mOr, mNot, mIf, mChain, mList, mTup, dIx, mSl, oN, oS, mRev, mRevTo, mCall, mCallF, dLen, dAbs, dInt, dMin2, dMax2, dList, dTup, dSum, dMin, dMax, dMinG, dMaxG, dAll, isTy, mIsI, gV, gSkip, gsN, gsC, gT, srcV, srcR1, srcR2, srcEnum, srcRev, mComp, tYes, isS, isL, mMS, mML, dIndexS, dIndexL, dIndexFrom, mMS2, dCount, dSplit, dJoin, sNil, sSeq, sSet, sAsg, sPar, sRet, retK, sRetN, sIf, sPass, sBrk, sCont, sNever, sExpr, sAug, ownAt, feedAt, intD, sApp, sExt, sSetI, sAugI, sFeed, sFeedA, popD, sPop, sAddPop, sFor, DL.W.set, DL.W.at, DL.R.d, okD, eqD_none_none, eqD_none_bool, eqD_none_int, eqD_none_str, eqD_none_list, eqD_none_tup, eqD_bool_none, eqD_bool_bool, eqD_bool_int, eqD_bool_str, eqD_bool_list, eqD_bool_tup, eqD_int_none, eqD_int_bool, eqD_int_int, eqD_int_str, eqD_int_list, eqD_int_tup, eqD_str_none, eqD_str_bool, eqD_str_int, eqD_str_str, eqD_str_list, eqD_str_tup, eqD_list_none, eqD_list_bool, eqD_list_int, eqD_list_str, eqD_list_list, eqD_list_tup, eqD_tup_none, eqD_tup_bool, eqD_tup_int, eqD_tup_str, eqD_tup_list, eqD_tup_tup, eqDs_nn, eqDs_cc, eqDs_nc, eqDs_cn, List.map_cons, List.map_nil, List.map, List.cons_append, List.nil_append, List.replicate, List.length_cons, List.length_nil, Nat.reduceAdd, Nat.reduceSub, List.all_cons, List.all_nil, Bool.and_true, Bool.true_and, true_and, and_true, atI_map, ex_map, ex_some, List.length_map, beq_int, decide_eq_true_eq, if_true, if_false, Bool.false_eq_true, if_pos, reduceIte, at0, at1, at2, at3, dP, mCallX, mCallB, peekA, evA, evAs, eq_self, sRaise0, sRaise1, sTry, caught, unslot, unheld, mXArg, mXIs, runX, List.contains_cons, List.contains_nil, Slot.isExn, String.reduceBEq, ex_arg, ex_valB, Bool.or_false, Bool.false_or, Bool.or_true, Bool.true_or, Bool.not_false, Bool.not_true, mComp2, dGcd, ar__law_table, ar__law_divisor, ar__law_lines]
        exact ⟨by omega, hK _ ⟨_, _, _, _, _, _, .inr rfl, rfl⟩⟩
      · obtain ⟨u, rfl⟩ := hs
        rw [c, if_neg (by decide), List.map_nil, List.append_nil] at hK
        exact hK _ ⟨_, _, _, _, _, _, .inr rfl, rfl⟩
    · rintro _ ⟨a, y, z, t, m, u, ha, rfl⟩
      exact hK _ ⟨_, _, _, _, _, _, _, rfl⟩
  rintro _ ⟨a, x, y, z, t, m, u, rfl⟩
  simp only [run, runF, DL.get, DL.put, puts, back, mC, mVar, mFzV, mFeed, frz, msN, msC, mBin, mUn, dAdd, dSub, dMul, dDiv, dMod, dPow, dNeg, dCmp, dLt, dLe, dGt, dGe, dEq, dNe, dIn, dIsN, dIsNotN, isN, dIs, dIsNot, dTab, flatD, okT, truth, tV, tB, tAnd, tOr, tNot, mAnd, mOr, mNot, mIf, mChain, mList, mTup, dIx, mSl, oN, oS, mRev, mRevTo, mCall, mCallF, dLen, dAbs, dInt, dMin2, dMax2, dList, dTup, dSum, dMin, dMax, dMinG, dMaxG, dAll, isTy, mIsI, gV, gSkip, gsN, gsC, gT, srcV, srcR1, srcR2, srcEnum, srcRev, mComp, tYes, isS, isL, mMS, mML, dIndexS, dIndexL, dIndexFrom, mMS2, dCount, dSplit, dJoin, sNil, sSeq, sSet, sAsg, sPar, sRet, retK, sRetN, sIf, sPass, sBrk, sCont, sNever, sExpr, sAug, ownAt, feedAt, intD, sApp, sExt, sSetI, sAugI, sFeed, sFeedA, popD, sPop, sAddPop, sFor, DL.W.set, DL.W.at, DL.R.d, okD, eqD_none_none, eqD_none_bool, eqD_none_int, eqD_none_str, eqD_none_list, eqD_none_tup, eqD_bool_none, eqD_bool_bool, eqD_bool_int, eqD_bool_str, eqD_bool_list, eqD_bool_tup, eqD_int_none, eqD_int_bool, eqD_int_int, eqD_int_str, eqD_int_list, eqD_int_tup, eqD_str_none, eqD_str_bool, eqD_str_int, eqD_str_str, eqD_str_list, eqD_str_tup, eqD_list_none, eqD_list_bool, eqD_list_int, eqD_list_str, eqD_list_list, eqD_list_tup, eqD_tup_none, eqD_tup_bool, eqD_tup_int, eqD_tup_str, eqD_tup_list, eqD_tup_tup, eqDs_nn, eqDs_cc, eqDs_nc, eqDs_cn, List.map_cons, List.map_nil, List.map, List.cons_append, List.nil_append, List.replicate, List.length_cons, List.length_nil, Nat.reduceAdd, Nat.reduceSub, List.all_cons, List.all_nil, Bool.and_true, Bool.true_and, true_and, and_true, atI_map, ex_map, ex_some, List.length_map, beq_int, decide_eq_true_eq, if_true, if_false, Bool.false_eq_true, if_pos, reduceIte, at0, at1, at2, at3, dP, mCallX, mCallB, peekA, evA, evAs, eq_self, sRaise0, sRaise1, sTry, caught, unslot, unheld, mXArg, mXIs, runX, List.contains_cons, List.contains_nil, Slot.isExn, String.reduceBEq, ex_arg, ex_valB, Bool.or_false, Bool.false_or, Bool.or_true, Bool.true_or, Bool.not_false, Bool.not_true, mComp2, dGcd, ar__law_table, ar__law_divisor, ar__law_lines]
  exact q
theorem kept_len {N : Nat} (h : N ≤ 12) (A : M4) : (keptL N A).length ≤ 144 := by
  have pl : (linesL N).length ≤ 144 := by
    have h1 := List.length_filter_le (leastB N) ((prL N).filter (gcdB N))
    have h1' := List.length_filter_le (gcdB N) (prL N)
    have h3 : (prL N).length = N * N := by unfold prL; rw [List.length_flatMap]; simp [List.map_const', List.sum_replicate_nat]
    have := Nat.mul_le_mul h h
    have : (linesL N).length ≤ ((prL N).filter (gcdB N)).length := h1
    omega
  have h1 := List.length_filter_le (fun i => keptB N A ((linesL N).getD i (0, 0))) (List.range (linesL N).length)
  rw [List.length_range] at h1
  exact Nat.le_trans h1 pl
theorem shp_ints (l : List Nat) (n : Nat) (h : l.length ≤ 4000) : shp (n + 1) (.list (l.map fun i : Nat => D.int i)) := .inr ⟨_, .inl rfl, by rw [List.length_map]; exact h, fun e he => by
  obtain ⟨i, _, rfl⟩ := List.mem_map.mp he
  cases n with
  | zero => exact ⟨_, rfl⟩
  | succ n => exact .inl ⟨_, rfl⟩⟩
theorem shp_int (n : Nat) (i : Int) : shp n (.int i) := by
  cases n with
  | zero => exact ⟨_, rfl⟩
  | succ n => exact .inl ⟨_, rfl⟩
theorem shp_M (n : Nat) (A : M4) : shp (n + 1) (tM A) := .inr ⟨_, .inr rfl, by show 4 ≤ 4000; decide, fun e he => by
  simp only [List.mem_cons, List.not_mem_nil, or_false] at he
  rcases he with rfl | rfl | rfl | rfl <;> exact shp_int _ _⟩
def spec__law_kept_right : Sem := fun ds w Q => ∃ (r : List Int) (N : Nat), ds = [.list (r.map D.int), .int N] ∧ 2 ≤ N ∧ N ≤ 12 ∧ Okl r ∧ Q (.val (.bool true)) w
theorem ar__law_kept_right (r : List Int) (N : Nat) (w : W) (Q : R → W → Prop) : ar 2 spec__law_kept_right [.list (r.map D.int), .int N] w Q = (2 ≤ N ∧ N ≤ 12 ∧ Okl r ∧ Q (.val (.bool true)) w) := by
  apply propext
  constructor
  · rintro ⟨_, r', N', e, h⟩
    simp only [List.cons.injEq, D.str.injEq, D.int.injEq, D.bool.injEq, D.tup.injEq, D.list.injEq, mapInt_inj, Int.natCast_inj, and_true, and_assoc] at e
    first | (obtain ⟨rfl, rfl⟩ := e; exact h) | (obtain ⟨rfl, rfl, _⟩ := e; exact h)
  · intro h
    exact ⟨rfl, r, N, rfl, h⟩
theorem vc__law_kept_right : ∀ ds w Q, spec__law_kept_right ds w Q → run 5 (b__law_kept_right (ar 2 spec__law_kept) (ar 2 spec_kept_lines) (ar 2 (spec__law_same 6))) ds w Q := by
  rintro ds w Q ⟨r, N, rfl, h⟩
  unfold b__law_kept_right
  simp only [run, runF, DL.get, DL.put, puts, back, mC, mVar, mFzV, mFeed, frz, msN, msC, mBin, mUn, dAdd, dSub, dMul, dDiv, dMod, dPow, dNeg, dCmp, dLt, dLe, dGt, dGe, dEq, dNe, dIn, dIsN, dIsNotN, isN, dIs, dIsNot, dTab, flatD, okT, truth, tV, tB, tAnd, tOr, tNot, mAnd, mOr, mNot, mIf, mChain, mList, mTup, dIx, mSl, oN, oS, mRev, mRevTo, mCall, mCallF, dLen, dAbs, dInt, dMin2, dMax2, dList, dTup, dSum, dMin, dMax, dMinG, dMaxG, dAll, isTy, mIsI, gV, gSkip, gsN, gsC, gT, srcV, srcR1, srcR2, srcEnum, srcRev, mComp, tYes, isS, isL, mMS, mML, dIndexS, dIndexL, dIndexFrom, mMS2, dCount, dSplit, dJoin, sNil, sSeq, sSet, sAsg, sPar, sRet, retK, sRetN, sIf, sPass, sBrk, sCont, sNever, sExpr, sAug, ownAt, feedAt, intD, sApp, sExt, sSetI, sAugI, sFeed, sFeedA, popD, sPop, sAddPop, sFor, DL.W.set, DL.W.at, DL.R.d, okD, eqD_none_none, eqD_none_bool, eqD_none_int, eqD_none_str, eqD_none_list, eqD_none_tup, eqD_bool_none, eqD_bool_bool, eqD_bool_int, eqD_bool_str, eqD_bool_list, eqD_bool_tup, eqD_int_none, eqD_int_bool, eqD_int_int, eqD_int_str, eqD_int_list, eqD_int_tup, eqD_str_none, eqD_str_bool, eqD_str_int, eqD_str_str, eqD_str_list, eqD_str_tup, eqD_list_none, eqD_list_bool, eqD_list_int, eqD_list_str, eqD_list_list, eqD_list_tup, eqD_tup_none, eqD_tup_bool, eqD_tup_int, eqD_tup_str, eqD_tup_list, eqD_tup_tup, eqDs_nn, eqDs_cc, eqDs_nc, eqDs_cn, List.map_cons, List.map_nil, List.map, List.cons_append, List.nil_append, List.replicate, List.length_cons, List.length_nil, Nat.reduceAdd, Nat.reduceSub, List.all_cons, List.all_nil, Bool.and_true, Bool.true_and, true_and, and_true, atI_map, ex_map, ex_some, List.length_map, beq_int, decide_eq_true_eq, if_true, if_false, Bool.false_eq_true, if_pos, reduceIte, at0, at1, at2, at3, dP, mCallX, mCallB, peekA, evA, evAs, eq_self, sRaise0, sRaise1, sTry, caught, unslot, unheld, mXArg, mXIs, runX, List.contains_cons, List.contains_nil, Slot.isExn, String.reduceBEq, ex_arg, ex_valB, Bool.or_false, Bool.false_or, Bool.or_true, Bool.true_or, Bool.not_false, Bool.not_true, mComp2, dGcd, ar__law_kept, ar_kept_lines, ar__law_same]
  obtain ⟨h2, h12, hr, q⟩ := h
  have hz : (2000 : Nat) ≤ LINE := by decide
  have kl := kept_len h12 (tb r)
  refine ⟨h2, h12, hr, h2, h12, hr, shp_ints _ _ (by omega), okInts _ 7, okInts _ 7, ?_⟩
  rw [eqDs_refl, if_neg (by decide)]
  exact ⟨by omega, h2, h12, hr, shp_ints _ _ (by omega), q⟩
def spec__law_how_often : Sem := fun ds w Q => ∃ (r : List Int) (N : Nat), ds = [.list (r.map D.int), .int N] ∧ 2 ≤ N ∧ N ≤ 60 ∧ Okl r ∧ ∀ k f : Nat, Fir (P1 N (tb r)) k → Fir (P2 N (tb r)) f → Q (.val (.tup [.int k, .int f])) w
theorem ar__law_how_often (r : List Int) (N : Nat) (w : W) (Q : R → W → Prop) : ar 2 spec__law_how_often [.list (r.map D.int), .int N] w Q = (2 ≤ N ∧ N ≤ 60 ∧ Okl r ∧ ∀ k f : Nat, Fir (P1 N (tb r)) k → Fir (P2 N (tb r)) f → Q (.val (.tup [.int k, .int f])) w) := by
  apply propext
  constructor
  · rintro ⟨_, r', N', e, h⟩
    simp only [List.cons.injEq, D.str.injEq, D.int.injEq, D.bool.injEq, D.tup.injEq, D.list.injEq, mapInt_inj, Int.natCast_inj, and_true, and_assoc] at e
    first | (obtain ⟨rfl, rfl⟩ := e; exact h) | (obtain ⟨rfl, rfl, _⟩ := e; exact h)
  · intro h
    exact ⟨rfl, r, N, rfl, h⟩
theorem vc__law_how_often : ∀ ds w Q, spec__law_how_often ds w Q → run 8 (b__law_how_often (ar 2 spec__law_rests) (ar 1 spec__law_table) (ar 2 spec__law_times)) ds w Q := by
  rintro ds w Q ⟨r, N, rfl, h⟩
  unfold b__law_how_often
  obtain ⟨h2, h60, hr, q⟩ := h
  have hz : (2000 : Nat) ≤ LINE := by decide
  obtain ⟨k, hk, Fk⟩ := Fir.ex (ord_ex h2 h60 (tb_det r))
  obtain ⟨f, hf, Ff⟩ : ∃ f, f ≤ 1000 ∧ Fir (P2 N (tb r)) f := Fir.ex (let ⟨a, b, c, d⟩ := ord_ex h2 h60 (tb_det r); ⟨a, b, c, .inl d⟩)
  have qq := q k f Fk Ff
  have hd : f ≤ k := by
    rcases Nat.lt_or_ge k f with z | z
    · exact absurd (.inl Fk.2.1) (Ff.2.2 k Fk.1 z)
    · exact z
  show sSeq _ _ ⟨[.val (.list (r.map D.int)), .val (.int N), .gone, .gone, .gone, .gone, .gone, .gone], w⟩ _
  refine seq_cut (fun s' => s' = ⟨[.val (.list (r.map D.int)), .val (.int N), .val (tM (m4 N I4)), .gone, .gone, .gone, .gone, .gone], w⟩) ?_ ?_
  · intro K hK
    simp only [run, runF, DL.get, DL.put, puts, back, mC, mVar, mFzV, mFeed, frz, msN, msC, mBin, mUn, dAdd, dSub, dMul, dDiv, dMod, dPow, dNeg, dCmp, dLt, dLe, dGt, dGe, dEq, dNe, dIn, dIsN, dIsNotN, isN, dIs, dIsNot, dTab, flatD, okT, truth, tV, tB, tAnd, tOr, tNot, mAnd, mOr, mNot, mIf, mChain, mList, mTup, dIx, mSl, oN, oS, mRev, mRevTo, mCall, mCallF, dLen, dAbs, dInt, dMin2, dMax2, dList, dTup, dSum, dMin, dMax, dMinG, dMaxG, dAll, isTy, mIsI, gV, gSkip, gsN, gsC, gT, srcV, srcR1, srcR2, srcEnum, srcRev, mComp, tYes, isS, isL, mMS, mML, dIndexS, dIndexL, dIndexFrom, mMS2, dCount, dSplit, dJoin, sNil, sSeq, sSet, sAsg, sPar, sRet, retK, sRetN, sIf, sPass, sBrk, sCont, sNever, sExpr, sAug, ownAt, feedAt, intD, sApp, sExt, sSetI, sAugI, sFeed, sFeedA, popD, sPop, sAddPop, sFor, DL.W.set, DL.W.at, DL.R.d, okD, eqD_none_none, eqD_none_bool, eqD_none_int, eqD_none_str, eqD_none_list, eqD_none_tup, eqD_bool_none, eqD_bool_bool, eqD_bool_int, eqD_bool_str, eqD_bool_list, eqD_bool_tup, eqD_int_none, eqD_int_bool, eqD_int_int, eqD_int_str, eqD_int_list, eqD_int_tup, eqD_str_none, eqD_str_bool, eqD_str_int, eqD_str_str, eqD_str_list, eqD_str_tup, eqD_list_none, eqD_list_bool, eqD_list_int, eqD_list_str, eqD_list_list, eqD_list_tup, eqD_tup_none, eqD_tup_bool, eqD_tup_int, eqD_tup_str, eqD_tup_list, eqD_tup_tup, eqDs_nn, eqDs_cc, eqDs_nc, eqDs_cn, List.map_cons, List.map_nil, List.map, List.cons_append, List.nil_append, List.replicate, List.length_cons, List.length_nil, Nat.reduceAdd, Nat.reduceSub, List.all_cons, List.all_nil, Bool.and_true, Bool.true_and, true_and, and_true, atI_map, ex_map, ex_some, List.length_map, beq_int, decide_eq_true_eq, if_true, if_false, Bool.false_eq_true, if_pos, reduceIte, at0, at1, at2, at3, dP, mCallX, mCallB, peekA, evA, evAs, eq_self, sRaise0, sRaise1, sTry, caught, unslot, unheld, mXArg, mXIs, runX, List.contains_cons, List.contains_nil, Slot.isExn, String.reduceBEq, ex_arg, ex_valB, Bool.or_false, Bool.false_or, Bool.or_true, Bool.true_or, Bool.not_false, Bool.not_true, mComp2, dGcd, ar__law_rests, ar__law_table, ar__law_times]
    exact ⟨by omega, by omega, hK _ rfl⟩
  rintro _ rfl
  refine seq_cut (fun s' => s' = ⟨[.val (.list (r.map D.int)), .val (.int N), .val (tM (m4 N I4)), .val (tM (m4 N J4)), .gone, .gone, .gone, .gone], w⟩) ?_ ?_
  · intro K hK
    simp only [run, runF, DL.get, DL.put, puts, back, mC, mVar, mFzV, mFeed, frz, msN, msC, mBin, mUn, dAdd, dSub, dMul, dDiv, dMod, dPow, dNeg, dCmp, dLt, dLe, dGt, dGe, dEq, dNe, dIn, dIsN, dIsNotN, isN, dIs, dIsNot, dTab, flatD, okT, truth, tV, tB, tAnd, tOr, tNot, mAnd, mOr, mNot, mIf, mChain, mList, mTup, dIx, mSl, oN, oS, mRev, mRevTo, mCall, mCallF, dLen, dAbs, dInt, dMin2, dMax2, dList, dTup, dSum, dMin, dMax, dMinG, dMaxG, dAll, isTy, mIsI, gV, gSkip, gsN, gsC, gT, srcV, srcR1, srcR2, srcEnum, srcRev, mComp, tYes, isS, isL, mMS, mML, dIndexS, dIndexL, dIndexFrom, mMS2, dCount, dSplit, dJoin, sNil, sSeq, sSet, sAsg, sPar, sRet, retK, sRetN, sIf, sPass, sBrk, sCont, sNever, sExpr, sAug, ownAt, feedAt, intD, sApp, sExt, sSetI, sAugI, sFeed, sFeedA, popD, sPop, sAddPop, sFor, DL.W.set, DL.W.at, DL.R.d, okD, eqD_none_none, eqD_none_bool, eqD_none_int, eqD_none_str, eqD_none_list, eqD_none_tup, eqD_bool_none, eqD_bool_bool, eqD_bool_int, eqD_bool_str, eqD_bool_list, eqD_bool_tup, eqD_int_none, eqD_int_bool, eqD_int_int, eqD_int_str, eqD_int_list, eqD_int_tup, eqD_str_none, eqD_str_bool, eqD_str_int, eqD_str_str, eqD_str_list, eqD_str_tup, eqD_list_none, eqD_list_bool, eqD_list_int, eqD_list_str, eqD_list_list, eqD_list_tup, eqD_tup_none, eqD_tup_bool, eqD_tup_int, eqD_tup_str, eqD_tup_list, eqD_tup_tup, eqDs_nn, eqDs_cc, eqDs_nc, eqDs_cn, List.map_cons, List.map_nil, List.map, List.cons_append, List.nil_append, List.replicate, List.length_cons, List.length_nil, Nat.reduceAdd, Nat.reduceSub, List.all_cons, List.all_nil, Bool.and_true, Bool.true_and, true_and, and_true, atI_map, ex_map, ex_some, List.length_map, beq_int, decide_eq_true_eq, if_true, if_false, Bool.false_eq_true, if_pos, reduceIte, at0, at1, at2, at3, dP, mCallX, mCallB, peekA, evA, evAs, eq_self, sRaise0, sRaise1, sTry, caught, unslot, unheld, mXArg, mXIs, runX, List.contains_cons, List.contains_nil, Slot.isExn, String.reduceBEq, ex_arg, ex_valB, Bool.or_false, Bool.false_or, Bool.or_true, Bool.true_or, Bool.not_false, Bool.not_true, mComp2, dGcd, ar__law_rests, ar__law_table, ar__law_times]
    exact ⟨by omega, by omega, hK _ rfl⟩
  rintro _ rfl
  refine seq_cut (fun s' => s' = ⟨[.val (.list (r.map D.int)), .val (.int N), .val (tM (m4 N I4)), .val (tM (m4 N J4)), .val (tM (m4 N (tb r))), .gone, .gone, .gone], w⟩) ?_ ?_
  · intro K hK
    simp only [run, runF, DL.get, DL.put, puts, back, mC, mVar, mFzV, mFeed, frz, msN, msC, mBin, mUn, dAdd, dSub, dMul, dDiv, dMod, dPow, dNeg, dCmp, dLt, dLe, dGt, dGe, dEq, dNe, dIn, dIsN, dIsNotN, isN, dIs, dIsNot, dTab, flatD, okT, truth, tV, tB, tAnd, tOr, tNot, mAnd, mOr, mNot, mIf, mChain, mList, mTup, dIx, mSl, oN, oS, mRev, mRevTo, mCall, mCallF, dLen, dAbs, dInt, dMin2, dMax2, dList, dTup, dSum, dMin, dMax, dMinG, dMaxG, dAll, isTy, mIsI, gV, gSkip, gsN, gsC, gT, srcV, srcR1, srcR2, srcEnum, srcRev, mComp, tYes, isS, isL, mMS, mML, dIndexS, dIndexL, dIndexFrom, mMS2, dCount, dSplit, dJoin, sNil, sSeq, sSet, sAsg, sPar, sRet, retK, sRetN, sIf, sPass, sBrk, sCont, sNever, sExpr, sAug, ownAt, feedAt, intD, sApp, sExt, sSetI, sAugI, sFeed, sFeedA, popD, sPop, sAddPop, sFor, DL.W.set, DL.W.at, DL.R.d, okD, eqD_none_none, eqD_none_bool, eqD_none_int, eqD_none_str, eqD_none_list, eqD_none_tup, eqD_bool_none, eqD_bool_bool, eqD_bool_int, eqD_bool_str, eqD_bool_list, eqD_bool_tup, eqD_int_none, eqD_int_bool, eqD_int_int, eqD_int_str, eqD_int_list, eqD_int_tup, eqD_str_none, eqD_str_bool, eqD_str_int, eqD_str_str, eqD_str_list, eqD_str_tup, eqD_list_none, eqD_list_bool, eqD_list_int, eqD_list_str, eqD_list_list, eqD_list_tup, eqD_tup_none, eqD_tup_bool, eqD_tup_int, eqD_tup_str, eqD_tup_list, eqD_tup_tup, eqDs_nn, eqDs_cc, eqDs_nc, eqDs_cn, List.map_cons, List.map_nil, List.map, List.cons_append, List.nil_append, List.replicate, List.length_cons, List.length_nil, Nat.reduceAdd, Nat.reduceSub, List.all_cons, List.all_nil, Bool.and_true, Bool.true_and, true_and, and_true, atI_map, ex_map, ex_some, List.length_map, beq_int, decide_eq_true_eq, if_true, if_false, Bool.false_eq_true, if_pos, reduceIte, at0, at1, at2, at3, dP, mCallX, mCallB, peekA, evA, evAs, eq_self, sRaise0, sRaise1, sTry, caught, unslot, unheld, mXArg, mXIs, runX, List.contains_cons, List.contains_nil, Slot.isExn, String.reduceBEq, ex_arg, ex_valB, Bool.or_false, Bool.false_or, Bool.or_true, Bool.true_or, Bool.not_false, Bool.not_true, mComp2, dGcd, ar__law_rests, ar__law_table, ar__law_times]
    exact ⟨hr, by omega, hK _ rfl⟩
  rintro _ rfl
  generalize hA : tb r = A at *
  refine seq_cut (fun s' => s' = ⟨[.val (.list (r.map D.int)), .val (.int N), .val (tM (m4 N I4)), .val (tM (m4 N J4)), .val (tM (m4 N A)), .val (tM (m4 N (pw A 1))), .gone, .gone], w⟩) ?_ ?_
  · intro K hK
    rw [pw_one] at hK
    simp only [run, runF, DL.get, DL.put, puts, back, mC, mVar, mFzV, mFeed, frz, msN, msC, mBin, mUn, dAdd, dSub, dMul, dDiv, dMod, dPow, dNeg, dCmp, dLt, dLe, dGt, dGe, dEq, dNe, dIn, dIsN, dIsNotN, isN, dIs, dIsNot, dTab, flatD, okT, truth, tV, tB, tAnd, tOr, tNot, mAnd, mOr, mNot, mIf, mChain, mList, mTup, dIx, mSl, oN, oS, mRev, mRevTo, mCall, mCallF, dLen, dAbs, dInt, dMin2, dMax2, dList, dTup, dSum, dMin, dMax, dMinG, dMaxG, dAll, isTy, mIsI, gV, gSkip, gsN, gsC, gT, srcV, srcR1, srcR2, srcEnum, srcRev, mComp, tYes, isS, isL, mMS, mML, dIndexS, dIndexL, dIndexFrom, mMS2, dCount, dSplit, dJoin, sNil, sSeq, sSet, sAsg, sPar, sRet, retK, sRetN, sIf, sPass, sBrk, sCont, sNever, sExpr, sAug, ownAt, feedAt, intD, sApp, sExt, sSetI, sAugI, sFeed, sFeedA, popD, sPop, sAddPop, sFor, DL.W.set, DL.W.at, DL.R.d, okD, eqD_none_none, eqD_none_bool, eqD_none_int, eqD_none_str, eqD_none_list, eqD_none_tup, eqD_bool_none, eqD_bool_bool, eqD_bool_int, eqD_bool_str, eqD_bool_list, eqD_bool_tup, eqD_int_none, eqD_int_bool, eqD_int_int, eqD_int_str, eqD_int_list, eqD_int_tup, eqD_str_none, eqD_str_bool, eqD_str_int, eqD_str_str, eqD_str_list, eqD_str_tup, eqD_list_none, eqD_list_bool, eqD_list_int, eqD_list_str, eqD_list_list, eqD_list_tup, eqD_tup_none, eqD_tup_bool, eqD_tup_int, eqD_tup_str, eqD_tup_list, eqD_tup_tup, eqDs_nn, eqDs_cc, eqDs_nc, eqDs_cn, List.map_cons, List.map_nil, List.map, List.cons_append, List.nil_append, List.replicate, List.length_cons, List.length_nil, Nat.reduceAdd, Nat.reduceSub, List.all_cons, List.all_nil, Bool.and_true, Bool.true_and, true_and, and_true, atI_map, ex_map, ex_some, List.length_map, beq_int, decide_eq_true_eq, if_true, if_false, Bool.false_eq_true, if_pos, reduceIte, at0, at1, at2, at3, dP, mCallX, mCallB, peekA, evA, evAs, eq_self, sRaise0, sRaise1, sTry, caught, unslot, unheld, mXArg, mXIs, runX, List.contains_cons, List.contains_nil, Slot.isExn, String.reduceBEq, ex_arg, ex_valB, Bool.or_false, Bool.false_or, Bool.or_true, Bool.true_or, Bool.not_false, Bool.not_true, mComp2, dGcd, ar__law_rests, ar__law_table, ar__law_times]
    exact hK _ rfl
  rintro _ rfl
  refine seq_cut (fun s' => s' = ⟨[.val (.list (r.map D.int)), .val (.int N), .val (tM (m4 N I4)), .val (tM (m4 N J4)), .val (tM (m4 N A)), .val (tM (m4 N (pw A 1))), .val .none, .gone], w⟩) ?_ ?_
  · intro K hK
    simp only [run, runF, DL.get, DL.put, puts, back, mC, mVar, mFzV, mFeed, frz, msN, msC, mBin, mUn, dAdd, dSub, dMul, dDiv, dMod, dPow, dNeg, dCmp, dLt, dLe, dGt, dGe, dEq, dNe, dIn, dIsN, dIsNotN, isN, dIs, dIsNot, dTab, flatD, okT, truth, tV, tB, tAnd, tOr, tNot, mAnd, mOr, mNot, mIf, mChain, mList, mTup, dIx, mSl, oN, oS, mRev, mRevTo, mCall, mCallF, dLen, dAbs, dInt, dMin2, dMax2, dList, dTup, dSum, dMin, dMax, dMinG, dMaxG, dAll, isTy, mIsI, gV, gSkip, gsN, gsC, gT, srcV, srcR1, srcR2, srcEnum, srcRev, mComp, tYes, isS, isL, mMS, mML, dIndexS, dIndexL, dIndexFrom, mMS2, dCount, dSplit, dJoin, sNil, sSeq, sSet, sAsg, sPar, sRet, retK, sRetN, sIf, sPass, sBrk, sCont, sNever, sExpr, sAug, ownAt, feedAt, intD, sApp, sExt, sSetI, sAugI, sFeed, sFeedA, popD, sPop, sAddPop, sFor, DL.W.set, DL.W.at, DL.R.d, okD, eqD_none_none, eqD_none_bool, eqD_none_int, eqD_none_str, eqD_none_list, eqD_none_tup, eqD_bool_none, eqD_bool_bool, eqD_bool_int, eqD_bool_str, eqD_bool_list, eqD_bool_tup, eqD_int_none, eqD_int_bool, eqD_int_int, eqD_int_str, eqD_int_list, eqD_int_tup, eqD_str_none, eqD_str_bool, eqD_str_int, eqD_str_str, eqD_str_list, eqD_str_tup, eqD_list_none, eqD_list_bool, eqD_list_int, eqD_list_str, eqD_list_list, eqD_list_tup, eqD_tup_none, eqD_tup_bool, eqD_tup_int, eqD_tup_str, eqD_tup_list, eqD_tup_tup, eqDs_nn, eqDs_cc, eqDs_nc, eqDs_cn, List.map_cons, List.map_nil, List.map, List.cons_append, List.nil_append, List.replicate, List.length_cons, List.length_nil, Nat.reduceAdd, Nat.reduceSub, List.all_cons, List.all_nil, Bool.and_true, Bool.true_and, true_and, and_true, atI_map, ex_map, ex_some, List.length_map, beq_int, decide_eq_true_eq, if_true, if_false, Bool.false_eq_true, if_pos, reduceIte, at0, at1, at2, at3, dP, mCallX, mCallB, peekA, evA, evAs, eq_self, sRaise0, sRaise1, sTry, caught, unslot, unheld, mXArg, mXIs, runX, List.contains_cons, List.contains_nil, Slot.isExn, String.reduceBEq, ex_arg, ex_valB, Bool.or_false, Bool.false_or, Bool.or_true, Bool.true_or, Bool.not_false, Bool.not_true, mComp2, dGcd, ar__law_rests, ar__law_table, ar__law_times]
    exact hK _ rfl
  rintro _ rfl
  refine seq_cut (fun _ => False) ?_ (fun _ h => h.elim)
  intro K _
  refine for_cut (fun ds s' => ∃ M : Nat, M = 3999 ∧ ds = ran 1 M ∧ s' = ⟨[.val (.list (r.map D.int)), .val (.int N), .val (tM (m4 N I4)), .val (tM (m4 N J4)), .val (tM (m4 N A)), .val (tM (m4 N (pw A 1))), .val .none, .gone], w⟩) ?_ ?_
  · intro K hK
    simp only [run, runF, DL.get, DL.put, puts, back, mC, mVar, mFzV, mFeed, frz, msN, msC, mBin, mUn, dAdd, dSub, dMul, dDiv, dMod, dPow, dNeg, dCmp, dLt, dLe, dGt, dGe, dEq, dNe, dIn, dIsN, dIsNotN, isN, dIs, dIsNot, dTab, flatD, okT, truth, tV, tB, tAnd, tOr, tNot, mAnd, mOr, mNot, mIf, mChain, mList, mTup, dIx, mSl, oN, oS, mRev, mRevTo, mCall, mCallF, dLen, dAbs, dInt, dMin2, dMax2, dList, dTup, dSum, dMin, dMax, dMinG, dMaxG, dAll, isTy, mIsI, gV, gSkip, gsN, gsC, gT, srcV, srcR1, srcR2, srcEnum, srcRev, mComp, tYes, isS, isL, mMS, mML, dIndexS, dIndexL, dIndexFrom, mMS2, dCount, dSplit, dJoin, sNil, sSeq, sSet, sAsg, sPar, sRet, retK, sRetN, sIf, sPass, sBrk, sCont, sNever, sExpr, sAug, ownAt, feedAt, intD, sApp, sExt, sSetI, sAugI, sFeed, sFeedA, popD, sPop, sAddPop, sFor, DL.W.set, DL.W.at, DL.R.d, okD, eqD_none_none, eqD_none_bool, eqD_none_int, eqD_none_str, eqD_none_list, eqD_none_tup, eqD_bool_none, eqD_bool_bool, eqD_bool_int, eqD_bool_str, eqD_bool_list, eqD_bool_tup, eqD_int_none, eqD_int_bool, eqD_int_int, eqD_int_str, eqD_int_list, eqD_int_tup, eqD_str_none, eqD_str_bool, eqD_str_int, eqD_str_str, eqD_str_list, eqD_str_tup, eqD_list_none, eqD_list_bool, eqD_list_int, eqD_list_str, eqD_list_list, eqD_list_tup, eqD_tup_none, eqD_tup_bool, eqD_tup_int, eqD_tup_str, eqD_tup_list, eqD_tup_tup, eqDs_nn, eqDs_cc, eqDs_nc, eqDs_cn, List.map_cons, List.map_nil, List.map, List.cons_append, List.nil_append, List.replicate, List.length_cons, List.length_nil, Nat.reduceAdd, Nat.reduceSub, List.all_cons, List.all_nil, Bool.and_true, Bool.true_and, true_and, and_true, atI_map, ex_map, ex_some, List.length_map, beq_int, decide_eq_true_eq, if_true, if_false, Bool.false_eq_true, if_pos, reduceIte, at0, at1, at2, at3, dP, mCallX, mCallB, peekA, evA, evAs, eq_self, sRaise0, sRaise1, sTry, caught, unslot, unheld, mXArg, mXIs, runX, List.contains_cons, List.contains_nil, Slot.isExn, String.reduceBEq, ex_arg, ex_valB, Bool.or_false, Bool.false_or, Bool.or_true, Bool.true_or, Bool.not_false, Bool.not_true, mComp2, dGcd, ar__law_rests, ar__law_table, ar__law_times]
    exact ⟨by decide, hK _ _ ⟨3999, rfl, rfl, rfl⟩⟩
  rintro _ _ ⟨M, hM, rfl, rfl⟩
  refine forL_ran (fun n st => ∃ x y, n < k ∧ ((x = .none ∧ n < f) ∨ (x = .int f ∧ f ≤ n)) ∧ st = ⟨[.val (.list (r.map D.int)), .val (.int N), .val (tM (m4 N I4)), .val (tM (m4 N J4)), .val (tM (m4 N A)), .val (tM (m4 N (pw A (n + 1)))), .val x, y], w⟩) _ ⟨_, _, by have := Fk.1; omega, .inl ⟨rfl, by have := Ff.1; omega⟩, rfl⟩ ?_ ?_
  · rintro n _ hn ⟨x, y, nk, hx, rfl⟩ K hK
    have hv : (1 : Int) + (n : Int) = ((n + 1 : Nat) : Int) := by omega
    rw [hv]
    show sSeq _ _ ⟨[.val (.list (r.map D.int)), .val (.int N), .val (tM (m4 N I4)), .val (tM (m4 N J4)), .val (tM (m4 N A)), .val (tM (m4 N (pw A (n + 1)))), .val x, .val (.int ((n + 1 : Nat) : Int))], w⟩ _
    refine seq_cut (fun s' => ∃ x, ((x = .none ∧ n + 1 < f) ∨ (x = .int f ∧ f ≤ n + 1)) ∧ s' = ⟨[.val (.list (r.map D.int)), .val (.int N), .val (tM (m4 N I4)), .val (tM (m4 N J4)), .val (tM (m4 N A)), .val (tM (m4 N (pw A (n + 1)))), .val x, .val (.int ((n + 1 : Nat) : Int))], w⟩) ?_ ?_
    · intro K hK
      rcases hx with ⟨rfl, hx⟩ | ⟨rfl, hx⟩
      · simp only [run, runF, DL.get, DL.put, puts, back, mC, mVar, mFzV, mFeed, frz, msN, msC, mBin, mUn, dAdd, dSub, dMul, dDiv, dMod, dPow, dNeg, dCmp, dLt, dLe, dGt, dGe, dEq, dNe, dIn, dIsN, dIsNotN, isN, dIs, dIsNot, dTab, flatD, okT, truth, tV, tB, tAnd, tOr, tNot, mAnd, mOr, mNot, mIf, mChain, mList, mTup, dIx, mSl, oN, oS, mRev, mRevTo, mCall, mCallF, dLen, dAbs, dInt, dMin2, dMax2, dList, dTup, dSum, dMin, dMax, dMinG, dMaxG, dAll, isTy, mIsI, gV, gSkip, gsN, gsC, gT, srcV, srcR1, srcR2, srcEnum, srcRev, mComp, tYes, isS, isL, mMS, mML, dIndexS, dIndexL, dIndexFrom, mMS2, dCount, dSplit, dJoin, sNil, sSeq, sSet, sAsg, sPar, sRet, retK, sRetN, sIf, sPass, sBrk, sCont, sNever, sExpr, sAug, ownAt, feedAt, intD, sApp, sExt, sSetI, sAugI, sFeed, sFeedA, popD, sPop, sAddPop, sFor, DL.W.set, DL.W.at, DL.R.d, okD, eqD_none_none, eqD_none_bool, eqD_none_int, eqD_none_str, eqD_none_list, eqD_none_tup, eqD_bool_none, eqD_bool_bool, eqD_bool_int, eqD_bool_str, eqD_bool_list, eqD_bool_tup, eqD_int_none, eqD_int_bool, eqD_int_int, eqD_int_str, eqD_int_list, eqD_int_tup, eqD_str_none, eqD_str_bool, eqD_str_int, eqD_str_str, eqD_str_list, eqD_str_tup, eqD_list_none, eqD_list_bool, eqD_list_int, eqD_list_str, eqD_list_list, eqD_list_tup, eqD_tup_none, eqD_tup_bool, eqD_tup_int, eqD_tup_str, eqD_tup_list, eqD_tup_tup, eqDs_nn, eqDs_cc, eqDs_nc, eqDs_cn, List.map_cons, List.map_nil, List.map, List.cons_append, List.nil_append, List.replicate, List.length_cons, List.length_nil, Nat.reduceAdd, Nat.reduceSub, List.all_cons, List.all_nil, Bool.and_true, Bool.true_and, true_and, and_true, atI_map, ex_map, ex_some, List.length_map, beq_int, decide_eq_true_eq, if_true, if_false, Bool.false_eq_true, if_pos, reduceIte, at0, at1, at2, at3, dP, mCallX, mCallB, peekA, evA, evAs, eq_self, sRaise0, sRaise1, sTry, caught, unslot, unheld, mXArg, mXIs, runX, List.contains_cons, List.contains_nil, Slot.isExn, String.reduceBEq, ex_arg, ex_valB, Bool.or_false, Bool.false_or, Bool.or_true, Bool.true_or, Bool.not_false, Bool.not_true, mComp2, dGcd, ar__law_rests, ar__law_table, ar__law_times]
        refine ⟨by decide, ?_⟩
        rw [show [tM (m4 N I4), tM (m4 N J4)] = [m4 N I4, m4 N J4].map tM from rfl, tM_any]
        by_cases c : m4 N (pw A (n + 1)) ∈ [m4 N I4, m4 N J4]
        · rw [decide_eq_true c, if_pos (by decide)]
          have : f = n + 1 := by
            rcases Nat.lt_or_ge (n + 1) f with z | z
            · exact absurd ((p2_mem _).mp c) (Ff.2.2 _ (by omega) z)
            · omega
          exact hK _ ⟨_, .inr ⟨by rw [this], by omega⟩, rfl⟩
        · rw [decide_eq_false c, if_neg (by decide)]
          have : n + 1 ≠ f := fun e => c ((p2_mem _).mpr (e ▸ Ff.2.1))
          exact hK _ ⟨_, .inl ⟨rfl, by omega⟩, rfl⟩
      · simp only [run, runF, DL.get, DL.put, puts, back, mC, mVar, mFzV, mFeed, frz, msN, msC, mBin, mUn, dAdd, dSub, dMul, dDiv, dMod, dPow, dNeg, dCmp, dLt, dLe, dGt, dGe, dEq, dNe, dIn, dIsN, dIsNotN, isN, dIs, dIsNot, dTab, flatD, okT, truth, tV, tB, tAnd, tOr, tNot, mAnd, mOr, mNot, mIf, mChain, mList, mTup, dIx, mSl, oN, oS, mRev, mRevTo, mCall, mCallF, dLen, dAbs, dInt, dMin2, dMax2, dList, dTup, dSum, dMin, dMax, dMinG, dMaxG, dAll, isTy, mIsI, gV, gSkip, gsN, gsC, gT, srcV, srcR1, srcR2, srcEnum, srcRev, mComp, tYes, isS, isL, mMS, mML, dIndexS, dIndexL, dIndexFrom, mMS2, dCount, dSplit, dJoin, sNil, sSeq, sSet, sAsg, sPar, sRet, retK, sRetN, sIf, sPass, sBrk, sCont, sNever, sExpr, sAug, ownAt, feedAt, intD, sApp, sExt, sSetI, sAugI, sFeed, sFeedA, popD, sPop, sAddPop, sFor, DL.W.set, DL.W.at, DL.R.d, okD, eqD_none_none, eqD_none_bool, eqD_none_int, eqD_none_str, eqD_none_list, eqD_none_tup, eqD_bool_none, eqD_bool_bool, eqD_bool_int, eqD_bool_str, eqD_bool_list, eqD_bool_tup, eqD_int_none, eqD_int_bool, eqD_int_int, eqD_int_str, eqD_int_list, eqD_int_tup, eqD_str_none, eqD_str_bool, eqD_str_int, eqD_str_str, eqD_str_list, eqD_str_tup, eqD_list_none, eqD_list_bool, eqD_list_int, eqD_list_str, eqD_list_list, eqD_list_tup, eqD_tup_none, eqD_tup_bool, eqD_tup_int, eqD_tup_str, eqD_tup_list, eqD_tup_tup, eqDs_nn, eqDs_cc, eqDs_nc, eqDs_cn, List.map_cons, List.map_nil, List.map, List.cons_append, List.nil_append, List.replicate, List.length_cons, List.length_nil, Nat.reduceAdd, Nat.reduceSub, List.all_cons, List.all_nil, Bool.and_true, Bool.true_and, true_and, and_true, atI_map, ex_map, ex_some, List.length_map, beq_int, decide_eq_true_eq, if_true, if_false, Bool.false_eq_true, if_pos, reduceIte, at0, at1, at2, at3, dP, mCallX, mCallB, peekA, evA, evAs, eq_self, sRaise0, sRaise1, sTry, caught, unslot, unheld, mXArg, mXIs, runX, List.contains_cons, List.contains_nil, Slot.isExn, String.reduceBEq, ex_arg, ex_valB, Bool.or_false, Bool.false_or, Bool.or_true, Bool.true_or, Bool.not_false, Bool.not_true, mComp2, dGcd, ar__law_rests, ar__law_table, ar__law_times]
        exact hK _ ⟨_, .inr ⟨rfl, by omega⟩, rfl⟩
    rintro _ ⟨x, hx, rfl⟩
    refine cond_cut3 (decide (m4 N (pw A (n + 1)) = m4 N I4)) ?_ (fun c => ?_) fun c => ?_
    · intro K hK
      simp only [run, runF, DL.get, DL.put, puts, back, mC, mVar, mFzV, mFeed, frz, msN, msC, mBin, mUn, dAdd, dSub, dMul, dDiv, dMod, dPow, dNeg, dCmp, dLt, dLe, dGt, dGe, dEq, dNe, dIn, dIsN, dIsNotN, isN, dIs, dIsNot, dTab, flatD, okT, truth, tV, tB, tAnd, tOr, tNot, mAnd, mOr, mNot, mIf, mChain, mList, mTup, dIx, mSl, oN, oS, mRev, mRevTo, mCall, mCallF, dLen, dAbs, dInt, dMin2, dMax2, dList, dTup, dSum, dMin, dMax, dMinG, dMaxG, dAll, isTy, mIsI, gV, gSkip, gsN, gsC, gT, srcV, srcR1, srcR2, srcEnum, srcRev, mComp, tYes, isS, isL, mMS, mML, dIndexS, dIndexL, dIndexFrom, mMS2, dCount, dSplit, dJoin, sNil, sSeq, sSet, sAsg, sPar, sRet, retK, sRetN, sIf, sPass, sBrk, sCont, sNever, sExpr, sAug, ownAt, feedAt, intD, sApp, sExt, sSetI, sAugI, sFeed, sFeedA, popD, sPop, sAddPop, sFor, DL.W.set, DL.W.at, DL.R.d, okD, eqD_none_none, eqD_none_bool, eqD_none_int, eqD_none_str, eqD_none_list, eqD_none_tup, eqD_bool_none, eqD_bool_bool, eqD_bool_int, eqD_bool_str, eqD_bool_list, eqD_bool_tup, eqD_int_none, eqD_int_bool, eqD_int_int, eqD_int_str, eqD_int_list, eqD_int_tup, eqD_str_none, eqD_str_bool, eqD_str_int, eqD_str_str, eqD_str_list, eqD_str_tup, eqD_list_none, eqD_list_bool, eqD_list_int, eqD_list_str, eqD_list_list, eqD_list_tup, eqD_tup_none, eqD_tup_bool, eqD_tup_int, eqD_tup_str, eqD_tup_list, eqD_tup_tup, eqDs_nn, eqDs_cc, eqDs_nc, eqDs_cn, List.map_cons, List.map_nil, List.map, List.cons_append, List.nil_append, List.replicate, List.length_cons, List.length_nil, Nat.reduceAdd, Nat.reduceSub, List.all_cons, List.all_nil, Bool.and_true, Bool.true_and, true_and, and_true, atI_map, ex_map, ex_some, List.length_map, beq_int, decide_eq_true_eq, if_true, if_false, Bool.false_eq_true, if_pos, reduceIte, at0, at1, at2, at3, dP, mCallX, mCallB, peekA, evA, evAs, eq_self, sRaise0, sRaise1, sTry, caught, unslot, unheld, mXArg, mXIs, runX, List.contains_cons, List.contains_nil, Slot.isExn, String.reduceBEq, ex_arg, ex_valB, Bool.or_false, Bool.false_or, Bool.or_true, Bool.true_or, Bool.not_false, Bool.not_true, mComp2, dGcd, ar__law_rests, ar__law_table, ar__law_times]
      have e : (decide ((m4 N (pw A (n + 1))).p = (m4 N I4).p) && (decide ((m4 N (pw A (n + 1))).q = (m4 N I4).q) && (decide ((m4 N (pw A (n + 1))).r = (m4 N I4).r) && decide ((m4 N (pw A (n + 1))).s = (m4 N I4).s)))) = decide (m4 N (pw A (n + 1)) = m4 N I4) := by
        generalize m4 N (pw A (n + 1)) = X
        generalize m4 N I4 = Y
        obtain ⟨a, b, c, d⟩ := X
        obtain ⟨a', b', c', d'⟩ := Y
        rw [Bool.eq_iff_iff, decide_eq_true_eq, M4.mk.injEq]
        simp only [Bool.and_eq_true, decide_eq_true_eq]
      rw [e]
      exact hK
    · have c : m4 N (pw A (n + 1)) = m4 N I4 := of_decide_eq_true c
      have hnk : n + 1 = k := by
        rcases Nat.lt_or_ge (n + 1) k with z | z
        · exact absurd c (Fk.2.2 _ (by omega) z)
        · omega
      rcases hx with ⟨rfl, hx⟩ | ⟨rfl, hx⟩
      · omega
      · rw [hnk]
        simp only [run, runF, DL.get, DL.put, puts, back, mC, mVar, mFzV, mFeed, frz, msN, msC, mBin, mUn, dAdd, dSub, dMul, dDiv, dMod, dPow, dNeg, dCmp, dLt, dLe, dGt, dGe, dEq, dNe, dIn, dIsN, dIsNotN, isN, dIs, dIsNot, dTab, flatD, okT, truth, tV, tB, tAnd, tOr, tNot, mAnd, mOr, mNot, mIf, mChain, mList, mTup, dIx, mSl, oN, oS, mRev, mRevTo, mCall, mCallF, dLen, dAbs, dInt, dMin2, dMax2, dList, dTup, dSum, dMin, dMax, dMinG, dMaxG, dAll, isTy, mIsI, gV, gSkip, gsN, gsC, gT, srcV, srcR1, srcR2, srcEnum, srcRev, mComp, tYes, isS, isL, mMS, mML, dIndexS, dIndexL, dIndexFrom, mMS2, dCount, dSplit, dJoin, sNil, sSeq, sSet, sAsg, sPar, sRet, retK, sRetN, sIf, sPass, sBrk, sCont, sNever, sExpr, sAug, ownAt, feedAt, intD, sApp, sExt, sSetI, sAugI, sFeed, sFeedA, popD, sPop, sAddPop, sFor, DL.W.set, DL.W.at, DL.R.d, okD, eqD_none_none, eqD_none_bool, eqD_none_int, eqD_none_str, eqD_none_list, eqD_none_tup, eqD_bool_none, eqD_bool_bool, eqD_bool_int, eqD_bool_str, eqD_bool_list, eqD_bool_tup, eqD_int_none, eqD_int_bool, eqD_int_int, eqD_int_str, eqD_int_list, eqD_int_tup, eqD_str_none, eqD_str_bool, eqD_str_int, eqD_str_str, eqD_str_list, eqD_str_tup, eqD_list_none, eqD_list_bool, eqD_list_int, eqD_list_str, eqD_list_list, eqD_list_tup, eqD_tup_none, eqD_tup_bool, eqD_tup_int, eqD_tup_str, eqD_tup_list, eqD_tup_tup, eqDs_nn, eqDs_cc, eqDs_nc, eqDs_cn, List.map_cons, List.map_nil, List.map, List.cons_append, List.nil_append, List.replicate, List.length_cons, List.length_nil, Nat.reduceAdd, Nat.reduceSub, List.all_cons, List.all_nil, Bool.and_true, Bool.true_and, true_and, and_true, atI_map, ex_map, ex_some, List.length_map, beq_int, decide_eq_true_eq, if_true, if_false, Bool.false_eq_true, if_pos, reduceIte, at0, at1, at2, at3, dP, mCallX, mCallB, peekA, evA, evAs, eq_self, sRaise0, sRaise1, sTry, caught, unslot, unheld, mXArg, mXIs, runX, List.contains_cons, List.contains_nil, Slot.isExn, String.reduceBEq, ex_arg, ex_valB, Bool.or_false, Bool.false_or, Bool.or_true, Bool.true_or, Bool.not_false, Bool.not_true, mComp2, dGcd, ar__law_rests, ar__law_table, ar__law_times]
        exact ⟨by decide, qq⟩
    · have c : ¬ m4 N (pw A (n + 1)) = m4 N I4 := of_decide_eq_false c
      have hnk : n + 1 ≠ k := fun e => c (e ▸ Fk.2.1)
      simp only [run, runF, DL.get, DL.put, puts, back, mC, mVar, mFzV, mFeed, frz, msN, msC, mBin, mUn, dAdd, dSub, dMul, dDiv, dMod, dPow, dNeg, dCmp, dLt, dLe, dGt, dGe, dEq, dNe, dIn, dIsN, dIsNotN, isN, dIs, dIsNot, dTab, flatD, okT, truth, tV, tB, tAnd, tOr, tNot, mAnd, mOr, mNot, mIf, mChain, mList, mTup, dIx, mSl, oN, oS, mRev, mRevTo, mCall, mCallF, dLen, dAbs, dInt, dMin2, dMax2, dList, dTup, dSum, dMin, dMax, dMinG, dMaxG, dAll, isTy, mIsI, gV, gSkip, gsN, gsC, gT, srcV, srcR1, srcR2, srcEnum, srcRev, mComp, tYes, isS, isL, mMS, mML, dIndexS, dIndexL, dIndexFrom, mMS2, dCount, dSplit, dJoin, sNil, sSeq, sSet, sAsg, sPar, sRet, retK, sRetN, sIf, sPass, sBrk, sCont, sNever, sExpr, sAug, ownAt, feedAt, intD, sApp, sExt, sSetI, sAugI, sFeed, sFeedA, popD, sPop, sAddPop, sFor, DL.W.set, DL.W.at, DL.R.d, okD, eqD_none_none, eqD_none_bool, eqD_none_int, eqD_none_str, eqD_none_list, eqD_none_tup, eqD_bool_none, eqD_bool_bool, eqD_bool_int, eqD_bool_str, eqD_bool_list, eqD_bool_tup, eqD_int_none, eqD_int_bool, eqD_int_int, eqD_int_str, eqD_int_list, eqD_int_tup, eqD_str_none, eqD_str_bool, eqD_str_int, eqD_str_str, eqD_str_list, eqD_str_tup, eqD_list_none, eqD_list_bool, eqD_list_int, eqD_list_str, eqD_list_list, eqD_list_tup, eqD_tup_none, eqD_tup_bool, eqD_tup_int, eqD_tup_str, eqD_tup_list, eqD_tup_tup, eqDs_nn, eqDs_cc, eqDs_nc, eqDs_cn, List.map_cons, List.map_nil, List.map, List.cons_append, List.nil_append, List.replicate, List.length_cons, List.length_nil, Nat.reduceAdd, Nat.reduceSub, List.all_cons, List.all_nil, Bool.and_true, Bool.true_and, true_and, and_true, atI_map, ex_map, ex_some, List.length_map, beq_int, decide_eq_true_eq, if_true, if_false, Bool.false_eq_true, if_pos, reduceIte, at0, at1, at2, at3, dP, mCallX, mCallB, peekA, evA, evAs, eq_self, sRaise0, sRaise1, sTry, caught, unslot, unheld, mXArg, mXIs, runX, List.contains_cons, List.contains_nil, Slot.isExn, String.reduceBEq, ex_arg, ex_valB, Bool.or_false, Bool.false_or, Bool.or_true, Bool.true_or, Bool.not_false, Bool.not_true, mComp2, dGcd, ar__law_rests, ar__law_table, ar__law_times]
      have goal := hK ⟨[.val (.list (r.map D.int)), .val (.int N), .val (tM (m4 N I4)), .val (tM (m4 N J4)), .val (tM (m4 N A)), .val (tM (m4 N (pw A (n + 1 + 1)))), .val x, .val (.int ((n + 1 : Nat) : Int))], w⟩ ⟨x, _, by omega, hx, rfl⟩
      rw [← pw_next] at goal
      exact ⟨okm h2 h60 _, okm h2 h60 _, by omega, goal⟩
  · rintro _ ⟨x, y, nk, hx, rfl⟩
    omega
def spec__law_right : Sem := fun ds w Q => ∃ (r : List Int) (N : Nat), ds = [.list (r.map D.int), .int N] ∧ 2 ≤ N ∧ N ≤ 60 ∧ Okl r ∧ Q (.val (.bool true)) w
theorem ar__law_right (r : List Int) (N : Nat) (w : W) (Q : R → W → Prop) : ar 2 spec__law_right [.list (r.map D.int), .int N] w Q = (2 ≤ N ∧ N ≤ 60 ∧ Okl r ∧ Q (.val (.bool true)) w) := by
  apply propext
  constructor
  · rintro ⟨_, r', N', e, h⟩
    simp only [List.cons.injEq, D.str.injEq, D.int.injEq, D.bool.injEq, D.tup.injEq, D.list.injEq, mapInt_inj, Int.natCast_inj, and_true, and_assoc] at e
    first | (obtain ⟨rfl, rfl⟩ := e; exact h) | (obtain ⟨rfl, rfl, _⟩ := e; exact h)
  · intro h
    exact ⟨rfl, r, N, rfl, h⟩
theorem vc__law_right : ∀ ds w Q, spec__law_right ds w Q → run 5 (b__law_right (ar 2 spec__law_how_often) (ar 2 (spec__law_same 6)) (ar 2 spec_rest_table) (ar 2 spec__law_rests) (ar 1 spec__law_table) (ar 2 spec_rest_times) (ar 2 spec_sign_times)) ds w Q := by
  rintro ds w Q ⟨r, N, rfl, h⟩
  unfold b__law_right
  obtain ⟨h2, h60, hr, q⟩ := h
  have hz : (2000 : Nat) ≤ LINE := by decide
  show sSeq _ _ ⟨[.val (.list (r.map D.int)), .val (.int N), .gone, .gone, .gone], w⟩ _
  refine seq_cut (fun s' => s' = ⟨[.val (.list (r.map D.int)), .val (.int N), .own (r.map D.int), .gone, .gone], w⟩) ?_ ?_
  · intro K hK
    simp only [run, runF, DL.get, DL.put, puts, back, mC, mVar, mFzV, mFeed, frz, msN, msC, mBin, mUn, dAdd, dSub, dMul, dDiv, dMod, dPow, dNeg, dCmp, dLt, dLe, dGt, dGe, dEq, dNe, dIn, dIsN, dIsNotN, isN, dIs, dIsNot, dTab, flatD, okT, truth, tV, tB, tAnd, tOr, tNot, mAnd, mOr, mNot, mIf, mChain, mList, mTup, dIx, mSl, oN, oS, mRev, mRevTo, mCall, mCallF, dLen, dAbs, dInt, dMin2, dMax2, dList, dTup, dSum, dMin, dMax, dMinG, dMaxG, dAll, isTy, mIsI, gV, gSkip, gsN, gsC, gT, srcV, srcR1, srcR2, srcEnum, srcRev, mComp, tYes, isS, isL, mMS, mML, dIndexS, dIndexL, dIndexFrom, mMS2, dCount, dSplit, dJoin, sNil, sSeq, sSet, sAsg, sPar, sRet, retK, sRetN, sIf, sPass, sBrk, sCont, sNever, sExpr, sAug, ownAt, feedAt, intD, sApp, sExt, sSetI, sAugI, sFeed, sFeedA, popD, sPop, sAddPop, sFor, DL.W.set, DL.W.at, DL.R.d, okD, eqD_none_none, eqD_none_bool, eqD_none_int, eqD_none_str, eqD_none_list, eqD_none_tup, eqD_bool_none, eqD_bool_bool, eqD_bool_int, eqD_bool_str, eqD_bool_list, eqD_bool_tup, eqD_int_none, eqD_int_bool, eqD_int_int, eqD_int_str, eqD_int_list, eqD_int_tup, eqD_str_none, eqD_str_bool, eqD_str_int, eqD_str_str, eqD_str_list, eqD_str_tup, eqD_list_none, eqD_list_bool, eqD_list_int, eqD_list_str, eqD_list_list, eqD_list_tup, eqD_tup_none, eqD_tup_bool, eqD_tup_int, eqD_tup_str, eqD_tup_list, eqD_tup_tup, eqDs_nn, eqDs_cc, eqDs_nc, eqDs_cn, List.map_cons, List.map_nil, List.map, List.cons_append, List.nil_append, List.replicate, List.length_cons, List.length_nil, Nat.reduceAdd, Nat.reduceSub, List.all_cons, List.all_nil, Bool.and_true, Bool.true_and, true_and, and_true, atI_map, ex_map, ex_some, List.length_map, beq_int, decide_eq_true_eq, if_true, if_false, Bool.false_eq_true, if_pos, reduceIte, at0, at1, at2, at3, dP, mCallX, mCallB, peekA, evA, evAs, eq_self, sRaise0, sRaise1, sTry, caught, unslot, unheld, mXArg, mXIs, runX, List.contains_cons, List.contains_nil, Slot.isExn, String.reduceBEq, ex_arg, ex_valB, Bool.or_false, Bool.false_or, Bool.or_true, Bool.true_or, Bool.not_false, Bool.not_true, mComp2, dGcd, ar__law_how_often, ar__law_same, ar_rest_table, ar__law_rests, ar__law_table, ar_rest_times, ar_sign_times]
    exact hK _ rfl
  rintro _ rfl
  refine seq_cut (fun s' => ∃ k f : Nat, Fir (P1 N (tb r)) k ∧ Fir (P2 N (tb r)) f ∧ s' = ⟨[.val (.list (r.map D.int)), .val (.int N), .own (r.map D.int), .val (.tup [.int k, .int f]), .gone], w⟩) ?_ ?_
  · intro K hK
    simp only [run, runF, DL.get, DL.put, puts, back, mC, mVar, mFzV, mFeed, frz, msN, msC, mBin, mUn, dAdd, dSub, dMul, dDiv, dMod, dPow, dNeg, dCmp, dLt, dLe, dGt, dGe, dEq, dNe, dIn, dIsN, dIsNotN, isN, dIs, dIsNot, dTab, flatD, okT, truth, tV, tB, tAnd, tOr, tNot, mAnd, mOr, mNot, mIf, mChain, mList, mTup, dIx, mSl, oN, oS, mRev, mRevTo, mCall, mCallF, dLen, dAbs, dInt, dMin2, dMax2, dList, dTup, dSum, dMin, dMax, dMinG, dMaxG, dAll, isTy, mIsI, gV, gSkip, gsN, gsC, gT, srcV, srcR1, srcR2, srcEnum, srcRev, mComp, tYes, isS, isL, mMS, mML, dIndexS, dIndexL, dIndexFrom, mMS2, dCount, dSplit, dJoin, sNil, sSeq, sSet, sAsg, sPar, sRet, retK, sRetN, sIf, sPass, sBrk, sCont, sNever, sExpr, sAug, ownAt, feedAt, intD, sApp, sExt, sSetI, sAugI, sFeed, sFeedA, popD, sPop, sAddPop, sFor, DL.W.set, DL.W.at, DL.R.d, okD, eqD_none_none, eqD_none_bool, eqD_none_int, eqD_none_str, eqD_none_list, eqD_none_tup, eqD_bool_none, eqD_bool_bool, eqD_bool_int, eqD_bool_str, eqD_bool_list, eqD_bool_tup, eqD_int_none, eqD_int_bool, eqD_int_int, eqD_int_str, eqD_int_list, eqD_int_tup, eqD_str_none, eqD_str_bool, eqD_str_int, eqD_str_str, eqD_str_list, eqD_str_tup, eqD_list_none, eqD_list_bool, eqD_list_int, eqD_list_str, eqD_list_list, eqD_list_tup, eqD_tup_none, eqD_tup_bool, eqD_tup_int, eqD_tup_str, eqD_tup_list, eqD_tup_tup, eqDs_nn, eqDs_cc, eqDs_nc, eqDs_cn, List.map_cons, List.map_nil, List.map, List.cons_append, List.nil_append, List.replicate, List.length_cons, List.length_nil, Nat.reduceAdd, Nat.reduceSub, List.all_cons, List.all_nil, Bool.and_true, Bool.true_and, true_and, and_true, atI_map, ex_map, ex_some, List.length_map, beq_int, decide_eq_true_eq, if_true, if_false, Bool.false_eq_true, if_pos, reduceIte, at0, at1, at2, at3, dP, mCallX, mCallB, peekA, evA, evAs, eq_self, sRaise0, sRaise1, sTry, caught, unslot, unheld, mXArg, mXIs, runX, List.contains_cons, List.contains_nil, Slot.isExn, String.reduceBEq, ex_arg, ex_valB, Bool.or_false, Bool.false_or, Bool.or_true, Bool.true_or, Bool.not_false, Bool.not_true, mComp2, dGcd, ar__law_how_often, ar__law_same, ar_rest_table, ar__law_rests, ar__law_table, ar_rest_times, ar_sign_times]
    exact ⟨h2, h60, hr, fun k f Fk Ff => hK _ ⟨k, f, Fk, Ff, rfl⟩⟩
  rintro _ ⟨k, f, Fk, Ff, rfl⟩
  refine seq_cut (fun s' => s' = ⟨[.val (.list (r.map D.int)), .val (.int N), .val (.list (r.map D.int)), .val (.tup [.int k, .int f]), .gone], w⟩) ?_ ?_
  · intro K hK
    simp only [run, runF, DL.get, DL.put, puts, back, mC, mVar, mFzV, mFeed, frz, msN, msC, mBin, mUn, dAdd, dSub, dMul, dDiv, dMod, dPow, dNeg, dCmp, dLt, dLe, dGt, dGe, dEq, dNe, dIn, dIsN, dIsNotN, isN, dIs, dIsNot, dTab, flatD, okT, truth, tV, tB, tAnd, tOr, tNot, mAnd, mOr, mNot, mIf, mChain, mList, mTup, dIx, mSl, oN, oS, mRev, mRevTo, mCall, mCallF, dLen, dAbs, dInt, dMin2, dMax2, dList, dTup, dSum, dMin, dMax, dMinG, dMaxG, dAll, isTy, mIsI, gV, gSkip, gsN, gsC, gT, srcV, srcR1, srcR2, srcEnum, srcRev, mComp, tYes, isS, isL, mMS, mML, dIndexS, dIndexL, dIndexFrom, mMS2, dCount, dSplit, dJoin, sNil, sSeq, sSet, sAsg, sPar, sRet, retK, sRetN, sIf, sPass, sBrk, sCont, sNever, sExpr, sAug, ownAt, feedAt, intD, sApp, sExt, sSetI, sAugI, sFeed, sFeedA, popD, sPop, sAddPop, sFor, DL.W.set, DL.W.at, DL.R.d, okD, eqD_none_none, eqD_none_bool, eqD_none_int, eqD_none_str, eqD_none_list, eqD_none_tup, eqD_bool_none, eqD_bool_bool, eqD_bool_int, eqD_bool_str, eqD_bool_list, eqD_bool_tup, eqD_int_none, eqD_int_bool, eqD_int_int, eqD_int_str, eqD_int_list, eqD_int_tup, eqD_str_none, eqD_str_bool, eqD_str_int, eqD_str_str, eqD_str_list, eqD_str_tup, eqD_list_none, eqD_list_bool, eqD_list_int, eqD_list_str, eqD_list_list, eqD_list_tup, eqD_tup_none, eqD_tup_bool, eqD_tup_int, eqD_tup_str, eqD_tup_list, eqD_tup_tup, eqDs_nn, eqDs_cc, eqDs_nc, eqDs_cn, List.map_cons, List.map_nil, List.map, List.cons_append, List.nil_append, List.replicate, List.length_cons, List.length_nil, Nat.reduceAdd, Nat.reduceSub, List.all_cons, List.all_nil, Bool.and_true, Bool.true_and, true_and, and_true, atI_map, ex_map, ex_some, List.length_map, beq_int, decide_eq_true_eq, if_true, if_false, Bool.false_eq_true, if_pos, reduceIte, at0, at1, at2, at3, dP, mCallX, mCallB, peekA, evA, evAs, eq_self, sRaise0, sRaise1, sTry, caught, unslot, unheld, mXArg, mXIs, runX, List.contains_cons, List.contains_nil, Slot.isExn, String.reduceBEq, ex_arg, ex_valB, Bool.or_false, Bool.false_or, Bool.or_true, Bool.true_or, Bool.not_false, Bool.not_true, mComp2, dGcd, ar__law_how_often, ar__law_same, ar_rest_table, ar__law_rests, ar__law_table, ar_rest_times, ar_sign_times]
    exact ⟨h2, hr, hr, by omega, shp_M _ _, hK _ rfl⟩
  rintro _ rfl
  refine seq_cut (fun s' => s' = ⟨[.val (.list (r.map D.int)), .val (.int N), .val (.list (r.map D.int)), .val (.tup [.int k, .int f]), .own [.int k, .int f]], w⟩) ?_ ?_
  · intro K hK
    simp only [run, runF, DL.get, DL.put, puts, back, mC, mVar, mFzV, mFeed, frz, msN, msC, mBin, mUn, dAdd, dSub, dMul, dDiv, dMod, dPow, dNeg, dCmp, dLt, dLe, dGt, dGe, dEq, dNe, dIn, dIsN, dIsNotN, isN, dIs, dIsNot, dTab, flatD, okT, truth, tV, tB, tAnd, tOr, tNot, mAnd, mOr, mNot, mIf, mChain, mList, mTup, dIx, mSl, oN, oS, mRev, mRevTo, mCall, mCallF, dLen, dAbs, dInt, dMin2, dMax2, dList, dTup, dSum, dMin, dMax, dMinG, dMaxG, dAll, isTy, mIsI, gV, gSkip, gsN, gsC, gT, srcV, srcR1, srcR2, srcEnum, srcRev, mComp, tYes, isS, isL, mMS, mML, dIndexS, dIndexL, dIndexFrom, mMS2, dCount, dSplit, dJoin, sNil, sSeq, sSet, sAsg, sPar, sRet, retK, sRetN, sIf, sPass, sBrk, sCont, sNever, sExpr, sAug, ownAt, feedAt, intD, sApp, sExt, sSetI, sAugI, sFeed, sFeedA, popD, sPop, sAddPop, sFor, DL.W.set, DL.W.at, DL.R.d, okD, eqD_none_none, eqD_none_bool, eqD_none_int, eqD_none_str, eqD_none_list, eqD_none_tup, eqD_bool_none, eqD_bool_bool, eqD_bool_int, eqD_bool_str, eqD_bool_list, eqD_bool_tup, eqD_int_none, eqD_int_bool, eqD_int_int, eqD_int_str, eqD_int_list, eqD_int_tup, eqD_str_none, eqD_str_bool, eqD_str_int, eqD_str_str, eqD_str_list, eqD_str_tup, eqD_list_none, eqD_list_bool, eqD_list_int, eqD_list_str, eqD_list_list, eqD_list_tup, eqD_tup_none, eqD_tup_bool, eqD_tup_int, eqD_tup_str, eqD_tup_list, eqD_tup_tup, eqDs_nn, eqDs_cc, eqDs_nc, eqDs_cn, List.map_cons, List.map_nil, List.map, List.cons_append, List.nil_append, List.replicate, List.length_cons, List.length_nil, Nat.reduceAdd, Nat.reduceSub, List.all_cons, List.all_nil, Bool.and_true, Bool.true_and, true_and, and_true, atI_map, ex_map, ex_some, List.length_map, beq_int, decide_eq_true_eq, if_true, if_false, Bool.false_eq_true, if_pos, reduceIte, at0, at1, at2, at3, dP, mCallX, mCallB, peekA, evA, evAs, eq_self, sRaise0, sRaise1, sTry, caught, unslot, unheld, mXArg, mXIs, runX, List.contains_cons, List.contains_nil, Slot.isExn, String.reduceBEq, ex_arg, ex_valB, Bool.or_false, Bool.false_or, Bool.or_true, Bool.true_or, Bool.not_false, Bool.not_true, mComp2, dGcd, ar__law_how_often, ar__law_same, ar_rest_table, ar__law_rests, ar__law_table, ar_rest_times, ar_sign_times]
    refine ⟨h2, h60, hr, fun k' Fk' => ⟨h2, h60, hr, fun f' Ff' => ?_⟩⟩
    rw [Fk'.uniq Fk fun _ => Iff.rfl, Ff'.uniq Ff fun _ => Iff.rfl]
    exact ⟨by decide, hK _ rfl⟩
  rintro _ rfl
  have fb : f ≤ 1000 := by
    obtain ⟨f', hf, F'⟩ : ∃ f', f' ≤ 1000 ∧ Fir (P2 N (tb r)) f' := Fir.ex (let ⟨a, b, c, d⟩ := ord_ex h2 h60 (tb_det r); ⟨a, b, c, .inl d⟩)
    rw [Ff.uniq F' fun _ => Iff.rfl]
    exact hf
  have fl := lgn (n := f) (by omega)
  have l2 : (Int.natAbs 2).log2 < 400000 := by decide
  simp only [run, runF, DL.get, DL.put, puts, back, mC, mVar, mFzV, mFeed, frz, msN, msC, mBin, mUn, dAdd, dSub, dMul, dDiv, dMod, dPow, dNeg, dCmp, dLt, dLe, dGt, dGe, dEq, dNe, dIn, dIsN, dIsNotN, isN, dIs, dIsNot, dTab, flatD, okT, truth, tV, tB, tAnd, tOr, tNot, mAnd, mOr, mNot, mIf, mChain, mList, mTup, dIx, mSl, oN, oS, mRev, mRevTo, mCall, mCallF, dLen, dAbs, dInt, dMin2, dMax2, dList, dTup, dSum, dMin, dMax, dMinG, dMaxG, dAll, isTy, mIsI, gV, gSkip, gsN, gsC, gT, srcV, srcR1, srcR2, srcEnum, srcRev, mComp, tYes, isS, isL, mMS, mML, dIndexS, dIndexL, dIndexFrom, mMS2, dCount, dSplit, dJoin, sNil, sSeq, sSet, sAsg, sPar, sRet, retK, sRetN, sIf, sPass, sBrk, sCont, sNever, sExpr, sAug, ownAt, feedAt, intD, sApp, sExt, sSetI, sAugI, sFeed, sFeedA, popD, sPop, sAddPop, sFor, DL.W.set, DL.W.at, DL.R.d, okD, eqD_none_none, eqD_none_bool, eqD_none_int, eqD_none_str, eqD_none_list, eqD_none_tup, eqD_bool_none, eqD_bool_bool, eqD_bool_int, eqD_bool_str, eqD_bool_list, eqD_bool_tup, eqD_int_none, eqD_int_bool, eqD_int_int, eqD_int_str, eqD_int_list, eqD_int_tup, eqD_str_none, eqD_str_bool, eqD_str_int, eqD_str_str, eqD_str_list, eqD_str_tup, eqD_list_none, eqD_list_bool, eqD_list_int, eqD_list_str, eqD_list_list, eqD_list_tup, eqD_tup_none, eqD_tup_bool, eqD_tup_int, eqD_tup_str, eqD_tup_list, eqD_tup_tup, eqDs_nn, eqDs_cc, eqDs_nc, eqDs_cn, List.map_cons, List.map_nil, List.map, List.cons_append, List.nil_append, List.replicate, List.length_cons, List.length_nil, Nat.reduceAdd, Nat.reduceSub, List.all_cons, List.all_nil, Bool.and_true, Bool.true_and, true_and, and_true, atI_map, ex_map, ex_some, List.length_map, beq_int, decide_eq_true_eq, if_true, if_false, Bool.false_eq_true, if_pos, reduceIte, at0, at1, at2, at3, dP, mCallX, mCallB, peekA, evA, evAs, eq_self, sRaise0, sRaise1, sTry, caught, unslot, unheld, mXArg, mXIs, runX, List.contains_cons, List.contains_nil, Slot.isExn, String.reduceBEq, ex_arg, ex_valB, Bool.or_false, Bool.false_or, Bool.or_true, Bool.true_or, Bool.not_false, Bool.not_true, mComp2, dGcd, ar__law_how_often, ar__law_same, ar_rest_table, ar__law_rests, ar__law_table, ar_rest_times, ar_sign_times]
  refine ⟨by decide, ?_, okInts _ 7, okInts _ 7, ?_⟩
  · refine .inr ⟨_, .inl rfl, by show 2 ≤ 4000; decide, fun e he => ?_⟩
    simp only [List.mem_cons, List.not_mem_nil, or_false] at he
    rcases he with rfl | rfl <;> exact shp_int _ _
  rw [eqDs_refl, if_neg (by decide)]
  refine ⟨by omega, by decide, ?_⟩
  have hm : ([D.int f, D.int (2 * f)].any fun d => eqD d (.int k)) = true := by
    rw [List.any_eq_true]
    rcases dbl Fk Ff with e | e
    · exact ⟨.int f, by simp, by rw [e]; exact eqD_refl _⟩
    · exact ⟨.int (2 * f), by simp, by rw [e, show ((2 * f : Nat) : Int) = 2 * (f : Int) by omega]; exact eqD_refl _⟩
  rw [hm]
  exact q
theorem max_ints {l : List Int} (h : 0 < l.length) {k : R → Prop} (hk : ∀ m : Int, k (.val (.int m))) : ∃ ns : List Int, l.map D.int = ns.map D.int ∧ 0 < ns.length ∧ ∀ m, m ∈ ns → (∀ y, y ∈ ns → y ≤ m) → k (.val (.int m)) := ⟨l, rfl, h, fun m _ _ => hk m⟩
instance (N : Int) (A : M4) (k : Nat) : Decidable (P1 N A k) := inferInstanceAs (Decidable (_ = _))
instance (N : Int) (A : M4) (k : Nat) : Decidable (P2 N A k) := inferInstanceAs (Decidable (_ = _ ∨ _ = _))
theorem fir_of {P : Nat → Prop} {k : Nat} (h1 : 1 ≤ k) (h : P k) (h2 : ∀ j : Fin k, 1 ≤ j.val → ¬ P j.val) : Fir P k := ⟨h1, h, fun j a b => h2 ⟨j, b⟩ a⟩
abbrev lst (a b c d e f g h i : Slot) (w : W) : S := ⟨[.gone, .feed, a, b, c, d, e, f, g, h, i], w⟩
theorem vc_law : ∀ ns : List Int, ns.length ≤ 63 → lawTrue 11 (b_law (ar 1 spec__law_draw) (ar 1 spec__law_drawn) (ar 2 spec__law_grown) (ar 1 spec__law_plain) (ar 2 spec__law_put) (ar 2 spec__law_right) (ar 2 spec_rest_times) (ar 2 spec_sign_times) (ar 2 spec__law_kept_right) (ar 2 (spec__law_same 6)) (ar 2 spec_rest_table) (ar 2 spec_kept_lines)) ns := by
  intro ns' hn
  have hz : (2000000 : Nat) ≤ LINE := by decide
  have hw0 := Wok.start hn
  show sSeq _ _ (lst .gone .gone .gone .gone .gone .gone .gone .gone .gone ⟨ns', 0, 0, 1⟩) _
  refine seq_cut (fun s' => ∃ a b c d e f g h i w', Wok w' ∧ s' = lst a b c d e f g h i w') ?_ ?_
  · intro K hK
    refine for_r1 3 (fun _ s' => ∃ a b c d e f g h i w', Wok w' ∧ s' = lst a b c d e f g h i w') _ (fun K h => h) (by decide) ⟨_, _, _, _, _, _, _, _, _, _, hw0, rfl⟩ ?_ ?_
    · rintro t _ ht ⟨a, b, c, d, e, f, g, h, i, w1, hw1, rfl⟩ K hK
      show sSeq _ _ (lst (.val (.int t)) b c d e f g h i w1) _
      refine seq_cut (fun s' => ∃ (N : Nat) (w' : W), 2 ≤ N ∧ N ≤ 60 ∧ Wok w' ∧ s' = lst (.val (.int t)) (.val (.int N)) c d e f g h i w') ?_ ?_
      · intro K hK
        simp only [run, runF, DL.get, DL.put, puts, back, mC, mVar, mFzV, mFeed, frz, msN, msC, mBin, mUn, dAdd, dSub, dMul, dDiv, dMod, dPow, dNeg, dCmp, dLt, dLe, dGt, dGe, dEq, dNe, dIn, dIsN, dIsNotN, isN, dIs, dIsNot, dTab, flatD, okT, truth, tV, tB, tAnd, tOr, tNot, mAnd, mOr, mNot, mIf, mChain, mList, mTup, dIx, mSl, oN, oS, mRev, mRevTo, mCall, mCallF, dLen, dAbs, dInt, dMin2, dMax2, dList, dTup, dSum, dMin, dMax, dMinG, dMaxG, dAll, isTy, mIsI, gV, gSkip, gsN, gsC, gT, srcV, srcR1, srcR2, srcEnum, srcRev, mComp, tYes, isS, isL, mMS, mML, dIndexS, dIndexL, dIndexFrom, mMS2, dCount, dSplit, dJoin, sNil, sSeq, sSet, sAsg, sPar, sRet, retK, sRetN, sIf, sPass, sBrk, sCont, sNever, sExpr, sAug, ownAt, feedAt, intD, sApp, sExt, sSetI, sAugI, sFeed, sFeedA, popD, sPop, sAddPop, sFor, DL.W.set, DL.W.at, DL.R.d, okD, eqD_none_none, eqD_none_bool, eqD_none_int, eqD_none_str, eqD_none_list, eqD_none_tup, eqD_bool_none, eqD_bool_bool, eqD_bool_int, eqD_bool_str, eqD_bool_list, eqD_bool_tup, eqD_int_none, eqD_int_bool, eqD_int_int, eqD_int_str, eqD_int_list, eqD_int_tup, eqD_str_none, eqD_str_bool, eqD_str_int, eqD_str_str, eqD_str_list, eqD_str_tup, eqD_list_none, eqD_list_bool, eqD_list_int, eqD_list_str, eqD_list_list, eqD_list_tup, eqD_tup_none, eqD_tup_bool, eqD_tup_int, eqD_tup_str, eqD_tup_list, eqD_tup_tup, eqDs_nn, eqDs_cc, eqDs_nc, eqDs_cn, List.map_cons, List.map_nil, List.map, List.cons_append, List.nil_append, List.replicate, List.length_cons, List.length_nil, Nat.reduceAdd, Nat.reduceSub, List.all_cons, List.all_nil, Bool.and_true, Bool.true_and, true_and, and_true, atI_map, ex_map, ex_some, List.length_map, beq_int, decide_eq_true_eq, if_true, if_false, Bool.false_eq_true, if_pos, reduceIte, at0, at1, at2, at3, dP, mCallX, mCallB, peekA, evA, evAs, eq_self, sRaise0, sRaise1, sTry, caught, unslot, unheld, mXArg, mXIs, runX, List.contains_cons, List.contains_nil, Slot.isExn, String.reduceBEq, ex_arg, ex_valB, Bool.or_false, Bool.false_or, Bool.or_true, Bool.true_or, Bool.not_false, Bool.not_true, mComp2, dGcd, ar__law_draw, ar__law_drawn, ar__law_grown, ar__law_plain, ar__law_put, ar__law_right, ar_rest_times, ar_sign_times, ar__law_kept_right, ar__law_same, ar_rest_table, ar_kept_lines]
        refine ⟨by decide, by decide, by decide, hw1, fun x w2 x0 x2 hw2 => ?_⟩
        have go : ∀ m : Int, 0 < m → m ≤ 59 → 0 < m ∧ m ≤ 1000000 ∧ Wok w2 ∧ ∀ (r : Int) (w' : W), 0 ≤ r → r < m → Wok w' → K (lst (.val (.int t)) (.val (.int (2 + r))) c d e f g h i w') := fun m m0 m1 => by
          refine ⟨m0, by omega, hw2, fun y w3 y0 y1 hw3 => hK _ ⟨(2 + y).toNat, w3, by omega, by omega, hw3, ?_⟩⟩
          rw [Int.toNat_of_nonneg (by omega)]
        rcases (by omega : x = 0 ∨ x = 1) with rfl | rfl
        · refine ⟨_, at0 _ _, ?_⟩
          rw [ar__law_draw]
          exact go 11 (by decide) (by decide)
        · refine ⟨_, at1 _ _ _, ?_⟩
          rw [ar__law_draw]
          exact go 59 (by decide) (by decide)
      rintro _ ⟨N, w1, h2, h60, hw1, rfl⟩
      refine seq_cut (fun s' => ∃ (r : List Int) (w' : W), 0 < r.length ∧ r.length ≤ 11 ∧ (∀ x ∈ r, x.natAbs ≤ 99) ∧ Wok w' ∧ s' = lst (.val (.int t)) (.val (.int N)) (.own (r.map D.int)) d e f g h i w') ?_ ?_
      · intro K hK
        simp only [run, runF, DL.get, DL.put, puts, back, mC, mVar, mFzV, mFeed, frz, msN, msC, mBin, mUn, dAdd, dSub, dMul, dDiv, dMod, dPow, dNeg, dCmp, dLt, dLe, dGt, dGe, dEq, dNe, dIn, dIsN, dIsNotN, isN, dIs, dIsNot, dTab, flatD, okT, truth, tV, tB, tAnd, tOr, tNot, mAnd, mOr, mNot, mIf, mChain, mList, mTup, dIx, mSl, oN, oS, mRev, mRevTo, mCall, mCallF, dLen, dAbs, dInt, dMin2, dMax2, dList, dTup, dSum, dMin, dMax, dMinG, dMaxG, dAll, isTy, mIsI, gV, gSkip, gsN, gsC, gT, srcV, srcR1, srcR2, srcEnum, srcRev, mComp, tYes, isS, isL, mMS, mML, dIndexS, dIndexL, dIndexFrom, mMS2, dCount, dSplit, dJoin, sNil, sSeq, sSet, sAsg, sPar, sRet, retK, sRetN, sIf, sPass, sBrk, sCont, sNever, sExpr, sAug, ownAt, feedAt, intD, sApp, sExt, sSetI, sAugI, sFeed, sFeedA, popD, sPop, sAddPop, sFor, DL.W.set, DL.W.at, DL.R.d, okD, eqD_none_none, eqD_none_bool, eqD_none_int, eqD_none_str, eqD_none_list, eqD_none_tup, eqD_bool_none, eqD_bool_bool, eqD_bool_int, eqD_bool_str, eqD_bool_list, eqD_bool_tup, eqD_int_none, eqD_int_bool, eqD_int_int, eqD_int_str, eqD_int_list, eqD_int_tup, eqD_str_none, eqD_str_bool, eqD_str_int, eqD_str_str, eqD_str_list, eqD_str_tup, eqD_list_none, eqD_list_bool, eqD_list_int, eqD_list_str, eqD_list_list, eqD_list_tup, eqD_tup_none, eqD_tup_bool, eqD_tup_int, eqD_tup_str, eqD_tup_list, eqD_tup_tup, eqDs_nn, eqDs_cc, eqDs_nc, eqDs_cn, List.map_cons, List.map_nil, List.map, List.cons_append, List.nil_append, List.replicate, List.length_cons, List.length_nil, Nat.reduceAdd, Nat.reduceSub, List.all_cons, List.all_nil, Bool.and_true, Bool.true_and, true_and, and_true, atI_map, ex_map, ex_some, List.length_map, beq_int, decide_eq_true_eq, if_true, if_false, Bool.false_eq_true, if_pos, reduceIte, at0, at1, at2, at3, dP, mCallX, mCallB, peekA, evA, evAs, eq_self, sRaise0, sRaise1, sTry, caught, unslot, unheld, mXArg, mXIs, runX, List.contains_cons, List.contains_nil, Slot.isExn, String.reduceBEq, ex_arg, ex_valB, Bool.or_false, Bool.false_or, Bool.or_true, Bool.true_or, Bool.not_false, Bool.not_true, mComp2, dGcd, ar__law_draw, ar__law_drawn, ar__law_grown, ar__law_plain, ar__law_put, ar__law_right, ar_rest_times, ar_sign_times, ar__law_kept_right, ar__law_same, ar_rest_table, ar_kept_lines]
        exact ⟨hw1, fun r w' r1 r2 r3 hw' => hK _ ⟨r, w', r1, r2, r3, hw', rfl⟩⟩
      rintro _ ⟨r0, w1, r00, r01, r02, hw1, rfl⟩
      refine seq_cut (fun s' => ∃ (r : List Int) (w' : W), 0 < r.length ∧ r.length ≤ 11 ∧ (∀ x ∈ r, x.natAbs ≤ 99) ∧ Wok w' ∧ s' = lst (.val (.int t)) (.val (.int N)) (.own (r.map D.int)) d e f g h i w') ?_ ?_
      · intro K hK
        refine cond_cut (decide ((t : Int) = 1)) ?_ (fun c => ?_) fun c => ?_
        · intro K hK
          simp only [run, runF, DL.get, DL.put, puts, back, mC, mVar, mFzV, mFeed, frz, msN, msC, mBin, mUn, dAdd, dSub, dMul, dDiv, dMod, dPow, dNeg, dCmp, dLt, dLe, dGt, dGe, dEq, dNe, dIn, dIsN, dIsNotN, isN, dIs, dIsNot, dTab, flatD, okT, truth, tV, tB, tAnd, tOr, tNot, mAnd, mOr, mNot, mIf, mChain, mList, mTup, dIx, mSl, oN, oS, mRev, mRevTo, mCall, mCallF, dLen, dAbs, dInt, dMin2, dMax2, dList, dTup, dSum, dMin, dMax, dMinG, dMaxG, dAll, isTy, mIsI, gV, gSkip, gsN, gsC, gT, srcV, srcR1, srcR2, srcEnum, srcRev, mComp, tYes, isS, isL, mMS, mML, dIndexS, dIndexL, dIndexFrom, mMS2, dCount, dSplit, dJoin, sNil, sSeq, sSet, sAsg, sPar, sRet, retK, sRetN, sIf, sPass, sBrk, sCont, sNever, sExpr, sAug, ownAt, feedAt, intD, sApp, sExt, sSetI, sAugI, sFeed, sFeedA, popD, sPop, sAddPop, sFor, DL.W.set, DL.W.at, DL.R.d, okD, eqD_none_none, eqD_none_bool, eqD_none_int, eqD_none_str, eqD_none_list, eqD_none_tup, eqD_bool_none, eqD_bool_bool, eqD_bool_int, eqD_bool_str, eqD_bool_list, eqD_bool_tup, eqD_int_none, eqD_int_bool, eqD_int_int, eqD_int_str, eqD_int_list, eqD_int_tup, eqD_str_none, eqD_str_bool, eqD_str_int, eqD_str_str, eqD_str_list, eqD_str_tup, eqD_list_none, eqD_list_bool, eqD_list_int, eqD_list_str, eqD_list_list, eqD_list_tup, eqD_tup_none, eqD_tup_bool, eqD_tup_int, eqD_tup_str, eqD_tup_list, eqD_tup_tup, eqDs_nn, eqDs_cc, eqDs_nc, eqDs_cn, List.map_cons, List.map_nil, List.map, List.cons_append, List.nil_append, List.replicate, List.length_cons, List.length_nil, Nat.reduceAdd, Nat.reduceSub, List.all_cons, List.all_nil, Bool.and_true, Bool.true_and, true_and, and_true, atI_map, ex_map, ex_some, List.length_map, beq_int, decide_eq_true_eq, if_true, if_false, Bool.false_eq_true, if_pos, reduceIte, at0, at1, at2, at3, dP, mCallX, mCallB, peekA, evA, evAs, eq_self, sRaise0, sRaise1, sTry, caught, unslot, unheld, mXArg, mXIs, runX, List.contains_cons, List.contains_nil, Slot.isExn, String.reduceBEq, ex_arg, ex_valB, Bool.or_false, Bool.false_or, Bool.or_true, Bool.true_or, Bool.not_false, Bool.not_true, mComp2, dGcd, ar__law_draw, ar__law_drawn, ar__law_grown, ar__law_plain, ar__law_put, ar__law_right, ar_rest_times, ar_sign_times, ar__law_kept_right, ar__law_same, ar_rest_table, ar_kept_lines]
          exact hK
        · simp only [run, runF, DL.get, DL.put, puts, back, mC, mVar, mFzV, mFeed, frz, msN, msC, mBin, mUn, dAdd, dSub, dMul, dDiv, dMod, dPow, dNeg, dCmp, dLt, dLe, dGt, dGe, dEq, dNe, dIn, dIsN, dIsNotN, isN, dIs, dIsNot, dTab, flatD, okT, truth, tV, tB, tAnd, tOr, tNot, mAnd, mOr, mNot, mIf, mChain, mList, mTup, dIx, mSl, oN, oS, mRev, mRevTo, mCall, mCallF, dLen, dAbs, dInt, dMin2, dMax2, dList, dTup, dSum, dMin, dMax, dMinG, dMaxG, dAll, isTy, mIsI, gV, gSkip, gsN, gsC, gT, srcV, srcR1, srcR2, srcEnum, srcRev, mComp, tYes, isS, isL, mMS, mML, dIndexS, dIndexL, dIndexFrom, mMS2, dCount, dSplit, dJoin, sNil, sSeq, sSet, sAsg, sPar, sRet, retK, sRetN, sIf, sPass, sBrk, sCont, sNever, sExpr, sAug, ownAt, feedAt, intD, sApp, sExt, sSetI, sAugI, sFeed, sFeedA, popD, sPop, sAddPop, sFor, DL.W.set, DL.W.at, DL.R.d, okD, eqD_none_none, eqD_none_bool, eqD_none_int, eqD_none_str, eqD_none_list, eqD_none_tup, eqD_bool_none, eqD_bool_bool, eqD_bool_int, eqD_bool_str, eqD_bool_list, eqD_bool_tup, eqD_int_none, eqD_int_bool, eqD_int_int, eqD_int_str, eqD_int_list, eqD_int_tup, eqD_str_none, eqD_str_bool, eqD_str_int, eqD_str_str, eqD_str_list, eqD_str_tup, eqD_list_none, eqD_list_bool, eqD_list_int, eqD_list_str, eqD_list_list, eqD_list_tup, eqD_tup_none, eqD_tup_bool, eqD_tup_int, eqD_tup_str, eqD_tup_list, eqD_tup_tup, eqDs_nn, eqDs_cc, eqDs_nc, eqDs_cn, List.map_cons, List.map_nil, List.map, List.cons_append, List.nil_append, List.replicate, List.length_cons, List.length_nil, Nat.reduceAdd, Nat.reduceSub, List.all_cons, List.all_nil, Bool.and_true, Bool.true_and, true_and, and_true, atI_map, ex_map, ex_some, List.length_map, beq_int, decide_eq_true_eq, if_true, if_false, Bool.false_eq_true, if_pos, reduceIte, at0, at1, at2, at3, dP, mCallX, mCallB, peekA, evA, evAs, eq_self, sRaise0, sRaise1, sTry, caught, unslot, unheld, mXArg, mXIs, runX, List.contains_cons, List.contains_nil, Slot.isExn, String.reduceBEq, ex_arg, ex_valB, Bool.or_false, Bool.false_or, Bool.or_true, Bool.true_or, Bool.not_false, Bool.not_true, mComp2, dGcd, ar__law_draw, ar__law_drawn, ar__law_grown, ar__law_plain, ar__law_put, ar__law_right, ar_rest_times, ar_sign_times, ar__law_kept_right, ar__law_same, ar_rest_table, ar_kept_lines]
          exact ⟨hw1, fun r w' r1 r2 r3 hw' => ⟨r1, r2, r3, hw', fun r w' r1 r2 r3 hw' => hK _ ⟨r, w', r1, r2, r3, hw', rfl⟩⟩⟩
        · exact hK _ ⟨r0, w1, r00, r01, r02, hw1, rfl⟩
      clear r00 r01 r02 hw1
      rintro _ ⟨r, w1, r0, r11, rb, hw1, rfl⟩
      generalize Slot.val (D.int t) = a
      have ok : Okl r := num_small (by omega) fun x hx => by have := rb x hx; omega
      refine seq_cut (fun s' => ∃ (p : Nat) (w' : W), p ≤ r.length ∧ Wok w' ∧ s' = lst a (.val (.int N)) (.own (r.map D.int)) (.val (.int p)) e f g h i w') ?_ ?_
      · intro K hK
        simp only [run, runF, DL.get, DL.put, puts, back, mC, mVar, mFzV, mFeed, frz, msN, msC, mBin, mUn, dAdd, dSub, dMul, dDiv, dMod, dPow, dNeg, dCmp, dLt, dLe, dGt, dGe, dEq, dNe, dIn, dIsN, dIsNotN, isN, dIs, dIsNot, dTab, flatD, okT, truth, tV, tB, tAnd, tOr, tNot, mAnd, mOr, mNot, mIf, mChain, mList, mTup, dIx, mSl, oN, oS, mRev, mRevTo, mCall, mCallF, dLen, dAbs, dInt, dMin2, dMax2, dList, dTup, dSum, dMin, dMax, dMinG, dMaxG, dAll, isTy, mIsI, gV, gSkip, gsN, gsC, gT, srcV, srcR1, srcR2, srcEnum, srcRev, mComp, tYes, isS, isL, mMS, mML, dIndexS, dIndexL, dIndexFrom, mMS2, dCount, dSplit, dJoin, sNil, sSeq, sSet, sAsg, sPar, sRet, retK, sRetN, sIf, sPass, sBrk, sCont, sNever, sExpr, sAug, ownAt, feedAt, intD, sApp, sExt, sSetI, sAugI, sFeed, sFeedA, popD, sPop, sAddPop, sFor, DL.W.set, DL.W.at, DL.R.d, okD, eqD_none_none, eqD_none_bool, eqD_none_int, eqD_none_str, eqD_none_list, eqD_none_tup, eqD_bool_none, eqD_bool_bool, eqD_bool_int, eqD_bool_str, eqD_bool_list, eqD_bool_tup, eqD_int_none, eqD_int_bool, eqD_int_int, eqD_int_str, eqD_int_list, eqD_int_tup, eqD_str_none, eqD_str_bool, eqD_str_int, eqD_str_str, eqD_str_list, eqD_str_tup, eqD_list_none, eqD_list_bool, eqD_list_int, eqD_list_str, eqD_list_list, eqD_list_tup, eqD_tup_none, eqD_tup_bool, eqD_tup_int, eqD_tup_str, eqD_tup_list, eqD_tup_tup, eqDs_nn, eqDs_cc, eqDs_nc, eqDs_cn, List.map_cons, List.map_nil, List.map, List.cons_append, List.nil_append, List.replicate, List.length_cons, List.length_nil, Nat.reduceAdd, Nat.reduceSub, List.all_cons, List.all_nil, Bool.and_true, Bool.true_and, true_and, and_true, atI_map, ex_map, ex_some, List.length_map, beq_int, decide_eq_true_eq, if_true, if_false, Bool.false_eq_true, if_pos, reduceIte, at0, at1, at2, at3, dP, mCallX, mCallB, peekA, evA, evAs, eq_self, sRaise0, sRaise1, sTry, caught, unslot, unheld, mXArg, mXIs, runX, List.contains_cons, List.contains_nil, Slot.isExn, String.reduceBEq, ex_arg, ex_valB, Bool.or_false, Bool.false_or, Bool.or_true, Bool.true_or, Bool.not_false, Bool.not_true, mComp2, dGcd, ar__law_draw, ar__law_drawn, ar__law_grown, ar__law_plain, ar__law_put, ar__law_right, ar_rest_times, ar_sign_times, ar__law_kept_right, ar__law_same, ar_rest_table, ar_kept_lines]
        exact ⟨by omega, by omega, hw1, fun x w' x0 x1 hw' => hK _ ⟨x.toNat, w', by omega, hw', by rw [Int.toNat_of_nonneg x0]⟩⟩
      rintro _ ⟨p, w1, hp, hw1, rfl⟩
      have mo : Okl (putG r p) := num_small (by rw [putG_len hp]; omega) fun x hx => by have := putG_abs (by decide) rb x hx; omega
      have ml := putG_len hp
      refine seq_cut (fun s' => s' = lst a (.val (.int N)) (.val (.list (r.map D.int))) (.val (.int p)) (.own ((putG r p).map D.int)) f g h i w1) ?_ ?_
      · intro K hK
        simp only [run, runF, DL.get, DL.put, puts, back, mC, mVar, mFzV, mFeed, frz, msN, msC, mBin, mUn, dAdd, dSub, dMul, dDiv, dMod, dPow, dNeg, dCmp, dLt, dLe, dGt, dGe, dEq, dNe, dIn, dIsN, dIsNotN, isN, dIs, dIsNot, dTab, flatD, okT, truth, tV, tB, tAnd, tOr, tNot, mAnd, mOr, mNot, mIf, mChain, mList, mTup, dIx, mSl, oN, oS, mRev, mRevTo, mCall, mCallF, dLen, dAbs, dInt, dMin2, dMax2, dList, dTup, dSum, dMin, dMax, dMinG, dMaxG, dAll, isTy, mIsI, gV, gSkip, gsN, gsC, gT, srcV, srcR1, srcR2, srcEnum, srcRev, mComp, tYes, isS, isL, mMS, mML, dIndexS, dIndexL, dIndexFrom, mMS2, dCount, dSplit, dJoin, sNil, sSeq, sSet, sAsg, sPar, sRet, retK, sRetN, sIf, sPass, sBrk, sCont, sNever, sExpr, sAug, ownAt, feedAt, intD, sApp, sExt, sSetI, sAugI, sFeed, sFeedA, popD, sPop, sAddPop, sFor, DL.W.set, DL.W.at, DL.R.d, okD, eqD_none_none, eqD_none_bool, eqD_none_int, eqD_none_str, eqD_none_list, eqD_none_tup, eqD_bool_none, eqD_bool_bool, eqD_bool_int, eqD_bool_str, eqD_bool_list, eqD_bool_tup, eqD_int_none, eqD_int_bool, eqD_int_int, eqD_int_str, eqD_int_list, eqD_int_tup, eqD_str_none, eqD_str_bool, eqD_str_int, eqD_str_str, eqD_str_list, eqD_str_tup, eqD_list_none, eqD_list_bool, eqD_list_int, eqD_list_str, eqD_list_list, eqD_list_tup, eqD_tup_none, eqD_tup_bool, eqD_tup_int, eqD_tup_str, eqD_tup_list, eqD_tup_tup, eqDs_nn, eqDs_cc, eqDs_nc, eqDs_cn, List.map_cons, List.map_nil, List.map, List.cons_append, List.nil_append, List.replicate, List.length_cons, List.length_nil, Nat.reduceAdd, Nat.reduceSub, List.all_cons, List.all_nil, Bool.and_true, Bool.true_and, true_and, and_true, atI_map, ex_map, ex_some, List.length_map, beq_int, decide_eq_true_eq, if_true, if_false, Bool.false_eq_true, if_pos, reduceIte, at0, at1, at2, at3, dP, mCallX, mCallB, peekA, evA, evAs, eq_self, sRaise0, sRaise1, sTry, caught, unslot, unheld, mXArg, mXIs, runX, List.contains_cons, List.contains_nil, Slot.isExn, String.reduceBEq, ex_arg, ex_valB, Bool.or_false, Bool.false_or, Bool.or_true, Bool.true_or, Bool.not_false, Bool.not_true, mComp2, dGcd, ar__law_draw, ar__law_drawn, ar__law_grown, ar__law_plain, ar__law_put, ar__law_right, ar_rest_times, ar_sign_times, ar__law_kept_right, ar__law_same, ar_rest_table, ar_kept_lines]
        exact ⟨r0, by omega, hp, hK _ rfl⟩
      rintro _ rfl
      refine seq_cut (fun s' => ∃ (k : Nat) (w' : W), k < r.length ∧ Wok w' ∧ s' = lst a (.val (.int N)) (.val (.list (r.map D.int))) (.val (.int p)) (.own ((putG r p).map D.int)) (.val (.int k)) g h i w') ?_ ?_
      · intro K hK
        simp only [run, runF, DL.get, DL.put, puts, back, mC, mVar, mFzV, mFeed, frz, msN, msC, mBin, mUn, dAdd, dSub, dMul, dDiv, dMod, dPow, dNeg, dCmp, dLt, dLe, dGt, dGe, dEq, dNe, dIn, dIsN, dIsNotN, isN, dIs, dIsNot, dTab, flatD, okT, truth, tV, tB, tAnd, tOr, tNot, mAnd, mOr, mNot, mIf, mChain, mList, mTup, dIx, mSl, oN, oS, mRev, mRevTo, mCall, mCallF, dLen, dAbs, dInt, dMin2, dMax2, dList, dTup, dSum, dMin, dMax, dMinG, dMaxG, dAll, isTy, mIsI, gV, gSkip, gsN, gsC, gT, srcV, srcR1, srcR2, srcEnum, srcRev, mComp, tYes, isS, isL, mMS, mML, dIndexS, dIndexL, dIndexFrom, mMS2, dCount, dSplit, dJoin, sNil, sSeq, sSet, sAsg, sPar, sRet, retK, sRetN, sIf, sPass, sBrk, sCont, sNever, sExpr, sAug, ownAt, feedAt, intD, sApp, sExt, sSetI, sAugI, sFeed, sFeedA, popD, sPop, sAddPop, sFor, DL.W.set, DL.W.at, DL.R.d, okD, eqD_none_none, eqD_none_bool, eqD_none_int, eqD_none_str, eqD_none_list, eqD_none_tup, eqD_bool_none, eqD_bool_bool, eqD_bool_int, eqD_bool_str, eqD_bool_list, eqD_bool_tup, eqD_int_none, eqD_int_bool, eqD_int_int, eqD_int_str, eqD_int_list, eqD_int_tup, eqD_str_none, eqD_str_bool, eqD_str_int, eqD_str_str, eqD_str_list, eqD_str_tup, eqD_list_none, eqD_list_bool, eqD_list_int, eqD_list_str, eqD_list_list, eqD_list_tup, eqD_tup_none, eqD_tup_bool, eqD_tup_int, eqD_tup_str, eqD_tup_list, eqD_tup_tup, eqDs_nn, eqDs_cc, eqDs_nc, eqDs_cn, List.map_cons, List.map_nil, List.map, List.cons_append, List.nil_append, List.replicate, List.length_cons, List.length_nil, Nat.reduceAdd, Nat.reduceSub, List.all_cons, List.all_nil, Bool.and_true, Bool.true_and, true_and, and_true, atI_map, ex_map, ex_some, List.length_map, beq_int, decide_eq_true_eq, if_true, if_false, Bool.false_eq_true, if_pos, reduceIte, at0, at1, at2, at3, dP, mCallX, mCallB, peekA, evA, evAs, eq_self, sRaise0, sRaise1, sTry, caught, unslot, unheld, mXArg, mXIs, runX, List.contains_cons, List.contains_nil, Slot.isExn, String.reduceBEq, ex_arg, ex_valB, Bool.or_false, Bool.false_or, Bool.or_true, Bool.true_or, Bool.not_false, Bool.not_true, mComp2, dGcd, ar__law_draw, ar__law_drawn, ar__law_grown, ar__law_plain, ar__law_put, ar__law_right, ar_rest_times, ar_sign_times, ar__law_kept_right, ar__law_same, ar_rest_table, ar_kept_lines]
        exact ⟨by omega, by omega, hw1, fun x w' x0 x1 hw' => hK _ ⟨x.toNat, w', by omega, hw', by rw [Int.toNat_of_nonneg x0]⟩⟩
      rintro _ ⟨k, w1, hk, hw1, rfl⟩
      refine seq_cut (fun s' => s' = lst a (.val (.int N)) (.val (.list (r.map D.int))) (.val (.int p)) (.own ((putG r p).map D.int)) (.val (.int k)) (.own ((rot r k).map D.int)) h i w1) ?_ ?_
      · intro K hK
        simp only [run, runF, DL.get, DL.put, puts, back, mC, mVar, mFzV, mFeed, frz, msN, msC, mBin, mUn, dAdd, dSub, dMul, dDiv, dMod, dPow, dNeg, dCmp, dLt, dLe, dGt, dGe, dEq, dNe, dIn, dIsN, dIsNotN, isN, dIs, dIsNot, dTab, flatD, okT, truth, tV, tB, tAnd, tOr, tNot, mAnd, mOr, mNot, mIf, mChain, mList, mTup, dIx, mSl, oN, oS, mRev, mRevTo, mCall, mCallF, dLen, dAbs, dInt, dMin2, dMax2, dList, dTup, dSum, dMin, dMax, dMinG, dMaxG, dAll, isTy, mIsI, gV, gSkip, gsN, gsC, gT, srcV, srcR1, srcR2, srcEnum, srcRev, mComp, tYes, isS, isL, mMS, mML, dIndexS, dIndexL, dIndexFrom, mMS2, dCount, dSplit, dJoin, sNil, sSeq, sSet, sAsg, sPar, sRet, retK, sRetN, sIf, sPass, sBrk, sCont, sNever, sExpr, sAug, ownAt, feedAt, intD, sApp, sExt, sSetI, sAugI, sFeed, sFeedA, popD, sPop, sAddPop, sFor, DL.W.set, DL.W.at, DL.R.d, okD, eqD_none_none, eqD_none_bool, eqD_none_int, eqD_none_str, eqD_none_list, eqD_none_tup, eqD_bool_none, eqD_bool_bool, eqD_bool_int, eqD_bool_str, eqD_bool_list, eqD_bool_tup, eqD_int_none, eqD_int_bool, eqD_int_int, eqD_int_str, eqD_int_list, eqD_int_tup, eqD_str_none, eqD_str_bool, eqD_str_int, eqD_str_str, eqD_str_list, eqD_str_tup, eqD_list_none, eqD_list_bool, eqD_list_int, eqD_list_str, eqD_list_list, eqD_list_tup, eqD_tup_none, eqD_tup_bool, eqD_tup_int, eqD_tup_str, eqD_tup_list, eqD_tup_tup, eqDs_nn, eqDs_cc, eqDs_nc, eqDs_cn, List.map_cons, List.map_nil, List.map, List.cons_append, List.nil_append, List.replicate, List.length_cons, List.length_nil, Nat.reduceAdd, Nat.reduceSub, List.all_cons, List.all_nil, Bool.and_true, Bool.true_and, true_and, and_true, atI_map, ex_map, ex_some, List.length_map, beq_int, decide_eq_true_eq, if_true, if_false, Bool.false_eq_true, if_pos, reduceIte, at0, at1, at2, at3, dP, mCallX, mCallB, peekA, evA, evAs, eq_self, sRaise0, sRaise1, sTry, caught, unslot, unheld, mXArg, mXIs, runX, List.contains_cons, List.contains_nil, Slot.isExn, String.reduceBEq, ex_arg, ex_valB, Bool.or_false, Bool.false_or, Bool.or_true, Bool.true_or, Bool.not_false, Bool.not_true, mComp2, dGcd, ar__law_draw, ar__law_drawn, ar__law_grown, ar__law_plain, ar__law_put, ar__law_right, ar_rest_times, ar_sign_times, ar__law_kept_right, ar__law_same, ar_rest_table, ar_kept_lines]
        rw [cut_from, cut_to, ← List.map_drop, ← List.map_take, ← List.map_append]
        refine ⟨?_, hK _ rfl⟩
        rw [List.length_map, List.length_map, List.length_drop, List.length_take]
        omega
      rintro _ rfl
      have tl := rot_len r k (by omega)
      have tok : Okl (rot r k) := num_small (by rw [tl]; omega) fun x hx => by
        rcases List.mem_append.mp hx with z | z
        · have := rb x (List.mem_of_mem_drop z); omega
        · have := rb x (List.mem_of_mem_take z); omega
      have two : Okl (List.replicate r.length 2) := num_small (by rw [List.length_replicate]; omega) fun x hx => by rw [List.eq_of_mem_replicate hx]; decide
      refine seq_cut (fun s' => ∃ h, s' = lst a (.val (.int N)) (.val (.list (r.map D.int))) (.val (.int p)) (.val (.list ((putG r p).map D.int))) (.val (.int k)) (.val (.list ((rot r k).map D.int))) h i w1) ?_ ?_
      · intro K hK
        refine for_cut (fun ds s' => (∀ d ∈ ds, ∃ l : List Int, d = .list (l.map D.int) ∧ Okl l ∧ 0 < l.length) ∧ s' = lst a (.val (.int N)) (.val (.list (r.map D.int))) (.val (.int p)) (.val (.list ((putG r p).map D.int))) (.val (.int k)) (.val (.list ((rot r k).map D.int))) h i w1) ?_ ?_
        · intro K hK
          simp only [run, runF, DL.get, DL.put, puts, back, mC, mVar, mFzV, mFeed, frz, msN, msC, mBin, mUn, dAdd, dSub, dMul, dDiv, dMod, dPow, dNeg, dCmp, dLt, dLe, dGt, dGe, dEq, dNe, dIn, dIsN, dIsNotN, isN, dIs, dIsNot, dTab, flatD, okT, truth, tV, tB, tAnd, tOr, tNot, mAnd, mOr, mNot, mIf, mChain, mList, mTup, dIx, mSl, oN, oS, mRev, mRevTo, mCall, mCallF, dLen, dAbs, dInt, dMin2, dMax2, dList, dTup, dSum, dMin, dMax, dMinG, dMaxG, dAll, isTy, mIsI, gV, gSkip, gsN, gsC, gT, srcV, srcR1, srcR2, srcEnum, srcRev, mComp, tYes, isS, isL, mMS, mML, dIndexS, dIndexL, dIndexFrom, mMS2, dCount, dSplit, dJoin, sNil, sSeq, sSet, sAsg, sPar, sRet, retK, sRetN, sIf, sPass, sBrk, sCont, sNever, sExpr, sAug, ownAt, feedAt, intD, sApp, sExt, sSetI, sAugI, sFeed, sFeedA, popD, sPop, sAddPop, sFor, DL.W.set, DL.W.at, DL.R.d, okD, eqD_none_none, eqD_none_bool, eqD_none_int, eqD_none_str, eqD_none_list, eqD_none_tup, eqD_bool_none, eqD_bool_bool, eqD_bool_int, eqD_bool_str, eqD_bool_list, eqD_bool_tup, eqD_int_none, eqD_int_bool, eqD_int_int, eqD_int_str, eqD_int_list, eqD_int_tup, eqD_str_none, eqD_str_bool, eqD_str_int, eqD_str_str, eqD_str_list, eqD_str_tup, eqD_list_none, eqD_list_bool, eqD_list_int, eqD_list_str, eqD_list_list, eqD_list_tup, eqD_tup_none, eqD_tup_bool, eqD_tup_int, eqD_tup_str, eqD_tup_list, eqD_tup_tup, eqDs_nn, eqDs_cc, eqDs_nc, eqDs_cn, List.map_cons, List.map_nil, List.map, List.cons_append, List.nil_append, List.replicate, List.length_cons, List.length_nil, Nat.reduceAdd, Nat.reduceSub, List.all_cons, List.all_nil, Bool.and_true, Bool.true_and, true_and, and_true, atI_map, ex_map, ex_some, List.length_map, beq_int, decide_eq_true_eq, if_true, if_false, Bool.false_eq_true, if_pos, reduceIte, at0, at1, at2, at3, dP, mCallX, mCallB, peekA, evA, evAs, eq_self, sRaise0, sRaise1, sTry, caught, unslot, unheld, mXArg, mXIs, runX, List.contains_cons, List.contains_nil, Slot.isExn, String.reduceBEq, ex_arg, ex_valB, Bool.or_false, Bool.false_or, Bool.or_true, Bool.true_or, Bool.not_false, Bool.not_true, mComp2, dGcd, ar__law_draw, ar__law_drawn, ar__law_grown, ar__law_plain, ar__law_put, ar__law_right, ar_rest_times, ar_sign_times, ar__law_kept_right, ar__law_same, ar_rest_table, ar_kept_lines]
          have e2 : (List.replicate ((r.length : Int)).toNat [D.int 2]).flatten = (List.replicate r.length (2 : Int)).map D.int := by
            rw [Int.toNat_natCast, List.map_replicate]
            generalize r.length = k
            induction k with
            | zero => rfl
            | succ k ih => rw [List.replicate_succ, List.flatten_cons, ih, List.replicate_succ]; rfl
          refine ⟨by omega, by omega, by omega, by omega, hK _ _ ⟨fun d hd => ?_, rfl⟩⟩
          rw [e2] at hd
          simp only [List.mem_cons, List.not_mem_nil, or_false] at hd
          rcases hd with rfl | rfl | rfl | rfl
          · exact ⟨r, rfl, ok, r0⟩
          · exact ⟨_, rfl, tok, by omega⟩
          · exact ⟨_, rfl, mo, by omega⟩
          · exact ⟨_, rfl, two, by rw [List.length_replicate]; exact r0⟩
        rintro ds _ ⟨hds, rfl⟩
        refine forL_ix _ (fun _ s' => ∃ h, s' = lst a (.val (.int N)) (.val (.list (r.map D.int))) (.val (.int p)) (.val (.list ((putG r p).map D.int))) (.val (.int k)) (.val (.list ((rot r k).map D.int))) h i w1) ?_ ?_ _ ⟨_, rfl⟩
        · rintro n d _ hd ⟨h, rfl⟩ K hK
          obtain ⟨l, rfl, hl, l0⟩ := hds d (List.mem_of_getElem? hd)
          simp only [run, runF, DL.get, DL.put, puts, back, mC, mVar, mFzV, mFeed, frz, msN, msC, mBin, mUn, dAdd, dSub, dMul, dDiv, dMod, dPow, dNeg, dCmp, dLt, dLe, dGt, dGe, dEq, dNe, dIn, dIsN, dIsNotN, isN, dIs, dIsNot, dTab, flatD, okT, truth, tV, tB, tAnd, tOr, tNot, mAnd, mOr, mNot, mIf, mChain, mList, mTup, dIx, mSl, oN, oS, mRev, mRevTo, mCall, mCallF, dLen, dAbs, dInt, dMin2, dMax2, dList, dTup, dSum, dMin, dMax, dMinG, dMaxG, dAll, isTy, mIsI, gV, gSkip, gsN, gsC, gT, srcV, srcR1, srcR2, srcEnum, srcRev, mComp, tYes, isS, isL, mMS, mML, dIndexS, dIndexL, dIndexFrom, mMS2, dCount, dSplit, dJoin, sNil, sSeq, sSet, sAsg, sPar, sRet, retK, sRetN, sIf, sPass, sBrk, sCont, sNever, sExpr, sAug, ownAt, feedAt, intD, sApp, sExt, sSetI, sAugI, sFeed, sFeedA, popD, sPop, sAddPop, sFor, DL.W.set, DL.W.at, DL.R.d, okD, eqD_none_none, eqD_none_bool, eqD_none_int, eqD_none_str, eqD_none_list, eqD_none_tup, eqD_bool_none, eqD_bool_bool, eqD_bool_int, eqD_bool_str, eqD_bool_list, eqD_bool_tup, eqD_int_none, eqD_int_bool, eqD_int_int, eqD_int_str, eqD_int_list, eqD_int_tup, eqD_str_none, eqD_str_bool, eqD_str_int, eqD_str_str, eqD_str_list, eqD_str_tup, eqD_list_none, eqD_list_bool, eqD_list_int, eqD_list_str, eqD_list_list, eqD_list_tup, eqD_tup_none, eqD_tup_bool, eqD_tup_int, eqD_tup_str, eqD_tup_list, eqD_tup_tup, eqDs_nn, eqDs_cc, eqDs_nc, eqDs_cn, List.map_cons, List.map_nil, List.map, List.cons_append, List.nil_append, List.replicate, List.length_cons, List.length_nil, Nat.reduceAdd, Nat.reduceSub, List.all_cons, List.all_nil, Bool.and_true, Bool.true_and, true_and, and_true, atI_map, ex_map, ex_some, List.length_map, beq_int, decide_eq_true_eq, if_true, if_false, Bool.false_eq_true, if_pos, reduceIte, at0, at1, at2, at3, dP, mCallX, mCallB, peekA, evA, evAs, eq_self, sRaise0, sRaise1, sTry, caught, unslot, unheld, mXArg, mXIs, runX, List.contains_cons, List.contains_nil, Slot.isExn, String.reduceBEq, ex_arg, ex_valB, Bool.or_false, Bool.false_or, Bool.or_true, Bool.true_or, Bool.not_false, Bool.not_true, mComp2, dGcd, ar__law_draw, ar__law_drawn, ar__law_grown, ar__law_plain, ar__law_put, ar__law_right, ar_rest_times, ar_sign_times, ar__law_kept_right, ar__law_same, ar_rest_table, ar_kept_lines]
          refine ⟨l, rfl, l0, fun m _ _ => ?_⟩
          split
          · exact ⟨h2, h60, hl, hK _ ⟨_, rfl⟩⟩
          · exact hK _ ⟨_, rfl⟩
        · rintro _ ⟨h, rfl⟩
          exact hK _ ⟨_, rfl⟩
      rintro _ ⟨h, rfl⟩
      have ct := led_turn r k
      refine seq_cut (fun s' => s' = lst a (.val (.int N)) (.val (.list (r.map D.int))) (.val (.int p)) (.val (.list ((putG r p).map D.int))) (.val (.int k)) (.val (.list ((rot r k).map D.int))) h i w1) ?_ ?_
      · intro K hK
        simp only [run, runF, DL.get, DL.put, puts, back, mC, mVar, mFzV, mFeed, frz, msN, msC, mBin, mUn, dAdd, dSub, dMul, dDiv, dMod, dPow, dNeg, dCmp, dLt, dLe, dGt, dGe, dEq, dNe, dIn, dIsN, dIsNotN, isN, dIs, dIsNot, dTab, flatD, okT, truth, tV, tB, tAnd, tOr, tNot, mAnd, mOr, mNot, mIf, mChain, mList, mTup, dIx, mSl, oN, oS, mRev, mRevTo, mCall, mCallF, dLen, dAbs, dInt, dMin2, dMax2, dList, dTup, dSum, dMin, dMax, dMinG, dMaxG, dAll, isTy, mIsI, gV, gSkip, gsN, gsC, gT, srcV, srcR1, srcR2, srcEnum, srcRev, mComp, tYes, isS, isL, mMS, mML, dIndexS, dIndexL, dIndexFrom, mMS2, dCount, dSplit, dJoin, sNil, sSeq, sSet, sAsg, sPar, sRet, retK, sRetN, sIf, sPass, sBrk, sCont, sNever, sExpr, sAug, ownAt, feedAt, intD, sApp, sExt, sSetI, sAugI, sFeed, sFeedA, popD, sPop, sAddPop, sFor, DL.W.set, DL.W.at, DL.R.d, okD, eqD_none_none, eqD_none_bool, eqD_none_int, eqD_none_str, eqD_none_list, eqD_none_tup, eqD_bool_none, eqD_bool_bool, eqD_bool_int, eqD_bool_str, eqD_bool_list, eqD_bool_tup, eqD_int_none, eqD_int_bool, eqD_int_int, eqD_int_str, eqD_int_list, eqD_int_tup, eqD_str_none, eqD_str_bool, eqD_str_int, eqD_str_str, eqD_str_list, eqD_str_tup, eqD_list_none, eqD_list_bool, eqD_list_int, eqD_list_str, eqD_list_list, eqD_list_tup, eqD_tup_none, eqD_tup_bool, eqD_tup_int, eqD_tup_str, eqD_tup_list, eqD_tup_tup, eqDs_nn, eqDs_cc, eqDs_nc, eqDs_cn, List.map_cons, List.map_nil, List.map, List.cons_append, List.nil_append, List.replicate, List.length_cons, List.length_nil, Nat.reduceAdd, Nat.reduceSub, List.all_cons, List.all_nil, Bool.and_true, Bool.true_and, true_and, and_true, atI_map, ex_map, ex_some, List.length_map, beq_int, decide_eq_true_eq, if_true, if_false, Bool.false_eq_true, if_pos, reduceIte, at0, at1, at2, at3, dP, mCallX, mCallB, peekA, evA, evAs, eq_self, sRaise0, sRaise1, sTry, caught, unslot, unheld, mXArg, mXIs, runX, List.contains_cons, List.contains_nil, Slot.isExn, String.reduceBEq, ex_arg, ex_valB, Bool.or_false, Bool.false_or, Bool.or_true, Bool.true_or, Bool.not_false, Bool.not_true, mComp2, dGcd, ar__law_draw, ar__law_drawn, ar__law_grown, ar__law_plain, ar__law_put, ar__law_right, ar_rest_times, ar_sign_times, ar__law_kept_right, ar__law_same, ar_rest_table, ar_kept_lines]
        refine ⟨h2, h60, tok, fun j Fj => ⟨h2, h60, ok, fun j' Fj' => ?_⟩⟩
        have e : j = j' := Fj.uniq Fj' fun n => (conj_p1 ct.1 ct.2 n).symm
        subst e
        rw [if_neg (by rw [decide_eq_true rfl]; decide)]
        exact hK _ rfl
      rintro _ rfl
      obtain ⟨X, x1, x2⟩ := putG_conj r0 hp
      refine seq_cut (fun s' => s' = lst a (.val (.int N)) (.val (.list (r.map D.int))) (.val (.int p)) (.val (.list ((putG r p).map D.int))) (.val (.int k)) (.val (.list ((rot r k).map D.int))) h i w1) ?_ ?_
      · intro K hK
        simp only [run, runF, DL.get, DL.put, puts, back, mC, mVar, mFzV, mFeed, frz, msN, msC, mBin, mUn, dAdd, dSub, dMul, dDiv, dMod, dPow, dNeg, dCmp, dLt, dLe, dGt, dGe, dEq, dNe, dIn, dIsN, dIsNotN, isN, dIs, dIsNot, dTab, flatD, okT, truth, tV, tB, tAnd, tOr, tNot, mAnd, mOr, mNot, mIf, mChain, mList, mTup, dIx, mSl, oN, oS, mRev, mRevTo, mCall, mCallF, dLen, dAbs, dInt, dMin2, dMax2, dList, dTup, dSum, dMin, dMax, dMinG, dMaxG, dAll, isTy, mIsI, gV, gSkip, gsN, gsC, gT, srcV, srcR1, srcR2, srcEnum, srcRev, mComp, tYes, isS, isL, mMS, mML, dIndexS, dIndexL, dIndexFrom, mMS2, dCount, dSplit, dJoin, sNil, sSeq, sSet, sAsg, sPar, sRet, retK, sRetN, sIf, sPass, sBrk, sCont, sNever, sExpr, sAug, ownAt, feedAt, intD, sApp, sExt, sSetI, sAugI, sFeed, sFeedA, popD, sPop, sAddPop, sFor, DL.W.set, DL.W.at, DL.R.d, okD, eqD_none_none, eqD_none_bool, eqD_none_int, eqD_none_str, eqD_none_list, eqD_none_tup, eqD_bool_none, eqD_bool_bool, eqD_bool_int, eqD_bool_str, eqD_bool_list, eqD_bool_tup, eqD_int_none, eqD_int_bool, eqD_int_int, eqD_int_str, eqD_int_list, eqD_int_tup, eqD_str_none, eqD_str_bool, eqD_str_int, eqD_str_str, eqD_str_list, eqD_str_tup, eqD_list_none, eqD_list_bool, eqD_list_int, eqD_list_str, eqD_list_list, eqD_list_tup, eqD_tup_none, eqD_tup_bool, eqD_tup_int, eqD_tup_str, eqD_tup_list, eqD_tup_tup, eqDs_nn, eqDs_cc, eqDs_nc, eqDs_cn, List.map_cons, List.map_nil, List.map, List.cons_append, List.nil_append, List.replicate, List.length_cons, List.length_nil, Nat.reduceAdd, Nat.reduceSub, List.all_cons, List.all_nil, Bool.and_true, Bool.true_and, true_and, and_true, atI_map, ex_map, ex_some, List.length_map, beq_int, decide_eq_true_eq, if_true, if_false, Bool.false_eq_true, if_pos, reduceIte, at0, at1, at2, at3, dP, mCallX, mCallB, peekA, evA, evAs, eq_self, sRaise0, sRaise1, sTry, caught, unslot, unheld, mXArg, mXIs, runX, List.contains_cons, List.contains_nil, Slot.isExn, String.reduceBEq, ex_arg, ex_valB, Bool.or_false, Bool.false_or, Bool.or_true, Bool.true_or, Bool.not_false, Bool.not_true, mComp2, dGcd, ar__law_draw, ar__law_drawn, ar__law_grown, ar__law_plain, ar__law_put, ar__law_right, ar_rest_times, ar_sign_times, ar__law_kept_right, ar__law_same, ar_rest_table, ar_kept_lines]
        refine ⟨putG r p, rfl, by omega, fun m _ _ => ?_⟩
        split
        · refine ⟨h2, h60, mo, fun j Fj => ⟨h2, h60, ok, fun j' Fj' => ?_⟩⟩
          have e : j = j' := Fj.uniq Fj' fun n => conj_p2 x1 x2 n
          subst e
          rw [if_neg (by rw [decide_eq_true rfl]; decide)]
          exact hK _ rfl
        · exact hK _ rfl
      rintro _ rfl
      refine seq_cut (fun s' => ∃ (M : Nat) (w' : W), 2 ≤ M ∧ M ≤ 12 ∧ Wok w' ∧ s' = lst a (.val (.int N)) (.val (.list (r.map D.int))) (.val (.int p)) (.val (.list ((putG r p).map D.int))) (.val (.int k)) (.val (.list ((rot r k).map D.int))) h (.val (.int M)) w') ?_ ?_
      · intro K hK
        simp only [run, runF, DL.get, DL.put, puts, back, mC, mVar, mFzV, mFeed, frz, msN, msC, mBin, mUn, dAdd, dSub, dMul, dDiv, dMod, dPow, dNeg, dCmp, dLt, dLe, dGt, dGe, dEq, dNe, dIn, dIsN, dIsNotN, isN, dIs, dIsNot, dTab, flatD, okT, truth, tV, tB, tAnd, tOr, tNot, mAnd, mOr, mNot, mIf, mChain, mList, mTup, dIx, mSl, oN, oS, mRev, mRevTo, mCall, mCallF, dLen, dAbs, dInt, dMin2, dMax2, dList, dTup, dSum, dMin, dMax, dMinG, dMaxG, dAll, isTy, mIsI, gV, gSkip, gsN, gsC, gT, srcV, srcR1, srcR2, srcEnum, srcRev, mComp, tYes, isS, isL, mMS, mML, dIndexS, dIndexL, dIndexFrom, mMS2, dCount, dSplit, dJoin, sNil, sSeq, sSet, sAsg, sPar, sRet, retK, sRetN, sIf, sPass, sBrk, sCont, sNever, sExpr, sAug, ownAt, feedAt, intD, sApp, sExt, sSetI, sAugI, sFeed, sFeedA, popD, sPop, sAddPop, sFor, DL.W.set, DL.W.at, DL.R.d, okD, eqD_none_none, eqD_none_bool, eqD_none_int, eqD_none_str, eqD_none_list, eqD_none_tup, eqD_bool_none, eqD_bool_bool, eqD_bool_int, eqD_bool_str, eqD_bool_list, eqD_bool_tup, eqD_int_none, eqD_int_bool, eqD_int_int, eqD_int_str, eqD_int_list, eqD_int_tup, eqD_str_none, eqD_str_bool, eqD_str_int, eqD_str_str, eqD_str_list, eqD_str_tup, eqD_list_none, eqD_list_bool, eqD_list_int, eqD_list_str, eqD_list_list, eqD_list_tup, eqD_tup_none, eqD_tup_bool, eqD_tup_int, eqD_tup_str, eqD_tup_list, eqD_tup_tup, eqDs_nn, eqDs_cc, eqDs_nc, eqDs_cn, List.map_cons, List.map_nil, List.map, List.cons_append, List.nil_append, List.replicate, List.length_cons, List.length_nil, Nat.reduceAdd, Nat.reduceSub, List.all_cons, List.all_nil, Bool.and_true, Bool.true_and, true_and, and_true, atI_map, ex_map, ex_some, List.length_map, beq_int, decide_eq_true_eq, if_true, if_false, Bool.false_eq_true, if_pos, reduceIte, at0, at1, at2, at3, dP, mCallX, mCallB, peekA, evA, evAs, eq_self, sRaise0, sRaise1, sTry, caught, unslot, unheld, mXArg, mXIs, runX, List.contains_cons, List.contains_nil, Slot.isExn, String.reduceBEq, ex_arg, ex_valB, Bool.or_false, Bool.false_or, Bool.or_true, Bool.true_or, Bool.not_false, Bool.not_true, mComp2, dGcd, ar__law_draw, ar__law_drawn, ar__law_grown, ar__law_plain, ar__law_put, ar__law_right, ar_rest_times, ar_sign_times, ar__law_kept_right, ar__law_same, ar_rest_table, ar_kept_lines]
        exact ⟨by decide, by decide, hw1, fun y w3 y0 y1 hw3 => hK _ ⟨(2 + y).toNat, w3, by omega, by omega, hw3, by rw [Int.toNat_of_nonneg (by omega)]⟩⟩
      rintro _ ⟨M, w2, m2, m12, hw2, rfl⟩
      simp only [run, runF, DL.get, DL.put, puts, back, mC, mVar, mFzV, mFeed, frz, msN, msC, mBin, mUn, dAdd, dSub, dMul, dDiv, dMod, dPow, dNeg, dCmp, dLt, dLe, dGt, dGe, dEq, dNe, dIn, dIsN, dIsNotN, isN, dIs, dIsNot, dTab, flatD, okT, truth, tV, tB, tAnd, tOr, tNot, mAnd, mOr, mNot, mIf, mChain, mList, mTup, dIx, mSl, oN, oS, mRev, mRevTo, mCall, mCallF, dLen, dAbs, dInt, dMin2, dMax2, dList, dTup, dSum, dMin, dMax, dMinG, dMaxG, dAll, isTy, mIsI, gV, gSkip, gsN, gsC, gT, srcV, srcR1, srcR2, srcEnum, srcRev, mComp, tYes, isS, isL, mMS, mML, dIndexS, dIndexL, dIndexFrom, mMS2, dCount, dSplit, dJoin, sNil, sSeq, sSet, sAsg, sPar, sRet, retK, sRetN, sIf, sPass, sBrk, sCont, sNever, sExpr, sAug, ownAt, feedAt, intD, sApp, sExt, sSetI, sAugI, sFeed, sFeedA, popD, sPop, sAddPop, sFor, DL.W.set, DL.W.at, DL.R.d, okD, eqD_none_none, eqD_none_bool, eqD_none_int, eqD_none_str, eqD_none_list, eqD_none_tup, eqD_bool_none, eqD_bool_bool, eqD_bool_int, eqD_bool_str, eqD_bool_list, eqD_bool_tup, eqD_int_none, eqD_int_bool, eqD_int_int, eqD_int_str, eqD_int_list, eqD_int_tup, eqD_str_none, eqD_str_bool, eqD_str_int, eqD_str_str, eqD_str_list, eqD_str_tup, eqD_list_none, eqD_list_bool, eqD_list_int, eqD_list_str, eqD_list_list, eqD_list_tup, eqD_tup_none, eqD_tup_bool, eqD_tup_int, eqD_tup_str, eqD_tup_list, eqD_tup_tup, eqDs_nn, eqDs_cc, eqDs_nc, eqDs_cn, List.map_cons, List.map_nil, List.map, List.cons_append, List.nil_append, List.replicate, List.length_cons, List.length_nil, Nat.reduceAdd, Nat.reduceSub, List.all_cons, List.all_nil, Bool.and_true, Bool.true_and, true_and, and_true, atI_map, ex_map, ex_some, List.length_map, beq_int, decide_eq_true_eq, if_true, if_false, Bool.false_eq_true, if_pos, reduceIte, at0, at1, at2, at3, dP, mCallX, mCallB, peekA, evA, evAs, eq_self, sRaise0, sRaise1, sTry, caught, unslot, unheld, mXArg, mXIs, runX, List.contains_cons, List.contains_nil, Slot.isExn, String.reduceBEq, ex_arg, ex_valB, Bool.or_false, Bool.false_or, Bool.or_true, Bool.true_or, Bool.not_false, Bool.not_true, mComp2, dGcd, ar__law_draw, ar__law_drawn, ar__law_grown, ar__law_plain, ar__law_put, ar__law_right, ar_rest_times, ar_sign_times, ar__law_kept_right, ar__law_same, ar_rest_table, ar_kept_lines]
      exact ⟨m2, m12, ok, hK _ ⟨_, _, _, _, _, _, _, _, _, w2, hw2, rfl⟩⟩
    · rintro _ ⟨a, b, c, d, e, f, g, h, i, w1, hw1, rfl⟩
      exact hK _ ⟨a, b, c, d, e, f, g, h, i, w1, hw1, rfl⟩
  rintro _ ⟨a, b, c, d, e, f, g, h, i, w1, hw1, rfl⟩
  have o2 : Okl [2] := num_small (by decide) (by decide)
  have o3 : Okl [3] := num_small (by decide) (by decide)
  have o22 : Okl [2, 2] := num_small (by decide) (by decide)
  refine seq_cut (fun s' => ∃ w1, s' = lst a b c d e f g h i w1) ?_ ?_
  · intro K hK
    simp only [run, runF, DL.get, DL.put, puts, back, mC, mVar, mFzV, mFeed, frz, msN, msC, mBin, mUn, dAdd, dSub, dMul, dDiv, dMod, dPow, dNeg, dCmp, dLt, dLe, dGt, dGe, dEq, dNe, dIn, dIsN, dIsNotN, isN, dIs, dIsNot, dTab, flatD, okT, truth, tV, tB, tAnd, tOr, tNot, mAnd, mOr, mNot, mIf, mChain, mList, mTup, dIx, mSl, oN, oS, mRev, mRevTo, mCall, mCallF, dLen, dAbs, dInt, dMin2, dMax2, dList, dTup, dSum, dMin, dMax, dMinG, dMaxG, dAll, isTy, mIsI, gV, gSkip, gsN, gsC, gT, srcV, srcR1, srcR2, srcEnum, srcRev, mComp, tYes, isS, isL, mMS, mML, dIndexS, dIndexL, dIndexFrom, mMS2, dCount, dSplit, dJoin, sNil, sSeq, sSet, sAsg, sPar, sRet, retK, sRetN, sIf, sPass, sBrk, sCont, sNever, sExpr, sAug, ownAt, feedAt, intD, sApp, sExt, sSetI, sAugI, sFeed, sFeedA, popD, sPop, sAddPop, sFor, DL.W.set, DL.W.at, DL.R.d, okD, eqD_none_none, eqD_none_bool, eqD_none_int, eqD_none_str, eqD_none_list, eqD_none_tup, eqD_bool_none, eqD_bool_bool, eqD_bool_int, eqD_bool_str, eqD_bool_list, eqD_bool_tup, eqD_int_none, eqD_int_bool, eqD_int_int, eqD_int_str, eqD_int_list, eqD_int_tup, eqD_str_none, eqD_str_bool, eqD_str_int, eqD_str_str, eqD_str_list, eqD_str_tup, eqD_list_none, eqD_list_bool, eqD_list_int, eqD_list_str, eqD_list_list, eqD_list_tup, eqD_tup_none, eqD_tup_bool, eqD_tup_int, eqD_tup_str, eqD_tup_list, eqD_tup_tup, eqDs_nn, eqDs_cc, eqDs_nc, eqDs_cn, List.map_cons, List.map_nil, List.map, List.cons_append, List.nil_append, List.replicate, List.length_cons, List.length_nil, Nat.reduceAdd, Nat.reduceSub, List.all_cons, List.all_nil, Bool.and_true, Bool.true_and, true_and, and_true, atI_map, ex_map, ex_some, List.length_map, beq_int, decide_eq_true_eq, if_true, if_false, Bool.false_eq_true, if_pos, reduceIte, at0, at1, at2, at3, dP, mCallX, mCallB, peekA, evA, evAs, eq_self, sRaise0, sRaise1, sTry, caught, unslot, unheld, mXArg, mXIs, runX, List.contains_cons, List.contains_nil, Slot.isExn, String.reduceBEq, ex_arg, ex_valB, Bool.or_false, Bool.false_or, Bool.or_true, Bool.true_or, Bool.not_false, Bool.not_true, mComp2, dGcd, ar__law_draw, ar__law_drawn, ar__law_grown, ar__law_plain, ar__law_put, ar__law_right, ar_rest_times, ar_sign_times, ar__law_kept_right, ar__law_same, ar_rest_table, ar_kept_lines]
    refine ⟨by omega, by decide, by decide, hw1, fun y w2 y0 y1 hw2 => ?_⟩
    obtain ⟨M, hM⟩ : ∃ M : Nat, 2 + y = (M : Int) := ⟨(2 + y).toNat, by omega⟩
    rw [hM]
    refine Eq.mpr (ar__law_kept_right [2] M w2 _) ⟨by omega, by omega, o2, trivial, Eq.mpr (if_neg (by decide)) ⟨by omega, ?_⟩⟩
    exact Eq.mpr (ar__law_kept_right [3] 12 w2 _) ⟨by decide, by decide, o3, trivial, Eq.mpr (if_neg (by decide)) (hK _ ⟨_, rfl⟩)⟩
  rintro _ ⟨w1, rfl⟩
  have t1 : m4 ((2 : Nat) : Int) (tb [3]) = ⟨1, 1, 1, 0⟩ := by decide +kernel
  have t2 : keptL 2 (tb [2, 2]) = [0, 1, 2] := by decide +kernel
  have f1 : Fir (P1 ((2 : Nat) : Int) (tb [3])) 3 := fir_of (by decide) (by decide +kernel) (by decide +kernel)
  have f2 : Fir (P2 ((3 : Nat) : Int) (tb [3])) 2 := fir_of (by decide) (by decide +kernel) (by decide +kernel)
  have f3 : Fir (P1 ((3 : Nat) : Int) (tb [3])) 4 := fir_of (by decide) (by decide +kernel) (by decide +kernel)
  have f4 : Fir (P1 ((60 : Nat) : Int) (tb [2])) 60 := fir_of (by decide) (by decide +kernel) (by decide +kernel)
  refine seq_cut (fun s' => s' = lst a b c d e f g h i w1) ?_ ?_
  · intro K hK
    simp only [run, runF, DL.get, DL.put, puts, back, mC, mVar, mFzV, mFeed, frz, msN, msC, mBin, mUn, dAdd, dSub, dMul, dDiv, dMod, dPow, dNeg, dCmp, dLt, dLe, dGt, dGe, dEq, dNe, dIn, dIsN, dIsNotN, isN, dIs, dIsNot, dTab, flatD, okT, truth, tV, tB, tAnd, tOr, tNot, mAnd, mOr, mNot, mIf, mChain, mList, mTup, dIx, mSl, oN, oS, mRev, mRevTo, mCall, mCallF, dLen, dAbs, dInt, dMin2, dMax2, dList, dTup, dSum, dMin, dMax, dMinG, dMaxG, dAll, isTy, mIsI, gV, gSkip, gsN, gsC, gT, srcV, srcR1, srcR2, srcEnum, srcRev, mComp, tYes, isS, isL, mMS, mML, dIndexS, dIndexL, dIndexFrom, mMS2, dCount, dSplit, dJoin, sNil, sSeq, sSet, sAsg, sPar, sRet, retK, sRetN, sIf, sPass, sBrk, sCont, sNever, sExpr, sAug, ownAt, feedAt, intD, sApp, sExt, sSetI, sAugI, sFeed, sFeedA, popD, sPop, sAddPop, sFor, DL.W.set, DL.W.at, DL.R.d, okD, eqD_none_none, eqD_none_bool, eqD_none_int, eqD_none_str, eqD_none_list, eqD_none_tup, eqD_bool_none, eqD_bool_bool, eqD_bool_int, eqD_bool_str, eqD_bool_list, eqD_bool_tup, eqD_int_none, eqD_int_bool, eqD_int_int, eqD_int_str, eqD_int_list, eqD_int_tup, eqD_str_none, eqD_str_bool, eqD_str_int, eqD_str_str, eqD_str_list, eqD_str_tup, eqD_list_none, eqD_list_bool, eqD_list_int, eqD_list_str, eqD_list_list, eqD_list_tup, eqD_tup_none, eqD_tup_bool, eqD_tup_int, eqD_tup_str, eqD_tup_list, eqD_tup_tup, eqDs_nn, eqDs_cc, eqDs_nc, eqDs_cn, List.map_cons, List.map_nil, List.map, List.cons_append, List.nil_append, List.replicate, List.length_cons, List.length_nil, Nat.reduceAdd, Nat.reduceSub, List.all_cons, List.all_nil, Bool.and_true, Bool.true_and, true_and, and_true, atI_map, ex_map, ex_some, List.length_map, beq_int, decide_eq_true_eq, if_true, if_false, Bool.false_eq_true, if_pos, reduceIte, at0, at1, at2, at3, dP, mCallX, mCallB, peekA, evA, evAs, eq_self, sRaise0, sRaise1, sTry, caught, unslot, unheld, mXArg, mXIs, runX, List.contains_cons, List.contains_nil, Slot.isExn, String.reduceBEq, ex_arg, ex_valB, Bool.or_false, Bool.false_or, Bool.or_true, Bool.true_or, Bool.not_false, Bool.not_true, mComp2, dGcd, ar__law_draw, ar__law_drawn, ar__law_grown, ar__law_plain, ar__law_put, ar__law_right, ar_rest_times, ar_sign_times, ar__law_kept_right, ar__law_same, ar_rest_table, ar_kept_lines]
    refine ⟨by omega, Eq.mpr (ar_rest_table [3] 2 w1 _) ⟨by decide, o3, ?_⟩⟩
    rw [t1]
    refine ⟨by omega, rfl, shp_M 4 ⟨1, 1, 1, 0⟩, by omega, Eq.mpr (ar_kept_lines [2, 2] 2 w1 _) ⟨by decide, by decide, o22, ?_⟩⟩
    rw [t2]
    exact ⟨by omega, rfl, shp_ints [0, 1, 2] 4 (by decide), hK _ rfl⟩
  rintro _ rfl
  simp only [run, runF, DL.get, DL.put, puts, back, mC, mVar, mFzV, mFeed, frz, msN, msC, mBin, mUn, dAdd, dSub, dMul, dDiv, dMod, dPow, dNeg, dCmp, dLt, dLe, dGt, dGe, dEq, dNe, dIn, dIsN, dIsNotN, isN, dIs, dIsNot, dTab, flatD, okT, truth, tV, tB, tAnd, tOr, tNot, mAnd, mOr, mNot, mIf, mChain, mList, mTup, dIx, mSl, oN, oS, mRev, mRevTo, mCall, mCallF, dLen, dAbs, dInt, dMin2, dMax2, dList, dTup, dSum, dMin, dMax, dMinG, dMaxG, dAll, isTy, mIsI, gV, gSkip, gsN, gsC, gT, srcV, srcR1, srcR2, srcEnum, srcRev, mComp, tYes, isS, isL, mMS, mML, dIndexS, dIndexL, dIndexFrom, mMS2, dCount, dSplit, dJoin, sNil, sSeq, sSet, sAsg, sPar, sRet, retK, sRetN, sIf, sPass, sBrk, sCont, sNever, sExpr, sAug, ownAt, feedAt, intD, sApp, sExt, sSetI, sAugI, sFeed, sFeedA, popD, sPop, sAddPop, sFor, DL.W.set, DL.W.at, DL.R.d, okD, eqD_none_none, eqD_none_bool, eqD_none_int, eqD_none_str, eqD_none_list, eqD_none_tup, eqD_bool_none, eqD_bool_bool, eqD_bool_int, eqD_bool_str, eqD_bool_list, eqD_bool_tup, eqD_int_none, eqD_int_bool, eqD_int_int, eqD_int_str, eqD_int_list, eqD_int_tup, eqD_str_none, eqD_str_bool, eqD_str_int, eqD_str_str, eqD_str_list, eqD_str_tup, eqD_list_none, eqD_list_bool, eqD_list_int, eqD_list_str, eqD_list_list, eqD_list_tup, eqD_tup_none, eqD_tup_bool, eqD_tup_int, eqD_tup_str, eqD_tup_list, eqD_tup_tup, eqDs_nn, eqDs_cc, eqDs_nc, eqDs_cn, List.map_cons, List.map_nil, List.map, List.cons_append, List.nil_append, List.replicate, List.length_cons, List.length_nil, Nat.reduceAdd, Nat.reduceSub, List.all_cons, List.all_nil, Bool.and_true, Bool.true_and, true_and, and_true, atI_map, ex_map, ex_some, List.length_map, beq_int, decide_eq_true_eq, if_true, if_false, Bool.false_eq_true, if_pos, reduceIte, at0, at1, at2, at3, dP, mCallX, mCallB, peekA, evA, evAs, eq_self, sRaise0, sRaise1, sTry, caught, unslot, unheld, mXArg, mXIs, runX, List.contains_cons, List.contains_nil, Slot.isExn, String.reduceBEq, ex_arg, ex_valB, Bool.or_false, Bool.false_or, Bool.or_true, Bool.true_or, Bool.not_false, Bool.not_true, mComp2, dGcd, ar__law_draw, ar__law_drawn, ar__law_grown, ar__law_plain, ar__law_put, ar__law_right, ar_rest_times, ar_sign_times, ar__law_kept_right, ar__law_same, ar_rest_table, ar_kept_lines]
  refine ⟨by omega, Eq.mpr (ar_rest_times [3] 2 w1 _) ⟨by decide, by decide, o3, fun k1 F1 => ?_⟩⟩
  rw [F1.uniq f1 fun _ => Iff.rfl]
  refine ⟨by omega, Eq.mpr (ar_sign_times [3] 3 w1 _) ⟨by decide, by decide, o3, fun k2 F2 => ?_⟩⟩
  rw [F2.uniq f2 fun _ => Iff.rfl]
  refine ⟨by omega, Eq.mpr (ar_rest_times [3] 3 w1 _) ⟨by decide, by decide, o3, fun k3 F3 => ?_⟩⟩
  rw [F3.uniq f3 fun _ => Iff.rfl]
  refine ⟨by omega, Eq.mpr (ar_rest_times [2] 60 w1 _) ⟨by decide, by decide, o2, fun k4 F4 => ?_⟩⟩
  rw [F4.uniq f4 fun _ => Iff.rfl]
  exact ⟨by omega, by omega, rfl, shp_ints [3, 2, 4, 60] 4 (by decide)⟩

end K30

/-! The defs walk. -/
namespace K30
open PySem PySem.Spec PyProof.Rows L2 DL

def topS (i : Nat) : Stmt := PySem.Challenge.pw_ringlands_k30_whole_rests_of_rings.main.body.getD i (.Pass ⟨0, 0, 0, 0⟩)
section
variable {P : Program} {w : World} {K : PySem.W.Frag} {mg : Str → Option Value} {base : Heap}
abbrev s__law_feed : Stmt := topS 17
abbrev n__law_feed : List Str := ["script"]
theorem sc__law_feed : FnScope ["script"] ["script"] (defScope s__law_feed) := ⟨rfl, rfl, rfl, by decide +kernel, rfl, by decide +kernel, by decide +kernel⟩
abbrev s__law_same : Stmt := topS 21
abbrev n__law_same : List Str := ["actual", "due", "k"]
theorem sc__law_same : FnScope ["actual", "due", "k"] ["actual", "due"] (defScope s__law_same) := ⟨rfl, rfl, rfl, by decide +kernel, rfl, by decide +kernel, by decide +kernel⟩
theorem w__law_same {g__law_same : Sem} {f : Addr} {cdv : Value} {A : Around} {outer : List PySem.Env} {s : Shared} {H : Hp} {E : XK} {c : Ct} (k__law_same : Kn (bodyCx P w K mg base n__law_same "_law_same" (defScope s__law_same) f cdv A outer s H E) "_law_same" (spD K g__law_same)) (ok : Ok (bodyCx P w K mg base n__law_same "_law_same" (defScope s__law_same) f cdv A outer s H E) c) :
  PSs (bodyCx P w K mg base n__law_same "_law_same" (defScope s__law_same) f cdv A outer s H E) (defBody s__law_same) (tS c (b__law_same g__law_same)) := by
  exact (dss_cons (ds_if (PW.pt (dw_or (dt_val (de_isI .list (de_var 1) (by decide +kernel))) (dw_or1 (dt_val (de_isI .tuple (de_var 1) (by decide +kernel))))))
  (dss_cons (ds_if (PW.pt (dw_or (dt_ne (de_isI .list (de_var 0) (by decide +kernel)) (de_isI .list (de_var 1) (by decide +kernel))) (dw_or1 (dt_ne (de_isI .tuple (de_var 0) (by decide +kernel)) (de_isI .tuple (de_var 1) (by decide +kernel))))))
  (dss_one (ds_ret de_bool))
  dss_nil)
  (dss_one (ds_ret (de_and (de_eq (de_len (de_var 0)) (de_len (de_var 1))) (de_one (de_all (de_comp [("k", 2)] (ds_range1 (de_len (de_var 1))) (show blkC n__law_same (defScope s__law_same) _ _ = true by decide +kernel) (fun _ _ _ _ _ _ _ => (dg_name 2)) (fun _ _ _ _ _ _ _ => (tYesT _)) (fun _ _ _ _ _ _ _ => (de_call ⟨k__law_same.ex⟩ (da_cons (de_ix (de_var 0) (de_var 2)) (da_cons (de_ix (de_var 1) (de_var 2)) da_nil)))))))))))
  dss_nil)
  (dss_cons (ds_if (PW.pt (dw_or (dt_isN (de_var 1)) (dw_or1 (dt_val (de_isI .bool (de_var 1) (by decide +kernel))))))
  (dss_one (ds_ret (de_if (dt_isN (de_var 1)) (de_isN (de_var 0)) (de_and (de_isI .bool (de_var 0) (by decide +kernel)) (de_one (de_eq (de_var 0) (de_var 1)))))))
  dss_nil)
  (dss_cons (ds_if (dt_val (de_isI .str (de_var 1) (by decide +kernel)))
  (dss_one (ds_ret (de_and (de_isI .str (de_var 0) (by decide +kernel)) (de_one (de_eq (de_var 0) (de_var 1))))))
  dss_nil)
  (dss_one (ds_ret (de_and (de_isI .int (de_var 0) (by decide +kernel)) (de_and (de_not (de_isI .bool (de_var 0) (by decide +kernel))) (de_one (de_eq (de_var 0) (de_var 1))))))))))
abbrev s__law_draw : Stmt := topS 18
abbrev n__law_draw : List Str := ["feed", "many", "cell", "told", "mixed"]
theorem sc__law_draw : FnScope ["feed", "many", "cell", "told", "mixed"] ["feed", "many"] (defScope s__law_draw) := ⟨rfl, rfl, rfl, by decide +kernel, rfl, by decide +kernel, by decide +kernel⟩
theorem w__law_draw {f : Addr} {cdv : Value} {A : Around} {outer : List PySem.Env} {s : Shared} {H : Hp} {E : XK} {c : Ct} (ok : Ok (bodyCx P w K mg base n__law_draw "_law_draw" (defScope s__law_draw) f cdv A outer s H E) c) :
  PSs (bodyCx P w K mg base n__law_draw "_law_draw" (defScope s__law_draw) f cdv A outer s H E) (defBody s__law_draw) (tS c (b__law_draw)) := by
  exact (dss_cons (ds_if (PW.pt (dw_and (dt_eq (de_feed 0 2) de_int) (dw_and1 (dt_lt (de_feed 0 1) (de_len (de_feed 0 0))))))
  (dss_cons (ds_set 2 (de_abs (de_toInt (de_ix (de_feed 0 0) (de_feed 0 1)))))
  (dss_cons (ds_feedA 0 1)
  (dss_one (ds_if (dt_ge (de_var 2) (de_pow de_int de_int))
  (dss_one (ds_feed 0 2 (de_fz 2)))
  (dss_one (ds_feed 0 3 (de_mod (de_toInt (de_add (de_add (de_mul (de_feed 0 3) de_int) (de_mul (de_var 2) de_int)) (de_feed 0 1))) de_int)))))))
  dss_nil)
  (dss_cons (ds_if (dt_gt (de_feed 0 2) de_int)
  (dss_cons (ds_set 3 (de_mod (de_toInt (de_feed 0 2)) (de_var 1)))
  (dss_cons (ds_feed 0 2 (de_div (de_feed 0 2) (de_var 1)))
  (dss_one (ds_ret (de_var 3)))))
  dss_nil)
  (dss_cons (ds_feed 0 3 (de_mod (de_toInt (de_add (de_mul (de_feed 0 3) de_int) de_int)) de_int))
  (dss_cons (ds_set 4 (de_mod (de_toInt (de_add (de_mul (de_feed 0 3) (de_feed 0 3)) (de_feed 0 3))) de_int))
  (dss_one (ds_ret (de_mod (de_div (de_var 4) de_int) (de_var 1))))))))
abbrev s__law_drawn : Stmt := topS 22
abbrev n__law_drawn : List Str := ["feed", "most", "top", "k"]
theorem sc__law_drawn : FnScope ["feed", "most", "top", "k"] ["feed", "most"] (defScope s__law_drawn) := ⟨rfl, rfl, rfl, by decide +kernel, rfl, by decide +kernel, by decide +kernel⟩
theorem w__law_drawn {g__law_draw : Sem} {f : Addr} {cdv : Value} {A : Around} {outer : List PySem.Env} {s : Shared} {H : Hp} {E : XK} {c : Ct} (k__law_draw : Kn (bodyCx P w K mg base n__law_drawn "_law_drawn" (defScope s__law_drawn) f cdv A outer s H E) "_law_draw" (spF K g__law_draw)) (ok : Ok (bodyCx P w K mg base n__law_drawn "_law_drawn" (defScope s__law_drawn) f cdv A outer s H E) c) :
  PSs (bodyCx P w K mg base n__law_drawn "_law_drawn" (defScope s__law_drawn) f cdv A outer s H E) (defBody s__law_drawn) (tS c (b__law_drawn g__law_draw)) := by
  exact (dss_cons (ds_set 2 (de_ix (de_list (da_cons de_int (da_cons de_int (da_cons de_int da_nil)))) (de_callF 0 k__law_draw (da_cons de_int da_nil))))
  (dss_one (ds_ret (de_comp [("k", 3)] (ds_range1 (de_add de_int (de_callF 0 k__law_draw (da_cons (de_fz 1) da_nil)))) (show blkC n__law_drawn (defScope s__law_drawn) _ _ = true by decide +kernel) (fun _ _ _ _ _ _ _ => (dg_name 3)) (fun _ _ _ _ _ _ _ => (tYesT _)) (fun _ _ _ _ _ _ _ => (de_add de_int (de_callF 0 ⟨k__law_draw.ex⟩ (da_cons (de_fz 2) da_nil))))))))
abbrev s__law_put : Stmt := topS 23
abbrev n__law_put : List Str := ["ring", "gap", "many", "found"]
theorem sc__law_put : FnScope ["ring", "gap", "many", "found"] ["ring", "gap"] (defScope s__law_put) := ⟨rfl, rfl, rfl, by decide +kernel, rfl, by decide +kernel, by decide +kernel⟩
theorem w__law_put {f : Addr} {cdv : Value} {A : Around} {outer : List PySem.Env} {s : Shared} {H : Hp} {E : XK} {c : Ct} (ok : Ok (bodyCx P w K mg base n__law_put "_law_put" (defScope s__law_put) f cdv A outer s H E) c) :
  PSs (bodyCx P w K mg base n__law_put "_law_put" (defScope s__law_put) f cdv A outer s H E) (defBody s__law_put) (tS c (b__law_put)) := by
  exact (dss_cons (ds_set 2 (de_len (de_var 0)))
  (dss_cons (ds_set 3 (de_toList (de_var 0)))
  (dss_cons (ds_augI 3 ip_add (de_sub (de_var 1) de_int) de_int)
  (dss_cons (ds_augI 3 ip_add (de_mod (de_toInt (de_var 1)) (de_var 2)) de_int)
  (dss_one (ds_ret (de_add (de_add (de_slice (de_var 3) do_none (do_some (de_var 1))) (de_list (da_cons de_int da_nil))) (de_slice (de_var 3) (do_some (de_var 1)) do_none))))))))
abbrev s__law_grown : Stmt := topS 24
abbrev n__law_grown : List Str := ["feed", "ring", "most", "found", "step"]
theorem sc__law_grown : FnScope ["feed", "ring", "most", "found", "step"] ["feed", "ring", "most"] (defScope s__law_grown) := ⟨rfl, rfl, rfl, by decide +kernel, rfl, by decide +kernel, by decide +kernel⟩
theorem w__law_grown {g__law_draw : Sem} {g__law_put : Sem} {f : Addr} {cdv : Value} {A : Around} {outer : List PySem.Env} {s : Shared} {H : Hp} {E : XK} {c : Ct} (k__law_draw : Kn (bodyCx P w K mg base n__law_grown "_law_grown" (defScope s__law_grown) f cdv A outer s H E) "_law_draw" (spF K g__law_draw)) (k__law_put : Kn (bodyCx P w K mg base n__law_grown "_law_grown" (defScope s__law_grown) f cdv A outer s H E) "_law_put" (spD K g__law_put)) (ok : Ok (bodyCx P w K mg base n__law_grown "_law_grown" (defScope s__law_grown) f cdv A outer s H E) c) :
  PSs (bodyCx P w K mg base n__law_grown "_law_grown" (defScope s__law_grown) f cdv A outer s H E) (defBody s__law_grown) (tS c (b__law_grown g__law_draw g__law_put)) := by
  exact (dss_cons (ds_set 3 (de_toList (de_var 1)))
  (dss_cons (ds_for PassesOwn.never (ds_range1 (de_callF 0 k__law_draw (da_cons (de_fz 2) da_nil))) (dg_name 4)
  (dss_one (ds_if (dt_lt (de_len (de_var 3)) (de_var 2))
  (dss_one (ds_set 3 (de_call k__law_put (da_cons (de_fz 3) (da_cons (de_callF 0 k__law_draw (da_cons (de_add (de_len (de_var 3)) de_int) da_nil)) da_nil)))))
  dss_nil)))
  (dss_one (ds_ret (de_var 3)))))
abbrev s_rests_of : Stmt := topS 9
abbrev n_rests_of : List Str := ["N", "table", "p", "q", "r", "s"]
theorem sc_rests_of : FnScope ["N", "table", "p", "q", "r", "s"] ["N", "table"] (defScope s_rests_of) := ⟨rfl, rfl, rfl, by decide +kernel, rfl, by decide +kernel, by decide +kernel⟩
theorem w_rests_of {f : Addr} {cdv : Value} {A : Around} {outer : List PySem.Env} {s : Shared} {H : Hp} {E : XK} {c : Ct} (ok : Ok (bodyCx P w K mg base n_rests_of "rests_of" (defScope s_rests_of) f cdv A outer s H E) c) :
  PSs (bodyCx P w K mg base n_rests_of "rests_of" (defScope s_rests_of) f cdv A outer s H E) (defBody s_rests_of) (tS c (b_rests_of)) := by
  exact (dss_cons (ds_asg (de_fz 1) (dg_tup (dgs_cons (dg_name 2) (dgs_cons (dg_name 3) (dgs_cons (dg_name 4) (dgs_cons (dg_name 5) dgs_nil))))))
  (dss_one (ds_ret (de_tup (da_cons (de_mod (de_var 2) (de_var 0)) (da_cons (de_mod (de_var 3) (de_var 0)) (da_cons (de_mod (de_var 4) (de_var 0)) (da_cons (de_mod (de_var 5) (de_var 0)) da_nil))))))))
abbrev s_multiplied : Stmt := topS 4
abbrev n_multiplied : List Str := ["one", "other", "p", "q", "r", "s", "t", "u", "v", "w"]
theorem sc_multiplied : FnScope ["one", "other", "p", "q", "r", "s", "t", "u", "v", "w"] ["one", "other"] (defScope s_multiplied) := ⟨rfl, rfl, rfl, by decide +kernel, rfl, by decide +kernel, by decide +kernel⟩
theorem w_multiplied {f : Addr} {cdv : Value} {A : Around} {outer : List PySem.Env} {s : Shared} {H : Hp} {E : XK} {c : Ct} (ok : Ok (bodyCx P w K mg base n_multiplied "multiplied" (defScope s_multiplied) f cdv A outer s H E) c) :
  PSs (bodyCx P w K mg base n_multiplied "multiplied" (defScope s_multiplied) f cdv A outer s H E) (defBody s_multiplied) (tS c (b_multiplied)) := by
  exact (dss_cons (ds_asg (de_fz 0) (dg_tup (dgs_cons (dg_name 2) (dgs_cons (dg_name 3) (dgs_cons (dg_name 4) (dgs_cons (dg_name 5) dgs_nil))))))
  (dss_cons (ds_asg (de_fz 1) (dg_tup (dgs_cons (dg_name 6) (dgs_cons (dg_name 7) (dgs_cons (dg_name 8) (dgs_cons (dg_name 9) dgs_nil))))))
  (dss_one (ds_ret (de_tup (da_cons (de_add (de_mul (de_var 2) (de_var 6)) (de_mul (de_var 3) (de_var 8))) (da_cons (de_add (de_mul (de_var 2) (de_var 7)) (de_mul (de_var 3) (de_var 9))) (da_cons (de_add (de_mul (de_var 4) (de_var 6)) (de_mul (de_var 5) (de_var 8))) (da_cons (de_add (de_mul (de_var 4) (de_var 7)) (de_mul (de_var 5) (de_var 9))) da_nil)))))))))
abbrev s_times_to : Stmt := topS 12
abbrev n_times_to : List Str := ["table", "N", "goals", "power", "times"]
theorem sc_times_to : FnScope ["table", "N", "goals", "power", "times"] ["table", "N", "goals"] (defScope s_times_to) := ⟨rfl, rfl, rfl, by decide +kernel, rfl, by decide +kernel, by decide +kernel⟩
theorem w_times_to {g_rests_of : Sem} {g_multiplied : Sem} {f : Addr} {cdv : Value} {A : Around} {outer : List PySem.Env} {s : Shared} {H : Hp} {E : XK} {c : Ct} (k_rests_of : Kn (bodyCx P w K mg base n_times_to "times_to" (defScope s_times_to) f cdv A outer s H E) "rests_of" (spD K g_rests_of)) (k_multiplied : Kn (bodyCx P w K mg base n_times_to "times_to" (defScope s_times_to) f cdv A outer s H E) "multiplied" (spD K g_multiplied)) (ok : Ok (bodyCx P w K mg base n_times_to "times_to" (defScope s_times_to) f cdv A outer s H E) c) :
  PSs (bodyCx P w K mg base n_times_to "times_to" (defScope s_times_to) f cdv A outer s H E) (defBody s_times_to) (tS c (b_times_to g_rests_of g_multiplied)) := by
  exact (dss_cons (ds_set 3 (de_fz 0))
  (dss_cons (ds_set 4 de_int)
  (dss_cons (ds_while PassesOwn.never (dt_notIn (de_var 3) (de_var 2))
  (dss_cons (ds_set 3 (de_call k_rests_of (da_cons (de_fz 1) (da_cons (de_call k_multiplied (da_cons (de_fz 3) (da_cons (de_fz 0) da_nil))) da_nil))))
  (dss_one (ds_aug 4 ip_add de_int))))
  (dss_one (ds_ret (de_var 4))))))
abbrev s_turned_by : Stmt := topS 5
abbrev n_turned_by : List Str := ["numbers", "table", "number"]
theorem sc_turned_by : FnScope ["numbers", "table", "number"] ["numbers"] (defScope s_turned_by) := ⟨rfl, rfl, rfl, by decide +kernel, rfl, by decide +kernel, by decide +kernel⟩
theorem w_turned_by {g_multiplied : Sem} {f : Addr} {cdv : Value} {A : Around} {outer : List PySem.Env} {s : Shared} {H : Hp} {E : XK} {c : Ct} (hc_NOTHING : KC K mg "NOTHING" c_NOTHING) (k_multiplied : Kn (bodyCx P w K mg base n_turned_by "turned_by" (defScope s_turned_by) f cdv A outer s H E) "multiplied" (spD K g_multiplied)) (ok : Ok (bodyCx P w K mg base n_turned_by "turned_by" (defScope s_turned_by) f cdv A outer s H E) c) :
  PSs (bodyCx P w K mg base n_turned_by "turned_by" (defScope s_turned_by) f cdv A outer s H E) (defBody s_turned_by) (tS c (b_turned_by g_multiplied)) := by
  exact (dss_cons (ds_set 1 (de_globK hc_NOTHING))
  (dss_cons (ds_for PassesOwn.never (ds_val (de_fz 0)) (dg_name 2)
  (dss_one (ds_set 1 (de_call k_multiplied (da_cons (de_fz 1) (da_cons (de_tup (da_cons (de_fz 2) (da_cons (de_neg de_int) (da_cons de_int (da_cons de_int da_nil))))) da_nil))))))
  (dss_one (ds_ret (de_var 1)))))
abbrev s_rest_table : Stmt := topS 11
abbrev n_rest_table : List Str := ["ring", "N"]
theorem sc_rest_table : FnScope ["ring", "N"] ["ring", "N"] (defScope s_rest_table) := ⟨rfl, rfl, rfl, by decide +kernel, rfl, by decide +kernel, by decide +kernel⟩
theorem w_rest_table {g_rests_of : Sem} {g_turned_by : Sem} {f : Addr} {cdv : Value} {A : Around} {outer : List PySem.Env} {s : Shared} {H : Hp} {E : XK} {c : Ct} (k_rests_of : Kn (bodyCx P w K mg base n_rest_table "rest_table" (defScope s_rest_table) f cdv A outer s H E) "rests_of" (spD K g_rests_of)) (k_turned_by : Kn (bodyCx P w K mg base n_rest_table "rest_table" (defScope s_rest_table) f cdv A outer s H E) "turned_by" (spD K g_turned_by)) (ok : Ok (bodyCx P w K mg base n_rest_table "rest_table" (defScope s_rest_table) f cdv A outer s H E) c) :
  PSs (bodyCx P w K mg base n_rest_table "rest_table" (defScope s_rest_table) f cdv A outer s H E) (defBody s_rest_table) (tS c (b_rest_table g_rests_of g_turned_by)) := by
  exact (dss_one (ds_ret (de_call k_rests_of (da_cons (de_fz 1) (da_cons (de_call k_turned_by (da_cons (de_fz 0) da_nil)) da_nil)))))
abbrev s_rest_times : Stmt := topS 13
abbrev n_rest_times : List Str := ["ring", "N"]
theorem sc_rest_times : FnScope ["ring", "N"] ["ring", "N"] (defScope s_rest_times) := ⟨rfl, rfl, rfl, by decide +kernel, rfl, by decide +kernel, by decide +kernel⟩
theorem w_rest_times {g_times_to : Sem} {g_rest_table : Sem} {g_rests_of : Sem} {f : Addr} {cdv : Value} {A : Around} {outer : List PySem.Env} {s : Shared} {H : Hp} {E : XK} {c : Ct} (hc_NOTHING : KC K mg "NOTHING" c_NOTHING) (k_times_to : Kn (bodyCx P w K mg base n_rest_times "rest_times" (defScope s_rest_times) f cdv A outer s H E) "times_to" (spD K g_times_to)) (k_rest_table : Kn (bodyCx P w K mg base n_rest_times "rest_times" (defScope s_rest_times) f cdv A outer s H E) "rest_table" (spD K g_rest_table)) (k_rests_of : Kn (bodyCx P w K mg base n_rest_times "rest_times" (defScope s_rest_times) f cdv A outer s H E) "rests_of" (spD K g_rests_of)) (ok : Ok (bodyCx P w K mg base n_rest_times "rest_times" (defScope s_rest_times) f cdv A outer s H E) c) :
  PSs (bodyCx P w K mg base n_rest_times "rest_times" (defScope s_rest_times) f cdv A outer s H E) (defBody s_rest_times) (tS c (b_rest_times g_times_to g_rest_table g_rests_of)) := by
  exact (dss_one (ds_ret (de_call k_times_to (da_cons (de_call k_rest_table (da_cons (de_fz 0) (da_cons (de_fz 1) da_nil))) (da_cons (de_fz 1) (da_cons (de_list (da_cons (de_call k_rests_of (da_cons (de_fz 1) (da_cons (de_globK hc_NOTHING) da_nil))) da_nil)) da_nil))))))
abbrev s__law_times : Stmt := topS 19
abbrev n__law_times : List Str := ["one", "other", "p", "q", "r", "s"]
theorem sc__law_times : FnScope ["one", "other", "p", "q", "r", "s"] ["one", "other"] (defScope s__law_times) := ⟨rfl, rfl, rfl, by decide +kernel, rfl, by decide +kernel, by decide +kernel⟩
theorem w__law_times {f : Addr} {cdv : Value} {A : Around} {outer : List PySem.Env} {s : Shared} {H : Hp} {E : XK} {c : Ct} (ok : Ok (bodyCx P w K mg base n__law_times "_law_times" (defScope s__law_times) f cdv A outer s H E) c) :
  PSs (bodyCx P w K mg base n__law_times "_law_times" (defScope s__law_times) f cdv A outer s H E) (defBody s__law_times) (tS c (b__law_times)) := by
  exact (dss_cons (ds_set 2 (de_add (de_mul (de_ix (de_var 0) de_int) (de_ix (de_var 1) de_int)) (de_mul (de_ix (de_var 0) de_int) (de_ix (de_var 1) de_int))))
  (dss_cons (ds_set 3 (de_add (de_mul (de_ix (de_var 0) de_int) (de_ix (de_var 1) de_int)) (de_mul (de_ix (de_var 0) de_int) (de_ix (de_var 1) de_int))))
  (dss_cons (ds_set 4 (de_add (de_mul (de_ix (de_var 0) de_int) (de_ix (de_var 1) de_int)) (de_mul (de_ix (de_var 0) de_int) (de_ix (de_var 1) de_int))))
  (dss_cons (ds_set 5 (de_add (de_mul (de_ix (de_var 0) de_int) (de_ix (de_var 1) de_int)) (de_mul (de_ix (de_var 0) de_int) (de_ix (de_var 1) de_int))))
  (dss_one (ds_ret (de_tup (da_cons (de_fz 2) (da_cons (de_fz 3) (da_cons (de_fz 4) (da_cons (de_fz 5) da_nil)))))))))))
abbrev s__law_table : Stmt := topS 20
abbrev n__law_table : List Str := ["ring", "table", "number"]
theorem sc__law_table : FnScope ["ring", "table", "number"] ["ring"] (defScope s__law_table) := ⟨rfl, rfl, rfl, by decide +kernel, rfl, by decide +kernel, by decide +kernel⟩
theorem w__law_table {g__law_times : Sem} {f : Addr} {cdv : Value} {A : Around} {outer : List PySem.Env} {s : Shared} {H : Hp} {E : XK} {c : Ct} (k__law_times : Kn (bodyCx P w K mg base n__law_table "_law_table" (defScope s__law_table) f cdv A outer s H E) "_law_times" (spD K g__law_times)) (ok : Ok (bodyCx P w K mg base n__law_table "_law_table" (defScope s__law_table) f cdv A outer s H E) c) :
  PSs (bodyCx P w K mg base n__law_table "_law_table" (defScope s__law_table) f cdv A outer s H E) (defBody s__law_table) (tS c (b__law_table g__law_times)) := by
  exact (dss_cons (ds_set 1 (de_tup (da_cons de_int (da_cons de_int (da_cons de_int (da_cons de_int da_nil))))))
  (dss_cons (ds_for PassesOwn.never (ds_val (de_fz 0)) (dg_name 2)
  (dss_one (ds_set 1 (de_call k__law_times (da_cons (de_fz 1) (da_cons (de_tup (da_cons (de_fz 2) (da_cons (de_neg de_int) (da_cons de_int (da_cons de_int da_nil))))) da_nil))))))
  (dss_one (ds_ret (de_var 1)))))
abbrev s__law_divisor : Stmt := topS 27
abbrev n__law_divisor : List Str := ["a", "b", "step"]
theorem sc__law_divisor : FnScope ["a", "b", "step"] ["a", "b"] (defScope s__law_divisor) := ⟨rfl, rfl, rfl, by decide +kernel, rfl, by decide +kernel, by decide +kernel⟩
theorem w__law_divisor {f : Addr} {cdv : Value} {A : Around} {outer : List PySem.Env} {s : Shared} {H : Hp} {E : XK} {c : Ct} (ok : Ok (bodyCx P w K mg base n__law_divisor "_law_divisor" (defScope s__law_divisor) f cdv A outer s H E) c) :
  PSs (bodyCx P w K mg base n__law_divisor "_law_divisor" (defScope s__law_divisor) f cdv A outer s H E) (defBody s__law_divisor) (tS c (b__law_divisor)) := by
  exact (dss_cons (ds_for PassesOwn.never (ds_range1 de_int) (dg_name 2)
  (dss_one (ds_if (dt_gt (de_var 1) de_int)
  (dss_one (ds_par 0 1 (de_fz 1) (de_mod (de_toInt (de_var 0)) (de_var 1))))
  dss_nil)))
  (dss_one (ds_ret (de_var 0))))
abbrev s__law_lines : Stmt := topS 29
abbrev n__law_lines : List Str := ["N", "units", "found", "x", "y", "k"]
theorem sc__law_lines : FnScope ["N", "units", "found", "x", "y", "k"] ["N"] (defScope s__law_lines) := ⟨rfl, rfl, rfl, by decide +kernel, rfl, by decide +kernel, by decide +kernel⟩
theorem w__law_lines {g__law_divisor : Sem} {f : Addr} {cdv : Value} {A : Around} {outer : List PySem.Env} {s : Shared} {H : Hp} {E : XK} {c : Ct} (k__law_divisor : Kn (bodyCx P w K mg base n__law_lines "_law_lines" (defScope s__law_lines) f cdv A outer s H E) "_law_divisor" (spD K g__law_divisor)) (ok : Ok (bodyCx P w K mg base n__law_lines "_law_lines" (defScope s__law_lines) f cdv A outer s H E) c) :
  PSs (bodyCx P w K mg base n__law_lines "_law_lines" (defScope s__law_lines) f cdv A outer s H E) (defBody s__law_lines) (tS c (b__law_lines g__law_divisor)) := by
  exact (dss_cons (ds_setLc 1 [("k", 5)] (ds_range2 de_int (de_var 0)) (show blkC n__law_lines (defScope s__law_lines) _ _ = true by decide +kernel) (fun _ _ _ _ _ _ _ => (dg_name 5)) (fun _ _ _ _ _ _ _ => (dts_one (dt_eq (de_call ⟨k__law_divisor.ex⟩ (da_cons (de_fz 0) (da_cons (de_fz 5) da_nil))) de_int))) (fun _ _ _ _ _ _ _ => (de_fz 5)))
  (dss_cons (ds_set 2 (de_list da_nil))
  (dss_cons (ds_for PassesOwn.never (ds_range1 (de_var 0)) (dg_name 3)
  (dss_one (ds_for PassesOwn.never (ds_range1 (de_var 0)) (dg_name 4)
  (dss_one (ds_if (dt_eq (de_call k__law_divisor (da_cons (de_fz 0) (da_cons (de_call k__law_divisor (da_cons (de_fz 3) (da_cons (de_fz 4) da_nil))) da_nil))) de_int)
  (dss_one (ds_if (dt_eq (de_minG (de_comp [("k", 5)] (ds_val (de_fz 1)) (show blkC n__law_lines (defScope s__law_lines) _ _ = true by decide +kernel) (fun _ _ _ _ _ _ _ => (dg_name 5)) (fun _ _ _ _ _ _ _ => (tYesT _)) (fun _ _ _ _ _ _ _ => (de_tup (da_cons (de_mod (de_toInt (de_mul (de_var 5) (de_var 3))) (de_var 0)) (da_cons (de_mod (de_toInt (de_mul (de_var 5) (de_var 4))) (de_var 0)) da_nil)))))) (de_tup (da_cons (de_fz 3) (da_cons (de_fz 4) da_nil))))
  (dss_one (ds_app 2 (de_tup (da_cons (de_fz 3) (da_cons (de_fz 4) da_nil)))))
  dss_nil))
  dss_nil)))))
  (dss_one (ds_ret (de_var 2))))))
abbrev s__law_kept : Stmt := topS 30
abbrev n__law_kept : List Str := ["ring", "N", "p", "q", "r", "s", "units", "lines", "found", "at", "x", "y", "led", "k"]
theorem sc__law_kept : FnScope ["ring", "N", "p", "q", "r", "s", "units", "lines", "found", "at", "x", "y", "led", "k"] ["ring", "N"] (defScope s__law_kept) := ⟨rfl, rfl, rfl, by decide +kernel, rfl, by decide +kernel, by decide +kernel⟩
theorem w__law_kept {g__law_table : Sem} {g__law_divisor : Sem} {g__law_lines : Sem} {f : Addr} {cdv : Value} {A : Around} {outer : List PySem.Env} {s : Shared} {H : Hp} {E : XK} {c : Ct} (k__law_table : Kn (bodyCx P w K mg base n__law_kept "_law_kept" (defScope s__law_kept) f cdv A outer s H E) "_law_table" (spD K g__law_table)) (k__law_divisor : Kn (bodyCx P w K mg base n__law_kept "_law_kept" (defScope s__law_kept) f cdv A outer s H E) "_law_divisor" (spD K g__law_divisor)) (k__law_lines : Kn (bodyCx P w K mg base n__law_kept "_law_kept" (defScope s__law_kept) f cdv A outer s H E) "_law_lines" (spD K g__law_lines)) (ok : Ok (bodyCx P w K mg base n__law_kept "_law_kept" (defScope s__law_kept) f cdv A outer s H E) c) :
  PSs (bodyCx P w K mg base n__law_kept "_law_kept" (defScope s__law_kept) f cdv A outer s H E) (defBody s__law_kept) (tS c (b__law_kept g__law_table g__law_divisor g__law_lines)) := by
  exact (dss_cons (ds_asg (de_call k__law_table (da_cons (de_fz 0) da_nil)) (dg_tup (dgs_cons (dg_name 2) (dgs_cons (dg_name 3) (dgs_cons (dg_name 4) (dgs_cons (dg_name 5) dgs_nil))))))
  (dss_cons (ds_setLc 6 [("k", 13)] (ds_range2 de_int (de_var 1)) (show blkC n__law_kept (defScope s__law_kept) _ _ = true by decide +kernel) (fun _ _ _ _ _ _ _ => (dg_name 13)) (fun _ _ _ _ _ _ _ => (dts_one (dt_eq (de_call ⟨k__law_divisor.ex⟩ (da_cons (de_fz 1) (da_cons (de_fz 13) da_nil))) de_int))) (fun _ _ _ _ _ _ _ => (de_fz 13)))
  (dss_cons (ds_set 7 (de_call k__law_lines (da_cons (de_fz 1) da_nil)))
  (dss_cons (ds_set 8 (de_list da_nil))
  (dss_cons (ds_for PassesOwn.never (ds_range1 (de_len (de_var 7))) (dg_name 9)
  (dss_cons (ds_asg (de_ix (de_var 7) (de_var 9)) (dg_tup (dgs_cons (dg_name 10) (dgs_cons (dg_name 11) dgs_nil))))
  (dss_cons (ds_set 12 (de_tup (da_cons (de_mod (de_toInt (de_add (de_mul (de_var 2) (de_var 10)) (de_mul (de_var 3) (de_var 11)))) (de_var 1)) (da_cons (de_mod (de_toInt (de_add (de_mul (de_var 4) (de_var 10)) (de_mul (de_var 5) (de_var 11)))) (de_var 1)) da_nil))))
  (dss_one (ds_if (dt_gt (de_len (de_comp [("k", 13)] (ds_val (de_fz 6)) (show blkC n__law_kept (defScope s__law_kept) _ _ = true by decide +kernel) (fun _ _ _ _ _ _ _ => (dg_name 13)) (fun _ _ _ _ _ _ _ => (dts_one (dt_eq (de_tup (da_cons (de_mod (de_toInt (de_mul (de_var 13) (de_var 10))) (de_var 1)) (da_cons (de_mod (de_toInt (de_mul (de_var 13) (de_var 11))) (de_var 1)) da_nil))) (de_var 12)))) (fun _ _ _ _ _ _ _ => (de_fz 13)))) de_int)
  (dss_one (ds_app 8 (de_fz 9)))
  dss_nil)))))
  (dss_one (ds_ret (de_var 8))))))))
abbrev s_least_multiple : Stmt := topS 7
abbrev n_least_multiple : List Str := ["N", "x", "y", "k"]
theorem sc_least_multiple : FnScope ["N", "x", "y", "k"] ["N", "x", "y"] (defScope s_least_multiple) := ⟨rfl, rfl, rfl, by decide +kernel, rfl, by decide +kernel, by decide +kernel⟩
theorem w_least_multiple {f : Addr} {cdv : Value} {A : Around} {outer : List PySem.Env} {s : Shared} {H : Hp} {E : XK} {c : Ct} (hc_gcd : KB mg "gcd" "math.gcd") (ok : Ok (bodyCx P w K mg base n_least_multiple "least_multiple" (defScope s_least_multiple) f cdv A outer s H E) c) :
  PSs (bodyCx P w K mg base n_least_multiple "least_multiple" (defScope s_least_multiple) f cdv A outer s H E) (defBody s_least_multiple) (tS c (b_least_multiple)) := by
  exact (dss_one (ds_ret (de_minG (de_comp [("k", 3)] (ds_range2 de_int (de_var 0)) (show blkC n_least_multiple (defScope s_least_multiple) _ _ = true by decide +kernel) (fun _ _ _ _ _ _ _ => (dg_name 3)) (fun _ _ _ _ _ _ _ => (dts_one (dt_eq (de_gcd hc_gcd (de_var 3) (de_var 0)) de_int))) (fun _ _ _ _ _ _ _ => (de_tup (da_cons (de_mod (de_mul (de_var 3) (de_var 1)) (de_var 0)) (da_cons (de_mod (de_mul (de_var 3) (de_var 2)) (de_var 0)) da_nil))))))))
abbrev s_lines_of : Stmt := topS 8
abbrev n_lines_of : List Str := ["N", "pairs", "x", "y"]
theorem sc_lines_of : FnScope ["N", "pairs", "x", "y"] ["N"] (defScope s_lines_of) := ⟨rfl, rfl, rfl, by decide +kernel, rfl, by decide +kernel, by decide +kernel⟩
theorem w_lines_of {g_least_multiple : Sem} {f : Addr} {cdv : Value} {A : Around} {outer : List PySem.Env} {s : Shared} {H : Hp} {E : XK} {c : Ct} (hc_gcd : KB mg "gcd" "math.gcd") (k_least_multiple : Kn (bodyCx P w K mg base n_lines_of "lines_of" (defScope s_lines_of) f cdv A outer s H E) "least_multiple" (spD K g_least_multiple)) (ok : Ok (bodyCx P w K mg base n_lines_of "lines_of" (defScope s_lines_of) f cdv A outer s H E) c) :
  PSs (bodyCx P w K mg base n_lines_of "lines_of" (defScope s_lines_of) f cdv A outer s H E) (defBody s_lines_of) (tS c (b_lines_of g_least_multiple)) := by
  exact (dss_cons (ds_setLc2 1 [("x", 2), ("y", 3)] [3] (ds_range1 (de_var 0)) (show blkC n_lines_of (defScope s_lines_of) _ _ = true by decide +kernel) (fun _ _ _ _ _ _ _ => (dg_name 2)) (fun _ _ _ _ _ _ _ => (tYesT _)) (fun _ _ _ _ _ _ _ => (ds_range1 (de_var 0))) (fun _ _ _ _ _ _ _ => (dg_name 3)) (fun _ _ _ _ _ _ _ => (dts_one (dt_eq (de_gcd hc_gcd (de_gcd hc_gcd (de_var 2) (de_var 3)) (de_var 0)) de_int))) (fun _ _ _ _ _ _ _ => (de_tup (da_cons (de_fz 2) (da_cons (de_fz 3) da_nil)))))
  (dss_one (ds_ret (de_comp [("x", 2), ("y", 3)] (ds_val (de_fz 1)) (show blkC n_lines_of (defScope s_lines_of) _ _ = true by decide +kernel) (fun _ _ _ _ _ _ _ => (dg_tup (dgs_cons (dg_name 2) (dgs_cons (dg_name 3) dgs_nil)))) (fun _ _ _ _ _ _ _ => (dts_one (dt_eq (de_call ⟨k_least_multiple.ex⟩ (da_cons (de_fz 0) (da_cons (de_fz 2) (da_cons (de_fz 3) da_nil)))) (de_tup (da_cons (de_fz 2) (da_cons (de_fz 3) da_nil)))))) (fun _ _ _ _ _ _ _ => (de_tup (da_cons (de_fz 2) (da_cons (de_fz 3) da_nil))))))))
abbrev s_kept_lines : Stmt := topS 15
abbrev n_kept_lines : List Str := ["ring", "N", "p", "q", "r", "s", "at", "x", "y"]
theorem sc_kept_lines : FnScope ["ring", "N", "p", "q", "r", "s", "at", "x", "y"] ["ring", "N"] (defScope s_kept_lines) := ⟨rfl, rfl, rfl, by decide +kernel, rfl, by decide +kernel, by decide +kernel⟩
theorem w_kept_lines {g_turned_by : Sem} {g_lines_of : Sem} {g_least_multiple : Sem} {f : Addr} {cdv : Value} {A : Around} {outer : List PySem.Env} {s : Shared} {H : Hp} {E : XK} {c : Ct} (k_turned_by : Kn (bodyCx P w K mg base n_kept_lines "kept_lines" (defScope s_kept_lines) f cdv A outer s H E) "turned_by" (spD K g_turned_by)) (k_lines_of : Kn (bodyCx P w K mg base n_kept_lines "kept_lines" (defScope s_kept_lines) f cdv A outer s H E) "lines_of" (spD K g_lines_of)) (k_least_multiple : Kn (bodyCx P w K mg base n_kept_lines "kept_lines" (defScope s_kept_lines) f cdv A outer s H E) "least_multiple" (spD K g_least_multiple)) (ok : Ok (bodyCx P w K mg base n_kept_lines "kept_lines" (defScope s_kept_lines) f cdv A outer s H E) c) :
  PSs (bodyCx P w K mg base n_kept_lines "kept_lines" (defScope s_kept_lines) f cdv A outer s H E) (defBody s_kept_lines) (tS c (b_kept_lines g_turned_by g_lines_of g_least_multiple)) := by
  exact (dss_cons (ds_asg (de_call k_turned_by (da_cons (de_fz 0) da_nil)) (dg_tup (dgs_cons (dg_name 2) (dgs_cons (dg_name 3) (dgs_cons (dg_name 4) (dgs_cons (dg_name 5) dgs_nil))))))
  (dss_one (ds_ret (de_comp [("at", 6), ("x", 7), ("y", 8)] (ds_enum (de_call k_lines_of (da_cons (de_fz 1) da_nil))) (show blkC n_kept_lines (defScope s_kept_lines) _ _ = true by decide +kernel) (fun _ _ _ _ _ _ _ => (dg_tup (dgs_cons (dg_name 6) (dgs_cons (dg_tup (dgs_cons (dg_name 7) (dgs_cons (dg_name 8) dgs_nil))) dgs_nil)))) (fun _ _ _ _ _ _ _ => (dts_one (dt_eq (de_call ⟨k_least_multiple.ex⟩ (da_cons (de_fz 1) (da_cons (de_add (de_mul (de_var 2) (de_var 7)) (de_mul (de_var 3) (de_var 8))) (da_cons (de_add (de_mul (de_var 4) (de_var 7)) (de_mul (de_var 5) (de_var 8))) da_nil)))) (de_tup (da_cons (de_fz 7) (da_cons (de_fz 8) da_nil)))))) (fun _ _ _ _ _ _ _ => (de_fz 6))))))
abbrev s__law_kept_right : Stmt := topS 32
abbrev n__law_kept_right : List Str := ["ring", "N", "handed", "due", "told"]
theorem sc__law_kept_right : FnScope ["ring", "N", "handed", "due", "told"] ["ring", "N"] (defScope s__law_kept_right) := ⟨rfl, rfl, rfl, by decide +kernel, rfl, by decide +kernel, by decide +kernel⟩
theorem w__law_kept_right {g__law_kept : Sem} {g_kept_lines : Sem} {g__law_same : Sem} {f : Addr} {cdv : Value} {A : Around} {outer : List PySem.Env} {s : Shared} {H : Hp} {E : XK} {c : Ct} (k__law_kept : Kn (bodyCx P w K mg base n__law_kept_right "_law_kept_right" (defScope s__law_kept_right) f cdv A outer s H E) "_law_kept" (spD K g__law_kept)) (k_kept_lines : Kn (bodyCx P w K mg base n__law_kept_right "_law_kept_right" (defScope s__law_kept_right) f cdv A outer s H E) "kept_lines" (spD K g_kept_lines)) (k__law_same : Kn (bodyCx P w K mg base n__law_kept_right "_law_kept_right" (defScope s__law_kept_right) f cdv A outer s H E) "_law_same" (spD K g__law_same)) (ok : Ok (bodyCx P w K mg base n__law_kept_right "_law_kept_right" (defScope s__law_kept_right) f cdv A outer s H E) c) :
  PSs (bodyCx P w K mg base n__law_kept_right "_law_kept_right" (defScope s__law_kept_right) f cdv A outer s H E) (defBody s__law_kept_right) (tS c (b__law_kept_right g__law_kept g_kept_lines g__law_same)) := by
  exact (dss_cons (ds_set 2 (de_toList (de_var 0)))
  (dss_cons (ds_set 3 (de_call k__law_kept (da_cons (de_fz 0) (da_cons (de_fz 1) da_nil))))
  (dss_cons (ds_set 4 (de_call k_kept_lines (da_cons (de_fz 2) (da_cons (de_fz 1) da_nil))))
  (dss_cons (ds_if (PW.pt (dw_or (dt_not (dt_val (de_callB k__law_same (dk_nm 4 (dk_nm 3 dk_nil))))) (dw_or1 (dt_ne (de_var 2) (de_var 0)))))
  (dss_one (ds_ret de_bool))
  dss_nil)
  (dss_cons (ds_app 4 de_int)
  (dss_one (ds_ret (de_callB k__law_same (dk_ex (de_call k_kept_lines (da_cons (de_fz 2) (da_cons (de_fz 1) da_nil))) (dk_nm 3 dk_nil))))))))))
abbrev s_sign_times : Stmt := topS 14
abbrev n_sign_times : List Str := ["ring", "N"]
theorem sc_sign_times : FnScope ["ring", "N"] ["ring", "N"] (defScope s_sign_times) := ⟨rfl, rfl, rfl, by decide +kernel, rfl, by decide +kernel, by decide +kernel⟩
theorem w_sign_times {g_times_to : Sem} {g_rest_table : Sem} {g_rests_of : Sem} {f : Addr} {cdv : Value} {A : Around} {outer : List PySem.Env} {s : Shared} {H : Hp} {E : XK} {c : Ct} (hc_NOTHING : KC K mg "NOTHING" c_NOTHING) (hc_CONTRARY : KC K mg "CONTRARY" c_CONTRARY) (k_times_to : Kn (bodyCx P w K mg base n_sign_times "sign_times" (defScope s_sign_times) f cdv A outer s H E) "times_to" (spD K g_times_to)) (k_rest_table : Kn (bodyCx P w K mg base n_sign_times "sign_times" (defScope s_sign_times) f cdv A outer s H E) "rest_table" (spD K g_rest_table)) (k_rests_of : Kn (bodyCx P w K mg base n_sign_times "sign_times" (defScope s_sign_times) f cdv A outer s H E) "rests_of" (spD K g_rests_of)) (ok : Ok (bodyCx P w K mg base n_sign_times "sign_times" (defScope s_sign_times) f cdv A outer s H E) c) :
  PSs (bodyCx P w K mg base n_sign_times "sign_times" (defScope s_sign_times) f cdv A outer s H E) (defBody s_sign_times) (tS c (b_sign_times g_times_to g_rest_table g_rests_of)) := by
  exact (dss_one (ds_ret (de_call k_times_to (da_cons (de_call k_rest_table (da_cons (de_fz 0) (da_cons (de_fz 1) da_nil))) (da_cons (de_fz 1) (da_cons (de_list (da_cons (de_call k_rests_of (da_cons (de_fz 1) (da_cons (de_globK hc_NOTHING) da_nil))) (da_cons (de_call k_rests_of (da_cons (de_fz 1) (da_cons (de_globK hc_CONTRARY) da_nil))) da_nil))) da_nil))))))
abbrev s__law_plain : Stmt := topS 25
abbrev n__law_plain : List Str := ["feed", "most", "ring", "step"]
theorem sc__law_plain : FnScope ["feed", "most", "ring", "step"] ["feed", "most"] (defScope s__law_plain) := ⟨rfl, rfl, rfl, by decide +kernel, rfl, by decide +kernel, by decide +kernel⟩
theorem w__law_plain {g__law_draw : Sem} {f : Addr} {cdv : Value} {A : Around} {outer : List PySem.Env} {s : Shared} {H : Hp} {E : XK} {c : Ct} (k__law_draw : Kn (bodyCx P w K mg base n__law_plain "_law_plain" (defScope s__law_plain) f cdv A outer s H E) "_law_draw" (spF K g__law_draw)) (ok : Ok (bodyCx P w K mg base n__law_plain "_law_plain" (defScope s__law_plain) f cdv A outer s H E) c) :
  PSs (bodyCx P w K mg base n__law_plain "_law_plain" (defScope s__law_plain) f cdv A outer s H E) (defBody s__law_plain) (tS c (b__law_plain g__law_draw)) := by
  exact (dss_cons (ds_set 2 (de_mul (de_list (da_cons de_int da_nil)) (de_add de_int (de_callF 0 k__law_draw (da_cons (de_fz 1) da_nil)))))
  (dss_cons (ds_for PassesOwn.never (ds_range1 (de_add de_int (de_callF 0 k__law_draw (da_cons de_int da_nil)))) (dg_name 3)
  (dss_one (ds_augI 2 ip_add (de_callF 0 k__law_draw (da_cons (de_len (de_var 2)) da_nil)) de_int)))
  (dss_one (ds_ret (de_var 2)))))
abbrev s__law_rests : Stmt := topS 26
abbrev n__law_rests : List Str := ["table", "N", "number"]
theorem sc__law_rests : FnScope ["table", "N", "number"] ["table", "N"] (defScope s__law_rests) := ⟨rfl, rfl, rfl, by decide +kernel, rfl, by decide +kernel, by decide +kernel⟩
theorem w__law_rests {f : Addr} {cdv : Value} {A : Around} {outer : List PySem.Env} {s : Shared} {H : Hp} {E : XK} {c : Ct} (ok : Ok (bodyCx P w K mg base n__law_rests "_law_rests" (defScope s__law_rests) f cdv A outer s H E) c) :
  PSs (bodyCx P w K mg base n__law_rests "_law_rests" (defScope s__law_rests) f cdv A outer s H E) (defBody s__law_rests) (tS c (b__law_rests)) := by
  exact (dss_one (ds_ret (de_toTup (de_comp [("number", 2)] (ds_val (de_fz 0)) (show blkC n__law_rests (defScope s__law_rests) _ _ = true by decide +kernel) (fun _ _ _ _ _ _ _ => (dg_name 2)) (fun _ _ _ _ _ _ _ => (tYesT _)) (fun _ _ _ _ _ _ _ => (de_mod (de_toInt (de_var 2)) (de_var 1)))))))
abbrev s__law_how_often : Stmt := topS 28
abbrev n__law_how_often : List Str := ["ring", "N", "still", "turned", "table", "power", "first", "times"]
theorem sc__law_how_often : FnScope ["ring", "N", "still", "turned", "table", "power", "first", "times"] ["ring", "N"] (defScope s__law_how_often) := ⟨rfl, rfl, rfl, by decide +kernel, rfl, by decide +kernel, by decide +kernel⟩
theorem w__law_how_often {g__law_rests : Sem} {g__law_table : Sem} {g__law_times : Sem} {f : Addr} {cdv : Value} {A : Around} {outer : List PySem.Env} {s : Shared} {H : Hp} {E : XK} {c : Ct} (k__law_rests : Kn (bodyCx P w K mg base n__law_how_often "_law_how_often" (defScope s__law_how_often) f cdv A outer s H E) "_law_rests" (spD K g__law_rests)) (k__law_table : Kn (bodyCx P w K mg base n__law_how_often "_law_how_often" (defScope s__law_how_often) f cdv A outer s H E) "_law_table" (spD K g__law_table)) (k__law_times : Kn (bodyCx P w K mg base n__law_how_often "_law_how_often" (defScope s__law_how_often) f cdv A outer s H E) "_law_times" (spD K g__law_times)) (ok : Ok (bodyCx P w K mg base n__law_how_often "_law_how_often" (defScope s__law_how_often) f cdv A outer s H E) c) :
  PSs (bodyCx P w K mg base n__law_how_often "_law_how_often" (defScope s__law_how_often) f cdv A outer s H E) (defBody s__law_how_often) (tS c (b__law_how_often g__law_rests g__law_table g__law_times)) := by
  exact (dss_cons (ds_set 2 (de_call k__law_rests (da_cons (de_tup (da_cons de_int (da_cons de_int (da_cons de_int (da_cons de_int da_nil))))) (da_cons (de_fz 1) da_nil))))
  (dss_cons (ds_set 3 (de_call k__law_rests (da_cons (de_tup (da_cons (de_neg de_int) (da_cons de_int (da_cons de_int (da_cons (de_neg de_int) da_nil))))) (da_cons (de_fz 1) da_nil))))
  (dss_cons (ds_set 4 (de_call k__law_rests (da_cons (de_call k__law_table (da_cons (de_fz 0) da_nil)) (da_cons (de_fz 1) da_nil))))
  (dss_cons (ds_set 5 (de_fz 4))
  (dss_cons (ds_set 6 de_none)
  (dss_cons (ds_for PassesOwn.never (ds_range2 de_int de_int) (dg_name 7)
  (dss_cons (ds_if (PW.pt (dw_and (dt_isN (de_var 6)) (dw_and1 (dt_in (de_var 5) (de_list (da_cons (de_fz 2) (da_cons (de_fz 3) da_nil)))))))
  (dss_one (ds_set 6 (de_fz 7)))
  dss_nil)
  (dss_cons (ds_if (dt_eq (de_var 5) (de_var 2))
  (dss_one (ds_ret (de_tup (da_cons (de_fz 7) (da_cons (de_fz 6) da_nil)))))
  dss_nil)
  (dss_one (ds_set 5 (de_call k__law_rests (da_cons (de_call k__law_times (da_cons (de_fz 5) (da_cons (de_fz 4) da_nil))) (da_cons (de_fz 1) da_nil))))))))
  (dss_one (ds_ret (de_tup (da_cons de_int (da_cons de_int da_nil)))))))))))
abbrev s__law_right : Stmt := topS 31
abbrev n__law_right : List Str := ["ring", "N", "handed", "due", "told"]
theorem sc__law_right : FnScope ["ring", "N", "handed", "due", "told"] ["ring", "N"] (defScope s__law_right) := ⟨rfl, rfl, rfl, by decide +kernel, rfl, by decide +kernel, by decide +kernel⟩
theorem w__law_right {g__law_how_often : Sem} {g__law_same : Sem} {g_rest_table : Sem} {g__law_rests : Sem} {g__law_table : Sem} {g_rest_times : Sem} {g_sign_times : Sem} {f : Addr} {cdv : Value} {A : Around} {outer : List PySem.Env} {s : Shared} {H : Hp} {E : XK} {c : Ct} (k__law_how_often : Kn (bodyCx P w K mg base n__law_right "_law_right" (defScope s__law_right) f cdv A outer s H E) "_law_how_often" (spD K g__law_how_often)) (k__law_same : Kn (bodyCx P w K mg base n__law_right "_law_right" (defScope s__law_right) f cdv A outer s H E) "_law_same" (spD K g__law_same)) (k_rest_table : Kn (bodyCx P w K mg base n__law_right "_law_right" (defScope s__law_right) f cdv A outer s H E) "rest_table" (spD K g_rest_table)) (k__law_rests : Kn (bodyCx P w K mg base n__law_right "_law_right" (defScope s__law_right) f cdv A outer s H E) "_law_rests" (spD K g__law_rests)) (k__law_table : Kn (bodyCx P w K mg base n__law_right "_law_right" (defScope s__law_right) f cdv A outer s H E) "_law_table" (spD K g__law_table)) (k_rest_times : Kn (bodyCx P w K mg base n__law_right "_law_right" (defScope s__law_right) f cdv A outer s H E) "rest_times" (spD K g_rest_times)) (k_sign_times : Kn (bodyCx P w K mg base n__law_right "_law_right" (defScope s__law_right) f cdv A outer s H E) "sign_times" (spD K g_sign_times)) (ok : Ok (bodyCx P w K mg base n__law_right "_law_right" (defScope s__law_right) f cdv A outer s H E) c) :
  PSs (bodyCx P w K mg base n__law_right "_law_right" (defScope s__law_right) f cdv A outer s H E) (defBody s__law_right) (tS c (b__law_right g__law_how_often g__law_same g_rest_table g__law_rests g__law_table g_rest_times g_sign_times)) := by
  exact (dss_cons (ds_set 2 (de_toList (de_var 0)))
  (dss_cons (ds_set 3 (de_call k__law_how_often (da_cons (de_fz 0) (da_cons (de_fz 1) da_nil))))
  (dss_cons (ds_if (dt_not (dt_val (de_call k__law_same (da_cons (de_call k_rest_table (da_cons (de_fz 2) (da_cons (de_fz 1) da_nil))) (da_cons (de_call k__law_rests (da_cons (de_call k__law_table (da_cons (de_fz 0) da_nil)) (da_cons (de_fz 1) da_nil))) da_nil)))))
  (dss_one (ds_ret de_bool))
  dss_nil)
  (dss_cons (ds_set 4 (de_list (da_cons (de_call k_rest_times (da_cons (de_fz 2) (da_cons (de_fz 1) da_nil))) (da_cons (de_call k_sign_times (da_cons (de_fz 2) (da_cons (de_fz 1) da_nil))) da_nil))))
  (dss_cons (ds_if (PW.pt (dw_or (dt_not (dt_val (de_callB k__law_same (dk_nm 4 (dk_ex (de_list (da_cons (de_ix (de_var 3) de_int) (da_cons (de_ix (de_var 3) de_int) da_nil))) dk_nil))))) (dw_or1 (dt_ne (de_var 2) (de_var 0)))))
  (dss_one (ds_ret de_bool))
  dss_nil)
  (dss_one (ds_ret (de_in (de_ix (de_var 3) de_int) (de_list (da_cons (de_ix (de_var 3) de_int) (da_cons (de_mul de_int (de_ix (de_var 3) de_int)) da_nil)))))))))))
abbrev s_law : Stmt := topS 33
abbrev n_law : List Str := ["script", "feed", "turn", "N", "ring", "gap", "more", "k", "turned", "own", "few"]
theorem sc_law : FnScope ["script", "feed", "turn", "N", "ring", "gap", "more", "k", "turned", "own", "few"] ["script"] (defScope s_law) := ⟨rfl, rfl, rfl, by decide +kernel, rfl, by decide +kernel, by decide +kernel⟩
theorem w_law {g__law_draw : Sem} {g__law_drawn : Sem} {g__law_grown : Sem} {g__law_plain : Sem} {g__law_put : Sem} {g__law_right : Sem} {g_rest_times : Sem} {g_sign_times : Sem} {g__law_kept_right : Sem} {g__law_same : Sem} {g_rest_table : Sem} {g_kept_lines : Sem} {f : Addr} {cdv : Value} {A : Around} {outer : List PySem.Env} {s : Shared} {H : Hp} {E : XK} {c : Ct} (k__law_draw : Kn (bodyCx P w K mg base n_law "law" (defScope s_law) f cdv A outer s H E) "_law_draw" (spF K g__law_draw)) (k__law_drawn : Kn (bodyCx P w K mg base n_law "law" (defScope s_law) f cdv A outer s H E) "_law_drawn" (spF K g__law_drawn)) (k__law_grown : Kn (bodyCx P w K mg base n_law "law" (defScope s_law) f cdv A outer s H E) "_law_grown" (spF K g__law_grown)) (k__law_plain : Kn (bodyCx P w K mg base n_law "law" (defScope s_law) f cdv A outer s H E) "_law_plain" (spF K g__law_plain)) (k__law_put : Kn (bodyCx P w K mg base n_law "law" (defScope s_law) f cdv A outer s H E) "_law_put" (spD K g__law_put)) (k__law_right : Kn (bodyCx P w K mg base n_law "law" (defScope s_law) f cdv A outer s H E) "_law_right" (spD K g__law_right)) (k_rest_times : Kn (bodyCx P w K mg base n_law "law" (defScope s_law) f cdv A outer s H E) "rest_times" (spD K g_rest_times)) (k_sign_times : Kn (bodyCx P w K mg base n_law "law" (defScope s_law) f cdv A outer s H E) "sign_times" (spD K g_sign_times)) (k__law_kept_right : Kn (bodyCx P w K mg base n_law "law" (defScope s_law) f cdv A outer s H E) "_law_kept_right" (spD K g__law_kept_right)) (k__law_same : Kn (bodyCx P w K mg base n_law "law" (defScope s_law) f cdv A outer s H E) "_law_same" (spD K g__law_same)) (k_rest_table : Kn (bodyCx P w K mg base n_law "law" (defScope s_law) f cdv A outer s H E) "rest_table" (spD K g_rest_table)) (k_kept_lines : Kn (bodyCx P w K mg base n_law "law" (defScope s_law) f cdv A outer s H E) "kept_lines" (spD K g_kept_lines)) (ok : Ok (bodyCx P w K mg base n_law "law" (defScope s_law) f cdv A outer s H E) c) :
  PSs (bodyCx P w K mg base n_law "law" (defScope s_law) f cdv A outer s H E) ((defBody s_law).tail) (tS c (b_law g__law_draw g__law_drawn g__law_grown g__law_plain g__law_put g__law_right g_rest_times g_sign_times g__law_kept_right g__law_same g_rest_table g_kept_lines)) := by
  exact (dss_cons (ds_for PassesOwn.never (ds_range1 de_int) (dg_name 2)
  (dss_cons (ds_set 3 (de_add de_int (de_callF 1 k__law_draw (da_cons (de_ix (de_list (da_cons de_int (da_cons de_int da_nil))) (de_callF 1 k__law_draw (da_cons de_int da_nil))) da_nil))))
  (dss_cons (ds_set 4 (de_callF 1 k__law_drawn (da_cons de_int da_nil)))
  (dss_cons (ds_if (dt_eq (de_var 2) de_int)
  (dss_one (ds_set 4 (de_callF 1 k__law_grown (da_cons (de_callF 1 k__law_plain (da_cons de_int da_nil)) (da_cons de_int da_nil)))))
  dss_nil)
  (dss_cons (ds_set 5 (de_callF 1 k__law_draw (da_cons (de_add (de_len (de_var 4)) de_int) da_nil)))
  (dss_cons (ds_set 6 (de_call k__law_put (da_cons (de_fz 4) (da_cons (de_fz 5) da_nil))))
  (dss_cons (ds_set 7 (de_callF 1 k__law_draw (da_cons (de_len (de_var 4)) da_nil)))
  (dss_cons (ds_set 8 (de_add (de_slice (de_var 4) (do_some (de_var 7)) do_none) (de_slice (de_var 4) do_none (do_some (de_var 7)))))
  (dss_cons (ds_for PassesOwn.never (ds_val (de_list (da_cons (de_fz 4) (da_cons (de_fz 8) (da_cons (de_fz 6) (da_cons (de_mul (de_list (da_cons de_int da_nil)) (de_len (de_var 4))) da_nil)))))) (dg_name 9)
  (dss_one (ds_if (PW.pt (dw_and (dt_lt (de_max (de_var 9)) de_int) (dw_and1 (dt_not (dt_val (de_call k__law_right (da_cons (de_fz 9) (da_cons (de_fz 3) da_nil))))))))
  (dss_one (ds_ret de_bool))
  dss_nil)))
  (dss_cons (ds_if (dt_ne (de_call k_rest_times (da_cons (de_fz 8) (da_cons (de_fz 3) da_nil))) (de_call k_rest_times (da_cons (de_toList (de_var 4)) (da_cons (de_fz 3) da_nil))))
  (dss_one (ds_ret de_bool))
  dss_nil)
  (dss_cons (ds_if (PW.pt (dw_and (dt_lt (de_max (de_var 6)) de_int) (dw_and1 (dt_ne (de_call k_sign_times (da_cons (de_fz 6) (da_cons (de_fz 3) da_nil))) (de_call k_sign_times (da_cons (de_toList (de_var 4)) (da_cons (de_fz 3) da_nil)))))))
  (dss_one (ds_ret de_bool))
  dss_nil)
  (dss_cons (ds_set 10 (de_add de_int (de_callF 1 k__law_draw (da_cons de_int da_nil))))
  (dss_one (ds_if (dt_not (dt_val (de_call k__law_kept_right (da_cons (de_fz 4) (da_cons (de_fz 10) da_nil)))))
  (dss_one (ds_ret de_bool))
  dss_nil))))))))))))))
  (dss_cons (ds_if (PW.pt (dw_or (dt_not (dt_val (de_call k__law_kept_right (da_cons (de_list (da_cons de_int da_nil)) (da_cons (de_add de_int (de_callF 1 k__law_draw (da_cons de_int da_nil))) da_nil))))) (dw_or1 (dt_not (dt_val (de_call k__law_kept_right (da_cons (de_list (da_cons de_int da_nil)) (da_cons de_int da_nil))))))))
  (dss_one (ds_ret de_bool))
  dss_nil)
  (dss_cons (ds_if (PW.pt (dw_or (dt_not (dt_val (de_call k__law_same (da_cons (de_call k_rest_table (da_cons (de_list (da_cons de_int da_nil)) (da_cons de_int da_nil))) (da_cons (de_tup (da_cons de_int (da_cons de_int (da_cons de_int (da_cons de_int da_nil))))) da_nil))))) (dw_or1 (dt_not (dt_val (de_call k__law_same (da_cons (de_call k_kept_lines (da_cons (de_list (da_cons de_int (da_cons de_int da_nil))) (da_cons de_int da_nil))) (da_cons (de_list (da_cons de_int (da_cons de_int (da_cons de_int da_nil)))) da_nil))))))))
  (dss_one (ds_ret de_bool))
  dss_nil)
  (dss_one (ds_ret (de_call k__law_same (da_cons (de_list (da_cons (de_call k_rest_times (da_cons (de_list (da_cons de_int da_nil)) (da_cons de_int da_nil))) (da_cons (de_call k_sign_times (da_cons (de_list (da_cons de_int da_nil)) (da_cons de_int da_nil))) (da_cons (de_call k_rest_times (da_cons (de_list (da_cons de_int da_nil)) (da_cons de_int da_nil))) (da_cons (de_call k_rest_times (da_cons (de_list (da_cons de_int da_nil)) (da_cons de_int da_nil))) da_nil))))) (da_cons (de_list (da_cons de_int (da_cons de_int (da_cons de_int (da_cons de_int da_nil))))) da_nil))))))))
end
end K30

/-! The end: each def keeps its promise; what the top has written. -/
namespace K30
open PySem PySem.Spec PyProof.Rows L2 DL

section
variable {P : Program} {w : World} {K : PySem.W.Frag} {mg : Str → Option Value} {base hp : Heap}
theorem fk__law_same (X : K.In hp) (G : hp.Ns mainGlobals mg) (blt : ∀ x ∈ bltNames, mg x = none) (h : FnAt K "_law_same" s__law_same) : ∀ j : Nat, FK P w K mg base "_law_same" (0 + j) (spD K (ar 2 (spec__law_same j)))
  | 0 => h.fk (ps := ["actual", "due"]) X G (fun f fd F => fn_no (fun ds w Q h => h.2)) (fun _ _ _ _ _ _ us hl => match us, hl with | [_, _], _ => rfl)
  | j + 1 => h.fk X G (fun f fd F => fn_ok F sc__law_same (fun ds w Q h => h.1) blt (fun cdv A outer s H E c hr ok => w__law_same ((fk__law_same X G blt h j).kn hr (Nat.le_refl _)) ok) (fun ds w Q h => vc__law_same j ds w Q h.2)) (fun _ _ _ _ _ _ us hl => match us, hl with | [_, _], _ => rfl)
theorem fk__law_draw (X : K.In hp) (G : hp.Ns mainGlobals mg) (blt : ∀ x ∈ bltNames, mg x = none) (h : FnAt K "_law_draw" s__law_draw) : FK P w K mg base "_law_draw" 1 (spF K (ar 1 spec__law_draw)) :=
  h.fk X G (fun f fd F => fn_okF F sc__law_draw (fun ds w Q h => congrArg (· + 1) h.1) blt (fun cdv A outer s H E c hr ok => w__law_draw ok) (fun ds w Q h => vc__law_draw ds w Q h.2)) (fun _ _ _ _ _ _ us hl => match us, hl with | [_, _], _ => rfl)
theorem fk__law_drawn (X : K.In hp) (G : hp.Ns mainGlobals mg) (blt : ∀ x ∈ bltNames, mg x = none) (h : FnAt K "_law_drawn" s__law_drawn) (k__law_draw : FK P w K mg base "_law_draw" 1 (spF K (ar 1 spec__law_draw))) : FK P w K mg base "_law_drawn" 2 (spF K (ar 1 spec__law_drawn)) :=
  h.fk X G (fun f fd F => fn_okF F sc__law_drawn (fun ds w Q h => congrArg (· + 1) h.1) blt (fun cdv A outer s H E c hr ok => w__law_drawn (k__law_draw.kn hr (by decide)) ok) (fun ds w Q h => vc__law_drawn ds w Q h.2)) (fun _ _ _ _ _ _ us hl => match us, hl with | [_, _], _ => rfl)
theorem fk__law_put (X : K.In hp) (G : hp.Ns mainGlobals mg) (blt : ∀ x ∈ bltNames, mg x = none) (h : FnAt K "_law_put" s__law_put) : FK P w K mg base "_law_put" 1 (spD K (ar 2 spec__law_put)) :=
  h.fk X G (fun f fd F => fn_ok F sc__law_put (fun ds w Q h => h.1) blt (fun cdv A outer s H E c hr ok => w__law_put ok) (fun ds w Q h => vc__law_put ds w Q h.2)) (fun _ _ _ _ _ _ us hl => match us, hl with | [_, _], _ => rfl)
theorem fk__law_grown (X : K.In hp) (G : hp.Ns mainGlobals mg) (blt : ∀ x ∈ bltNames, mg x = none) (h : FnAt K "_law_grown" s__law_grown) (k__law_draw : FK P w K mg base "_law_draw" 1 (spF K (ar 1 spec__law_draw))) (k__law_put : FK P w K mg base "_law_put" 1 (spD K (ar 2 spec__law_put))) : FK P w K mg base "_law_grown" 2 (spF K (ar 2 spec__law_grown)) :=
  h.fk X G (fun f fd F => fn_okF F sc__law_grown (fun ds w Q h => congrArg (· + 1) h.1) blt (fun cdv A outer s H E c hr ok => w__law_grown (k__law_draw.kn hr (by decide)) (k__law_put.kn hr (by decide)) ok) (fun ds w Q h => vc__law_grown ds w Q h.2)) (fun _ _ _ _ _ _ us hl => match us, hl with | [_, _, _], _ => rfl)
theorem fk_rests_of (X : K.In hp) (G : hp.Ns mainGlobals mg) (blt : ∀ x ∈ bltNames, mg x = none) (h : FnAt K "rests_of" s_rests_of) : FK P w K mg base "rests_of" 1 (spD K (ar 2 spec_rests_of)) :=
  h.fk X G (fun f fd F => fn_ok F sc_rests_of (fun ds w Q h => h.1) blt (fun cdv A outer s H E c hr ok => w_rests_of ok) (fun ds w Q h => vc_rests_of ds w Q h.2)) (fun _ _ _ _ _ _ us hl => match us, hl with | [_, _], _ => rfl)
theorem fk_multiplied (X : K.In hp) (G : hp.Ns mainGlobals mg) (blt : ∀ x ∈ bltNames, mg x = none) (h : FnAt K "multiplied" s_multiplied) : FK P w K mg base "multiplied" 1 (spD K (ar 2 spec_multiplied)) :=
  h.fk X G (fun f fd F => fn_ok F sc_multiplied (fun ds w Q h => h.1) blt (fun cdv A outer s H E c hr ok => w_multiplied ok) (fun ds w Q h => vc_multiplied ds w Q h.2)) (fun _ _ _ _ _ _ us hl => match us, hl with | [_, _], _ => rfl)
theorem fk_times_to (X : K.In hp) (G : hp.Ns mainGlobals mg) (blt : ∀ x ∈ bltNames, mg x = none) (h : FnAt K "times_to" s_times_to) (k_rests_of : FK P w K mg base "rests_of" 1 (spD K (ar 2 spec_rests_of))) (k_multiplied : FK P w K mg base "multiplied" 1 (spD K (ar 2 spec_multiplied))) : FK P w K mg base "times_to" 2 (spD K (ar 3 spec_times_to)) :=
  h.fk X G (fun f fd F => fn_ok F sc_times_to (fun ds w Q h => h.1) blt (fun cdv A outer s H E c hr ok => w_times_to (k_rests_of.kn hr (by decide)) (k_multiplied.kn hr (by decide)) ok) (fun ds w Q h => vc_times_to ds w Q h.2)) (fun _ _ _ _ _ _ us hl => match us, hl with | [_, _, _], _ => rfl)
theorem fk_turned_by (X : K.In hp) (G : hp.Ns mainGlobals mg) (blt : ∀ x ∈ bltNames, mg x = none) (h : FnAt K "turned_by" s_turned_by) (hc_NOTHING : KC K mg "NOTHING" c_NOTHING) (k_multiplied : FK P w K mg base "multiplied" 1 (spD K (ar 2 spec_multiplied))) : FK P w K mg base "turned_by" 2 (spD K (ar 1 spec_turned_by)) :=
  h.fk X G (fun f fd F => fn_ok F sc_turned_by (fun ds w Q h => h.1) blt (fun cdv A outer s H E c hr ok => w_turned_by hc_NOTHING (k_multiplied.kn hr (by decide)) ok) (fun ds w Q h => vc_turned_by ds w Q h.2)) (fun _ _ _ _ _ _ us hl => match us, hl with | [_], _ => rfl)
theorem fk_rest_table (X : K.In hp) (G : hp.Ns mainGlobals mg) (blt : ∀ x ∈ bltNames, mg x = none) (h : FnAt K "rest_table" s_rest_table) (k_rests_of : FK P w K mg base "rests_of" 1 (spD K (ar 2 spec_rests_of))) (k_turned_by : FK P w K mg base "turned_by" 2 (spD K (ar 1 spec_turned_by))) : FK P w K mg base "rest_table" 3 (spD K (ar 2 spec_rest_table)) :=
  h.fk X G (fun f fd F => fn_ok F sc_rest_table (fun ds w Q h => h.1) blt (fun cdv A outer s H E c hr ok => w_rest_table (k_rests_of.kn hr (by decide)) (k_turned_by.kn hr (by decide)) ok) (fun ds w Q h => vc_rest_table ds w Q h.2)) (fun _ _ _ _ _ _ us hl => match us, hl with | [_, _], _ => rfl)
theorem fk_rest_times (X : K.In hp) (G : hp.Ns mainGlobals mg) (blt : ∀ x ∈ bltNames, mg x = none) (h : FnAt K "rest_times" s_rest_times) (hc_NOTHING : KC K mg "NOTHING" c_NOTHING) (k_times_to : FK P w K mg base "times_to" 2 (spD K (ar 3 spec_times_to))) (k_rest_table : FK P w K mg base "rest_table" 3 (spD K (ar 2 spec_rest_table))) (k_rests_of : FK P w K mg base "rests_of" 1 (spD K (ar 2 spec_rests_of))) : FK P w K mg base "rest_times" 4 (spD K (ar 2 spec_rest_times)) :=
  h.fk X G (fun f fd F => fn_ok F sc_rest_times (fun ds w Q h => h.1) blt (fun cdv A outer s H E c hr ok => w_rest_times hc_NOTHING (k_times_to.kn hr (by decide)) (k_rest_table.kn hr (by decide)) (k_rests_of.kn hr (by decide)) ok) (fun ds w Q h => vc_rest_times ds w Q h.2)) (fun _ _ _ _ _ _ us hl => match us, hl with | [_, _], _ => rfl)
theorem fk__law_times (X : K.In hp) (G : hp.Ns mainGlobals mg) (blt : ∀ x ∈ bltNames, mg x = none) (h : FnAt K "_law_times" s__law_times) : FK P w K mg base "_law_times" 1 (spD K (ar 2 spec__law_times)) :=
  h.fk X G (fun f fd F => fn_ok F sc__law_times (fun ds w Q h => h.1) blt (fun cdv A outer s H E c hr ok => w__law_times ok) (fun ds w Q h => vc__law_times ds w Q h.2)) (fun _ _ _ _ _ _ us hl => match us, hl with | [_, _], _ => rfl)
theorem fk__law_table (X : K.In hp) (G : hp.Ns mainGlobals mg) (blt : ∀ x ∈ bltNames, mg x = none) (h : FnAt K "_law_table" s__law_table) (k__law_times : FK P w K mg base "_law_times" 1 (spD K (ar 2 spec__law_times))) : FK P w K mg base "_law_table" 2 (spD K (ar 1 spec__law_table)) :=
  h.fk X G (fun f fd F => fn_ok F sc__law_table (fun ds w Q h => h.1) blt (fun cdv A outer s H E c hr ok => w__law_table (k__law_times.kn hr (by decide)) ok) (fun ds w Q h => vc__law_table ds w Q h.2)) (fun _ _ _ _ _ _ us hl => match us, hl with | [_], _ => rfl)
theorem fk__law_divisor (X : K.In hp) (G : hp.Ns mainGlobals mg) (blt : ∀ x ∈ bltNames, mg x = none) (h : FnAt K "_law_divisor" s__law_divisor) : FK P w K mg base "_law_divisor" 1 (spD K (ar 2 spec__law_divisor)) :=
  h.fk X G (fun f fd F => fn_ok F sc__law_divisor (fun ds w Q h => h.1) blt (fun cdv A outer s H E c hr ok => w__law_divisor ok) (fun ds w Q h => vc__law_divisor ds w Q h.2)) (fun _ _ _ _ _ _ us hl => match us, hl with | [_, _], _ => rfl)
theorem fk__law_lines (X : K.In hp) (G : hp.Ns mainGlobals mg) (blt : ∀ x ∈ bltNames, mg x = none) (h : FnAt K "_law_lines" s__law_lines) (k__law_divisor : FK P w K mg base "_law_divisor" 1 (spD K (ar 2 spec__law_divisor))) : FK P w K mg base "_law_lines" 2 (spD K (ar 1 spec__law_lines)) :=
  h.fk X G (fun f fd F => fn_ok F sc__law_lines (fun ds w Q h => h.1) blt (fun cdv A outer s H E c hr ok => w__law_lines (k__law_divisor.kn hr (by decide)) ok) (fun ds w Q h => vc__law_lines ds w Q h.2)) (fun _ _ _ _ _ _ us hl => match us, hl with | [_], _ => rfl)
theorem fk__law_kept (X : K.In hp) (G : hp.Ns mainGlobals mg) (blt : ∀ x ∈ bltNames, mg x = none) (h : FnAt K "_law_kept" s__law_kept) (k__law_table : FK P w K mg base "_law_table" 2 (spD K (ar 1 spec__law_table))) (k__law_divisor : FK P w K mg base "_law_divisor" 1 (spD K (ar 2 spec__law_divisor))) (k__law_lines : FK P w K mg base "_law_lines" 2 (spD K (ar 1 spec__law_lines))) : FK P w K mg base "_law_kept" 3 (spD K (ar 2 spec__law_kept)) :=
  h.fk X G (fun f fd F => fn_ok F sc__law_kept (fun ds w Q h => h.1) blt (fun cdv A outer s H E c hr ok => w__law_kept (k__law_table.kn hr (by decide)) (k__law_divisor.kn hr (by decide)) (k__law_lines.kn hr (by decide)) ok) (fun ds w Q h => vc__law_kept ds w Q h.2)) (fun _ _ _ _ _ _ us hl => match us, hl with | [_, _], _ => rfl)
theorem fk_least_multiple (X : K.In hp) (G : hp.Ns mainGlobals mg) (blt : ∀ x ∈ bltNames, mg x = none) (h : FnAt K "least_multiple" s_least_multiple) (hc_gcd : KB mg "gcd" "math.gcd") : FK P w K mg base "least_multiple" 1 (spD K (ar 3 spec_least_multiple)) :=
  h.fk X G (fun f fd F => fn_ok F sc_least_multiple (fun ds w Q h => h.1) blt (fun cdv A outer s H E c hr ok => w_least_multiple hc_gcd ok) (fun ds w Q h => vc_least_multiple ds w Q h.2)) (fun _ _ _ _ _ _ us hl => match us, hl with | [_, _, _], _ => rfl)
theorem fk_lines_of (X : K.In hp) (G : hp.Ns mainGlobals mg) (blt : ∀ x ∈ bltNames, mg x = none) (h : FnAt K "lines_of" s_lines_of) (hc_gcd : KB mg "gcd" "math.gcd") (k_least_multiple : FK P w K mg base "least_multiple" 1 (spD K (ar 3 spec_least_multiple))) : FK P w K mg base "lines_of" 2 (spD K (ar 1 spec_lines_of)) :=
  h.fk X G (fun f fd F => fn_ok F sc_lines_of (fun ds w Q h => h.1) blt (fun cdv A outer s H E c hr ok => w_lines_of hc_gcd (k_least_multiple.kn hr (by decide)) ok) (fun ds w Q h => vc_lines_of ds w Q h.2)) (fun _ _ _ _ _ _ us hl => match us, hl with | [_], _ => rfl)
theorem fk_kept_lines (X : K.In hp) (G : hp.Ns mainGlobals mg) (blt : ∀ x ∈ bltNames, mg x = none) (h : FnAt K "kept_lines" s_kept_lines) (k_turned_by : FK P w K mg base "turned_by" 2 (spD K (ar 1 spec_turned_by))) (k_lines_of : FK P w K mg base "lines_of" 2 (spD K (ar 1 spec_lines_of))) (k_least_multiple : FK P w K mg base "least_multiple" 1 (spD K (ar 3 spec_least_multiple))) : FK P w K mg base "kept_lines" 3 (spD K (ar 2 spec_kept_lines)) :=
  h.fk X G (fun f fd F => fn_ok F sc_kept_lines (fun ds w Q h => h.1) blt (fun cdv A outer s H E c hr ok => w_kept_lines (k_turned_by.kn hr (by decide)) (k_lines_of.kn hr (by decide)) (k_least_multiple.kn hr (by decide)) ok) (fun ds w Q h => vc_kept_lines ds w Q h.2)) (fun _ _ _ _ _ _ us hl => match us, hl with | [_, _], _ => rfl)
theorem fk__law_kept_right (X : K.In hp) (G : hp.Ns mainGlobals mg) (blt : ∀ x ∈ bltNames, mg x = none) (h : FnAt K "_law_kept_right" s__law_kept_right) (k__law_kept : FK P w K mg base "_law_kept" 3 (spD K (ar 2 spec__law_kept))) (k_kept_lines : FK P w K mg base "kept_lines" 3 (spD K (ar 2 spec_kept_lines))) (k__law_same : FK P w K mg base "_law_same" 6 (spD K (ar 2 (spec__law_same 6)))) : FK P w K mg base "_law_kept_right" 7 (spD K (ar 2 spec__law_kept_right)) :=
  h.fk X G (fun f fd F => fn_ok F sc__law_kept_right (fun ds w Q h => h.1) blt (fun cdv A outer s H E c hr ok => w__law_kept_right (k__law_kept.kn hr (by decide)) (k_kept_lines.kn hr (by decide)) (k__law_same.kn hr (by decide)) ok) (fun ds w Q h => vc__law_kept_right ds w Q h.2)) (fun _ _ _ _ _ _ us hl => match us, hl with | [_, _], _ => rfl)
theorem fk_sign_times (X : K.In hp) (G : hp.Ns mainGlobals mg) (blt : ∀ x ∈ bltNames, mg x = none) (h : FnAt K "sign_times" s_sign_times) (hc_NOTHING : KC K mg "NOTHING" c_NOTHING) (hc_CONTRARY : KC K mg "CONTRARY" c_CONTRARY) (k_times_to : FK P w K mg base "times_to" 2 (spD K (ar 3 spec_times_to))) (k_rest_table : FK P w K mg base "rest_table" 3 (spD K (ar 2 spec_rest_table))) (k_rests_of : FK P w K mg base "rests_of" 1 (spD K (ar 2 spec_rests_of))) : FK P w K mg base "sign_times" 4 (spD K (ar 2 spec_sign_times)) :=
  h.fk X G (fun f fd F => fn_ok F sc_sign_times (fun ds w Q h => h.1) blt (fun cdv A outer s H E c hr ok => w_sign_times hc_NOTHING hc_CONTRARY (k_times_to.kn hr (by decide)) (k_rest_table.kn hr (by decide)) (k_rests_of.kn hr (by decide)) ok) (fun ds w Q h => vc_sign_times ds w Q h.2)) (fun _ _ _ _ _ _ us hl => match us, hl with | [_, _], _ => rfl)
theorem fk__law_plain (X : K.In hp) (G : hp.Ns mainGlobals mg) (blt : ∀ x ∈ bltNames, mg x = none) (h : FnAt K "_law_plain" s__law_plain) (k__law_draw : FK P w K mg base "_law_draw" 1 (spF K (ar 1 spec__law_draw))) : FK P w K mg base "_law_plain" 2 (spF K (ar 1 spec__law_plain)) :=
  h.fk X G (fun f fd F => fn_okF F sc__law_plain (fun ds w Q h => congrArg (· + 1) h.1) blt (fun cdv A outer s H E c hr ok => w__law_plain (k__law_draw.kn hr (by decide)) ok) (fun ds w Q h => vc__law_plain ds w Q h.2)) (fun _ _ _ _ _ _ us hl => match us, hl with | [_, _], _ => rfl)
theorem fk__law_rests (X : K.In hp) (G : hp.Ns mainGlobals mg) (blt : ∀ x ∈ bltNames, mg x = none) (h : FnAt K "_law_rests" s__law_rests) : FK P w K mg base "_law_rests" 1 (spD K (ar 2 spec__law_rests)) :=
  h.fk X G (fun f fd F => fn_ok F sc__law_rests (fun ds w Q h => h.1) blt (fun cdv A outer s H E c hr ok => w__law_rests ok) (fun ds w Q h => vc__law_rests ds w Q h.2)) (fun _ _ _ _ _ _ us hl => match us, hl with | [_, _], _ => rfl)
theorem fk__law_how_often (X : K.In hp) (G : hp.Ns mainGlobals mg) (blt : ∀ x ∈ bltNames, mg x = none) (h : FnAt K "_law_how_often" s__law_how_often) (k__law_rests : FK P w K mg base "_law_rests" 1 (spD K (ar 2 spec__law_rests))) (k__law_table : FK P w K mg base "_law_table" 2 (spD K (ar 1 spec__law_table))) (k__law_times : FK P w K mg base "_law_times" 1 (spD K (ar 2 spec__law_times))) : FK P w K mg base "_law_how_often" 3 (spD K (ar 2 spec__law_how_often)) :=
  h.fk X G (fun f fd F => fn_ok F sc__law_how_often (fun ds w Q h => h.1) blt (fun cdv A outer s H E c hr ok => w__law_how_often (k__law_rests.kn hr (by decide)) (k__law_table.kn hr (by decide)) (k__law_times.kn hr (by decide)) ok) (fun ds w Q h => vc__law_how_often ds w Q h.2)) (fun _ _ _ _ _ _ us hl => match us, hl with | [_, _], _ => rfl)
theorem fk__law_right (X : K.In hp) (G : hp.Ns mainGlobals mg) (blt : ∀ x ∈ bltNames, mg x = none) (h : FnAt K "_law_right" s__law_right) (k__law_how_often : FK P w K mg base "_law_how_often" 3 (spD K (ar 2 spec__law_how_often))) (k__law_same : FK P w K mg base "_law_same" 6 (spD K (ar 2 (spec__law_same 6)))) (k_rest_table : FK P w K mg base "rest_table" 3 (spD K (ar 2 spec_rest_table))) (k__law_rests : FK P w K mg base "_law_rests" 1 (spD K (ar 2 spec__law_rests))) (k__law_table : FK P w K mg base "_law_table" 2 (spD K (ar 1 spec__law_table))) (k_rest_times : FK P w K mg base "rest_times" 4 (spD K (ar 2 spec_rest_times))) (k_sign_times : FK P w K mg base "sign_times" 4 (spD K (ar 2 spec_sign_times))) : FK P w K mg base "_law_right" 7 (spD K (ar 2 spec__law_right)) :=
  h.fk X G (fun f fd F => fn_ok F sc__law_right (fun ds w Q h => h.1) blt (fun cdv A outer s H E c hr ok => w__law_right (k__law_how_often.kn hr (by decide)) (k__law_same.kn hr (by decide)) (k_rest_table.kn hr (by decide)) (k__law_rests.kn hr (by decide)) (k__law_table.kn hr (by decide)) (k_rest_times.kn hr (by decide)) (k_sign_times.kn hr (by decide)) ok) (fun ds w Q h => vc__law_right ds w Q h.2)) (fun _ _ _ _ _ _ us hl => match us, hl with | [_, _], _ => rfl)
theorem all_mk {l : PySem.W.OpenLaw} {w : World} {K : PySem.W.Frag} {h : Heap} {mg : Str → Option Value} {fa : Addr} (X : K.In h) (G : h.Ns mainGlobals mg) (hfa : mg "law" = some (.ref fa))
    (h__law_feed : FnAt K "_law_feed" s__law_feed)
    (h__law_same : FnAt K "_law_same" s__law_same)
    (h__law_draw : FnAt K "_law_draw" s__law_draw)
    (h__law_drawn : FnAt K "_law_drawn" s__law_drawn)
    (h__law_put : FnAt K "_law_put" s__law_put)
    (h__law_grown : FnAt K "_law_grown" s__law_grown)
    (h_rests_of : FnAt K "rests_of" s_rests_of)
    (h_multiplied : FnAt K "multiplied" s_multiplied)
    (h_times_to : FnAt K "times_to" s_times_to)
    (h_turned_by : FnAt K "turned_by" s_turned_by)
    (h_rest_table : FnAt K "rest_table" s_rest_table)
    (h_rest_times : FnAt K "rest_times" s_rest_times)
    (h__law_times : FnAt K "_law_times" s__law_times)
    (h__law_table : FnAt K "_law_table" s__law_table)
    (h__law_divisor : FnAt K "_law_divisor" s__law_divisor)
    (h__law_lines : FnAt K "_law_lines" s__law_lines)
    (h__law_kept : FnAt K "_law_kept" s__law_kept)
    (h_least_multiple : FnAt K "least_multiple" s_least_multiple)
    (h_lines_of : FnAt K "lines_of" s_lines_of)
    (h_kept_lines : FnAt K "kept_lines" s_kept_lines)
    (h__law_kept_right : FnAt K "_law_kept_right" s__law_kept_right)
    (h_sign_times : FnAt K "sign_times" s_sign_times)
    (h__law_plain : FnAt K "_law_plain" s__law_plain)
    (h__law_rests : FnAt K "_law_rests" s__law_rests)
    (h__law_how_often : FnAt K "_law_how_often" s__law_how_often)
    (h__law_right : FnAt K "_law_right" s__law_right)
    (h_law : FnAt K "law" s_law)
    (hc_NOTHING : KC K mg "NOTHING" c_NOTHING)
    (hc_CONTRARY : KC K mg "CONTRARY" c_CONTRARY)
    (hc_gcd : KB mg "gcd" "math.gcd")
    (blt : ∀ x ∈ bltNames, mg x = none) :
    ∃ fd : FuncData, (∀ (s : Shared) (v : Value), BindsTo s fd ⟨[v], []⟩ [("script", v)]) ∧ ∀ base : Heap, K.In base → base.Ns mainGlobals mg → FnOk l.prog w K mg base CX0 8 fa fd ["script"] (spLaw K) := by
  obtain ⟨f, fd, a, F⟩ := h_law.ex
  have e := hfa.symm.trans (PySem.W.mg_of X G a)
  cases e
  refine ⟨fd, fun s v => ?_, fun base hb1 hb2 => ?_⟩
  · obtain ⟨oc, od, kV, doc, pm, an, cdv, ct, osl, e, _⟩ := F.ex
    subst e
    exact .of_eq rfl
  · have k__law_feed : FK l.prog w K mg base "_law_feed" 1 (spFeed K) := h__law_feed.fk X G (fun f fd F => feed_fn F sc__law_feed (blt _ (by decide +kernel)) rfl (fun _ _ _ _ => rfl) rfl) (fun _ _ _ _ _ _ us hl => match us, hl with | [_], _ => rfl)
    have k__law_same := fk__law_same (P := l.prog) (w := w) (base := base) X G blt h__law_same 6
    have k__law_draw := fk__law_draw (P := l.prog) (w := w) (base := base) X G blt h__law_draw
    have k__law_drawn := fk__law_drawn (P := l.prog) (w := w) (base := base) X G blt h__law_drawn k__law_draw
    have k__law_put := fk__law_put (P := l.prog) (w := w) (base := base) X G blt h__law_put
    have k__law_grown := fk__law_grown (P := l.prog) (w := w) (base := base) X G blt h__law_grown k__law_draw k__law_put
    have k_rests_of := fk_rests_of (P := l.prog) (w := w) (base := base) X G blt h_rests_of
    have k_multiplied := fk_multiplied (P := l.prog) (w := w) (base := base) X G blt h_multiplied
    have k_times_to := fk_times_to (P := l.prog) (w := w) (base := base) X G blt h_times_to k_rests_of k_multiplied
    have k_turned_by := fk_turned_by (P := l.prog) (w := w) (base := base) X G blt h_turned_by hc_NOTHING k_multiplied
    have k_rest_table := fk_rest_table (P := l.prog) (w := w) (base := base) X G blt h_rest_table k_rests_of k_turned_by
    have k_rest_times := fk_rest_times (P := l.prog) (w := w) (base := base) X G blt h_rest_times hc_NOTHING k_times_to k_rest_table k_rests_of
    have k__law_times := fk__law_times (P := l.prog) (w := w) (base := base) X G blt h__law_times
    have k__law_table := fk__law_table (P := l.prog) (w := w) (base := base) X G blt h__law_table k__law_times
    have k__law_divisor := fk__law_divisor (P := l.prog) (w := w) (base := base) X G blt h__law_divisor
    have k__law_lines := fk__law_lines (P := l.prog) (w := w) (base := base) X G blt h__law_lines k__law_divisor
    have k__law_kept := fk__law_kept (P := l.prog) (w := w) (base := base) X G blt h__law_kept k__law_table k__law_divisor k__law_lines
    have k_least_multiple := fk_least_multiple (P := l.prog) (w := w) (base := base) X G blt h_least_multiple hc_gcd
    have k_lines_of := fk_lines_of (P := l.prog) (w := w) (base := base) X G blt h_lines_of hc_gcd k_least_multiple
    have k_kept_lines := fk_kept_lines (P := l.prog) (w := w) (base := base) X G blt h_kept_lines k_turned_by k_lines_of k_least_multiple
    have k__law_kept_right := fk__law_kept_right (P := l.prog) (w := w) (base := base) X G blt h__law_kept_right k__law_kept k_kept_lines k__law_same
    have k_sign_times := fk_sign_times (P := l.prog) (w := w) (base := base) X G blt h_sign_times hc_NOTHING hc_CONTRARY k_times_to k_rest_table k_rests_of
    have k__law_plain := fk__law_plain (P := l.prog) (w := w) (base := base) X G blt h__law_plain k__law_draw
    have k__law_rests := fk__law_rests (P := l.prog) (w := w) (base := base) X G blt h__law_rests
    have k__law_how_often := fk__law_how_often (P := l.prog) (w := w) (base := base) X G blt h__law_how_often k__law_rests k__law_table k__law_times
    have k__law_right := fk__law_right (P := l.prog) (w := w) (base := base) X G blt h__law_right k__law_how_often k__law_same k_rest_table k__law_rests k__law_table k_rest_times k_sign_times
    exact law_fn (k := 7) F sc_law blt k__law_feed (by decide) rfl rfl rfl rfl (by first | exact .inl rfl | exact .inr rfl) (fun _ _ _ _ => rfl) (fun cdv A outer s H E c hr ok => w_law (k__law_draw.kn hr (by decide)) (k__law_drawn.kn hr (by decide)) (k__law_grown.kn hr (by decide)) (k__law_plain.kn hr (by decide)) (k__law_put.kn hr (by decide)) (k__law_right.kn hr (by decide)) (k_rest_times.kn hr (by decide)) (k_sign_times.kn hr (by decide)) (k__law_kept_right.kn hr (by decide)) (k__law_same.kn hr (by decide)) (k_rest_table.kn hr (by decide)) (k_kept_lines.kn hr (by decide)) ok) vc_law
end
end K30
open PySem PySem.W PyProof.Rows


theorem PySem.Challenge.cw_ringlands_k30_whole_rests_of_rings_holds : PySem.Challenge.rw_ringlands_k30_whole_rests_of_rings.Holds := by
  w_on; o_law; k_head; (case hw => w_witness2)
  k_fill
  refine L2.walk_of (l := PySem.Challenge.rw_ringlands_k30_whole_rests_of_rings) (n := 63) (k := 8) (x := "script") (CX := fun _ => L2.CX0) (sp := fun w => DL.spLaw _) rfl (by decide) rfl ⟨rfl, by decide, by decide⟩ (fun w h Y => PySem.W.kIn_of Y) ?F (fun _ _ a ns hl _ hS => ⟨a, ns, rfl, hS, hl, fun _ => rfl⟩) (fun _ _ _ _ _ h => h)
  case F =>
    intro w mg fa h KX G hmg
    refine' K30.all_mk KX G hmg ?f__law_feed ?f__law_same ?f__law_draw ?f__law_drawn ?f__law_put ?f__law_grown ?f_rests_of ?f_multiplied ?f_times_to ?f_turned_by ?f_rest_table ?f_rest_times ?f__law_times ?f__law_table ?f__law_divisor ?f__law_lines ?f__law_kept ?f_least_multiple ?f_lines_of ?f_kept_lines ?f__law_kept_right ?f_sign_times ?f__law_plain ?f__law_rests ?f__law_how_often ?f__law_right ?f_law ?c_NOTHING ?c_CONTRARY ?c_gcd ?blt
    (case f__law_feed => (refine' DL.FnAt.mk' ?a ?l ?c ?k; (case a => k_is); (case l => k_is); (case c => k_is); (case k => k_is)))
    (case f__law_same => (refine' DL.FnAt.mk' ?a ?l ?c ?k; (case a => k_is); (case l => k_is); (case c => k_is); (case k => k_is)))
    (case f__law_draw => (refine' DL.FnAt.mk' ?a ?l ?c ?k; (case a => k_is); (case l => k_is); (case c => k_is); (case k => k_is)))
    (case f__law_drawn => (refine' DL.FnAt.mk' ?a ?l ?c ?k; (case a => k_is); (case l => k_is); (case c => k_is); (case k => k_is)))
    (case f__law_put => (refine' DL.FnAt.mk' ?a ?l ?c ?k; (case a => k_is); (case l => k_is); (case c => k_is); (case k => k_is)))
    (case f__law_grown => (refine' DL.FnAt.mk' ?a ?l ?c ?k; (case a => k_is); (case l => k_is); (case c => k_is); (case k => k_is)))
    (case f_rests_of => (refine' DL.FnAt.mk' ?a ?l ?c ?k; (case a => k_is); (case l => k_is); (case c => k_is); (case k => k_is)))
    (case f_multiplied => (refine' DL.FnAt.mk' ?a ?l ?c ?k; (case a => k_is); (case l => k_is); (case c => k_is); (case k => k_is)))
    (case f_times_to => (refine' DL.FnAt.mk' ?a ?l ?c ?k; (case a => k_is); (case l => k_is); (case c => k_is); (case k => k_is)))
    (case f_turned_by => (refine' DL.FnAt.mk' ?a ?l ?c ?k; (case a => k_is); (case l => k_is); (case c => k_is); (case k => k_is)))
    (case f_rest_table => (refine' DL.FnAt.mk' ?a ?l ?c ?k; (case a => k_is); (case l => k_is); (case c => k_is); (case k => k_is)))
    (case f_rest_times => (refine' DL.FnAt.mk' ?a ?l ?c ?k; (case a => k_is); (case l => k_is); (case c => k_is); (case k => k_is)))
    (case f__law_times => (refine' DL.FnAt.mk' ?a ?l ?c ?k; (case a => k_is); (case l => k_is); (case c => k_is); (case k => k_is)))
    (case f__law_table => (refine' DL.FnAt.mk' ?a ?l ?c ?k; (case a => k_is); (case l => k_is); (case c => k_is); (case k => k_is)))
    (case f__law_divisor => (refine' DL.FnAt.mk' ?a ?l ?c ?k; (case a => k_is); (case l => k_is); (case c => k_is); (case k => k_is)))
    (case f__law_lines => (refine' DL.FnAt.mk' ?a ?l ?c ?k; (case a => k_is); (case l => k_is); (case c => k_is); (case k => k_is)))
    (case f__law_kept => (refine' DL.FnAt.mk' ?a ?l ?c ?k; (case a => k_is); (case l => k_is); (case c => k_is); (case k => k_is)))
    (case f_least_multiple => (refine' DL.FnAt.mk' ?a ?l ?c ?k; (case a => k_is); (case l => k_is); (case c => k_is); (case k => k_is)))
    (case f_lines_of => (refine' DL.FnAt.mk' ?a ?l ?c ?k; (case a => k_is); (case l => k_is); (case c => k_is); (case k => k_is)))
    (case f_kept_lines => (refine' DL.FnAt.mk' ?a ?l ?c ?k; (case a => k_is); (case l => k_is); (case c => k_is); (case k => k_is)))
    (case f__law_kept_right => (refine' DL.FnAt.mk' ?a ?l ?c ?k; (case a => k_is); (case l => k_is); (case c => k_is); (case k => k_is)))
    (case f_sign_times => (refine' DL.FnAt.mk' ?a ?l ?c ?k; (case a => k_is); (case l => k_is); (case c => k_is); (case k => k_is)))
    (case f__law_plain => (refine' DL.FnAt.mk' ?a ?l ?c ?k; (case a => k_is); (case l => k_is); (case c => k_is); (case k => k_is)))
    (case f__law_rests => (refine' DL.FnAt.mk' ?a ?l ?c ?k; (case a => k_is); (case l => k_is); (case c => k_is); (case k => k_is)))
    (case f__law_how_often => (refine' DL.FnAt.mk' ?a ?l ?c ?k; (case a => k_is); (case l => k_is); (case c => k_is); (case k => k_is)))
    (case f__law_right => (refine' DL.FnAt.mk' ?a ?l ?c ?k; (case a => k_is); (case l => k_is); (case c => k_is); (case k => k_is)))
    (case f_law => (refine' DL.FnAt.mk' ?a ?l ?c ?k; (case a => k_is); (case l => k_is); (case c => k_is); (case k => k_is)))
    (case c_NOTHING => (refine' DL.KC.tup KX G ?a ?l ?v ?z; (case a => k_is); (case l => k_is); (case v => exact (.cons (.int _ _) (.cons (.int _ _) (.cons (.int _ _) (.cons (.int _ _) .nil))))); (case z => decide)))
    (case c_CONTRARY => (refine' DL.KC.tup KX G ?a ?l ?v ?z; (case a => k_is); (case l => k_is); (case v => exact (.cons (.int _ _) (.cons (.int _ _) (.cons (.int _ _) (.cons (.int _ _) .nil))))); (case z => decide)))
    (case c_gcd => (refine' DL.KB.mk' KX G ?a; (case a => k_is)))
    (case blt => (refine' DL.blt_of KX G ?b0 ?b1 ?b2 ?b3 ?b4 ?b5 ?b6 ?b7 ?b8 ?b9 ?b10 ?b11 ?b12 ?b13 ?b14 ?b15 ?b16; (case b0 => k_is); (case b1 => k_is); (case b2 => k_is); (case b3 => k_is); (case b4 => k_is); (case b5 => k_is); (case b6 => k_is); (case b7 => k_is); (case b8 => k_is); (case b9 => k_is); (case b10 => k_is); (case b11 => k_is); (case b12 => k_is); (case b13 => k_is); (case b14 => k_is); (case b15 => k_is); (case b16 => k_is)))
