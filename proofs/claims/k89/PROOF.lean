import PyProof.Rows.All
import Wide.All
import OpenK.AllK
import Wide.FinOn
import HandS.ForMost
import HandS.Wide
import HandS.Deep
import HandS.TupMul
import HandS.IsInst
import HandS.Style
import HandS.Replace
import HandS.StrMore
import KE.GoesMore
import KE.DatumOrd
import HandS.ExcCtx
import HandS.HotCalls
import HandS.ExcField
import HandS.WordsExc
import KE.KExcIs
import HandS.ExcInit
import HandS.TupLe
import HandS.More
import HandS.Dict
import HandS.WordsDict
import HandS.TupSets
import HandS.TupAny
import HandS.Gcd
import KE.KMathGC
import PySem.Challenge.RW_ringlands_k89_whole_mirrors_of_lands
set_option Elab.async false
set_option linter.all false
set_option maxRecDepth 100000
set_option maxHeartbeats 4000000

/-! DLCore: Python's plain data, the slots of a frame, and the meaning of the language's pieces over them, as predicate transformers. No model here. -/
namespace DL

/-- plain data; a text is the list of its code points -/
inductive D where
  | none
  | bool (b : Bool)
  | int (i : Int)
  | str (s : List Nat)
  | list (ds : List D)
  | tup (ds : List D)

mutual
/-- == -/
def eqD : D → D → Bool
  | .none, .none => true
  | .bool a, .bool b => a == b
  | .bool a, .int j => (if a then (1 : Int) else 0) == j
  | .int i, .bool b => i == (if b then (1 : Int) else 0)
  | .int i, .int j => i == j
  | .str x, .str y => x == y
  | .list xs, .list ys => eqDs xs ys
  | .tup xs, .tup ys => eqDs xs ys
  | .none, .bool _ | .none, .int _ | .none, .str _ | .none, .list _ | .none, .tup _ => false
  | .bool _, .none | .bool _, .str _ | .bool _, .list _ | .bool _, .tup _ => false
  | .int _, .none | .int _, .str _ | .int _, .list _ | .int _, .tup _ => false
  | .str _, .none | .str _, .bool _ | .str _, .int _ | .str _, .list _ | .str _, .tup _ => false
  | .list _, .none | .list _, .bool _ | .list _, .int _ | .list _, .str _ | .list _, .tup _ => false
  | .tup _, .none | .tup _, .bool _ | .tup _, .int _ | .tup _, .str _ | .tup _, .list _ => false
def eqDs : List D → List D → Bool
  | [], [] => true
  | x :: xs, y :: ys => eqD x y && eqDs xs ys
  | [], _ :: _ => false
  | _ :: _, [] => false
end
/-- data of a depth at most n, texts of code points -/
def okD : Nat → D → Bool
  | _, .none => true
  | _, .bool _ => true
  | _, .int _ => true
  | _, .str s => s.all fun c => decide (c < 1114112)
  | 0, .list _ => false
  | 0, .tup _ => false
  | n + 1, .list ds => ds.all (okD n)
  | n + 1, .tup ds => ds.all (okD n)

/-- the longest list or text -/
abbrev LINE : Nat := 16777216

/-- an error: its class's name, its field -/
structure Exn where
  cls : String
  arg : Option (String × D)
inductive Slot where
  | gone
  /-- a value that nobody changes any more -/
  | val (d : D)
  /-- a list that only this name holds -/
  | own (ds : List D)
  /-- the law's feed -/
  | feed
  /-- the error that an except suite holds -/
  | exn (e : Exn)
/-- the state of the feed -/
structure W where
  sc : List Int
  ix : Int
  big : Int
  seed : Int
structure S where
  v : List Slot
  w : W
/-- what an expression gives: a value; a new list; the list of a name, read only -/
inductive R where
  | val (d : D)
  | own (ds : List D)
  | bor (ds : List D)
def R.d : R → D
  | .val d => d
  | .own ds => .list ds
  | .bor ds => .list ds

def get : List Slot → Nat → Slot
  | [], _ => .gone
  | x :: _, 0 => x
  | _ :: r, n + 1 => get r n
def put : List Slot → Nat → Slot → List Slot
  | [], _, _ => []
  | _ :: r, 0, y => y :: r
  | x :: r, n + 1, y => x :: put r n y
def puts : List Slot → List Nat → Slot → List Slot
  | v, [], _ => v
  | v, i :: r, y => put (puts v r y) i y

abbrev M := S → (R → S → Prop) → Prop
abbrev T := S → (Bool → S → Prop) → Prop
abbrev Ms := S → (List D → S → Prop) → Prop
structure Outs where
  nx : S → Prop
  rt : R → W → Prop
  bk : S → Prop := fun _ => False
  ct : S → Prop := fun _ => False
abbrev MS := S → Outs → Prop
/-- a def's meaning: its arguments, the feed ahead, what is wanted -/
abbrev Sem := List D → W → (R → W → Prop) → Prop

/-! ### expressions -/
def mC (d : D) (s : S) (Q : R → S → Prop) : Prop := Q (.val d) s
/-- a name, read only -/
def mVar (i : Nat) (s : S) (Q : R → S → Prop) : Prop := match get s.v i with
  | .val d => Q (.val d) s
  | .own ds => Q (.bor ds) s
  | _ => False
/-- a name whose value goes elsewhere: nobody changes it from here on -/
def mFzV (i : Nat) (s : S) (Q : R → S → Prop) : Prop := match get s.v i with
  | .val d => Q (.val d) s
  | .own ds => Q (.val (.list ds)) { s with v := put s.v i (.val (.list ds)) }
  | _ => False
/-- feed[0], feed[1], feed[2], feed[3] -/
def mFeed (i k : Nat) (s : S) (Q : R → S → Prop) : Prop := match get s.v i with
  | .feed => (match k with
    | 0 => Q (.val (.list (s.w.sc.map D.int))) s
    | 1 => Q (.val (.int s.w.ix)) s
    | 2 => Q (.val (.int s.w.big)) s
    | 3 => Q (.val (.int s.w.seed)) s
    | _ => False)
  | _ => False
/-- a value for good -/
def frz (r : R) (k : D → Prop) : Prop := match r with
  | .val d => k d
  | .own ds => k (.list ds)
  | .bor _ => False
def msN (s : S) (Q : List D → S → Prop) : Prop := Q [] s
def msC (a : M) (r : Ms) (s : S) (Q : List D → S → Prop) : Prop := a s fun x s1 => frz x fun d => r s1 fun ds s2 => Q (d :: ds) s2
def mBin (f : D → D → (R → Prop) → Prop) (a b : M) (s : S) (Q : R → S → Prop) : Prop := a s fun x s1 => b s1 fun y s2 => f x.d y.d fun r => Q r s2
def mUn (f : D → (R → Prop) → Prop) (a : M) (s : S) (Q : R → S → Prop) : Prop := a s fun x s1 => f x.d fun r => Q r s1

def dAdd : D → D → (R → Prop) → Prop
  | .int i, .int j, k => k (.val (.int (i + j)))
  | .str a, .str b, k => a.length + b.length ≤ LINE ∧ k (.val (.str (a ++ b)))
  | .list a, .list b, k => a.length + b.length ≤ LINE ∧ k (.own (a ++ b))
  | _, _, _ => False
def dSub : D → D → (R → Prop) → Prop
  | .int i, .int j, k => k (.val (.int (i - j)))
  | _, _, _ => False
def dMul : D → D → (R → Prop) → Prop
  | .int i, .int j, k => i.natAbs.log2 + j.natAbs.log2 < 1000000 ∧ k (.val (.int (i * j)))
  | .list a, .int n, k => (-(2 ^ 63) ≤ n ∧ n < 2 ^ 63) ∧ a.length * n.toNat ≤ LINE ∧ k (.own (List.replicate n.toNat a).flatten)
  | .str a, .int n, k => (-(2 ^ 63) ≤ n ∧ n < 2 ^ 63) ∧ a.length * n.toNat ≤ LINE ∧ k (.val (.str (List.replicate n.toNat a).flatten))
  | _, _, _ => False
def dDiv : D → D → (R → Prop) → Prop
  | .int i, .int j, k => 0 < j ∧ j.natAbs.log2 < 9000 ∧ k (.val (.int (i / j)))
  | _, _, _ => False
def dMod : D → D → (R → Prop) → Prop
  | .int i, .int j, k => 0 < j ∧ k (.val (.int (i % j)))
  | _, _, _ => False
def dPow : D → D → (R → Prop) → Prop
  | .int i, .int j, k => (0 ≤ j ∧ j ≤ 1000000 ∧ i.natAbs < 2 ^ 64) ∧ k (.val (.int (i ^ j.toNat)))
  | _, _, _ => False
def dNeg : D → (R → Prop) → Prop
  | .int i, k => k (.val (.int (-i)))
  | _, _ => False
def dCmp (p : Int → Int → Bool) : D → D → (R → Prop) → Prop
  | .int i, .int j, k => k (.val (.bool (p i j)))
  | _, _, _ => False
def dLt : D → D → (R → Prop) → Prop
  | .int i, .int j, k => k (.val (.bool (decide (i < j))))
  | .str a, .str b, k => k (.val (.bool (decide (a < b))))
  | _, _, _ => False
abbrev dLe := dCmp fun i j => decide (i ≤ j)
abbrev dGt := dCmp fun i j => decide (j < i)
abbrev dGe := dCmp fun i j => decide (j ≤ i)
def dEq (x y : D) (k : R → Prop) : Prop := okD 8 x = true ∧ okD 8 y = true ∧ k (.val (.bool (eqD x y)))
def dNe (x y : D) (k : R → Prop) : Prop := okD 8 x = true ∧ okD 8 y = true ∧ k (.val (.bool (!eqD x y)))
def flatD : D → Bool
  | .list _ => false
  | .tup _ => false
  | _ => true
/-- x in ys -/
def dIn (neg : Bool) (x y : D) (k : R → Prop) : Prop := match y with
  | .list ds => okD 8 x = true ∧ ds.all (okD 8) = true ∧ k (.val (.bool (xor neg (ds.any fun d => eqD d x))))
  | .tup ds => flatD x = true ∧ ds.all flatD = true ∧ k (.val (.bool (xor neg (ds.any fun d => eqD d x))))
  | .str s => (match x with
    | .str [c] => k (.val (.bool (xor neg (s.any fun d => d == c))))
    | _ => False)
  | _ => False
def isN : D → Bool
  | .none => true
  | _ => false
def dIsN (d : D) (k : R → Prop) : Prop := k (.val (.bool (isN d)))
def dIsNotN (d : D) (k : R → Prop) : Prop := k (.val (.bool (!isN d)))
/-- is, of two truth values -/
def dIs : D → D → (R → Prop) → Prop
  | .bool a, .bool b, k => k (.val (.bool (decide (a = b))))
  | _, _, _ => False
def dIsNot : D → D → (R → Prop) → Prop
  | .bool a, .bool b, k => k (.val (.bool (!decide (a = b))))
  | _, _, _ => False
/-- truth -/
def truth : D → Bool
  | .none => false
  | .bool b => b
  | .int i => i != 0
  | .str s => !s.isEmpty
  | .list ds => !ds.isEmpty
  | .tup ds => !ds.isEmpty
def okT : D → Prop
  | .str x => x.length ≤ LINE
  | _ => True
def tV (m : M) (s : S) (Q : Bool → S → Prop) : Prop := m s fun r s1 => okT r.d ∧ Q (truth r.d) s1
/-- a value that is True or False -/
def tB (m : M) (s : S) (Q : Bool → S → Prop) : Prop := m s fun r s1 => match r.d with
  | .bool b => Q b s1
  | _ => False
def tAnd (a b : T) (s : S) (Q : Bool → S → Prop) : Prop := a s fun c s1 => if c = true then b s1 Q else Q false s1
def tOr (a b : T) (s : S) (Q : Bool → S → Prop) : Prop := a s fun c s1 => if c = true then Q true s1 else b s1 Q
def tNot (a : T) (s : S) (Q : Bool → S → Prop) : Prop := a s fun c s1 => Q (!c) s1
def mAnd (a b : M) (s : S) (Q : R → S → Prop) : Prop := a s fun r s1 => match r.d with
  | .bool c => if c = true then b s1 Q else Q (.val (.bool false)) s1
  | _ => False
def mOr (a b : M) (s : S) (Q : R → S → Prop) : Prop := a s fun r s1 => match r.d with
  | .bool c => if c = true then Q (.val (.bool true)) s1 else b s1 Q
  | _ => False
def mNot (a : M) (s : S) (Q : R → S → Prop) : Prop := a s fun r s1 => match r.d with
  | .bool c => Q (.val (.bool (!c))) s1
  | _ => False
def mIf (c : T) (a b : M) (s : S) (Q : R → S → Prop) : Prop := c s fun t s1 => if t = true then a s1 Q else b s1 Q
/-- a < b < c -/
def mChain (f g : D → D → (R → Prop) → Prop) (a b c : M) (s : S) (Q : R → S → Prop) : Prop := a s fun x s1 => b s1 fun y s2 => f x.d y.d fun r => match r.d with
  | .bool t => if t = true then c s2 fun z s3 => g y.d z.d fun q => Q q s3 else Q (.val (.bool false)) s2
  | _ => False
def mList (es : Ms) (s : S) (Q : R → S → Prop) : Prop := es s fun ds s1 => ds.length ≤ LINE ∧ Q (.own ds) s1
def mTup (es : Ms) (s : S) (Q : R → S → Prop) : Prop := es s fun ds s1 => ds.length ≤ LINE ∧ Q (.val (.tup ds)) s1
/-- the place that an index of any sign means -/
def ixN (n : Nat) (i : Int) : Option Nat := if 0 ≤ i then (if i < n then some i.toNat else none) else if -(n : Int) ≤ i then some (i + n).toNat else none
def atI {α : Type} (xs : List α) (i : Int) : Option α := (ixN xs.length i).bind fun j => xs[j]?
def dIx : D → D → (R → Prop) → Prop
  | .list ds, .int i, k => ∃ d, atI ds i = some d ∧ k (.val d)
  | .tup ds, .int i, k => ∃ d, atI ds i = some d ∧ k (.val d)
  | .str s, .int i, k => s.length ≤ LINE ∧ ∃ c, atI s i = some c ∧ k (.val (.str [c]))
  | _, _, _ => False
/-- a table of the module: a dict whose keys are texts -/
def lookS : List (List Nat × D) → List Nat → Option D
  | [], _ => none
  | (k, d) :: r, s => if k = s then some d else lookS r s
def dTab (es : List (List Nat × D)) : D → (R → Prop) → Prop
  | .str s, k => ∃ d, lookS es s = some d ∧ k (.val d)
  | _, _ => False
/-- a bound of a slice -/
def sIx (n d : Nat) : Option Int → Nat
  | none => d
  | some v => if v < 0 then (v + (n : Int)).toNat else min v.toNat n
def cut {α : Type} (xs : List α) (lo hi : Option Int) : List α := (xs.drop (sIx xs.length 0 lo)).take (sIx xs.length xs.length hi - sIx xs.length 0 lo)
abbrev MO := S → (Option Int → S → Prop) → Prop
def oN (s : S) (Q : Option Int → S → Prop) : Prop := Q none s
def oS (m : M) (s : S) (Q : Option Int → S → Prop) : Prop := m s fun r s1 => match r.d with
  | .int i => Q (some i) s1
  | _ => False
def mSl (a : M) (lo hi : MO) (s : S) (Q : R → S → Prop) : Prop := a s fun r s1 => lo s1 fun l s2 => hi s2 fun h s3 => match r.d with
  | .list ds => Q (.own (cut ds l h)) s3
  | .str x => x.length ≤ LINE ∧ Q (.val (.str (cut x l h))) s3
  | _ => False
/-- a[::-1] -/
def mRev (a : M) (s : S) (Q : R → S → Prop) : Prop := a s fun r s1 => match r.d with
  | .list ds => Q (.own ds.reverse) s1
  | .str x => x.length ≤ LINE ∧ Q (.val (.str x.reverse)) s1
  | _ => False
def mCall (g : Sem) (es : Ms) (s : S) (Q : R → S → Prop) : Prop := es s fun ds s1 => g ds s1.w fun r _ => Q r s1
/-- a call with the feed ahead of its arguments -/
def mCallF (g : Sem) (i : Nat) (es : Ms) (s : S) (Q : R → S → Prop) : Prop := match get s.v i with
  | .feed => es s fun ds s1 => g ds s1.w fun r w => Q r { s1 with w := w }
  | _ => False

/-! ### built-in functions -/
def dLen : D → (R → Prop) → Prop
  | .list ds, k => k (.val (.int ds.length))
  | .tup ds, k => k (.val (.int ds.length))
  | .str s, k => s.length ≤ LINE ∧ k (.val (.int s.length))
  | _, _ => False
def dAbs : D → (R → Prop) → Prop
  | .int i, k => k (.val (.int (if i < 0 then -i else i)))
  | _, _ => False
def dInt : D → (R → Prop) → Prop
  | .int i, k => k (.val (.int i))
  | .bool b, k => k (.val (.int (if b then 1 else 0)))
  | _, _ => False
def dMin2 : D → D → (R → Prop) → Prop
  | .int i, .int j, k => k (.val (.int (if j < i then j else i)))
  | _, _, _ => False
def dMax2 : D → D → (R → Prop) → Prop
  | .int i, .int j, k => k (.val (.int (if j > i then j else i)))
  | _, _, _ => False
/-- list(x) -/
def dList : D → (R → Prop) → Prop
  | .list ds, k => k (.own ds)
  | .tup ds, k => k (.own ds)
  | _, _ => False
def dTup : D → (R → Prop) → Prop
  | .list ds, k => k (.val (.tup ds))
  | .tup ds, k => k (.val (.tup ds))
  | _, _ => False
/-- all numbers -/
def ints? : List D → Option (List Int)
  | [] => some []
  | .int i :: r => (ints? r).map (i :: ·)
  | _ :: _ => none
def dSum : D → (R → Prop) → Prop
  | .list ds, k => ∃ ns : List Int, ds = ns.map D.int ∧ k (.val (.int ns.sum))
  | _, _ => False
/-- min(xs), max(xs) of whole numbers -/
def dMin : D → (R → Prop) → Prop
  | .list ds, k => ∃ ns : List Int, ds = ns.map D.int ∧ 0 < ns.length ∧ ∀ m, m ∈ ns → (∀ y, y ∈ ns → m ≤ y) → k (.val (.int m))
  | _, _ => False
def dMax : D → (R → Prop) → Prop
  | .list ds, k => ∃ ns : List Int, ds = ns.map D.int ∧ 0 < ns.length ∧ ∀ m, m ∈ ns → (∀ y, y ∈ ns → y ≤ m) → k (.val (.int m))
  | _, _ => False
mutual
/-- the two are of one make, so that < tells -/
def likeD : D → D → Bool
  | .int _, .int _ => true
  | .str _, .str _ => true
  | .list xs, .list ys => likeDs xs ys
  | .tup xs, .tup ys => likeDs xs ys
  | _, _ => false
def likeDs : List D → List D → Bool
  | x :: xs, y :: ys => likeD x y && likeDs xs ys
  | _, _ => true
end
mutual
/-- < of two of one make -/
def ltD : D → D → Bool
  | .int i, .int j => decide (i < j)
  | .str a, .str b => decide (a < b)
  | .list xs, .list ys => ltDs xs ys
  | .tup xs, .tup ys => ltDs xs ys
  | _, _ => false
def ltDs : List D → List D → Bool
  | _, [] => false
  | [], _ :: _ => true
  | x :: xs, y :: ys => if eqD x y = true then ltDs xs ys else ltD x y
end
/-- min(xs), max(xs) of data of one make -/
def dMinG : D → (R → Prop) → Prop
  | .list ds, k => (∀ x, x ∈ ds → ∀ y, y ∈ ds → likeD x y = true) ∧ ds.all (okD 8) = true ∧ 0 < ds.length ∧ ∀ m, m ∈ ds → (∀ y, y ∈ ds → ltD y m = false) → k (.val m)
  | _, _ => False
def dMaxG : D → (R → Prop) → Prop
  | .list ds, k => (∀ x, x ∈ ds → ∀ y, y ∈ ds → likeD x y = true) ∧ ds.all (okD 8) = true ∧ 0 < ds.length ∧ ∀ m, m ∈ ds → (∀ y, y ∈ ds → ltD m y = false) → k (.val m)
  | _, _ => False
/-- all([..]) of truth values -/
def dAll : D → (R → Prop) → Prop
  | .list ds, k => ∃ bs : List Bool, ds = bs.map D.bool ∧ k (.val (.bool (bs.all id)))
  | _, _ => False
/-- the first place of c -/
def fstIx (c : Nat) : List Nat → Nat
  | [] => 0
  | x :: r => if x = c then 0 else fstIx c r + 1
/-- s.split(c) -/
def splitC (c : Nat) : List Nat → List (List Nat)
  | [] => [[]]
  | x :: r => if x = c then [] :: splitC c r else match splitC c r with
    | [] => [[x]]
    | p :: ps => (x :: p) :: ps
def joinS (sep : List Nat) : List (List Nat) → List Nat
  | [] => []
  | [p] => p
  | p :: q :: r => p ++ (sep ++ joinS sep (q :: r))
def dIndexS : D → D → (R → Prop) → Prop
  | .str s, .str [c], k => c ∈ s ∧ k (.val (.int (fstIx c s)))
  | _, _, _ => False
/-- s.index(c, i) -/
def dIndexFrom : D → D → D → (R → Prop) → Prop
  | .str s, .str [c], .int i, k => 0 ≤ i ∧ ∃ j : Nat, i ≤ j ∧ s[j]? = some c ∧ (∀ m : Nat, i ≤ m → m < j → s[m]? ≠ some c) ∧ k (.val (.int (j : Nat)))
  | _, _, _, _ => False
def dIndexL : D → D → (R → Prop) → Prop
  | .list ds, x, k => okD 8 x = true ∧ okD 9 (.list ds) = true ∧ ∃ j z, ds[j]? = some z ∧ eqD z x = true ∧ (∀ i y, i < j → ds[i]? = some y → eqD y x = false) ∧ k (.val (.int (j : Nat)))
  | _, _, _ => False
def dCount : D → D → (R → Prop) → Prop
  | .str s, .str [c], k => s.length + 2 ≤ LINE ∧ c < 256 ∧ k (.val (.int ((splitC c s).length - 1 : Nat)))
  | _, _, _ => False
def dSplit : D → D → (R → Prop) → Prop
  | .str s, .str [c], k => s.length + 2 ≤ LINE ∧ c < 256 ∧ k (.own ((splitC c s).map D.str))
  | _, _, _ => False
def dJoin : D → D → (R → Prop) → Prop
  | .str a, .list ds, k => ∃ ls : List (List Nat), ds = ls.map D.str ∧ (ls.map List.length).sum + ls.length * a.length ≤ LINE ∧ k (.val (.str (joinS a ls)))
  | _, _, _ => False
/-- a[:k:-1] of a list -/
def mRevTo (a : M) (k : Nat) (s : S) (Q : R → S → Prop) : Prop := a s fun r s1 => match r.d with
  | .list ds => k < ds.length ∧ Q (.own (ds.drop (k + 1)).reverse) s1
  | _ => False
/-- methods of texts, of lists -/
def isS (d : D) (k : Prop) : Prop := match d with
  | .str _ => k
  | _ => False
def isL (d : D) (k : Prop) : Prop := match d with
  | .list _ => k
  | _ => False
def mMS (f : D → D → (R → Prop) → Prop) (a b : M) (s : S) (Q : R → S → Prop) : Prop := a s fun x s1 => isS x.d (b s1 fun y s2 => f x.d y.d fun r => Q r s2)
def mML (f : D → D → (R → Prop) → Prop) (a b : M) (s : S) (Q : R → S → Prop) : Prop := a s fun x s1 => isL x.d (b s1 fun y s2 => f x.d y.d fun r => Q r s2)
/-- a text's method of two arguments -/
def mMS2 (f : D → D → D → (R → Prop) → Prop) (a b e : M) (s : S) (Q : R → S → Prop) : Prop := a s fun x s1 => isS x.d (b s1 fun y s2 => e s2 fun z s3 => f x.d y.d z.d fun r => Q r s3)
inductive Ty where
  | int | bool | str | list | tuple
def isTy : D → Ty → Bool
  | .int _, .int => true
  | .bool _, .int => true
  | .bool _, .bool => true
  | .str _, .str => true
  | .list _, .list => true
  | .tup _, .tuple => true
  | _, _ => false
def mIsI (a : M) (t : Ty) (s : S) (Q : R → S → Prop) : Prop := a s fun r s1 => Q (.val (.bool (isTy r.d t))) s1

/-! ### targets -/
/-- what a target does with a value for good -/
abbrev Gt := D → S → (S → Prop) → Prop
def gV (i : Nat) (d : D) (s : S) (Q : S → Prop) : Prop := Q { s with v := put s.v i (.val d) }
def gSkip (_ : D) (s : S) (Q : S → Prop) : Prop := Q s
abbrev Gts := List D → S → (S → Prop) → Prop
def gsN (ds : List D) (s : S) (Q : S → Prop) : Prop := match ds with
  | [] => Q s
  | _ => False
def gsC (g : Gt) (r : Gts) (ds : List D) (s : S) (Q : S → Prop) : Prop := match ds with
  | d :: ds => g d s fun s1 => r ds s1 Q
  | [] => False
def gT (n : Nat) (r : Gts) (d : D) (s : S) (Q : S → Prop) : Prop := match d with
  | .tup ds => ds.length = n ∧ r ds s Q
  | _ => False

/-! ### what is walked -/
abbrev Src := S → (List D → S → Prop) → Prop
/-- a list, a tuple, a text -/
def srcV (m : M) (s : S) (Q : List D → S → Prop) : Prop := m s fun r s1 => match r with
  | .val (.list ds) => Q ds s1
  | .val (.tup ds) => Q ds s1
  | .val (.str x) => Q (x.map fun c => .str [c]) s1
  | .own ds => Q ds s1
  | _ => False
def ran (lo : Int) (n : Nat) : List D := (List.range n).map fun (k : Nat) => D.int (lo + k)
def srcR1 (m : M) (s : S) (Q : List D → S → Prop) : Prop := m s fun r s1 => match r.d with
  | .int j => (-(2 ^ 62) ≤ j ∧ j < 2 ^ 62) ∧ Q (ran 0 j.toNat) s1
  | _ => False
def srcR2 (a b : M) (s : S) (Q : List D → S → Prop) : Prop := a s fun x s1 => b s1 fun y s2 => match x.d, y.d with
  | .int i, .int j => (-(2 ^ 62) ≤ i ∧ i < 2 ^ 62 ∧ -(2 ^ 62) ≤ j ∧ j < 2 ^ 62) ∧ Q (ran i (j - i).toNat) s2
  | _, _ => False
def enumFrom (i : Nat) : List D → List D
  | [] => []
  | d :: r => .tup [.int i, d] :: enumFrom (i + 1) r
def srcEnum (m : M) (s : S) (Q : List D → S → Prop) : Prop := m s fun r s1 => match r with
  | .val (.list ds) => Q (enumFrom 0 ds) s1
  | .val (.str x) => Q (enumFrom 0 (x.map fun c => .str [c])) s1
  | .own ds => Q (enumFrom 0 ds) s1
  | _ => False
def srcRev (m : M) (s : S) (Q : List D → S → Prop) : Prop := m s fun r s1 => match r with
  | .val (.list ds) => Q ds.reverse s1
  | .own ds => Q ds.reverse s1
  | _ => False

/-! ### comprehensions -/
/-- the slots of the comprehension's own names are empty ahead of each turn -/
def compL (own : List Nat) (g : Gt) (t : T) (e : M) : List D → List D → S → (List D → S → Prop) → Prop
  | [], acc, s, Q => Q acc s
  | d :: r, acc, s, Q => g d { s with v := puts s.v own .gone } fun s1 => t s1 fun c s2 =>
      if c = true then e s2 fun x s3 => frz x fun y => acc.length < LINE ∧ compL own g t e r (acc ++ [y]) s3 Q
      else compL own g t e r acc s2 Q
def tYes (s : S) (Q : Bool → S → Prop) : Prop := Q true s
/-- behind it the own names' slots are as they were (but for an own list, which is lost) -/
def back (v0 : List Slot) : List Slot → List Nat → List Slot
  | v, [] => v
  | v, i :: r => put (back v0 v r) i (match get v0 i with
    | .val d => .val d
    | _ => .gone)
def mComp (own : List Nat) (src : Src) (g : Gt) (t : T) (e : M) (s : S) (Q : R → S → Prop) : Prop := src s fun ds s1 => compL own g t e ds [] s1 fun acc s2 => Q (.own acc) { s2 with v := back s1.v s2.v own }

/-! ### statements -/
def sNil (s : S) (O : Outs) : Prop := O.nx s
def sSeq (a b : MS) (s : S) (O : Outs) : Prop := a s { O with nx := fun s1 => b s1 O }
def sSet (i : Nat) (m : M) (s : S) (O : Outs) : Prop := m s fun r s1 => match r with
  | .val d => O.nx { s1 with v := put s1.v i (.val d) }
  | .own ds => O.nx { s1 with v := put s1.v i (.own ds) }
  | .bor _ => False
/-- a target of another form -/
def sAsg (g : Gt) (m : M) (s : S) (O : Outs) : Prop := m s fun r s1 => frz r fun d => g d s1 O.nx
/-- i, j = a, b -/
def sPar (i j : Nat) (a b : M) (s : S) (O : Outs) : Prop := a s fun x s1 => frz x fun d => b s1 fun y s2 => frz y fun e => O.nx { s2 with v := put (put s2.v i (.val d)) j (.val e) }
def retK (r : R) (rt : R → W → Prop) (w : W) : Prop := match r with
  | .val d => rt (.val d) w
  | .own ds => rt (.own ds) w
  | .bor ds => rt (.own ds) w
def sRet (m : M) (s : S) (O : Outs) : Prop := m s fun r s1 => retK r O.rt s1.w
def sRetN (s : S) (O : Outs) : Prop := O.rt (.val .none) s.w
def sIf (c : T) (a b : MS) (s : S) (O : Outs) : Prop := c s fun t s1 => if t = true then a s1 O else b s1 O
def sPass (s : S) (O : Outs) : Prop := O.nx s
def sBrk (s : S) (O : Outs) : Prop := O.bk s
def sCont (s : S) (O : Outs) : Prop := O.ct s
def sNever (_ : S) (_ : Outs) : Prop := False
def sExpr (m : M) (s : S) (O : Outs) : Prop := m s fun _ s1 => O.nx s1
def sAug (i : Nat) (f : Int → Int → Int) (m : M) (s : S) (O : Outs) : Prop := match get s.v i with
  | .val (.int x) => m s fun y s1 => (match y.d with
    | .int y => O.nx { s1 with v := put s1.v i (.val (.int (f x y))) }
    | _ => False)
  | _ => False
/-- slot i holds an own list -/
def ownAt (s : S) (i : Nat) (k : List D → Prop) : Prop := match get s.v i with
  | .own ds => k ds
  | _ => False
/-- slot i holds the feed -/
def feedAt (s : S) (i : Nat) (k : Prop) : Prop := match get s.v i with
  | .feed => k
  | _ => False
def intD (d : D) (k : Int → Prop) : Prop := match d with
  | .int n => k n
  | _ => False
/-- xs.append(e), xs an own list at slot i -/
def sApp (i : Nat) (m : M) (s : S) (O : Outs) : Prop := ownAt s i fun _ => m s fun r s1 => frz r fun d => ownAt s1 i fun ds => ds.length < LINE ∧ O.nx { s1 with v := put s1.v i (.own (ds ++ [d])) }
/-- xs.extend(e) -/
def sExt (i : Nat) (m : M) (s : S) (O : Outs) : Prop := ownAt s i fun _ => m s fun r s1 => ownAt s1 i fun ds => match r.d with
  | .list es => ds.length + es.length ≤ LINE ∧ O.nx { s1 with v := put s1.v i (.own (ds ++ es)) }
  | _ => False
/-- xs[k] = e -/
def sSetI (i : Nat) (k m : M) (s : S) (O : Outs) : Prop := m s fun r s1 => frz r fun d => ownAt s1 i fun _ => k s1 fun x s2 => ownAt s2 i fun ds => intD x.d fun n => ∃ j, ixN ds.length n = some j ∧ O.nx { s2 with v := put s2.v i (.own (ds.set j d)) }
/-- xs[k] op= e -/
def sAugI (i : Nat) (f : Int → Int → Int) (k m : M) (s : S) (O : Outs) : Prop := ownAt s i fun _ => k s fun x s1 => ownAt s1 i fun ds => intD x.d fun n => ∃ j z, ixN ds.length n = some j ∧ ds[j]? = some (.int z) ∧
  m s1 fun y s2 => ownAt s2 i fun ds2 => intD y.d fun y => ds2.length = ds.length ∧ O.nx { s2 with v := put s2.v i (.own (ds2.set j (.int (f z y)))) }
/-- feed[1] += e, feed[k] = e -/
def W.set (w : W) (k : Nat) (n : Int) : W := match k with
  | 1 => { w with ix := n }
  | 2 => { w with big := n }
  | _ => { w with seed := n }
def W.at (w : W) (k : Nat) : Int := match k with
  | 1 => w.ix
  | 2 => w.big
  | _ => w.seed
def sFeed (i k : Nat) (m : M) (s : S) (O : Outs) : Prop := (1 ≤ k ∧ k ≤ 3) ∧ m s fun r s1 => feedAt s1 i (intD r.d fun n => O.nx { s1 with w := s1.w.set k n })
/-- feed[k] += n, n a constant -/
def sFeedA (i k : Nat) (n : Int) (s : S) (O : Outs) : Prop := (1 ≤ k ∧ k ≤ 3) ∧ feedAt s i (O.nx { s with w := s.w.set k (s.w.at k + n) })
/-- xs.pop(k) -/
def popD (i : Nat) (k : M) (s : S) (Q : D → S → Prop) : Prop := ownAt s i fun _ => k s fun x s1 => ownAt s1 i fun ds => intD x.d fun n => ∃ j d, ixN ds.length n = some j ∧ ds[j]? = some d ∧ (-(2 ^ 63) ≤ n ∧ n < 2 ^ 63) ∧ Q d { s1 with v := put s1.v i (.own (ds.eraseIdx j)) }
def sPop (i : Nat) (k : M) (s : S) (O : Outs) : Prop := popD i k s fun _ s1 => O.nx s1
/-- x = x + xs.pop(k), x a text -/
def sAddPop (j i : Nat) (k : M) (s : S) (O : Outs) : Prop := match get s.v j with
  | .val (.str a) => popD i k s fun d s1 => (match d with
    | .str b => a.length + b.length ≤ LINE ∧ O.nx { s1 with v := put s1.v j (.val (.str (a ++ b))) }
    | _ => False)
  | _ => False
def forL (g : Gt) (body : MS) : List D → S → Outs → Prop
  | [], s, O => O.nx s
  | d :: r, s, O => g d s fun s1 => body s1 { nx := fun s2 => forL g body r s2 O, ct := fun s2 => forL g body r s2 O, bk := O.nx, rt := O.rt }
def sFor (src : Src) (g : Gt) (body : MS) (s : S) (O : Outs) : Prop := src s fun ds s1 => forL g body ds s1 O
def sWhile (c : T) (body : MS) (s : S) (O : Outs) : Prop := ∃ I : Nat → S → Prop, (∃ m, I m s) ∧ ∀ m s, I m s → c s fun t s1 =>
  if t = true then body s1 { nx := fun s2 => ∃ m', m' < m ∧ I m' s2, ct := fun s2 => ∃ m', m' < m ∧ I m' s2, bk := O.nx, rt := O.rt } else O.nx s1

/-- a def's body as a meaning: n names in all -/
def run (n : Nat) (body : MS) (ds : List D) (w : W) (Q : R → W → Prop) : Prop := body ⟨ds.map Slot.val ++ List.replicate (n - ds.length) .gone, w⟩ { nx := fun s => Q (.val .none) s.w, rt := Q }
/-- .. whose first parameter is the feed -/
def runF (n : Nat) (body : MS) (ds : List D) (w : W) (Q : R → W → Prop) : Prop := body ⟨.feed :: ds.map Slot.val ++ List.replicate (n - 1 - ds.length) .gone, w⟩ { nx := fun s => Q (.val .none) s.w, rt := Q }
def ar (n : Nat) (g : Sem) : Sem := fun ds w Q => ds.length = n ∧ g ds w Q
def lawTrue (n : Nat) (body : MS) (ns : List Int) : Prop := body ⟨.gone :: .feed :: List.replicate (n - 2) .gone, ⟨ns, 0, 0, 1⟩⟩ { nx := fun _ => False, rt := fun r _ => r = .val (.bool true) }
theorem enum_len : ∀ (n : Nat) (ds : List D), (enumFrom n ds).length = ds.length
  | _, [] => rfl
  | n, _ :: r => congrArg (· + 1) (enum_len (n + 1) r)
theorem enum_get : ∀ (n : Nat) (ds : List D) (i : Nat) (d : D), (enumFrom n ds)[i]? = some d → ∃ z, ds[i]? = some z ∧ d = .tup [.int ((n + i : Nat) : Int), z]
  | n, [], i, d, h => by simp [enumFrom] at h
  | n, x :: r, 0, d, h => ⟨x, rfl, by simp only [enumFrom, List.getElem?_cons_zero, Option.some.injEq] at h; rw [← h]; rfl⟩
  | n, x :: r, i + 1, d, h => by
    obtain ⟨z, h1, h2⟩ := enum_get (n + 1) r i d h
    exact ⟨z, h1, by rw [h2, show n + 1 + i = n + (i + 1) by omega]⟩

/-! ### errors -/
/-- a def's meaning that may raise: its arguments, the feed ahead, what is wanted, what is wanted of an error -/
abbrev SemX := List D → W → (R → W → Prop) → (Exn → W → Prop) → Prop
/-- a call of a def that may raise; x: what is wanted of an error here -/
def mCallX (g : SemX) (x : Exn → S → Prop) (es : Ms) (s : S) (Q : R → S → Prop) : Prop := es s fun ds s1 => g ds s1.w (fun r _ => Q r s1) fun e _ => x e s1
def sRaise0 (x : Exn → S → Prop) (c : String) (s : S) (_ : Outs) : Prop := x ⟨c, none⟩ s
def sRaise1 (x : Exn → S → Prop) (c f : String) (m : M) (s : S) (_ : Outs) : Prop := m s fun r s1 => frz r fun d => x ⟨c, some (f, d)⟩ s1
/-- the suites of a try, one after the other: the names of the classes that are caught, the slot of the name, the suite -/
structure Hd where
  yes : List String
  i : Nat
  nm : Bool
  suite : MS
def Slot.isExn : Slot → Bool
  | .exn _ => true
  | _ => false
/-- behind a suite: the name is gone, no error is held -/
def unheld (h : Hd) (K : S → Prop) (s : S) : Prop := if h.nm = true then (put s.v h.i .gone).all (fun x => !x.isExn) = true ∧ K { s with v := put s.v h.i .gone } else s.v.all (fun x => !x.isExn) = true ∧ K s
def unslot (h : Hd) (O : Outs) : Outs := { nx := unheld h O.nx, rt := O.rt, bk := unheld h O.bk, ct := unheld h O.ct }
def caught (no : List String) : List Hd → Exn → S → Outs → Prop
  | [], _, _, _ => False
  | h :: r, e, s, O => if h.yes.contains e.cls = true then h.suite (if h.nm = true then { s with v := put s.v h.i (.exn e) } else s) (unslot h O) else no.contains e.cls = true ∧ caught no r e s O
/-- try: .. except ..; all: the classes that are known -/
def sTry (all : List String) (body : (Exn → S → Prop) → MS) (hs : List Hd) (s : S) (O : Outs) : Prop := body (fun e s1 => caught all hs e s1 O) s O
/-- e.f, e the error of slot i -/
def mXArg (i : Nat) (all : List String) (f : String) (s : S) (Q : R → S → Prop) : Prop := match get s.v i with
  | .exn e => all.contains e.cls = true ∧ ∃ d, e.arg = some (f, d) ∧ Q (.val d) s
  | _ => False
/-- isinstance(e, C) -/
def mXIs (i : Nat) (all yes : List String) (s : S) (Q : R → S → Prop) : Prop := match get s.v i with
  | .exn e => all.contains e.cls = true ∧ Q (.val (.bool (yes.contains e.cls))) s
  | _ => False
/-- a body that may raise -/
def runX (n : Nat) (body : (Exn → S → Prop) → MS) (ds : List D) (w : W) (Q : R → W → Prop) (E : Exn → W → Prop) : Prop := body (fun e s => E e s.w) ⟨ds.map Slot.val ++ List.replicate (n - ds.length) .gone, w⟩ { nx := fun s => Q (.val .none) s.w, rt := Q }
def arX (n : Nat) (g : SemX) : SemX := fun ds w Q E => ds.length = n ∧ g ds w Q E
/-- an argument that is only looked at: a name; what leaves all as it is -/
inductive Ar where
  | nm (i : Nat)
  | ex (m : M)
def peekA (v : List Slot) (i : Nat) : Option D := match get v i with
  | .val d => some d
  | .own ds => some (.list ds)
  | _ => none
def evA (a : Ar) (s : S) (k : D → Prop) : Prop := match a with
  | .nm i => ∃ d, peekA s.v i = some d ∧ k d
  | .ex m => m s fun r s1 => s1 = s ∧ frz r k
def evAs : List Ar → S → (List D → Prop) → Prop
  | [], _, k => k []
  | a :: r, s, k => evA a s fun d => evAs r s fun ds => k (d :: ds)
/-- a call whose result holds nothing of the arguments -/
def mCallB (g : Sem) (as : List Ar) (s : S) (Q : R → S → Prop) : Prop := evAs as s fun ds => g ds s.w fun r _ => match r with
  | .val d => flatD d = true ∧ Q (.val d) s
  | _ => False
end DL

/-! DLS1: the pieces' meanings hold in the model: expressions. -/
namespace DL
open PySem PySem.Spec PyProof.Rows L2

abbrev sT (s : List Nat) : Str := ⟨s.toArray⟩
abbrev St := L2.St
mutual
/-- the value v, read in G, is the data d -/
inductive Dg (K : PySem.W.Frag) (G : Hp) : V → D → Prop
  | non : Dg K G .non .none
  | bl (b : Bool) : Dg K G (.bl b) (.bool b)
  | int (i : Int) : Dg K G (.int i) (.int i)
  | str (s : List Nat) : Dg K G (.str (sT s)) (.str s)
  | lst {a : Addr} {xs : List V} {ds : List D} : G a = some (.lst xs) → Dgs K G xs ds → Dg K G (.ref a) (.list ds)
  | tup {a : Addr} {xs : List V} {ds : List D} : SqT K G a xs → Dgs K G xs ds → Dg K G (.ref a) (.tup ds)
inductive Dgs (K : PySem.W.Frag) (G : Hp) : List V → List D → Prop
  | nil : Dgs K G [] []
  | cons {v : V} {vs : List V} {d : D} {ds : List D} : Dg K G v d → Dgs K G vs ds → Dgs K G (v :: vs) (d :: ds)
end
theorem same_seqT {K : PySem.W.Frag} {H H' : Hp} {a : Addr} {xs : List V} (e : Same H H') (h : SqT K H a xs) : SqT K H' a xs := by
  rcases h with (h | ⟨o, h⟩) | h
  · exact .inl (.inl (e _ _ h))
  · exact .inl (.inr ⟨o, e _ _ h⟩)
  · exact .inr h
mutual
theorem Dg.mono {K : PySem.W.Frag} {G G' : Hp} (e : Same G G') : ∀ {v : V} {d : D}, Dg K G v d → Dg K G' v d
  | _, _, .non => .non
  | _, _, .bl b => .bl b
  | _, _, .int i => .int i
  | _, _, .str s => .str s
  | _, _, .lst h r => .lst (e _ _ h) (Dgs.mono e r)
  | _, _, .tup h r => .tup (same_seqT e h) (Dgs.mono e r)
theorem Dgs.mono {K : PySem.W.Frag} {G G' : Hp} (e : Same G G') : ∀ {v : List V} {d : List D}, Dgs K G v d → Dgs K G' v d
  | _, _, .nil => .nil
  | _, _, .cons h r => .cons (Dg.mono e h) (Dgs.mono e r)
end
section
variable {K : PySem.W.Frag} {G : Hp}
theorem Dgs.length : ∀ {v : List V} {d : List D}, Dgs K G v d → v.length = d.length
  | _, _, .nil => rfl
  | _, _, .cons _ r => congrArg (· + 1) r.length
theorem Dgs.append : ∀ {v w : List V} {d e : List D}, Dgs K G v d → Dgs K G w e → Dgs K G (v ++ w) (d ++ e)
  | _, _, _, _, .nil, h => h
  | _, _, _, _, .cons h r, q => .cons h (Dgs.append r q)
theorem Dgs.get : ∀ {v : List V} {d : List D} {i : Nat} {x : D}, Dgs K G v d → d[i]? = some x → ∃ u, v[i]? = some u ∧ Dg K G u x
  | _, _, _, _, .nil, e => by simp at e
  | _, _, 0, _, .cons h _, e => by simp at e; subst e; exact ⟨_, rfl, h⟩
  | _, _, i + 1, x, .cons _ r, e => by
    obtain ⟨u, h1, h2⟩ := Dgs.get (i := i) (x := x) r (by simpa using e)
    exact ⟨u, by simpa using h1, h2⟩
theorem Dgs.get' : ∀ {v : List V} {d : List D} {i : Nat} {u : V}, Dgs K G v d → v[i]? = some u → ∃ x, d[i]? = some x ∧ Dg K G u x
  | _, _, _, _, .nil, e => by simp at e
  | _, _, 0, _, .cons h _, e => by simp at e; subst e; exact ⟨_, rfl, h⟩
  | _, _, i + 1, x, .cons _ r, e => by
    obtain ⟨u, h1, h2⟩ := Dgs.get' (i := i) (u := x) r (by simpa using e)
    exact ⟨u, by simpa using h1, h2⟩
theorem Dgs.take : ∀ {v : List V} {d : List D} (n : Nat), Dgs K G v d → Dgs K G (v.take n) (d.take n)
  | _, _, 0, _ => .nil
  | _, _, _ + 1, .nil => .nil
  | _, _, n + 1, .cons r t => .cons r (Dgs.take n t)
theorem Dgs.drop : ∀ {v : List V} {d : List D} (n : Nat), Dgs K G v d → Dgs K G (v.drop n) (d.drop n)
  | _, _, 0, r => r
  | _, _, _ + 1, .nil => .nil
  | _, _, n + 1, .cons _ t => Dgs.drop n t
theorem Dgs.set : ∀ {v : List V} {d : List D} {u : V} {x : D} (i : Nat), Dgs K G v d → Dg K G u x → Dgs K G (v.set i u) (d.set i x)
  | _, _, _, _, _, .nil, _ => .nil
  | _, _, _, _, 0, .cons _ t, q => .cons q t
  | _, _, _, _, i + 1, .cons r t, q => .cons r (Dgs.set i t q)
theorem Dgs.eraseIdx : ∀ {v : List V} {d : List D} (i : Nat), Dgs K G v d → Dgs K G (v.eraseIdx i) (d.eraseIdx i)
  | _, _, _, .nil => .nil
  | _, _, 0, .cons _ t => t
  | _, _, i + 1, .cons r t => .cons r (Dgs.eraseIdx i t)
theorem Dgs.reverse : ∀ {v : List V} {d : List D}, Dgs K G v d → Dgs K G v.reverse d.reverse
  | _, _, .nil => .nil
  | _, _, .cons r t => by
    rw [List.reverse_cons, List.reverse_cons]
    exact (Dgs.reverse t).append (.cons r .nil)
theorem Dgs.rep {v : List V} {d : List D} (h : Dgs K G v d) : ∀ n : Nat, Dgs K G (List.replicate n v).flatten (List.replicate n d).flatten
  | 0 => .nil
  | n + 1 => by
    rw [List.replicate_succ, List.replicate_succ, List.flatten_cons, List.flatten_cons]
    exact h.append (Dgs.rep h n)
theorem Dgs.ints : ∀ {v : List V} {ns : List Int}, Dgs K G v (ns.map D.int) → v = ns.map V.int
  | [], [], _ => rfl
  | _, n :: ns, h => by
    rw [List.map_cons] at h
    cases h with
    | cons h r => cases h; rw [Dgs.ints r]; rfl
theorem Dgs.ofInts : ∀ (ns : List Int), Dgs K G (ns.map V.int) (ns.map D.int)
  | [] => .nil
  | n :: ns => .cons (.int n) (Dgs.ofInts ns)
theorem Dgs.bools : ∀ {v : List V} {ns : List Bool}, Dgs K G v (ns.map D.bool) → v = ns.map V.bl
  | [], [], _ => rfl
  | _, n :: ns, h => by
    rw [List.map_cons] at h
    cases h with
    | cons h r => cases h; rw [Dgs.bools r]; rfl
end
/-- what stays the same through a def's body: the written part, the heap that may be read, the heap at the entry, the feed's address, the lists that comprehensions around are making -/
structure Ct where
  K : PySem.W.Frag
  G0 : Hp
  H0 : Hp
  fa : Option Addr
  rs : Addr → Prop := fun _ => False
  mg : Str → Option Value := fun _ => none
  xe : Option (Addr × Value × Option Addr) := none
/-- the error e, of the class cls, with the dict d -/
def ExcK (K : PySem.W.Frag) (mg : Str → Option Value) (G : Hp) (cls : Value) (d : Option Addr) (e : Exn) : Prop :=
  ∃ C, mg (Str.ofString e.cls) = some (.ref C) ∧ cls = .ref C ∧ match e.arg with
    | none => d = none
    | some (f, x) => ∃ dd v, d = some dd ∧ G dd = some (.xd [(Str.ofString f, v)]) ∧ Dg K G v x
theorem ExcK.mono {K : PySem.W.Frag} {mg : Str → Option Value} {G G' : Hp} {cls : Value} {d : Option Addr} {e : Exn} (sm : Same G G') (h : ExcK K mg G cls d e) : ExcK K mg G' cls d e := by
  obtain ⟨C, h1, h2, h3⟩ := h
  refine ⟨C, h1, h2, ?_⟩
  cases q : e.arg with
  | none => rw [q] at h3; exact h3
  | some p =>
    obtain ⟨f, x⟩ := p
    rw [q] at h3
    obtain ⟨dd, v, e1, e2, e3⟩ := h3
    exact ⟨dd, v, e1, sm _ _ e2, e3.mono sm⟩
def Slot.isOwn : Slot → Bool
  | .own _ => true
  | _ => false
def SlotOk (c : Ct) (H G : Hp) (o : Option (Option V)) : Slot → Prop
  | .gone => True
  | .val d => ∃ v, o = some (some v) ∧ Dg c.K G v d
  | .own ds => ∃ a vs, o = some (some (.ref a)) ∧ H a = some (.lst vs) ∧ Dgs c.K G vs ds ∧ G a = none ∧ c.H0 a = none ∧ c.fa ≠ some a ∧ ¬ c.rs a
  | .feed => ∃ a, o = some (some (.ref a)) ∧ c.fa = some a
  | .exn e => ∃ a cls d, c.xe = some (a, cls, d) ∧ o = some (some (.ref a)) ∧ ExcK c.K c.mg G cls d e
def FeedOk (fa : Option Addr) (H G : Hp) (w : W) : Prop := ∀ a, fa = some a → G a = none ∧ ∃ sa, H a = some (.lst [.ref sa, .int w.ix, .int w.big, .int w.seed]) ∧ G sa = some (.lst (w.sc.map V.int))
structure Rel (c : Ct) (σ : St) (H G : Hp) (s : S) : Prop where
  g0 : Same c.G0 G
  gH : Same G H
  kH : ∀ b o, c.H0 b = some o → c.fa ≠ some b → H b = some o
  gN : ∀ a o, G a = some o → c.G0 a = some o ∨ c.H0 a = none
  len : s.v.length = σ.length
  sl : ∀ i, SlotOk c H G σ[i]? (get s.v i)
  ap : ∀ i j a, i ≠ j → (get s.v i).isOwn = true → (get s.v j).isOwn = true → σ[i]? = some (some (.ref a)) → σ[j]? = some (some (.ref a)) → False
  fd : FeedOk c.fa H G s.w
  rs : ∀ a, c.rs a → G a = none ∧ c.fa ≠ some a ∧ ∃ o, H a = some o
def Keep (c : Ct) (H H' : Hp) : Prop := ∀ b o, H b = some o → c.fa ≠ some b → H' b = some o
theorem Keep.refl {c : Ct} {H : Hp} : Keep c H H := fun _ _ e _ => e
theorem Keep.trans {c : Ct} {H H1 H2 : Hp} (a : Keep c H H1) (b : Keep c H1 H2) : Keep c H H2 := fun x o e n => b x o (a x o e n) n
def ResOk (c : Ct) (σ : St) (H G : Hp) (s : S) (v : V) : R → Prop
  | .val d => Dg c.K G v d
  | .own ds => ∃ a vs, v = .ref a ∧ H a = some (.lst vs) ∧ Dgs c.K G vs ds ∧ G a = none ∧ c.H0 a = none ∧ c.fa ≠ some a ∧ ¬ c.rs a ∧ ∀ i, (get s.v i).isOwn = true → σ[i]? ≠ some (some (.ref a))
  | .bor ds => ∃ a vs, v = .ref a ∧ H a = some (.lst vs) ∧ Dgs c.K G vs ds ∧ G a = none ∧ c.H0 a = none ∧ c.fa ≠ some a ∧ ¬ c.rs a
/-- what may be read of a value right now -/
def Peek (c : Ct) (H G : Hp) (v : V) : D → Prop
  | .list ds => ∃ a vs, v = .ref a ∧ H a = some (.lst vs) ∧ Dgs c.K G vs ds ∧ c.fa ≠ some a
  | d => Dg c.K G v d
section
variable {c : Ct} {σ : St} {H G H' G' : Hp} {s : S} {v : V} {r : R}
theorem Rel.fa (R : Rel c σ H G s) {a : Addr} {o : HO} (h : G a = some o) : c.fa ≠ some a := fun e => by
  have q := (R.fd a e).1
  rw [h] at q; cases q
theorem Peek.ofDg (R : Rel c σ H G s) {d : D} (h : Dg c.K G v d) : Peek c H G v d := by
  cases d with
  | list ds =>
    cases h with
    | lst h r => exact ⟨_, _, rfl, R.gH _ _ h, r, R.fa h⟩
  | _ => exact h
theorem ResOk.peek (R : Rel c σ H G s) (h : ResOk c σ H G s v r) : Peek c H G v r.d := by
  cases r with
  | val d => exact .ofDg R h
  | own ds =>
    obtain ⟨a, vs, e, h1, h2, h3, h4, h5, h6⟩ := h
    exact ⟨a, vs, e, h1, h2, h5⟩
  | bor ds =>
    obtain ⟨a, vs, e, h1, h2, h3, h4, h5, _⟩ := h
    exact ⟨a, vs, e, h1, h2, h5⟩
theorem Peek.keep {d : D} (h : Peek c H G v d) (sm : Same G G') (k : Keep c H H') : Peek c H' G' v d := by
  cases d with
  | list ds =>
    obtain ⟨a, vs, e, h1, h2, h3⟩ := h
    exact ⟨a, vs, e, k _ _ h1 h3, h2.mono sm, h3⟩
  | _ => exact Dg.mono sm (show Dg c.K G v _ from h)
theorem Rel.nrs (R : Rel c σ H G s) {p : Addr} (n : H p = none) : ¬ c.rs p := fun h => by
  obtain ⟨_, _, o, q⟩ := R.rs p h
  rw [n] at q; cases q
theorem Rel.h0 (R : Rel c σ H G s) {p : Addr} (n : H p = none) : c.H0 p = none ∧ c.fa ≠ some p ∧ G p = none := by
  have f : c.fa ≠ some p := fun e => by
    obtain ⟨_, sa, h, _⟩ := R.fd p e
    rw [n] at h; cases h
  refine ⟨?_, f, R.gH.free n⟩
  cases e : c.H0 p with
  | none => rfl
  | some o =>
    have q := R.kH p o e f
    rw [n] at q; cases q
theorem same_upd {H : Hp} {p : Addr} {o : HO} (h : H p = none) : Same H (upd H p o) := fun b x e => by
  rw [upd_ne (ne_of_none e h)]
  exact e
theorem Keep.upd {p : Addr} {o : HO} (n : H p = none) : Keep c H (L2.upd H p o) := fun b x e _ => same_upd n b x e
/-- the heap has grown, the readable heap too (by new objects alone) -/
theorem Rel.grow (R : Rel c σ H G s) (sm : Same G G') (gH : Same G' H') (k : Keep c H H') (gN : ∀ a o, G' a = some o → G a = some o ∨ H a = none) (fd : ∀ a, c.fa = some a → H' a = H a) : Rel c σ H' G' s where
  g0 := R.g0.trans sm
  gH := gH
  kH := fun b o e n => k b o (R.kH b o e n) n
  gN := fun a o e => by
    rcases gN a o e with h | h
    · exact R.gN a o h
    · exact .inr (R.h0 h).1
  len := R.len
  sl := fun i => by
    have h := R.sl i
    cases e : get s.v i with
    | gone => trivial
    | val d =>
      rw [e] at h
      obtain ⟨v, h1, h2⟩ := h
      exact ⟨v, h1, h2.mono sm⟩
    | own ds =>
      rw [e] at h
      obtain ⟨a, vs, h1, h2, h3, h4, h5, h6, h7⟩ := h
      refine ⟨a, vs, h1, k _ _ h2 h6, h3.mono sm, ?_, h5, h6, h7⟩
      cases q : G' a with
      | none => rfl
      | some o =>
        rcases gN a o q with z | z
        · rw [h4] at z; cases z
        · rw [h2] at z; cases z
    | feed =>
      rw [e] at h
      exact h
    | exn x =>
      rw [e] at h
      obtain ⟨a, cls, d, q1, q2, q3⟩ := h
      exact ⟨a, cls, d, q1, q2, q3.mono sm⟩
  ap := R.ap
  fd := fun a e => by
    obtain ⟨h1, sa, h2, h3⟩ := R.fd a e
    refine ⟨?_, sa, by rw [fd a e]; exact h2, sm _ _ h3⟩
    cases q : G' a with
    | none => rfl
    | some o =>
      rcases gN a o q with z | z
      · rw [h1] at z; cases z
      · rw [h2] at z; cases z
  rs := fun a e => by
    obtain ⟨h1, h2, o, h3⟩ := R.rs a e
    refine ⟨?_, h2, o, k _ _ h3 h2⟩
    cases q : G' a with
    | none => rfl
    | some o =>
      rcases gN a o q with z | z
      · rw [h1] at z; cases z
      · rw [h3] at z; cases z
theorem Rel.newL (R : Rel c σ H G s) {p : Addr} {o : HO} (n : H p = none) : Rel c σ (upd H p o) G s :=
  R.grow (fun _ _ e => e) (fun b x e => same_upd n b x (R.gH b x e)) (Keep.upd n) (fun _ _ e => .inl e) fun a e => upd_ne fun z => (R.h0 n).2.1 (z ▸ e)
theorem Rel.newG (R : Rel c σ H G s) {p : Addr} {o : HO} (n : H p = none) : Rel c σ (upd H p o) (upd G p o) s ∧ Same G (upd G p o) := by
  have sm : Same G (upd G p o) := same_upd (R.h0 n).2.2
  refine ⟨R.grow sm (fun b x e => ?_) (Keep.upd n) (fun a x e => ?_) fun a e => upd_ne fun z => (R.h0 n).2.1 (z ▸ e), sm⟩
  · by_cases hb : b = p
    · subst hb; rw [upd_same] at e ⊢; exact e
    · rw [upd_ne hb] at e ⊢; exact R.gH b x e
  · by_cases hb : a = p
    · subst hb; exact .inr n
    · rw [upd_ne hb] at e; exact .inl e
theorem Rel.own_new (R : Rel c σ H G s) {p : Addr} {vs : List V} {ds : List D} (n : H p = none) (h : Dgs c.K G vs ds) : ResOk c σ (upd H p (.lst vs)) G s (.ref p) (.own ds) := by
  obtain ⟨h1, h2, h3⟩ := R.h0 n
  refine ⟨p, vs, rfl, upd_same, h, h3, h1, h2, R.nrs n, fun i hi e => ?_⟩
  have q := R.sl i
  cases z : get s.v i with
  | own es =>
    rw [z] at q
    obtain ⟨a, us, e1, e2, _⟩ := q
    rw [e] at e1
    cases e1
    rw [n] at e2; cases e2
  | _ => rw [z] at hi; cases hi
/-- a list of one's own that goes elsewhere is frozen -/
theorem Rel.freeze (R : Rel c σ H G s) {a : Addr} {vs : List V} (h1 : H a = some (.lst vs)) (h3 : G a = none) (h4 : c.H0 a = none) (h5 : c.fa ≠ some a) (h7 : ¬ c.rs a) (h6 : ∀ i, (get s.v i).isOwn = true → σ[i]? ≠ some (some (.ref a))) :
    Rel c σ H (upd G a (.lst vs)) s ∧ Same G (upd G a (.lst vs)) := by
  have sm : Same G (upd G a (.lst vs)) := same_upd h3
  refine ⟨⟨R.g0.trans sm, fun b x e => ?_, R.kH, fun b x e => ?_, R.len, fun i => ?_, R.ap, fun b e => ?_, fun b e => ?_⟩, sm⟩
  · by_cases hb : b = a
    · subst hb; rw [upd_same] at e; cases e; exact h1
    · rw [upd_ne hb] at e; exact R.gH b x e
  · by_cases hb : b = a
    · subst hb; exact .inr h4
    · rw [upd_ne hb] at e; exact R.gN b x e
  · have h := R.sl i
    cases e : get s.v i with
    | gone => trivial
    | val d =>
      rw [e] at h
      obtain ⟨v, q1, q2⟩ := h
      exact ⟨v, q1, q2.mono sm⟩
    | own ds =>
      rw [e] at h
      obtain ⟨b, us, q1, q2, q3, q4, q5, q6, q7⟩ := h
      have hb : b ≠ a := fun z => h6 i (by rw [e]; rfl) (z ▸ q1)
      exact ⟨b, us, q1, q2, q3.mono sm, by rw [upd_ne hb]; exact q4, q5, q6, q7⟩
    | feed =>
      rw [e] at h
      exact h
    | exn x =>
      rw [e] at h
      obtain ⟨a, cls, d, q1, q2, q3⟩ := h
      exact ⟨a, cls, d, q1, q2, q3.mono sm⟩
  · obtain ⟨q1, sa, q2, q3⟩ := R.fd b e
    exact ⟨by rw [upd_ne (fun z : b = a => h5 (z ▸ e))]; exact q1, sa, q2, sm _ _ q3⟩
  · obtain ⟨q1, q2, q3⟩ := R.rs b e
    exact ⟨by rw [upd_ne (fun z : b = a => h7 (z ▸ e))]; exact q1, q2, q3⟩
/-- a result made good -/
theorem ResOk.frz (R : Rel c σ H G s) (h : ResOk c σ H G s v r) {k : D → Prop} (q : DL.frz r k) : ∃ d G1, k d ∧ Rel c σ H G1 s ∧ Same G G1 ∧ Dg c.K G1 v d := by
  cases r with
  | val d => exact ⟨d, G, q, R, Same.refl _, h⟩
  | own ds =>
    obtain ⟨a, vs, e, h1, h2, h3, h4, h5, h7, h6⟩ := h
    obtain ⟨R1, sm⟩ := R.freeze h1 h3 h4 h5 h7 h6
    subst e
    exact ⟨.list ds, _, q, R1, sm, .lst upd_same (h2.mono sm)⟩
  | bor ds => exact False.elim q
end
/-! ### slots -/
theorem get_put : ∀ (v : List Slot) (i j : Nat) (y : Slot), i < v.length → get (put v i y) j = if j = i then y else get v j
  | [], i, j, y, h => by simp at h
  | x :: r, 0, 0, y, _ => rfl
  | x :: r, 0, j + 1, y, _ => rfl
  | x :: r, i + 1, 0, y, _ => rfl
  | x :: r, i + 1, j + 1, y, h => by
    have ih := get_put r i j y (by simpa using h)
    show get (put r i y) j = _
    rw [ih]
    by_cases e : j = i
    · rw [if_pos e, if_pos (by omega)]
    · rw [if_neg e, if_neg (by omega)]
      rfl
theorem put_length : ∀ (v : List Slot) (i : Nat) (y : Slot), (put v i y).length = v.length
  | [], _, _ => rfl
  | _ :: _, 0, _ => rfl
  | _ :: r, i + 1, y => congrArg (· + 1) (put_length r i y)
theorem put_out : ∀ (v : List Slot) (i : Nat) (y : Slot), ¬ i < v.length → put v i y = v
  | [], _, _, _ => rfl
  | _ :: _, 0, _, h => absurd (Nat.succ_pos _) h
  | x :: r, i + 1, y, h => by
    show x :: put r i y = x :: r
    rw [put_out r i y (by simpa using h)]
theorem get_out : ∀ (v : List Slot) (i : Nat), ¬ i < v.length → get v i = .gone
  | [], _, _ => rfl
  | _ :: _, 0, h => absurd (Nat.succ_pos _) h
  | _ :: r, i + 1, h => get_out r i (by simpa using h)
theorem get_lt {v : List Slot} {i : Nat} (h : get v i ≠ .gone) : i < v.length := by
  by_cases q : i < v.length
  · exact q
  · exact absurd (get_out v i q) h
end DL

/-! DLS2: expressions. -/
namespace DL
open PySem PySem.Spec PyProof.Rows L2
/-- the built-in names that no module shadows -/
def bltNames : List Str := ["len", "abs", "int", "min", "max", "list", "tuple", "sum", "all", "range", "enumerate", "reversed", "isinstance", "sorted", "zip", "str", "bool"]
/-- what the pieces ask of where they stand -/
class Ok (X : Cx) (c : Ct) : Prop where
  K : X.K = c.K
  blt : ∀ x ∈ bltNames, X.mg x = none
  hu : X.A.units + 66 < cLine
  nd : X.N.Nodup
  mg : X.mg = c.mg
  xe : X.calm = true → c.xe = none
/-- no error is handled -/
class Calm (X : Cx) : Prop where
  calm : X.calm = true
instance {X : Cx} [o : Calm X] {s : Shared} {H : Hp} {sc : Scope} {ce : PySem.Env} {fp : List Addr} : Calm (X.blk s H sc ce fp) := ⟨o.calm⟩
instance {CX : CXT} {P : Program} {w : World} {K : PySem.W.Frag} {mg : Str → Option Value} {base : Heap} {N : List Str} {qual : Str} {scope : Scope} {f : Addr} {cd : Value} {A : Around} {outer : List PySem.Env} {s : Shared} {H : Hp} {E : XK} : Calm (cxOf CX P w K mg base N qual scope f cd A outer s H E) := ⟨rfl⟩
instance {X : Cx} [o : Calm X] {E : Value → Shared → Prop} : Calm (X.wish E) := ⟨o.calm⟩
instance {X : Cx} {c : Ct} [o : Ok X c] {s : Shared} {H : Hp} {sc : Scope} {ce : PySem.Env} {fp : List Addr} : Ok (X.blk s H sc ce fp) c := ⟨o.K, o.blt, o.hu, o.nd, o.mg, o.xe⟩

def tE (c : Ct) (m : M) : TE := fun σ H Q => ∃ G s Q0, Rel c σ H G s ∧ m s Q0 ∧ ∀ r s' v H' G', Q0 r s' → Rel c σ H' G' s' → Same G G' → Keep c H H' → ResOk c σ H' G' s' v r → Q v H'
def tT (c : Ct) (t : T) : TT := fun σ H Q => ∃ G s Q0, Rel c σ H G s ∧ t s Q0 ∧ ∀ b s' H' G', Q0 b s' → Rel c σ H' G' s' → Same G G' → Keep c H H' → Q b H'
def tAs (c : Ct) (ms : Ms) : TA := fun σ H Q => ∃ G s Q0, Rel c σ H G s ∧ ms s Q0 ∧ ∀ ds s' vs H' G', Q0 ds s' → Rel c σ H' G' s' → Same G G' → Keep c H H' → Dgs c.K G' vs ds → Q vs H'
theorem pe_imp {X : Cx} {e : Expr} {t t' : TE} (h : PE X e t) (i : ∀ σ H Q, t' σ H Q → t σ H Q) : PE X e t' := ⟨fun pins s σ H Q I q => h.run pins s σ H Q I (i σ H Q q)⟩
theorem pt_imp {X : Cx} {e : Expr} {t t' : TT} (h : PT X e t) (i : ∀ σ H Q, t' σ H Q → t σ H Q) : PT X e t' := ⟨fun pins s σ H Q I q => h.run pins s σ H Q I (i σ H Q q)⟩
theorem pw_imp {X : Cx} {e : Expr} {t t' : TT} (h : PW X e t) (i : ∀ σ H Q, t' σ H Q → t σ H Q) : PW X e t' := ⟨fun w pins s σ H Q I q => h.run w pins s σ H Q I (i σ H Q q)⟩
theorem pa_imp {X : Cx} {e : List Expr} {t t' : TA} (h : PA X e t) (i : ∀ σ H Q, t' σ H Q → t σ H Q) : PA X e t' := ⟨fun pos pins s σ H Q I q => h.run pos pins s σ H Q I (i σ H Q q)⟩

section
variable {X : Cx} {c : Ct} {a b e : Expr} {m m1 m2 m3 : M} {pos : Pos}
/-! ### constants and names -/
theorem tE_const {d : D} {v : V} (h : ∀ G, Dg c.K G v d) : ∀ σ H Q, tE c (mC d) σ H Q → tC v σ H Q := by
  rintro σ H Q ⟨G, s, Q0, R, hm, hQ⟩
  exact hQ _ s v H G hm R (Same.refl _) Keep.refl (h G)
theorem de_int {i : Int} {j pos} : PE X (.Constant (.int i) j pos) (tE c (mC (.int i))) := pe_imp pe_int (tE_const fun _ => .int i)
theorem de_bool {i : Bool} {j pos} : PE X (.Constant (.bool i) j pos) (tE c (mC (.bool i))) := pe_imp pe_bl (tE_const fun _ => .bl i)
theorem de_none {j pos} : PE X (.Constant .none j pos) (tE c (mC .none)) := pe_imp pe_non (tE_const fun _ => .non)
theorem de_str {x : Str} {l : List Nat} {j pos} (h : x.cps.toList = l := by decide +kernel) : PE X (.Constant (.str x) j pos) (tE c (mC (.str l))) := by
  have e : x = sT l := by
    subst h
    cases x
    rfl
  subst e
  exact pe_imp pe_str (tE_const fun _ => .str l)
/-- a module's constant -/
theorem de_glob {x : Str} {u : Value} {v : V} {d : D} (hg : Gl X x) (hm : X.mg x = some u) (r : RelV v u) (h : ∀ G, Dg c.K G v d) (hd : (x == ("__debug__" : Str)) = false := by decide) : PE X (.Name x pos) (tE c (mC d)) := pe_imp (pe_glob hg hm r hd) (tE_const h)
theorem Rel.at {σ : St} {H G : Hp} {s : S} (R : Rel c σ H G s) {i : Nat} {x : Slot} (h : get s.v i = x) : SlotOk c H G σ[i]? x := h ▸ R.sl i
theorem de_var (i : Nat) {x : Str} (hN : X.N[i]? = some x := by rfl) (hv : Vis X.env.scope x := by first | exact Or.inl rfl | exact Or.inr (Or.inl rfl) | exact Or.inr (Or.inr rfl)) (hd : (x == ("__debug__" : Str)) = false := by decide)
    (hcd : (x == ("__classdict__" : Str)) = false := by decide) : PE X (.Name x pos) (tE c (mVar i)) := by
  refine pe_imp (pe_var hN hv hd hcd) ?_
  rintro σ H Q ⟨G, s, Q0, R, hm, hQ⟩
  unfold mVar at hm
  split at hm
  · rename_i d e
    obtain ⟨v, h1, h2⟩ := R.at e
    exact ⟨v, h1, hQ _ s v H G hm R (Same.refl _) Keep.refl h2⟩
  · rename_i ds e
    obtain ⟨a, vs, h1, h2, h3, h4, h5, h6, h7⟩ := R.at e
    exact ⟨_, h1, hQ _ s _ H G hm R (Same.refl _) Keep.refl ⟨a, vs, rfl, h2, h3, h4, h5, h6, h7⟩⟩
  · exact hm.elim
/-- a slot is stored anew -/
theorem Rel.put_val {σ : St} {H G : Hp} {s : S} (R : Rel c σ H G s) {i : Nat} {v : V} {d : D} (h : Dg c.K G v d) : Rel c (σ.set i (some v)) H G { s with v := put s.v i (.val d) } := by
  by_cases hi : i < s.v.length
  · have hi2 : i < σ.length := by rw [← R.len]; exact hi
    refine ⟨R.g0, R.gH, R.kH, R.gN, by rw [List.length_set]; show (put s.v i _).length = _; rw [put_length]; exact R.len, fun j => ?_, fun j k a hjk h1 h2 e1 e2 => ?_, R.fd, R.rs⟩
    · show SlotOk c H G (σ.set i (some v))[j]? (get (put s.v i (.val d)) j)
      rw [get_put _ _ _ _ hi]
      by_cases hj : j = i
      · subst hj
        rw [if_pos rfl, List.getElem?_set_self hi2]
        exact ⟨v, rfl, h⟩
      · rw [if_neg hj, List.getElem?_set_ne (Ne.symm hj)]
        exact R.sl j
    · have g : ∀ j, (get (put s.v i (.val d)) j).isOwn = true → j ≠ i ∧ (get s.v j).isOwn = true := fun j h => by
        rw [get_put _ _ _ _ hi] at h
        by_cases hj : j = i
        · rw [if_pos hj] at h; cases h
        · rw [if_neg hj] at h; exact ⟨hj, h⟩
      obtain ⟨n1, o1⟩ := g j h1
      obtain ⟨n2, o2⟩ := g k h2
      rw [List.getElem?_set_ne (Ne.symm n1)] at e1
      rw [List.getElem?_set_ne (Ne.symm n2)] at e2
      exact R.ap j k a hjk o1 o2 e1 e2
  · rw [put_out _ _ _ hi, List.set_eq_of_length_le (by rw [← R.len]; omega)]
    exact R
/-- a slot is looked at in another way: the same V -/
theorem Rel.reslot {σ : St} {H G : Hp} {s : S} (R : Rel c σ H G s) {i : Nat} {y : Slot} (hy : y.isOwn = false) (h : SlotOk c H G σ[i]? y) : Rel c σ H G { s with v := put s.v i y } := by
  by_cases hi : i < s.v.length
  · refine ⟨R.g0, R.gH, R.kH, R.gN, by show (put s.v i _).length = _; rw [put_length]; exact R.len, fun j => ?_, fun j k a hjk h1 h2 e1 e2 => ?_, R.fd, R.rs⟩
    · show SlotOk c H G σ[j]? (get (put s.v i y) j)
      rw [get_put _ _ _ _ hi]
      by_cases hj : j = i
      · subst hj
        rw [if_pos rfl]
        exact h
      · rw [if_neg hj]
        exact R.sl j
    · have g : ∀ j, (get (put s.v i y) j).isOwn = true → (get s.v j).isOwn = true := fun j h => by
        rw [get_put _ _ _ _ hi] at h
        by_cases hj : j = i
        · rw [if_pos hj, hy] at h; cases h
        · rw [if_neg hj] at h; exact h
      exact R.ap j k a hjk (g j h1) (g k h2) e1 e2
  · rw [put_out _ _ _ hi]
    exact R
theorem Rel.lose {σ : St} {H G : Hp} {s : S} (R : Rel c σ H G s) (i : Nat) : Rel c σ H G { s with v := put s.v i .gone } := R.reslot rfl trivial
/-- the own list at slot i is frozen -/
theorem Rel.freezeAt {σ : St} {H G : Hp} {s : S} (R : Rel c σ H G s) {i : Nat} {ds : List D} (e : get s.v i = .own ds) : ∃ a vs, σ[i]? = some (some (.ref a)) ∧ Rel c σ H (upd G a (.lst vs)) { s with v := put s.v i (.val (.list ds)) } ∧ Same G (upd G a (.lst vs)) ∧ Dg c.K (upd G a (.lst vs)) (.ref a) (.list ds) := by
  obtain ⟨a, vs, h1, h2, h3, h4, h5, h6, h7⟩ := R.at e
  have R1 := R.lose i
  have hi : i < s.v.length := get_lt (by rw [e]; intro z; cases z)
  obtain ⟨R2, sm⟩ := R1.freeze h2 h4 h5 h6 h7 fun j hj ej => by
    have q : get (put s.v i .gone) j = if j = i then .gone else get s.v j := get_put _ _ _ _ hi
    have hj' : (get (put s.v i .gone) j).isOwn = true := hj
    rw [q] at hj'
    by_cases hji : j = i
    · rw [if_pos hji] at hj'; cases hj'
    · rw [if_neg hji] at hj'
      exact R.ap j i a hji hj' (by rw [e]; rfl) ej h1
  have dg : Dg c.K (upd G a (.lst vs)) (.ref a) (.list ds) := .lst upd_same (h3.mono sm)
  refine ⟨a, vs, h1, ?_, sm, dg⟩
  have R3 := R2.reslot (i := i) (y := .val (.list ds)) rfl ⟨_, h1, dg⟩
  have e2 : put (put s.v i .gone) i (.val (.list ds)) = put s.v i (.val (.list ds)) := by
    clear R R1 R2 R3 h1 e
    revert hi
    generalize s.v = w
    intro hi
    induction w generalizing i with
    | nil => rfl
    | cons x r ih => cases i with
      | zero => rfl
      | succ i =>
        show x :: put (put r i .gone) i _ = x :: put r i _
        rw [ih (by simpa using hi)]
  have e3 : ({ s with v := put (put s.v i .gone) i (.val (.list ds)) } : S) = { s with v := put s.v i (.val (.list ds)) } := by rw [e2]
  rw [← e3]
  exact R3
theorem de_fz (i : Nat) {x : Str} (hN : X.N[i]? = some x := by rfl) (hv : Vis X.env.scope x := by first | exact Or.inl rfl | exact Or.inr (Or.inl rfl) | exact Or.inr (Or.inr rfl)) (hd : (x == ("__debug__" : Str)) = false := by decide)
    (hcd : (x == ("__classdict__" : Str)) = false := by decide) : PE X (.Name x pos) (tE c (mFzV i)) := by
  refine pe_imp (pe_var hN hv hd hcd) ?_
  rintro σ H Q ⟨G, s, Q0, R, hm, hQ⟩
  unfold mFzV at hm
  split at hm
  · rename_i d e
    obtain ⟨v, h1, h2⟩ := R.at e
    exact ⟨v, h1, hQ _ s v H G hm R (Same.refl _) Keep.refl h2⟩
  · rename_i ds e
    obtain ⟨a, vs, h1, R1, sm, dg⟩ := R.freezeAt e
    exact ⟨_, h1, hQ _ _ _ H _ hm R1 sm Keep.refl dg⟩
  · exact hm.elim
/-! ### operators -/
def Fin (c : Ct) (σ : St) (H G : Hp) (s : S) (Qr : R → Prop) (Q : VK) : Prop := ∀ r v H' G', Qr r → Rel c σ H' G' s → Same G G' → Keep c H H' → ResOk c σ H' G' s v r → Q v H'
def OpD (c : Ct) (f : D → D → (R → Prop) → Prop) (r : R2) : Prop := ∀ {σ : St} {H G : Hp} {s : S} {x y : D} {v u : V} {Qr : R → Prop} {Q : VK}, Rel c σ H G s → Peek c H G v x → Peek c H G u y → f x y Qr → Fin c σ H G s Qr Q → r v u H Q
theorem Fin.val {σ : St} {H G : Hp} {s : S} {Qr : R → Prop} {Q : VK} (F : Fin c σ H G s Qr Q) (R : Rel c σ H G s) {v : V} {d : D} (q : Qr (.val d)) (h : Dg c.K G v d) : Q v H := F _ v H G q R (Same.refl _) Keep.refl h
theorem Fin.own {σ : St} {H G : Hp} {s : S} {Qr : R → Prop} {Q : VK} (F : Fin c σ H G s Qr Q) (R : Rel c σ H G s) {vs : List V} {ds : List D} (q : Qr (.own ds)) (h : Dgs c.K G vs ds) {p : Addr} (n : H p = none) : Q (.ref p) (upd H p (.lst vs)) :=
  F _ _ _ G q (R.newL n) (Same.refl _) (Keep.upd n) (R.own_new n h)
theorem Fin.tup {σ : St} {H G : Hp} {s : S} {Qr : R → Prop} {Q : VK} (F : Fin c σ H G s Qr Q) (R : Rel c σ H G s) {vs : List V} {ds : List D} (q : Qr (.val (.tup ds))) (h : Dgs c.K G vs ds) {p : Addr} (n : H p = none) : Q (.ref p) (upd H p (.tup vs)) := by
  obtain ⟨R1, sm⟩ := R.newG (o := .tup vs) n
  exact F _ _ _ _ q R1 sm (Keep.upd n) (.tup (SqT.of upd_same) (h.mono sm))
theorem mBin_run {f : D → D → (R → Prop) → Prop} {r : R2} (ho : OpD c f r) {ta tb : TE} : ∀ σ H Q, tE c (mBin f m1 m2) σ H Q → tOp r (tE c m1) (tE c m2) σ H Q := by
  rintro σ H Q ⟨G, s, Q0, R, hm, hQ⟩
  refine ⟨G, s, _, R, hm, fun r1 s1 v1 H1 G1 q1 R1 S1 K1 O1 => ⟨G1, s1, _, R1, q1, fun r2 s2 v2 H2 G2 q2 R2 S2 K2 O2 => ?_⟩⟩
  refine ho R2 ((O1.peek R1).keep S2 K2) (O2.peek R2) q2 fun r v H' G' q R' S' K' O' => hQ r s2 v H' G' q R' ((S1.trans S2).trans S') ((K1.trans K2).trans K') O'
theorem de_bin {op : Operator} {f : D → D → (R → Prop) → Prop} {r : R2} (hr : OpR X (binaryOp op) r) (ho : OpD c f r) (ha : PE X a (tE c m1)) (hb : PE X b (tE c m2)) : PE X (.BinOp a op b pos) (tE c (mBin f m1 m2)) :=
  pe_imp (pe_op hr ha hb) (mBin_run ho (ta := tE c m1) (tb := tE c m2))
theorem opR_or {f : Value → Value → PySem.Sem Value} {r r' : R2} (h : OpR X f r) (h' : OpR X f r') : OpR X f (fun x y H Q => r x y H Q ∨ r' x y H Q) := fun pins s σ H x y v u Q I rx ry q => q.elim (h pins s σ H x y v u Q I rx ry) (h' pins s σ H x y v u Q I rx ry)
theorem lineEq : LINE = sizeLine := by rw [sizeLine_eq]
theorem len_sT (s : List Nat) : (sT s).length = s.length := by simp [Str.length]
theorem sT_append (s t : List Nat) : sT s ++ sT t = sT (s ++ t) := by
  show Str.append _ _ = _
  simp [Str.append]
theorem Peek.int {H G : Hp} {v : V} {i : Int} (h : Peek c H G v (.int i)) : v = .int i := by cases (show Dg c.K G v (.int i) from h); rfl
theorem Peek.bool {H G : Hp} {v : V} {i : Bool} (h : Peek c H G v (.bool i)) : v = .bl i := by cases (show Dg c.K G v (.bool i) from h); rfl
theorem Peek.str {H G : Hp} {v : V} {i : List Nat} (h : Peek c H G v (.str i)) : v = .str (sT i) := by cases (show Dg c.K G v (.str i) from h); rfl
theorem Peek.non {H G : Hp} {v : V} (h : Peek c H G v .none) : v = .non := by cases (show Dg c.K G v .none from h); rfl
theorem Peek.tup {H G : Hp} {v : V} {ds : List D} (h : Peek c H G v (.tup ds)) : ∃ a xs, v = .ref a ∧ SqT c.K G a xs ∧ Dgs c.K G xs ds := by
  cases (show Dg c.K G v (.tup ds) from h) with
  | tup h1 r1 => exact ⟨_, _, rfl, h1, r1⟩
theorem op_dAdd : OpR X (binaryOp .Add) (fun x y H Q => (∃ i j, x = .int i ∧ y = .int j ∧ Q (.int (i + j)) H) ∨ (∃ i j, x = .str i ∧ y = .str j ∧ i.length + j.length ≤ sizeLine ∧ Q (.str (i ++ j)) H) ∨ rCat x y H Q) := opR_or op_add (opR_or op_add_str op_cat)
theorem od_add : OpD c dAdd (fun x y H Q => (∃ i j, x = .int i ∧ y = .int j ∧ Q (.int (i + j)) H) ∨ (∃ i j, x = .str i ∧ y = .str j ∧ i.length + j.length ≤ sizeLine ∧ Q (.str (i ++ j)) H) ∨ rCat x y H Q) := by
  intro σ H G s x y v u Qr Q R hx hy h F
  unfold dAdd at h
  split at h
  · exact .inl ⟨_, _, hx.int, hy.int, F.val R h (.int _)⟩
  · obtain ⟨h1, h2⟩ := h
    refine .inr (.inl ⟨_, _, hx.str, hy.str, by rw [len_sT, len_sT, ← lineEq]; exact h1, ?_⟩)
    rw [sT_append]
    exact F.val R h2 (.str _)
  · obtain ⟨h1, h2⟩ := h
    obtain ⟨a, xs, e1, q1, q2, _⟩ := hx
    obtain ⟨b, ys, e2, q3, q4, _⟩ := hy
    exact .inr (.inr ⟨a, b, xs, ys, e1, e2, q1, q3, by rw [q2.length, q4.length, ← lineEq]; exact h1, fun p n => F.own R h2 (q2.append q4) n⟩)
  · exact h.elim
theorem de_add (ha : PE X a (tE c m1)) (hb : PE X b (tE c m2)) : PE X (.BinOp a .Add b pos) (tE c (mBin dAdd m1 m2)) := de_bin op_dAdd od_add ha hb
theorem de_sub (ha : PE X a (tE c m1)) (hb : PE X b (tE c m2)) : PE X (.BinOp a .Sub b pos) (tE c (mBin dSub m1 m2)) := de_bin op_sub (by
  intro σ H G s x y v u Qr Q R hx hy h F
  unfold dSub at h
  split at h
  · exact ⟨_, _, hx.int, hy.int, F.val R h (.int _)⟩
  · exact h.elim) ha hb
theorem rep_flat (l : List Nat) : ∀ (n : Nat) (acc : Array Nat), ((List.replicate n (sT l).cps).foldl (· ++ ·) acc).toList = acc.toList ++ (List.replicate n l).flatten
  | 0, acc => by simp
  | n + 1, acc => by
    rw [List.replicate_succ, List.foldl_cons, rep_flat l n, List.replicate_succ, List.flatten_cons]
    simp
theorem txt_mul (l : List Nat) (n : Int) : Txt.mul (sT l) n = sT (List.replicate n.toNat l).flatten := by
  unfold Txt.mul
  by_cases h1 : n < 1
  · rw [if_pos h1, show n.toNat = 0 by omega]
    rfl
  · rw [if_neg h1]
    by_cases h2 : (n == 1 || (sT l).length == 0) = true
    · rw [if_pos h2]
      rw [Bool.or_eq_true, beq_iff_eq, beq_iff_eq] at h2
      rcases h2 with h2 | h2
      · subst h2
        simp
      · rw [len_sT] at h2
        have : l = [] := List.eq_nil_of_length_eq_zero h2
        subst this
        simp
    · rw [if_neg h2]
      have := rep_flat l n.toNat #[]
      unfold sT
      congr 1
      rw [← Array.toList_inj, this]
      simp
theorem op_mul_str : OpR X (binaryOp .Mult) (fun x y H Q => ∃ (l : List Nat) (n : Int), x = .str (sT l) ∧ y = .int n ∧ -(2 ^ 63) ≤ n ∧ n < 2 ^ 63 ∧ l.length * n.toNat ≤ sizeLine ∧ Q (.str (sT (List.replicate n.toNat l).flatten)) H) := by
  intro pins s σ H x y v u Q I rx ry h
  obtain ⟨l, n, rfl, rfl, h1, h2, h3, q⟩ := h
  obtain ⟨t, rfl⟩ := rx
  obtain ⟨t', rfl⟩ := ry
  have line : sizeLine = 16777216 := by rw [sizeLine_eq]
  refine SB.mul (x := sT l) ⟨?_, fun n1 n2 => ?_, fun n1 n2 => ?_⟩ fun t' k => ⟨.str (sT (List.replicate n.toNat l).flatten), H, I.kept (t' := k) fun _ _ z => z, ⟨t', by rw [txt_mul]⟩, q⟩
  · rw [decide_eq_false (by omega), decide_eq_false (by omega)]; rfl
  · rw [len_sT]
    refine Int.not_lt.mpr (Int.le_ediv_of_mul_le (by omega) ?_)
    have e : (l.length : Int) * n = ((l.length * n.toNat : Nat) : Int) := by rw [Int.natCast_mul, Int.toNat_of_nonneg (by omega)]
    rw [e]
    omega
  · rw [len_sT]
    unfold Builtin.Str.tooLong
    exact decide_eq_false (by omega)
theorem de_mul (ha : PE X a (tE c m1)) (hb : PE X b (tE c m2)) : PE X (.BinOp a .Mult b pos) (tE c (mBin dMul m1 m2)) := de_bin (opR_or op_mulW (opR_or op_rep op_mul_str)) (by
  intro σ H G s x y v u Qr Q R hx hy h F
  unfold dMul at h
  split at h
  · exact Or.inl ⟨_, _, hx.int, hy.int, h.1, F.val R h.2 (.int _)⟩
  · obtain ⟨⟨h1, h2⟩, h3, h4⟩ := h
    obtain ⟨a, xs, e1, q1, q2, _⟩ := hx
    exact Or.inr (Or.inl ⟨a, _, xs, e1, hy.int, q1, h1, h2, by rw [q2.length, ← lineEq]; exact h3, fun p n => F.own R h4 (q2.rep _) n⟩)
  · obtain ⟨⟨h1, h2⟩, h3, h4⟩ := h
    exact Or.inr (Or.inr ⟨_, _, hx.str, hy.int, h1, h2, by rw [← lineEq]; exact h3, F.val R h4 (.str _)⟩)
  · exact h.elim) ha hb
theorem de_div (ha : PE X a (tE c m1)) (hb : PE X b (tE c m2)) : PE X (.BinOp a .FloorDiv b pos) (tE c (mBin dDiv m1 m2)) := de_bin op_fdivW (by
  intro σ H G s x y v u Qr Q R hx hy h F
  unfold dDiv at h
  split at h
  · exact ⟨_, _, hx.int, hy.int, ⟨h.1, h.2.1⟩, F.val R h.2.2 (.int _)⟩
  · exact h.elim) ha hb
theorem de_mod (ha : PE X a (tE c m1)) (hb : PE X b (tE c m2)) : PE X (.BinOp a .Mod b pos) (tE c (mBin dMod m1 m2)) := de_bin op_mod (by
  intro σ H G s x y v u Qr Q R hx hy h F
  unfold dMod at h
  split at h
  · exact ⟨_, _, hx.int, hy.int, h.1, F.val R h.2 (.int _)⟩
  · exact h.elim) ha hb
theorem de_pow (ha : PE X a (tE c m1)) (hb : PE X b (tE c m2)) : PE X (.BinOp a .Pow b pos) (tE c (mBin dPow m1 m2)) := de_bin op_pow (by
  intro σ H G s x y v u Qr Q R hx hy h F
  unfold dPow at h
  split at h
  · exact ⟨_, _, hx.int, hy.int, h.1, F.val R h.2 (.int _)⟩
  · exact h.elim) ha hb
/-! ### one place -/
def UnD (c : Ct) (f : D → (R → Prop) → Prop) (r : V → Hp → VK → Prop) : Prop := ∀ {σ : St} {H G : Hp} {s : S} {x : D} {v : V} {Qr : R → Prop} {Q : VK}, Rel c σ H G s → Peek c H G v x → f x Qr → Fin c σ H G s Qr Q → r v H Q
theorem mUn_run {f : D → (R → Prop) → Prop} {r : V → Hp → VK → Prop} (ho : UnD c f r) : ∀ σ H Q, tE c (mUn f m) σ H Q → tUn r (tE c m) σ H Q := by
  rintro σ H Q ⟨G, s, Q0, R, hm, hQ⟩
  refine ⟨G, s, _, R, hm, fun r1 s1 v1 H1 G1 q1 R1 S1 K1 O1 => ?_⟩
  exact ho R1 (O1.peek R1) q1 fun r v H' G' q R' S' K' O' => hQ r s1 v H' G' q R' (S1.trans S') (K1.trans K') O'
theorem de_neg (ha : PE X a (tE c m)) : PE X (.UnaryOp .USub a pos) (tE c (mUn dNeg m)) := pe_imp (pe_un un_neg ha) (mUn_run (by
  intro σ H G s x v Qr Q R hx h F
  unfold dNeg at h
  split at h
  · exact ⟨_, hx.int, F.val R h (.int _)⟩
  · exact h.elim))
/-! ### comparisons -/
theorem de_cmpR {op : CmpOp} {f : D → D → (R → Prop) → Prop} {r : R2} (hr : OpR X (compareOp op) r) (ho : OpD c f r) (ha : PE X a (tE c m1)) (hb : PE X b (tE c m2)) (hm : behindInMarks op b = false) : PE X (.Compare a [op] [b] pos) (tE c (mBin f m1 m2)) :=
  pe_imp (pe_cmpR hr ha hb hm) (mBin_run ho (ta := tE c m1) (tb := tE c m2))
theorem od_cmp {p : Int → Int → Bool} : OpD c (dCmp p) (rI0 fun i j => .bl (p i j)) := by
  intro σ H G s x y v u Qr Q R hx hy h F
  unfold dCmp at h
  split at h
  · exact ⟨_, _, hx.int, hy.int, F.val R h (.bl _)⟩
  · exact h.elim
theorem od_lt : OpD c dLt (fun x y H Q => (∃ i j, x = .int i ∧ y = .int j ∧ Q (.bl (decide (i < j))) H) ∨ (∃ i j, x = .str i ∧ y = .str j ∧ Q (.bl (decide (i.cps.toList < j.cps.toList))) H)) := by
  intro σ H G s x y v u Qr Q R hx hy h F
  unfold dLt at h
  split at h
  · exact .inl ⟨_, _, hx.int, hy.int, F.val R h (.bl _)⟩
  · exact .inr ⟨_, _, hx.str, hy.str, F.val R h (.bl _)⟩
  · exact h.elim
theorem de_lt (ha : PE X a (tE c m1)) (hb : PE X b (tE c m2)) : PE X (.Compare a [.Lt] [b] pos) (tE c (mBin dLt m1 m2)) := de_cmpR (opR_or op_lt op_lt_str) od_lt ha hb (nomark _)
theorem de_le (ha : PE X a (tE c m1)) (hb : PE X b (tE c m2)) : PE X (.Compare a [.LtE] [b] pos) (tE c (mBin dLe m1 m2)) := de_cmpR op_le od_cmp ha hb (nomark _)
theorem de_gt (ha : PE X a (tE c m1)) (hb : PE X b (tE c m2)) : PE X (.Compare a [.Gt] [b] pos) (tE c (mBin dGt m1 m2)) := de_cmpR op_gt od_cmp ha hb (nomark _)
theorem de_ge (ha : PE X a (tE c m1)) (hb : PE X b (tE c m2)) : PE X (.Compare a [.GtE] [b] pos) (tE c (mBin dGe m1 m2)) := de_cmpR op_ge od_cmp ha hb (nomark _)
end
end DL

/-! DLS3: equality, in, tests, displays, subscripts, calls. -/
namespace DL
open PySem PySem.Spec PyProof.Rows L2
mutual
def toP : D → PyData
  | .none => .none
  | .bool b => .bool b
  | .int i => .int i
  | .str s => .str (sT s)
  | .list ds => .list (toPs ds)
  | .tup ds => .tuple (toPs ds)
def toPs : List D → List PyData
  | [] => []
  | d :: ds => toP d :: toPs ds
end
theorem toPs_map : ∀ ds : List D, toPs ds = ds.map toP
  | [] => rfl
  | d :: ds => by rw [toPs, toPs_map ds]; rfl
theorem sT_beq (x y : List Nat) : (sT x == sT y) = (x == y) := by
  rw [Bool.eq_iff_iff]
  simp
mutual
theorem eqv_toP : ∀ d e : D, PyData.eqv (toP d) (toP e) = eqD d e
  | .none, e => by cases e <;> simp [toP, PyData.eqv, eqD]
  | .bool a, e => by cases e <;> simp [toP, PyData.eqv, eqD]
  | .int a, e => by cases e <;> simp [toP, PyData.eqv, eqD]
  | .str a, e => by
    cases e with
    | str b => simp only [toP, PyData.eqv, eqD]; exact sT_beq a b
    | _ => simp [toP, PyData.eqv, eqD]
  | .list xs, e => by
    cases e with
    | list ys => simp only [toP, PyData.eqv, eqD]; exact eqvs_toP xs ys
    | _ => simp [toP, PyData.eqv, eqD]
  | .tup xs, e => by
    cases e with
    | tup ys => simp only [toP, PyData.eqv, eqD]; exact eqvs_toP xs ys
    | _ => simp [toP, PyData.eqv, eqD]
theorem eqvs_toP : ∀ d e : List D, PyData.eqvAll (toPs d) (toPs e) = eqDs d e
  | [], [] => by simp [toPs, PyData.eqvAll, eqDs]
  | [], _ :: _ => by simp [toPs, PyData.eqvAll, eqDs]
  | _ :: _, [] => by simp [toPs, PyData.eqvAll, eqDs]
  | x :: xs, y :: ys => by
    simp only [toPs, PyData.eqvAll, eqDs]
    rw [eqv_toP x y, eqvs_toP xs ys]
end
theorem strOk_sT {s : List Nat} (h : (s.all fun c => decide (c < 1114112)) = true) : PyData.strOk (sT s) = true := by
  unfold PyData.strOk
  rw [← Array.all_toList]
  exact h
mutual
theorem okD_lay : ∀ (n : Nat) (d : D), okD n d = true → (toP d).canLay0 = true ∧ (toP d).depth ≤ n
  | n, .none, _ => by simp [toP, PyData.canLay0, PyData.depth]
  | n, .bool _, _ => by simp [toP, PyData.canLay0, PyData.depth]
  | n, .int _, _ => by simp [toP, PyData.canLay0, PyData.depth]
  | n, .str s, h => by
    have h' : (s.all fun c => decide (c < 1114112)) = true := by cases n <;> exact h
    refine ⟨?_, by simp [toP, PyData.depth]⟩
    simp only [toP, PyData.canLay0]
    exact strOk_sT h'
  | 0, .list _, h => by cases h
  | 0, .tup _, h => by cases h
  | n + 1, .list ds, h => by
    have q := okDs_lay n ds h
    simp only [toP, PyData.canLay0, PyData.depth]
    exact ⟨q.1, by omega⟩
  | n + 1, .tup ds, h => by
    have q := okDs_lay n ds h
    simp only [toP, PyData.canLay0, PyData.depth]
    exact ⟨q.1, by omega⟩
theorem okDs_lay : ∀ (n : Nat) (ds : List D), ds.all (okD n) = true → PyData.canLayAll0 (toPs ds) = true ∧ PyData.depthAll (toPs ds) ≤ n
  | n, [], _ => by simp [toPs, PyData.canLayAll0, PyData.depthAll]
  | n, d :: ds, h => by
    rw [List.all_cons, Bool.and_eq_true] at h
    have q1 := okD_lay n d h.1
    have q2 := okDs_lay n ds h.2
    simp only [toPs, PyData.canLayAll0, PyData.depthAll]
    exact ⟨by rw [q1.1, q2.1]; rfl, by omega⟩
end
theorem shaped_of {n : Nat} {d : D} (h : okD n d = true) (hn : n ≤ 64) : SeqAt.shaped (toP d) = true := by
  have q := okD_lay n d h
  unfold SeqAt.shaped
  rw [q.1, decide_eq_true (show (toP d).depth ≤ 64 by omega)]
  rfl
mutual
theorem Dg.dp {K : PySem.W.Frag} {G : Hp} : ∀ {v : V} {d : D}, Dg K G v d → Dp K G v (toP d)
  | _, _, .non => by simp only [toP]; exact .non
  | _, _, .bl b => by simp only [toP]; exact .bl b
  | _, _, .int b => by simp only [toP]; exact .int b
  | _, _, .str b => by simp only [toP]; exact .str _
  | _, _, .lst h r => by simp only [toP]; exact .lst (SqL.of h) (Dgs.dp r)
  | _, _, .tup h r => by simp only [toP]; exact .tup h (Dgs.dp r)
theorem Dgs.dp {K : PySem.W.Frag} {G : Hp} : ∀ {v : List V} {d : List D}, Dgs K G v d → DpAll K G v (toPs d)
  | _, _, .nil => by simp only [toPs]; exact .nil
  | _, _, .cons h r => by simp only [toPs]; exact .cons (Dg.dp h) (Dgs.dp r)
end
section
variable {X : Cx} {c : Ct} {a b e : Expr} {m m1 m2 m3 : M} {t t1 t2 : T} {pos : Pos} {σ : St} {H G : Hp} {s : S}
theorem Peek.dp (R : Rel c σ H G s) {v : V} {d : D} (h : Peek c H G v d) : Dp c.K H v (toP d) := by
  have go : ∀ {d : D}, Dg c.K G v d → Dp c.K H v (toP d) := fun h => (h.mono R.gH).dp
  cases d with
  | list ds =>
    obtain ⟨a, vs, e, h1, h2, _⟩ := h
    subst e
    exact (Dg.lst (ds := ds) h1 (h2.mono R.gH)).dp
  | _ => exact go h
theorem de_eq [o : Ok X c] (ha : PE X a (tE c m1)) (hb : PE X b (tE c m2)) : PE X (.Compare a [.Eq] [b] pos) (tE c (mBin dEq m1 m2)) := de_cmpR (op_eqD (X := X) (by have := o.hu; omega)) (by
  intro σ H G s x y v u Qr Q R hx hy h F
  obtain ⟨h1, h2, h3⟩ := h
  refine ⟨toP x, toP y, o.K ▸ hx.dp R, o.K ▸ hy.dp R, shaped_of h1 (by decide), shaped_of h2 (by decide), ?_⟩
  rw [eqv_toP]
  exact F.val R h3 (.bl _)) ha hb (nomark _)
theorem de_ne [o : Ok X c] (ha : PE X a (tE c m1)) (hb : PE X b (tE c m2)) : PE X (.Compare a [.NotEq] [b] pos) (tE c (mBin dNe m1 m2)) := de_cmpR (op_neD (X := X) (by have := o.hu; omega)) (by
  intro σ H G s x y v u Qr Q R hx hy h F
  obtain ⟨h1, h2, h3⟩ := h
  refine ⟨toP x, toP y, o.K ▸ hx.dp R, o.K ▸ hy.dp R, shaped_of h1 (by decide), shaped_of h2 (by decide), ?_⟩
  rw [eqv_toP]
  exact F.val R h3 (.bl _)) ha hb (nomark _)
theorem any_toP (x : D) : ∀ ds : List D, (toPs ds).any (fun z => PyData.eqv z (toP x)) = ds.any fun d => eqD d x
  | [] => rfl
  | d :: ds => by
    simp only [toPs, List.any_cons]
    rw [eqv_toP, any_toP x ds]
/-- x in (..), flat values -/
theorem flat_V {K : PySem.W.Frag} {v : V} {d : D} (h : Dg K G v d) (f : flatD d = true) : flatV v = true := by
  cases h with
  | lst _ _ => cases f
  | tup _ _ => cases f
  | _ => rfl
theorem flat_eq {K : PySem.W.Frag} {v u : V} {d e : D} (h : Dg K G v d) (h' : Dg K G u e) (f : flatD d = true) (f' : flatD e = true) : eqV v u = eqD d e := by
  cases h with
  | lst _ _ => cases f
  | tup _ _ => cases f
  | str x =>
    cases h' with
    | str y => simp only [eqV, eqD]; exact sT_beq _ _
    | lst _ _ => cases f'
    | tup _ _ => cases f'
    | _ => simp [eqV, eqD]
  | _ =>
    cases h' with
    | lst _ _ => cases f'
    | tup _ _ => cases f'
    | _ => simp [eqV, eqD]
theorem flat_Vs {K : PySem.W.Frag} : ∀ {v : List V} {d : List D}, Dgs K G v d → d.all flatD = true → v.all flatV = true
  | _, _, .nil, _ => rfl
  | _, _, .cons h r, f => by
    rw [List.all_cons, Bool.and_eq_true] at f
    rw [List.all_cons, flat_V h f.1, flat_Vs r f.2]
    rfl
theorem flat_in {K : PySem.W.Frag} {u : V} {x : D} (hu : Dg K G u x) (fx : flatD x = true) : ∀ {v : List V} {d : List D}, Dgs K G v d → d.all flatD = true → inV u v = d.any fun d => eqD d x
  | _, _, .nil, _ => rfl
  | _, _, .cons h r, f => by
    rw [List.all_cons, Bool.and_eq_true] at f
    unfold inV
    rw [List.any_cons, List.any_cons, flat_eq h hu f.1 fx]
    have ih := flat_in hu fx r f.2
    unfold inV at ih
    rw [ih]
theorem any_mem (c : Nat) (s : List Nat) : (s.any fun d => d == c) = decide (c ∈ s) := by
  rw [Bool.eq_iff_iff]
  simp
theorem Peek.dg {v : V} {d : D} (h : Peek c H G v d) (f : flatD d = true) : Dg c.K G v d := by
  cases d with
  | list _ => cases f
  | _ => exact h
theorem od_in [o : Ok X c] : OpD c (dIn false) (fun x y H Q => rInD X.K x y H Q ∨ rIn X.K false x y H Q ∨ ∃ (c : Nat) (z : Str), x = .str ⟨#[c]⟩ ∧ y = .str z ∧ Q (.bl (decide (c ∈ z.cps.toList))) H) := by
  intro σ H G s x y v u Qr Q R hx hy h F
  unfold dIn at h
  split at h
  · obtain ⟨h1, h2, h3⟩ := h
    rename_i ds
    refine .inl ⟨toP x, toPs ds, o.K ▸ hx.dp R, ?_, shaped_of h1 (by decide), shaped_of (n := 9) (d := .list ds) h2 (by decide), ?_⟩
    · have q := hy.dp R
      simp only [toP] at q
      exact o.K ▸ q
    · rw [any_toP]
      simpa using F.val R h3 (.bl _)
  · obtain ⟨h1, h2, h3⟩ := h
    obtain ⟨a, xs, e, q1, q2⟩ := hy.tup
    refine .inr (.inl ⟨a, xs, e, .inr (o.K ▸ same_seqT R.gH q1), flat_V (hx.dg h1) h1, flat_Vs q2 h2, ?_⟩)
    rw [if_neg Bool.false_ne_true, flat_in (hx.dg h1) h1 q2 h2]
    simpa using F.val R h3 (.bl _)
  · split at h
    · rename_i ch
      rename_i z _
      refine .inr (.inr ⟨ch, sT z, hx.str, hy.str, ?_⟩)
      rw [any_mem] at h
      simpa using F.val R h (.bl _)
    · exact h.elim
  · exact h.elim
theorem de_in [o : Ok X c] (ha : PE X a (tE c m1)) (hb : PE X b (tE c m2)) (hm : behindInMarks .In b = false := by with_unfolding_all rfl) : PE X (.Compare a [.In] [b] pos) (tE c (mBin (dIn false) m1 m2)) :=
  de_cmpR (opR_or (op_inD (X := X) (by have := o.hu; omega)) (opR_or op_in_seq op_in_sign)) od_in ha hb hm
theorem od_notIn [o : Ok X c] : OpD c (dIn true) (fun x y H Q => rNotInD X.K x y H Q ∨ rIn X.K true x y H Q ∨ ∃ (c : Nat) (z : Str), x = .str ⟨#[c]⟩ ∧ y = .str z ∧ Q (.bl (!decide (c ∈ z.cps.toList))) H) := by
  intro σ H G s x y v u Qr Q R hx hy h F
  unfold dIn at h
  split at h
  · obtain ⟨h1, h2, h3⟩ := h
    rename_i ds
    refine .inl ⟨toP x, toPs ds, o.K ▸ hx.dp R, ?_, shaped_of h1 (by decide), shaped_of (n := 9) (d := .list ds) h2 (by decide), ?_⟩
    · have q := hy.dp R
      simp only [toP] at q
      exact o.K ▸ q
    · rw [any_toP]
      simpa using F.val R h3 (.bl _)
  · obtain ⟨h1, h2, h3⟩ := h
    obtain ⟨a, xs, e, q1, q2⟩ := hy.tup
    refine .inr (.inl ⟨a, xs, e, .inr (o.K ▸ same_seqT R.gH q1), flat_V (hx.dg h1) h1, flat_Vs q2 h2, ?_⟩)
    rw [if_pos rfl, flat_in (hx.dg h1) h1 q2 h2]
    simpa using F.val R h3 (.bl _)
  · split at h
    · rename_i ch
      rename_i z _
      refine .inr (.inr ⟨ch, sT z, hx.str, hy.str, ?_⟩)
      rw [any_mem] at h
      simpa using F.val R h (.bl _)
    · exact h.elim
  · exact h.elim
theorem de_notIn [o : Ok X c] (ha : PE X a (tE c m1)) (hb : PE X b (tE c m2)) (hm : behindInMarks .NotIn b = false := by with_unfolding_all rfl) : PE X (.Compare a [.NotIn] [b] pos) (tE c (mBin (dIn true) m1 m2)) :=
  de_cmpR (opR_or (op_notInD (X := X) (by have := o.hu; omega)) (opR_or op_notIn_seq op_notIn_sign)) od_notIn ha hb hm
theorem Peek.nonIff {v : V} {d : D} (h : Peek c H G v d) : decide (v = V.non) = isN d := by
  cases d with
  | none => simp [h.non, isN]
  | bool b => simp [h.bool, isN]
  | int b => simp [h.int, isN]
  | str b => simp [h.str, isN]
  | list ds => obtain ⟨a, vs, e, _⟩ := h; simp [e, isN]
  | tup ds => obtain ⟨a, vs, e, _⟩ := h.tup; simp [e, isN]
theorem de_isN {j pos'} (ha : PE X a (tE c m)) : PE X (.Compare a [.Is] [.Constant .none j pos'] pos) (tE c (mUn dIsN m)) := by
  refine pe_imp (pe_cmp (pc_isN ha) (nobehind _ (by decide) (by decide))) ?_
  refine mUn_run (r := fun x H Q => Q (.bl (decide (x = .non))) H) ?_
  intro σ H G s x v Qr Q R hx h F
  rw [hx.nonIff]
  exact F.val R h (.bl _)
theorem de_isNotN {j pos'} (ha : PE X a (tE c m)) : PE X (.Compare a [.IsNot] [.Constant .none j pos'] pos) (tE c (mUn dIsNotN m)) := by
  refine pe_imp (pe_cmp (pc_notN ha) (nobehind _ (by decide) (by decide))) ?_
  refine mUn_run (r := fun x H Q => Q (.bl (!decide (x = .non))) H) ?_
  intro σ H G s x v Qr Q R hx h F
  rw [hx.nonIff]
  exact F.val R h (.bl _)
/-! ### tests -/
theorem Peek.truV (R : Rel c σ H G s) {v : V} {d : D} (h : Peek c H G v d) (hz : okT d) : TruV c.K v H (truth d) := by
  cases d with
  | none => rw [h.non]; rfl
  | bool b => rw [h.bool]; rfl
  | int b => rw [h.int]; rfl
  | str s =>
    rw [h.str]
    refine ⟨by rw [len_sT, ← lineEq]; exact hz, ?_⟩
    rw [len_sT]
    cases s with
    | nil => rfl
    | cons x r =>
      show true = (((r.length + 1 : Nat) : Int) != 0)
      symm
      rw [bne_iff_ne]
      omega
  | list ds =>
    obtain ⟨a, vs, e, h1, h2, _⟩ := h
    subst e
    refine .inl ⟨vs, SqL.of h1, ?_⟩
    cases h2 <;> rfl
  | tup ds =>
    obtain ⟨a, vs, e, h1, h2⟩ := h.tup
    subst e
    refine .inr (.inl ⟨vs, same_seqT R.gH h1, ?_⟩)
    cases h2 <;> rfl
end
end DL

/-! DLS4: tests, displays, subscripts, slices. -/
namespace DL
open PySem PySem.Spec PyProof.Rows L2
section
variable {X : Cx} {c : Ct} {a b e : Expr} {es : List Expr} {m m1 m2 m3 : M} {ms : Ms} {t t1 t2 : T} {pos : Pos} {σ : St} {H G : Hp} {s : S}
/-! ### tests -/
theorem pt_impX {X : Cx} {e : Expr} {t t' : TT} (h : PT X e t) (i : ∀ σ H Q, t' σ H Q → t σ H Q) : PT X e t' := pt_imp h i
theorem dt_val [o : Ok X c] (ha : PE X a (tE c m)) (he : ∀ whole, isTrue a X.env whole = (do let v ← whole; standAt a.pos; holding [v] (truthy v)) := by intro _; rfl) : PT X a (tT c (tV m)) := by
  refine pt_imp (pt_truth ha he) ?_
  rintro σ H Q ⟨G, s, Q0, R, hm, hQ⟩
  refine ⟨G, s, _, R, hm, fun r s' v H' G' q R' S' K' O' => ⟨truth r.d, o.K ▸ (O'.peek R').truV R' q.1, hQ _ s' H' G' q.2 R' S' K'⟩⟩
theorem tB_test : ∀ σ H Q, tT c (tB m) σ H Q → tTest (tE c m) σ H Q := by
  rintro σ H Q ⟨G, s, Q0, R, hm, hQ⟩
  refine ⟨G, s, _, R, hm, fun r s' v H' G' q R' S' K' O' => ?_⟩
  have p := O'.peek R'
  split at q
  · rename_i b e
    rw [e] at p
    exact ⟨b, p.bool, hQ _ s' H' G' q R' S' K'⟩
  · exact q.elim
theorem dt_cmpR {op : CmpOp} {f : D → D → (R → Prop) → Prop} {r : R2} (hr : OpR X (compareOp op) r) (ho : OpD c f r) (ha : PE X a (tE c m1)) (hb : PE X b (tE c m2)) (hm : behindInMarks op b = false) : PT X (.Compare a [op] [b] pos) (tT c (tB (mBin f m1 m2))) :=
  pt_imp (pt_cmpR hr ha hb hm) fun σ H Q h => mBin_run ho (ta := tE c m1) (tb := tE c m2) _ _ _ (tB_test _ _ _ h)
theorem dt_lt (ha : PE X a (tE c m1)) (hb : PE X b (tE c m2)) : PT X (.Compare a [.Lt] [b] pos) (tT c (tB (mBin dLt m1 m2))) := dt_cmpR (opR_or op_lt op_lt_str) od_lt ha hb (nomark _)
theorem dt_le (ha : PE X a (tE c m1)) (hb : PE X b (tE c m2)) : PT X (.Compare a [.LtE] [b] pos) (tT c (tB (mBin dLe m1 m2))) := dt_cmpR op_le od_cmp ha hb (nomark _)
theorem dt_gt (ha : PE X a (tE c m1)) (hb : PE X b (tE c m2)) : PT X (.Compare a [.Gt] [b] pos) (tT c (tB (mBin dGt m1 m2))) := dt_cmpR op_gt od_cmp ha hb (nomark _)
theorem dt_ge (ha : PE X a (tE c m1)) (hb : PE X b (tE c m2)) : PT X (.Compare a [.GtE] [b] pos) (tT c (tB (mBin dGe m1 m2))) := dt_cmpR op_ge od_cmp ha hb (nomark _)
theorem od_eq [o : Ok X c] : OpD c dEq (rEqD X.K) := by
  intro σ H G s x y v u Qr Q R hx hy h F
  obtain ⟨h1, h2, h3⟩ := h
  refine ⟨toP x, toP y, o.K ▸ hx.dp R, o.K ▸ hy.dp R, shaped_of h1 (by decide), shaped_of h2 (by decide), ?_⟩
  rw [eqv_toP]
  exact F.val R h3 (.bl _)
theorem od_ne [o : Ok X c] : OpD c dNe (rNeD X.K) := by
  intro σ H G s x y v u Qr Q R hx hy h F
  obtain ⟨h1, h2, h3⟩ := h
  refine ⟨toP x, toP y, o.K ▸ hx.dp R, o.K ▸ hy.dp R, shaped_of h1 (by decide), shaped_of h2 (by decide), ?_⟩
  rw [eqv_toP]
  exact F.val R h3 (.bl _)
theorem dt_eq [o : Ok X c] (ha : PE X a (tE c m1)) (hb : PE X b (tE c m2)) : PT X (.Compare a [.Eq] [b] pos) (tT c (tB (mBin dEq m1 m2))) := dt_cmpR (op_eqD (X := X) (by have := o.hu; omega)) od_eq ha hb (nomark _)
theorem dt_ne [o : Ok X c] (ha : PE X a (tE c m1)) (hb : PE X b (tE c m2)) : PT X (.Compare a [.NotEq] [b] pos) (tT c (tB (mBin dNe m1 m2))) := dt_cmpR (op_neD (X := X) (by have := o.hu; omega)) od_ne ha hb (nomark _)
theorem dt_in [o : Ok X c] (ha : PE X a (tE c m1)) (hb : PE X b (tE c m2)) (hm : behindInMarks .In b = false := by with_unfolding_all rfl) : PT X (.Compare a [.In] [b] pos) (tT c (tB (mBin (dIn false) m1 m2))) :=
  dt_cmpR (opR_or (op_inD (X := X) (by have := o.hu; omega)) (opR_or op_in_seq op_in_sign)) od_in ha hb hm
theorem dt_notIn [o : Ok X c] (ha : PE X a (tE c m1)) (hb : PE X b (tE c m2)) (hm : behindInMarks .NotIn b = false := by with_unfolding_all rfl) : PT X (.Compare a [.NotIn] [b] pos) (tT c (tB (mBin (dIn true) m1 m2))) :=
  dt_cmpR (opR_or (op_notInD (X := X) (by have := o.hu; omega)) (opR_or op_notIn_seq op_notIn_sign)) od_notIn ha hb hm
theorem dt_isN {j pos'} (ha : PE X a (tE c m)) : PT X (.Compare a [.Is] [.Constant .none j pos'] pos) (tT c (tB (mUn dIsN m))) := by
  refine pt_imp (pt_cmp (pc_isN ha) (nobehind _ (by decide) (by decide))) fun σ H Q h => ?_
  refine mUn_run (r := fun x H Q => Q (.bl (decide (x = .non))) H) ?_ _ _ _ (tB_test _ _ _ h)
  intro σ H G s x v Qr Q R hx h F
  rw [hx.nonIff]
  exact F.val R h (.bl _)
theorem dt_isNotN {j pos'} (ha : PE X a (tE c m)) : PT X (.Compare a [.IsNot] [.Constant .none j pos'] pos) (tT c (tB (mUn dIsNotN m))) := by
  refine pt_imp (pt_cmp (pc_notN ha) (nobehind _ (by decide) (by decide))) fun σ H Q h => ?_
  refine mUn_run (r := fun x H Q => Q (.bl (!decide (x = .non))) H) ?_ _ _ _ (tB_test _ _ _ h)
  intro σ H G s x v Qr Q R hx h F
  rw [hx.nonIff]
  exact F.val R h (.bl _)
variable {rest : List Expr}
theorem dw_and1 (ha : PT X a (tT c t)) : PW X (.BoolOp .And [a] pos) (tT c t) := pw_and1 ha
theorem dw_or1 (ha : PT X a (tT c t)) : PW X (.BoolOp .Or [a] pos) (tT c t) := pw_or1 ha
theorem dw_and (ha : PT X a (tT c t1)) (hb : PW X (.BoolOp .And (b :: rest) pos) (tT c t2)) : PW X (.BoolOp .And (a :: b :: rest) pos) (tT c (tAnd t1 t2)) := by
  refine pw_imp (pw_and ha hb) ?_
  rintro σ H Q ⟨G, s, Q0, R, hm, hQ⟩
  refine ⟨G, s, _, R, hm, fun k s1 H1 G1 q R1 S1 K1 => ?_⟩
  cases k with
  | true =>
    rw [if_pos rfl] at q ⊢
    exact ⟨G1, s1, Q0, R1, q, fun b s' H' G' q R' S' K' => hQ b s' H' G' q R' (S1.trans S') (K1.trans K')⟩
  | false =>
    rw [if_neg Bool.false_ne_true] at q ⊢
    exact hQ _ _ _ _ q R1 S1 K1
theorem dw_or (ha : PT X a (tT c t1)) (hb : PW X (.BoolOp .Or (b :: rest) pos) (tT c t2)) : PW X (.BoolOp .Or (a :: b :: rest) pos) (tT c (tOr t1 t2)) := by
  refine pw_imp (pw_or ha hb) ?_
  rintro σ H Q ⟨G, s, Q0, R, hm, hQ⟩
  refine ⟨G, s, _, R, hm, fun k s1 H1 G1 q R1 S1 K1 => ?_⟩
  cases k with
  | true =>
    rw [if_pos rfl] at q ⊢
    exact hQ _ _ _ _ q R1 S1 K1
  | false =>
    rw [if_neg Bool.false_ne_true] at q ⊢
    exact ⟨G1, s1, Q0, R1, q, fun b s' H' G' q R' S' K' => hQ b s' H' G' q R' (S1.trans S') (K1.trans K')⟩
theorem dt_not (ha : PT X a (tT c t)) : PT X (.UnaryOp .Not a pos) (tT c (tNot t)) := by
  refine pt_imp (pt_not ha) ?_
  rintro σ H Q ⟨G, s, Q0, R, hm, hQ⟩
  exact ⟨G, s, _, R, hm, fun k s1 H1 G1 q R1 S1 K1 => hQ _ _ _ _ q R1 S1 K1⟩
/-! ### and, or, not, if as values -/
theorem de_and (ha : PE X a (tE c m1)) (hb : PE X (.BoolOp .And (b :: rest) pos) (tE c m2)) : PE X (.BoolOp .And (a :: b :: rest) pos) (tE c (mAnd m1 m2)) := by
  refine pe_imp (pe_and ha hb) ?_
  rintro σ H Q ⟨G, s, Q0, R, hm, hQ⟩
  refine ⟨G, s, _, R, hm, fun r s1 v H1 G1 q R1 S1 K1 O1 => ?_⟩
  have p := O1.peek R1
  split at q
  · rename_i k e
    rw [e] at p
    refine ⟨k, p.bool, ?_⟩
    cases k with
    | true =>
      rw [if_pos rfl] at q ⊢
      exact ⟨G1, s1, Q0, R1, q, fun r s' v H' G' q R' S' K' O' => hQ r s' v H' G' q R' (S1.trans S') (K1.trans K') O'⟩
    | false =>
      rw [if_neg Bool.false_ne_true] at q ⊢
      exact hQ _ _ _ _ _ q R1 S1 K1 (.bl _)
  · exact q.elim
theorem de_or (ha : PE X a (tE c m1)) (hb : PE X (.BoolOp .Or (b :: rest) pos) (tE c m2)) : PE X (.BoolOp .Or (a :: b :: rest) pos) (tE c (mOr m1 m2)) := by
  refine pe_imp (pe_or ha hb) ?_
  rintro σ H Q ⟨G, s, Q0, R, hm, hQ⟩
  refine ⟨G, s, _, R, hm, fun r s1 v H1 G1 q R1 S1 K1 O1 => ?_⟩
  have p := O1.peek R1
  split at q
  · rename_i k e
    rw [e] at p
    refine ⟨k, p.bool, ?_⟩
    cases k with
    | true =>
      rw [if_pos rfl] at q ⊢
      exact hQ _ _ _ _ _ q R1 S1 K1 (.bl _)
    | false =>
      rw [if_neg Bool.false_ne_true] at q ⊢
      exact ⟨G1, s1, Q0, R1, q, fun r s' v H' G' q R' S' K' O' => hQ r s' v H' G' q R' (S1.trans S') (K1.trans K') O'⟩
  · exact q.elim
theorem de_one {op} (ha : PE X a (tE c m)) : PE X (.BoolOp op [a] pos) (tE c m) := pe_one ha
theorem de_not (ha : PE X a (tE c m)) : PE X (.UnaryOp .Not a pos) (tE c (mNot m)) := by
  refine pe_imp (pe_not ha) ?_
  rintro σ H Q ⟨G, s, Q0, R, hm, hQ⟩
  refine ⟨G, s, _, R, hm, fun r s1 v H1 G1 q R1 S1 K1 O1 => ?_⟩
  have p := O1.peek R1
  split at q
  · rename_i k e
    rw [e] at p
    exact ⟨k, p.bool, hQ _ _ _ _ _ q R1 S1 K1 (.bl _)⟩
  · exact q.elim
theorem de_if {d : Expr} (hc : PT X d (tT c t)) (ha : PE X a (tE c m1)) (hb : PE X b (tE c m2)) : PE X (.IfExp d a b pos) (tE c (mIf t m1 m2)) := by
  refine pe_imp (pe_ifExp hc ha hb) ?_
  rintro σ H Q ⟨G, s, Q0, R, hm, hQ⟩
  refine ⟨G, s, _, R, hm, fun k s1 H1 G1 q R1 S1 K1 => ?_⟩
  cases k with
  | true =>
    rw [if_pos rfl] at q ⊢
    exact ⟨G1, s1, Q0, R1, q, fun r s' v H' G' q R' S' K' O' => hQ r s' v H' G' q R' (S1.trans S') (K1.trans K') O'⟩
  | false =>
    rw [if_neg Bool.false_ne_true] at q ⊢
    exact ⟨G1, s1, Q0, R1, q, fun r s' v H' G' q R' S' K' O' => hQ r s' v H' G' q R' (S1.trans S') (K1.trans K') O'⟩
/-- a < b < c, by the operators' rules -/
theorem mChain_run {f g : D → D → (R → Prop) → Prop} {r r' : R2} (ho : OpD c f r) (ho' : OpD c g r') : ∀ σ H Q, tE c (mChain f g m1 m2 m3) σ H Q → tChain r r' (tE c m1) (tE c m2) (tE c m3) σ H Q := by
  rintro σ H Q ⟨G, s, Q0, R, hm, hQ⟩
  refine ⟨G, s, _, R, hm, fun r1 s1 v1 H1 G1 q1 R1 S1 K1 O1 => ⟨G1, s1, _, R1, q1, fun r2 s2 v2 H2 G2 q2 R2 S2 K2 O2 => ?_⟩⟩
  refine ho R2 ((O1.peek R1).keep S2 K2) (O2.peek R2) q2 fun r v H3 G3 q R3 S3 K3 O3 => ?_
  have p := O3.peek R3
  split at q
  · rename_i k e
    rw [e] at p
    refine ⟨k, p.bool, ?_⟩
    cases k with
    | true =>
      rw [if_pos rfl] at q ⊢
      refine ⟨G3, s2, _, R3, q, fun r4 s4 v4 H4 G4 q4 R4 S4 K4 O4 => ?_⟩
      refine ho' R4 (((O2.peek R2).keep S3 K3).keep S4 K4) (O4.peek R4) q4 fun r v H' G' q R' S' K' O' => hQ r s4 v H' G' q R' ((((S1.trans S2).trans S3).trans S4).trans S') ((((K1.trans K2).trans K3).trans K4).trans K') O'
    | false =>
      rw [if_neg Bool.false_ne_true] at q ⊢
      exact hQ _ _ _ _ _ q R3 ((S1.trans S2).trans S3) ((K1.trans K2).trans K3) (.bl _)
  · exact q.elim
theorem de_chainI {op op' : CmpOp} {p p' : Int → Int → Bool} {d : Expr} (h1 : OpR X (compareOp op) (rI0 fun i j => .bl (p i j))) (h2 : OpR X (compareOp op') (rI0 fun i j => .bl (p' i j))) (ha : PE X a (tE c m1)) (hb : PE X b (tE c m2)) (hd : PE X d (tE c m3))
    (hm : lastMarks [op, op'] [b, d] = false := by with_unfolding_all rfl) : PE X (.Compare a [op, op'] [b, d] pos) (tE c (mChain (dCmp p) (dCmp p') m1 m2 m3)) := pe_imp (pe_chain h1 h2 ha hb hd hm) (mChain_run od_cmp od_cmp)
theorem dt_chainI {op op' : CmpOp} {p p' : Int → Int → Bool} {d : Expr} (h1 : OpR X (compareOp op) (rI0 fun i j => .bl (p i j))) (h2 : OpR X (compareOp op') (rI0 fun i j => .bl (p' i j))) (ha : PE X a (tE c m1)) (hb : PE X b (tE c m2)) (hd : PE X d (tE c m3))
    (hm : lastMarks [op, op'] [b, d] = false := by with_unfolding_all rfl) : PT X (.Compare a [op, op'] [b, d] pos) (tT c (tB (mChain (dCmp p) (dCmp p') m1 m2 m3))) := pt_imp (pt_chain h1 h2 ha hb hd hm) fun σ H Q h => mChain_run od_cmp od_cmp _ _ _ (tB_test _ _ _ h)
/-! ### argument lists, displays -/
theorem da_nil : PA X [] (tAs c msN) := pa_imp pa_nil fun σ H Q ⟨G, s, Q0, R, hm, hQ⟩ => hQ _ _ _ _ _ hm R (Same.refl _) Keep.refl .nil
theorem da_cons (ha : PE X e (tE c m)) (hr : PA X es (tAs c ms)) (hs : starEach (e :: es) X.env = (false, eval e X.env) :: starEach es X.env := by rfl) : PA X (e :: es) (tAs c (msC m ms)) := by
  refine pa_imp (pa_cons ha hr hs) ?_
  rintro σ H Q ⟨G, s, Q0, R, hm, hQ⟩
  refine ⟨G, s, _, R, hm, fun r s1 v H1 G1 q R1 S1 K1 O1 => ?_⟩
  obtain ⟨d, G2, q, R2, S2, dg⟩ := O1.frz R1 q
  exact ⟨G2, s1, _, R2, q, fun ds s' vs H' G' q R' S' K' dgs => hQ _ _ _ _ _ q R' ((S1.trans S2).trans S') (K1.trans K') (.cons (dg.mono S') dgs)⟩
theorem de_list (h : PA X es (tAs c ms)) : PE X (.List es pos) (tE c (mList ms)) := by
  refine pe_imp (pe_lst h) ?_
  rintro σ H Q ⟨G, s, Q0, R, hm, hQ⟩
  refine ⟨G, s, _, R, hm, fun ds s1 vs H1 G1 q R1 S1 K1 dgs => ⟨by rw [dgs.length, ← lineEq]; exact q.1, fun p n => ?_⟩⟩
  exact hQ _ _ _ _ _ q.2 (R1.newL n) S1 (K1.trans (Keep.upd n)) (R1.own_new n dgs)
theorem de_tup {x1} (h : PA X es (tAs c ms)) : PE X (.Tuple es x1 pos) (tE c (mTup ms)) := by
  refine pe_imp (pe_tup h) ?_
  rintro σ H Q ⟨G, s, Q0, R, hm, hQ⟩
  refine ⟨G, s, _, R, hm, fun ds s1 vs H1 G1 q R1 S1 K1 dgs => ⟨by rw [dgs.length, ← lineEq]; exact q.1, fun p n => ?_⟩⟩
  obtain ⟨R2, sm⟩ := R1.newG (o := .tup vs) n
  exact hQ _ _ _ _ _ q.2 R2 (S1.trans sm) (K1.trans (Keep.upd n)) (.tup (SqT.of upd_same) (dgs.mono sm))
/-! ### subscripts -/
theorem at_dgs {K : PySem.W.Frag} {vs : List V} {ds : List D} {i : Int} {d : D} (h : Dgs K G vs ds) (e : atI ds i = some d) : ∃ v, L2.atI vs i = some v ∧ Dg K G v d := by
  unfold atI at e
  unfold L2.atI
  rw [show L2.ixN vs.length i = ixN ds.length i by rw [h.length]; rfl]
  cases q : ixN ds.length i with
  | none => rw [q] at e; cases e
  | some j =>
    rw [q] at e
    obtain ⟨v, h1, h2⟩ := h.get (i := j) e
    exact ⟨v, h1, h2⟩
theorem od_ix [o : Ok X c] : OpD c dIx (rIx X.K) := by
  intro σ H G s x y v u Qr Q R hx hy h F
  unfold dIx at h
  split at h
  · obtain ⟨d, e, q⟩ := h
    obtain ⟨a, vs, e1, h1, h2, _⟩ := hx
    obtain ⟨w, e2, dg⟩ := at_dgs h2 e
    exact .inl ⟨a, vs, _, w, e1, hy.int, SqL.of h1, e2, F.val R q dg⟩
  · obtain ⟨d, e, q⟩ := h
    obtain ⟨a, vs, e1, h1, h2⟩ := hx.tup
    obtain ⟨w, e2, dg⟩ := at_dgs h2 e
    exact .inr (.inl ⟨a, vs, _, w, e1, hy.int, o.K ▸ same_seqT R.gH h1, e2, F.val R q dg⟩)
  · obtain ⟨h0, ch, e, q⟩ := h
    exact .inr (.inr ⟨_, _, ch, hx.str, hy.int, by rw [len_sT, ← lineEq]; exact h0, e, F.val R q (.str [ch])⟩)
  · exact h.elim
theorem de_ix [o : Ok X c] (ha : PE X a (tE c m1)) (hb : PE X b (tE c m2)) (hs : PlainIx b := by intro _ _; rfl) : PE X (.Subscript a b pos) (tE c (mBin dIx m1 m2)) := pe_imp (pe_ix ix_seq ha hb hs) (mBin_run od_ix (ta := tE c m1) (tb := tE c m2))
/-- slices -/
def tO (c : Ct) (mo : MO) : TO := fun σ H Q => ∃ G s Q0, Rel c σ H G s ∧ mo s Q0 ∧ ∀ o s' H' G', Q0 o s' → Rel c σ H' G' s' → Same G G' → Keep c H H' → Q o H'
theorem po_imp {X : Cx} {e : Option Expr} {t t' : TO} (h : PO X e t) (i : ∀ σ H Q, t' σ H Q → t σ H Q) : PO X e t' := ⟨fun pins s σ H Q I q => h.run pins s σ H Q I (i σ H Q q)⟩
theorem do_none : PO X none (tO c oN) := po_imp po_none fun σ H Q ⟨G, s, Q0, R, hm, hQ⟩ => hQ _ _ _ _ hm R (Same.refl _) Keep.refl
theorem do_some (h : PE X e (tE c m)) : PO X (some e) (tO c (oS m)) := by
  refine po_imp (po_some h) ?_
  rintro σ H Q ⟨G, s, Q0, R, hm, hQ⟩
  refine ⟨G, s, _, R, hm, fun r s1 v H1 G1 q R1 S1 K1 O1 => ?_⟩
  have p := O1.peek R1
  split at q
  · rename_i i e
    rw [e] at p
    exact ⟨i, p.int, hQ _ _ _ _ q R1 S1 K1⟩
  · exact q.elim
variable {lo hi : Option Expr} {ol oh : MO} {p2 : Pos}
theorem Dgs.cut {K : PySem.W.Frag} {vs : List V} {ds : List D} (h : Dgs K G vs ds) (l u : Option Int) : Dgs K G (cutV vs l u) (DL.cut ds l u) := by
  unfold cutV DL.cut
  rw [h.length]
  exact (h.drop _).take _
theorem cutS_sT (z : List Nat) (l u : Option Int) : cutS (sT z) l u = sT (DL.cut z l u) := by
  unfold cutS DL.cut
  rw [len_sT]
  rfl
theorem de_slice [o : Ok X c] (he : PE X e (tE c m)) (hl : PO X lo (tO c ol)) (hu : PO X hi (tO c oh)) : PE X (.Subscript e (.Slice lo hi none p2) pos) (tE c (mSl m ol oh)) := by
  refine pe_imp (pe_slice (sl_list.or sl_str) he hl hu) ?_
  rintro σ H Q ⟨G, s, Q0, R, hm, hQ⟩
  refine ⟨G, s, _, R, hm, fun r s1 v H1 G1 q1 R1 S1 K1 O1 => ⟨G1, s1, _, R1, q1, fun l s2 H2 G2 q2 R2 S2 K2 => ⟨G2, s2, _, R2, q2, fun u s3 H3 G3 q R3 S3 K3 => ?_⟩⟩⟩
  have p := ((O1.peek R1).keep S2 K2).keep S3 K3
  have sm := (S1.trans S2).trans S3
  have kp := (K1.trans K2).trans K3
  split at q
  · rename_i ds e
    rw [e] at p
    obtain ⟨a, vs, e1, h1, h2, _⟩ := p
    refine .inl ⟨a, vs, e1, SqL.of h1, fun x n => ?_⟩
    exact hQ _ _ _ _ _ q (R3.newL n) sm (kp.trans (Keep.upd n)) (R3.own_new n (h2.cut l u))
  · rename_i z e
    rw [e] at p
    refine .inr ⟨_, p.str, by rw [len_sT, ← lineEq]; exact q.1, ?_⟩
    rw [cutS_sT]
    exact hQ _ _ _ _ _ q.2 R3 sm kp (.str _)
  · exact q.elim
end
end DL

/-! DLS5: [::-1], calls, built-in functions. -/
namespace DL
open PySem PySem.Spec PyProof.Rows L2
section
variable {X : Cx} {c : Ct} {a b e : Expr} {es : List Expr} {m m1 m2 m3 : M} {ms : Ms} {t t1 t2 : T} {pos : Pos} {σ : St} {H G : Hp} {s : S}
theorem slice_rev (x : Str) : ((Builtin.Str.strSliceIndices none none (-1) x.length).filterMap (x.cps[·]?)) = x.cps.toList.reverse := by
  have e : Builtin.Str.strSliceIndices none none (-1) x.length = (List.range x.length).reverse := by
    unfold Builtin.Str.strSliceIndices
    simp only [show ¬ ((-1 : Int) > 0) by decide, if_false]
    rw [PySem.W.krv_sliceRange, PySem.W.krv_range]
  rw [e, List.filterMap_reverse]
  show ((List.range x.cps.size).filterMap (x.cps[·]?)).reverse = _
  rw [PySem.W.krv_all]
def tRevS (K : PySem.W.Frag) (te : TE) : TE := fun σ H Q => te σ H fun x H1 => (∃ a xs, x = .ref a ∧ SqL K H1 a xs ∧ ∀ p, H1 p = none → Q (.ref p) (upd H1 p (.lst xs.reverse))) ∨
  ∃ z : List Nat, x = .str (sT z) ∧ z.length ≤ LINE ∧ Q (.str (sT z.reverse)) H1
theorem pe_revX {e : Expr} {te : TE} {k : Nat} {p1 p2 p3 pos : Pos} (he : PE X e te) : PE X (.Subscript e (.Slice none none (some (.UnaryOp .USub (.Constant (.int 1) k p1) p2)) p3) pos) (tRevS X.K te) := by
  refine ⟨fun pins s σ H Q I h => ?_⟩
  refine Subscript_ (thn (he.run pins s σ H _ I h) fun v s1 ⟨x, H1, I1, r1, q1⟩ => ?_)
  have hst : PO X (some (.UnaryOp .USub (.Constant (.int 1) k p1) p2)) (tPart (tUn (rU fun i => .int (-i)) (tC (.int 1)))) := po_some (pe_un un_neg pe_int)
  refine wpAny_Slice (thn (po_none.run pins s1 σ H1 (fun o H2 => o = none ∧ H2 = H1) I1 ⟨rfl, rfl⟩) fun vl s2 ⟨l, H2, I2, pl, el, e2⟩ => ?_)
  subst el e2
  refine thn (po_none.run pins s2 σ H2 (fun o H3 => o = none ∧ H3 = H2) I2 ⟨rfl, rfl⟩) fun vu s3 ⟨u, H3, I3, pu, eu, e3⟩ => ?_
  subst eu e3
  refine thn (hst.run pins s3 σ H3 (fun o H4 => o = some (-1) ∧ H4 = H3) I3 ⟨1, rfl, -1, rfl, rfl, rfl⟩) fun vs s4 ⟨o, H4, I4, ps, eo, e4⟩ => ?_
  subst eo e4
  have I5 : Inv X pins σ H4 { s4 with heap := s4.heap.push { cls := .type "slice", data := .fields #[vl, vu, vs] } } := I4.kept (t' := s4.toks) fun b ob q => Heap.get?_push_of_some _ q
  rcases q1 with ⟨a, xs, ex, hx, q⟩ | ⟨z, ex, hz, q⟩
  · subst ex
    cases r1
    obtain ⟨its, r, ht, hz⟩ := I5.list hx
    have hlen := r.length
    show wpAny (model X.prog X.w) X.A (subscriptTail e (.Slice none none (some (.UnaryOp .USub (.Constant (.int 1) k p1) p2)) p3) (.ref a) (.ref s4.heap.objs.size)) (EP X pins σ Q) X.xe { s4 with heap := s4.heap.push { cls := .type "slice", data := .fields #[vl, vu, vs] } }
    refine tail_any (ops := [.ref a, .ref s4.heap.objs.size]) ht.isList.typeIs (PySem.slot_list_getitem.lookup) ?_ (by with_unfolding_all rfl)
    refine wpAny_getItem_list_slice ht.isList (Heap.IsSliceOf.new _ vl vu vs) pl pu ps (by decide) ?_ (by rw [List.size_toArray]; omega)
    rw [PySem.W.krv_pick]
    refine ⟨.ref _, _, I5.laid (t' := s4.toks) (o := .lst xs.reverse) (fun b ob q => Heap.get?_push_of_some _ q) (Nat.le_refl _) ?_, rfl, q _ (I5.hok.fresh (Nat.le_refl _))⟩
    exact ⟨by rw [List.length_reverse]; exact hz, _, 0, r.reverse, Heap.get?_push_size _ rfl⟩
  · subst ex
    obtain ⟨tk, rfl⟩ := r1
    show wpAny (model X.prog X.w) X.A (subscriptTail e (.Slice none none (some (.UnaryOp .USub (.Constant (.int 1) k p1) p2)) p3) (.str (sT z) tk) (.ref s4.heap.objs.size)) (EP X pins σ Q) X.xe { s4 with heap := s4.heap.push { cls := .type "slice", data := .fields #[vl, vu, vs] } }
    refine tail_any (ops := [.str (sT z) tk, .ref s4.heap.objs.size]) (typeIs_str _ _ _) (F.slot_str_getitem.lookup) ?_ (by with_unfolding_all rfl)
    obtain ⟨l, rfl, el⟩ := IsPart.raw pl
    obtain ⟨u, rfl, eu⟩ := IsPart.raw pu
    obtain ⟨st, rfl, es⟩ := IsPart.raw ps
    have e1 : st.map (·.1) = some (-1) := es
    have e2 : l.map (·.1) = none := el
    have e3 : u.map (·.1) = none := eu
    refine wpAny_getItem_str_slice (l := l) (u := u) (st := st) (Heap.IsSliceOf.new _ _ _ _) (by rw [e1]; rfl) ?_
    unfold sliceMade slicePicked
    rw [e1, e2, e3]
    show Made.post (if ((-1 : Int) == 1 && _) = true then _ else _) _ _
    rw [if_neg (by intro z; rw [show ((-1 : Int) == 1) = false by decide, Bool.false_and] at z; cases z)]
    have er : ((Builtin.Str.strSliceIndices none none ((some (-1 : Int)).getD 1) (sT z).length).filterMap ((sT z).cps[·]?)) = z.reverse := slice_rev (sT z)
    rw [er]
    exact ⟨by show z.reverse.toArray.size ≤ sizeLine; rw [List.size_toArray, List.length_reverse, ← lineEq]; exact hz, .str _, H4, I5.tok _, ⟨_, rfl⟩, q⟩
theorem de_rev [o : Ok X c] {k : Nat} {p1 p2 p3 : Pos} (he : PE X e (tE c m)) : PE X (.Subscript e (.Slice none none (some (.UnaryOp .USub (.Constant (.int 1) k p1) p2)) p3) pos) (tE c (mRev m)) := by
  refine pe_imp (pe_revX he) ?_
  rintro σ H Q ⟨G, s, Q0, R, hm, hQ⟩
  refine ⟨G, s, _, R, hm, fun r s1 v H1 G1 q R1 S1 K1 O1 => ?_⟩
  have p := O1.peek R1
  split at q
  · rename_i ds e
    rw [e] at p
    obtain ⟨a, vs, e1, h1, h2, _⟩ := p
    exact .inl ⟨a, vs, e1, SqL.of h1, fun x n => hQ _ _ _ _ _ q (R1.newL n) S1 (K1.trans (Keep.upd n)) (R1.own_new n h2.reverse)⟩
  · rename_i z e
    rw [e] at p
    exact .inr ⟨z, p.str, q.1, hQ _ _ _ _ _ q.2 R1 S1 K1 (.str _)⟩
  · exact q.elim
/-! ### calls of defs -/
def ResR (K : PySem.W.Frag) (fa : Option Addr) (H H' G' : Hp) (v : V) : R → Prop
  | .val d => Dg K G' v d
  | .own ds => ∃ a vs, v = .ref a ∧ H' a = some (.lst vs) ∧ Dgs K G' vs ds ∧ G' a = none ∧ H a = none
  | .bor _ => False
structure Ret (K : PySem.W.Frag) (fa : Option Addr) (G0 H G' H' : Hp) (r : R) (v : V) : Prop where
  g0 : Same G0 G'
  gH : Same G' H'
  kH : ∀ b o, H b = some o → fa ≠ some b → H' b = some o
  gN : ∀ a o, G' a = some o → G0 a = some o ∨ H a = none
  res : ResR K fa H H' G' v r
/-- the promise of a def that has the meaning g -/
def spD (K : PySem.W.Frag) (g : Sem) : Sp := fun vs H Q _ => ∃ G0 ds w Qd, Same G0 H ∧ Dgs K G0 vs ds ∧ g ds w Qd ∧ ∀ r w' v H' G', Qd r w' → Ret K none G0 H G' H' r v → Q v H'
/-- .. whose first argument is the feed -/
def spF (K : PySem.W.Frag) (g : Sem) : Sp := fun vs H Q _ => ∃ fa us G0 ds w Qd, vs = .ref fa :: us ∧ Same G0 H ∧ FeedOk (some fa) H G0 w ∧ Dgs K G0 us ds ∧ g ds w Qd ∧
  ∀ r w' v H' G', Qd r w' → Ret K (some fa) G0 H G' H' r v → FeedOk (some fa) H' G' w' → Q v H'
/-- a def of the module that may be called here -/
structure Kn (X : Cx) (x : Str) (sp : Sp) : Prop where
  ex : ∃ (k : Nat) (f : Addr) (fd : FuncData) (ps : List Str), FnOk X.prog X.w X.K X.mg X.base CX0 k f fd ps sp ∧ Room k X.A ∧ X.mg x = some (.ref f) ∧ PySem.W.keepIn X.K (.ref f) = true ∧ Binds X.K fd ps []
theorem Rel.called (R : Rel c σ H G s) {r : DL.R} {v : V} {H' G' : Hp} (h : Ret c.K none G H G' H' r v) : Rel c σ H' G' s ∧ ResOk c σ H' G' s v r := by
  have R' : Rel c σ H' G' s := R.grow h.g0 h.gH (fun b o e _ => h.kH b o e (by simp)) h.gN fun a e => by
    obtain ⟨_, sa, q, _⟩ := R.fd a e
    rw [q]
    exact h.kH a _ q (by simp)
  refine ⟨R', ?_⟩
  have q := h.res
  cases r with
  | val d => exact q
  | own ds =>
    obtain ⟨a, vs, e, h1, h2, h3, h4⟩ := q
    obtain ⟨n1, n2, n3⟩ := R.h0 h4
    refine ⟨a, vs, e, h1, h2, h3, n1, n2, R.nrs h4, fun i hi ei => ?_⟩
    have z := R.sl i
    cases y : get s.v i with
    | own es =>
      rw [y] at z
      obtain ⟨b, us, e1, e2, _⟩ := z
      rw [ei] at e1
      cases e1
      rw [h4] at e2; cases e2
    | _ => rw [y] at hi; cases hi
  | bor ds => exact q.elim
theorem de_call {x : Str} {g : Sem} {p : Pos} [o : Ok X c] (F : Kn X x (spD X.K g)) (ha : PA X (e :: es) (tAs c ms)) (hg : Gl X x := by rfl) (hdb : (x == ("__debug__" : Str)) = false := by decide)
    (he : starEach (e :: es) X.env = (false, eval e X.env) :: starEach es X.env := by rfl) (hpl : (backTo pos (starEach es X.env)).any (·.1) = false := by rfl) : PE X (.Call (.Name x p) (e :: es) [] pos) (tE c (mCall g ms)) := by
  obtain ⟨k, f, fd, ps, F, hr, hm, hk, hb⟩ := F.ex
  refine pe_imp (pe_call F hr hg hm hk hb .nil pass0 ha hdb he hpl) ?_
  rintro σ H Q ⟨G, s, Q0, R, hm, hQ⟩
  refine ⟨G, s, _, R, hm, fun ds s1 vs H1 G1 q R1 S1 K1 dgs => ?_⟩
  show spD X.K g (vs ++ []) H1 Q _
  rw [List.append_nil]
  refine ⟨G1, ds, s1.w, _, R1.gH, o.K ▸ dgs, q, fun r w' v H' G' q2 h => ?_⟩
  have h' : Ret c.K none G1 H1 G' H' r v := o.K ▸ h
  obtain ⟨R', O'⟩ := R1.called h'
  have k2 : Keep c H1 H' := fun b o e _ => h.kH b o e (by simp)
  exact hQ _ _ _ _ _ q2 R' (S1.trans h.g0) (K1.trans k2) O'
theorem de_call0 {x : Str} {g : Sem} {p : Pos} [o : Ok X c] (F : Kn X x (spD X.K g)) (hg : Gl X x := by rfl) (hdb : (x == ("__debug__" : Str)) = false := by decide) : PE X (.Call (.Name x p) [] [] pos) (tE c (mCall g msN)) := by
  obtain ⟨k, f, fd, ps, F, hr, hm, hk, hb⟩ := F.ex
  refine pe_imp (pe_call0 F hr hg hm hk hb .nil pass0 hdb) ?_
  rintro σ H Q ⟨G, s, Q0, R, hm, hQ⟩
  refine ⟨G, [], s.w, _, R.gH, .nil, hm, fun r w' v H' G' q2 h => ?_⟩
  have h' : Ret c.K none G H G' H' r v := o.K ▸ h
  obtain ⟨R', O'⟩ := R.called h'
  have k2 : Keep c H H' := fun b o e _ => h.kH b o e (by simp)
  exact hQ _ _ _ _ _ q2 R' h.g0 k2 O'
/-- behind a call that has the feed -/
theorem Rel.calledF (R : Rel c σ H G s) {fa : Addr} (hfa : c.fa = some fa) {r : DL.R} {v : V} {w' : W} {H' G' : Hp} (h : Ret c.K (some fa) G H G' H' r v) (fd : FeedOk (some fa) H' G' w') : Rel c σ H' G' { s with w := w' } ∧ ResOk c σ H' G' { s with w := w' } v r := by
  have kp : Keep c H H' := fun b o e n => h.kH b o e (hfa ▸ n)
  have gnone : ∀ {a : Addr} {o : HO}, G a = none → H a = some o → G' a = none := fun {a o} n e => by
    cases q : G' a with
    | none => rfl
    | some u =>
      rcases h.gN a u q with z | z
      · rw [n] at z; cases z
      · rw [e] at z; cases z
  have R' : Rel c σ H' G' { s with w := w' } := by
    refine ⟨R.g0.trans h.g0, h.gH, fun b o e n => kp b o (R.kH b o e n) n, fun a o e => ?_, R.len, fun i => ?_, R.ap, hfa ▸ fd, fun a e => ?_⟩
    · rcases h.gN a o e with z | z
      · exact R.gN a o z
      · exact .inr (R.h0 z).1
    · have q := R.sl i
      show SlotOk c H' G' σ[i]? (get s.v i)
      cases e : get s.v i with
      | gone => trivial
      | val d =>
        rw [e] at q
        obtain ⟨v, h1, h2⟩ := q
        exact ⟨v, h1, h2.mono h.g0⟩
      | own ds =>
        rw [e] at q
        obtain ⟨a, vs, h1, h2, h3, h4, h5, h6, h7⟩ := q
        exact ⟨a, vs, h1, kp _ _ h2 h6, h3.mono h.g0, gnone h4 h2, h5, h6, h7⟩
      | feed => rw [e] at q; exact q
      | exn x =>
        rw [e] at q
        obtain ⟨a, cls, d, q1, q2, q3⟩ := q
        exact ⟨a, cls, d, q1, q2, q3.mono h.g0⟩
    · obtain ⟨q1, q2, o, q3⟩ := R.rs a e
      exact ⟨gnone q1 q3, q2, o, kp _ _ q3 q2⟩
  refine ⟨R', ?_⟩
  have q := h.res
  cases r with
  | val d => exact q
  | own ds =>
    obtain ⟨a, vs, e, h1, h2, h3, h4⟩ := q
    obtain ⟨n1, n2, n3⟩ := R.h0 h4
    refine ⟨a, vs, e, h1, h2, h3, n1, n2, R.nrs h4, fun i hi ei => ?_⟩
    have z := R.sl i
    have hi : (get s.v i).isOwn = true := hi
    cases y : get s.v i with
    | own es =>
      rw [y] at z
      obtain ⟨b, us, e1, e2, _⟩ := z
      rw [ei] at e1
      cases e1
      rw [h4] at e2; cases e2
    | _ => rw [y] at hi; cases hi
  | bor ds => exact q.elim
theorem de_callF {x y : Str} {g : Sem} {p p1 : Pos} (i : Nat) [o : Ok X c] (F : Kn X x (spF X.K g)) (ha : PA X es (tAs c ms)) (hN : X.N[i]? = some y := by rfl)
    (hv : Vis X.env.scope y := by first | exact Or.inl rfl | exact Or.inr (Or.inl rfl) | exact Or.inr (Or.inr rfl)) (hg : Gl X x := by rfl) (hdb : (x == ("__debug__" : Str)) = false := by decide) (hd : (y == ("__debug__" : Str)) = false := by decide)
    (hcd : (y == ("__classdict__" : Str)) = false := by decide) (he : starEach (Expr.Name y p1 :: es) X.env = (false, eval (Expr.Name y p1) X.env) :: starEach es X.env := by rfl) (hpl : (backTo pos (starEach es X.env)).any (·.1) = false := by rfl) :
    PE X (.Call (.Name x p) (.Name y p1 :: es) [] pos) (tE c (mCallF g i ms)) := by
  obtain ⟨k, f, fd, ps, F, hr, hm, hk, hb⟩ := F.ex
  refine pe_imp (pe_call F hr hg hm hk hb .nil pass0 (pa_cons (pe_var hN hv hd hcd) ha he) hdb he hpl) ?_
  rintro σ H Q ⟨G, s, Q0, R, hm, hQ⟩
  unfold mCallF at hm
  split at hm
  · rename_i ei
    obtain ⟨fa, e1, e2⟩ := R.at ei
    refine ⟨_, e1, G, s, _, R, hm, fun ds s1 vs H1 G1 q R1 S1 K1 dgs => ?_⟩
    show spF X.K g (.ref fa :: vs ++ []) H1 Q _
    rw [List.append_nil]
    refine ⟨fa, vs, G1, ds, s1.w, _, rfl, R1.gH, e2 ▸ R1.fd, o.K ▸ dgs, q, fun r w' v H' G' q2 h fd => ?_⟩
    have h' : Ret c.K (some fa) G1 H1 G' H' r v := o.K ▸ h
    obtain ⟨R', O'⟩ := R1.calledF e2 h' fd
    have k2 : Keep c H1 H' := fun b o e n => h.kH b o e (e2 ▸ n)
    exact hQ _ _ _ _ _ q2 R' (S1.trans h.g0) (K1.trans k2) O'
  · exact hm.elim
/-- feed[k] -/
theorem de_feed {y : Str} {p1 p2 : Pos} {j : Nat} (i k : Nat) [o : Ok X c] (hN : X.N[i]? = some y := by rfl)
    (hv : Vis X.env.scope y := by first | exact Or.inl rfl | exact Or.inr (Or.inl rfl) | exact Or.inr (Or.inr rfl)) (hd : (y == ("__debug__" : Str)) = false := by decide)
    (hcd : (y == ("__classdict__" : Str)) = false := by decide) : PE X (.Subscript (.Name y p1) (.Constant (.int k) j p2) pos) (tE c (mFeed i k)) := by
  refine pe_imp (pe_ix ix_list (pe_var hN hv hd hcd) pe_int (fun _ _ => rfl)) ?_
  rintro σ H Q ⟨G, s, Q0, R, hm, hQ⟩
  unfold mFeed at hm
  split at hm
  · rename_i ei
    obtain ⟨fa, e1, e2⟩ := R.at ei
    obtain ⟨h1, sa, h2, h3⟩ := R.fd fa e2
    refine ⟨_, e1, ?_⟩
    split at hm
    · exact ⟨fa, _, 0, .ref sa, rfl, rfl, SqL.of h2, rfl, hQ _ _ _ _ _ hm R (Same.refl _) Keep.refl (.lst h3 (Dgs.ofInts _))⟩
    · exact ⟨fa, _, 1, _, rfl, rfl, SqL.of h2, rfl, hQ _ _ _ _ _ hm R (Same.refl _) Keep.refl (.int _)⟩
    · exact ⟨fa, _, 2, _, rfl, rfl, SqL.of h2, rfl, hQ _ _ _ _ _ hm R (Same.refl _) Keep.refl (.int _)⟩
    · exact ⟨fa, _, 3, _, rfl, rfl, SqL.of h2, rfl, hQ _ _ _ _ _ hm R (Same.refl _) Keep.refl (.int _)⟩
    · exact hm.elim
  · exact hm.elim
end
end DL

/-! DLS6: built-in functions. -/
namespace DL
open PySem PySem.Spec PyProof.Rows L2
section
variable {X : Cx} {c : Ct} {a b e : Expr} {es : List Expr} {m m1 m2 m3 : M} {ms : Ms} {t t1 t2 : T} {pos p : Pos} {σ : St} {H G : Hp} {s : S} {x : Str} {id ty : String}
theorem mArg_run {f : D → (R → Prop) → Prop} {r : List V → Hp → VK → Prop} (ho : UnD c f (fun x H Q => r [x] H Q)) : ∀ σ H Q, tE c (mUn f m) σ H Q → tCB r (tCons (tE c m) tNil) σ H Q := by
  rintro σ H Q ⟨G, s, Q0, R, hm, hQ⟩
  refine ⟨G, s, _, R, hm, fun r1 s1 v1 H1 G1 q1 R1 S1 K1 O1 => ?_⟩
  exact ho R1 (O1.peek R1) q1 fun r v H' G' q R' S' K' O' => hQ r s1 v H' G' q R' (S1.trans S') (K1.trans K') O'
theorem mArg2_run {f : D → D → (R → Prop) → Prop} {r : List V → Hp → VK → Prop} (ho : OpD c f (fun x y H Q => r [x, y] H Q)) : ∀ σ H Q, tE c (mBin f m1 m2) σ H Q → tCB r (tCons (tE c m1) (tCons (tE c m2) tNil)) σ H Q := by
  rintro σ H Q ⟨G, s, Q0, R, hm, hQ⟩
  refine ⟨G, s, _, R, hm, fun r1 s1 v1 H1 G1 q1 R1 S1 K1 O1 => ⟨G1, s1, _, R1, q1, fun r2 s2 v2 H2 G2 q2 R2 S2 K2 O2 => ?_⟩⟩
  exact ho R2 ((O1.peek R1).keep S2 K2) (O2.peek R2) q2 fun r v H' G' q R' S' K' O' => hQ r s2 v H' G' q R' ((S1.trans S2).trans S') ((K1.trans K2).trans K') O'
theorem de_b1 {f : D → (R → Prop) → Prop} {r : List V → Hp → VK → Prop} [o : Ok X c] (hc : CallR X (.builtin id) r) (ho : UnD c f (fun x H Q => r [x] H Q)) (hb : x ∈ bltNames) (hv : bootBuiltins x = some (.builtin id)) (hn : x ≠ "__name__") (hdb : (x == ("__debug__" : Str)) = false)
    (ha : PE X a (tE c m)) (hg : Gl X x) (he : starEach [a] X.env = (false, eval a X.env) :: starEach [] X.env) : PE X (.Call (.Name x p) [a] [] pos) (tE c (mUn f m)) :=
  pe_imp (pe_callB hc hg (o.blt x hb) hv (pa_cons ha pa_nil he) hn hdb he rfl) (mArg_run ho)
theorem de_b2 {f : D → D → (R → Prop) → Prop} {r : List V → Hp → VK → Prop} [o : Ok X c] (hc : CallR X (.builtin id) r) (ho : OpD c f (fun x y H Q => r [x, y] H Q)) (hb : x ∈ bltNames) (hv : bootBuiltins x = some (.builtin id)) (hn : x ≠ "__name__") (hdb : (x == ("__debug__" : Str)) = false)
    (ha : PE X a (tE c m1)) (h2 : PE X b (tE c m2)) (hg : Gl X x) (he : starEach [a, b] X.env = (false, eval a X.env) :: starEach [b] X.env) (he2 : starEach [b] X.env = (false, eval b X.env) :: starEach [] X.env) (hpl : (backTo pos (starEach [b] X.env)).any (·.1) = false) :
    PE X (.Call (.Name x p) [a, b] [] pos) (tE c (mBin f m1 m2)) :=
  pe_imp (pe_callB hc hg (o.blt x hb) hv (pa_cons ha (pa_cons h2 pa_nil he2) he) hn hdb he hpl) (mArg2_run ho)
theorem de_t1 {f : D → (R → Prop) → Prop} {r : List V → Hp → VK → Prop} [o : Ok X c] (hc : CallR X (.type ty) r) (ho : UnD c f (fun x H Q => r [x] H Q)) (hb : x ∈ bltNames) (hv : bootBuiltins x = some (.type ty)) (hn : x ≠ "__name__") (hdb : (x == ("__debug__" : Str)) = false)
    (ha : PE X a (tE c m)) (hg : Gl X x) (he : starEach [a] X.env = (false, eval a X.env) :: starEach [] X.env) : PE X (.Call (.Name x p) [a] [] pos) (tE c (mUn f m)) :=
  pe_imp (pe_callTy hc hg (o.blt x hb) hv (pa_cons ha pa_nil he) hn hdb he rfl) (mArg_run ho)
theorem Peek.list {v : V} {ds : List D} (h : Peek c H G v (.list ds)) : ∃ a vs, v = .ref a ∧ H a = some (.lst vs) ∧ Dgs c.K G vs ds := by
  obtain ⟨a, vs, e, h1, h2, _⟩ := h
  exact ⟨a, vs, e, h1, h2⟩
theorem de_len [o : Ok X c] (ha : PE X a (tE c m)) (hg : Gl X "len" := by rfl) (he : starEach [a] X.env = (false, eval a X.env) :: starEach [] X.env := by rfl) : PE X (.Call (.Name "len" p) [a] [] pos) (tE c (mUn dLen m)) :=
  de_b1 call_len (by
    intro σ H G s x v Qr Q R hx h F
    unfold dLen at h
    split at h
    · obtain ⟨a, vs, e, h1, h2⟩ := hx.list
      exact ⟨v, _, rfl, by subst e; exact .inl ⟨vs, SqL.of h1, h2.length.symm⟩, F.val R h (.int _)⟩
    · obtain ⟨a, vs, e, h1, h2⟩ := hx.tup
      exact ⟨v, _, rfl, by subst e; exact .inr ⟨vs, o.K ▸ same_seqT R.gH h1, h2.length.symm⟩, F.val R h (.int _)⟩
    · exact ⟨v, _, rfl, by rw [hx.str]; exact ⟨by rw [len_sT, ← lineEq]; exact h.1, (len_sT _).symm⟩, F.val R h.2 (.int _)⟩
    · exact h.elim) (by decide +kernel) (by decide +kernel) (by decide +kernel) (by decide +kernel) ha hg he
theorem de_abs [o : Ok X c] (ha : PE X a (tE c m)) (hg : Gl X "abs" := by rfl) (he : starEach [a] X.env = (false, eval a X.env) :: starEach [] X.env := by rfl) : PE X (.Call (.Name "abs" p) [a] [] pos) (tE c (mUn dAbs m)) :=
  de_b1 call_abs (by
    intro σ H G s x v Qr Q R hx h F
    unfold dAbs at h
    split at h
    · exact ⟨_, by rw [hx.int], F.val R h (.int _)⟩
    · exact h.elim) (by decide +kernel) (by decide +kernel) (by decide +kernel) (by decide +kernel) ha hg he
theorem de_toInt [o : Ok X c] (ha : PE X a (tE c m)) (hg : Gl X "int" := by rfl) (he : starEach [a] X.env = (false, eval a X.env) :: starEach [] X.env := by rfl) : PE X (.Call (.Name "int" p) [a] [] pos) (tE c (mUn dInt m)) :=
  de_t1 call_int1 (by
    intro σ H G s x v Qr Q R hx h F
    unfold dInt at h
    split at h
    · exact .inl ⟨_, by rw [hx.int], F.val R h (.int _)⟩
    · exact .inr ⟨_, by rw [hx.bool], F.val R h (.int _)⟩
    · exact h.elim) (by decide +kernel) (by decide +kernel) (by decide +kernel) (by decide +kernel) ha hg he
theorem de_min2 [o : Ok X c] [cm : Calm X] (ha : PE X a (tE c m1)) (h2 : PE X b (tE c m2)) (hg : Gl X "min" := by rfl) (he : starEach [a, b] X.env = (false, eval a X.env) :: starEach [b] X.env := by rfl) (he2 : starEach [b] X.env = (false, eval b X.env) :: starEach [] X.env := by rfl)
    (hpl : (backTo pos (starEach [b] X.env)).any (·.1) = false := by rfl) : PE X (.Call (.Name "min" p) [a, b] [] pos) (tE c (mBin dMin2 m1 m2)) :=
  de_b2 (call_min2 cm.calm) (by
    intro σ H G s x y v u Qr Q R hx hy h F
    unfold dMin2 at h
    split at h
    · exact ⟨_, _, by rw [hx.int, hy.int], F.val R h (.int _)⟩
    · exact h.elim) (by decide +kernel) (by decide +kernel) (by decide +kernel) (by decide +kernel) ha h2 hg he he2 hpl
theorem de_max2 [o : Ok X c] [cm : Calm X] (ha : PE X a (tE c m1)) (h2 : PE X b (tE c m2)) (hg : Gl X "max" := by rfl) (he : starEach [a, b] X.env = (false, eval a X.env) :: starEach [b] X.env := by rfl) (he2 : starEach [b] X.env = (false, eval b X.env) :: starEach [] X.env := by rfl)
    (hpl : (backTo pos (starEach [b] X.env)).any (·.1) = false := by rfl) : PE X (.Call (.Name "max" p) [a, b] [] pos) (tE c (mBin dMax2 m1 m2)) :=
  de_b2 (call_max2 cm.calm) (by
    intro σ H G s x y v u Qr Q R hx hy h F
    unfold dMax2 at h
    split at h
    · exact ⟨_, _, by rw [hx.int, hy.int], F.val R h (.int _)⟩
    · exact h.elim) (by decide +kernel) (by decide +kernel) (by decide +kernel) (by decide +kernel) ha h2 hg he he2 hpl
theorem de_toList [o : Ok X c] (ha : PE X a (tE c m)) (hg : Gl X "list" := by rfl) (he : starEach [a] X.env = (false, eval a X.env) :: starEach [] X.env := by rfl) : PE X (.Call (.Name "list" p) [a] [] pos) (tE c (mUn dList m)) :=
  de_t1 call_list_of (by
    intro σ H G s x v Qr Q R hx h F
    unfold dList at h
    split at h
    · obtain ⟨a, vs, e, h1, h2⟩ := hx.list
      exact ⟨a, vs, by rw [e], .inl (SqL.of h1), fun p n => F.own R h h2 n⟩
    · obtain ⟨a, vs, e, h1, h2⟩ := hx.tup
      exact ⟨a, vs, by rw [e], .inr (o.K ▸ same_seqT R.gH h1), fun p n => F.own R h h2 n⟩
    · exact h.elim) (by decide +kernel) (by decide +kernel) (by decide +kernel) (by decide +kernel) ha hg he
theorem de_toTup [o : Ok X c] (ha : PE X a (tE c m)) (hg : Gl X "tuple" := by rfl) (he : starEach [a] X.env = (false, eval a X.env) :: starEach [] X.env := by rfl) : PE X (.Call (.Name "tuple" p) [a] [] pos) (tE c (mUn dTup m)) :=
  de_t1 call_tuple_of (by
    intro σ H G s x v Qr Q R hx h F
    unfold dTup at h
    split at h
    · obtain ⟨a, vs, e, h1, h2⟩ := hx.list
      exact ⟨a, vs, by rw [e], .inl ⟨SqL.of h1, fun p n => F.tup R h h2 n⟩⟩
    · have hx' := hx
      obtain ⟨a, vs, e, h1, h2⟩ := hx.tup
      exact ⟨a, vs, by rw [e], .inr ⟨o.K ▸ same_seqT R.gH h1, by subst e; exact F.val R h hx'⟩⟩
    · exact h.elim) (by decide +kernel) (by decide +kernel) (by decide +kernel) (by decide +kernel) ha hg he
theorem de_sum [o : Ok X c] [cm : Calm X] (ha : PE X a (tE c m)) (hg : Gl X "sum" := by rfl) (he : starEach [a] X.env = (false, eval a X.env) :: starEach [] X.env := by rfl) : PE X (.Call (.Name "sum" p) [a] [] pos) (tE c (mUn dSum m)) :=
  de_b1 (cr_sum cm.calm) (by
    intro σ H G s x v Qr Q R hx h F
    unfold dSum at h
    split at h
    · obtain ⟨ns, e0, q⟩ := h
      subst e0
      obtain ⟨a, vs, e, h1, h2⟩ := hx.list
      rw [h2.ints] at h1
      exact ⟨a, ns, by rw [e], SqL.of h1, F.val R q (.int _)⟩
    · exact h.elim) (by decide +kernel) (by decide +kernel) (by decide +kernel) (by decide +kernel) ha hg he
theorem de_min [o : Ok X c] [cm : Calm X] (ha : PE X a (tE c m)) (hg : Gl X "min" := by rfl) (he : starEach [a] X.env = (false, eval a X.env) :: starEach [] X.env := by rfl) : PE X (.Call (.Name "min" p) [a] [] pos) (tE c (mUn dMin m)) :=
  de_b1 (cr_min cm.calm) (by
    intro σ H G s x v Qr Q R hx h F
    unfold dMin at h
    split at h
    · obtain ⟨ns, e0, hl, q⟩ := h
      subst e0
      obtain ⟨a, vs, e, h1, h2⟩ := hx.list
      rw [h2.ints] at h1
      exact ⟨a, ns, by rw [e], SqL.of h1, hl, fun m h3 h4 => F.val R (q m h3 h4) (.int _)⟩
    · exact h.elim) (by decide +kernel) (by decide +kernel) (by decide +kernel) (by decide +kernel) ha hg he
theorem de_max [o : Ok X c] [cm : Calm X] (ha : PE X a (tE c m)) (hg : Gl X "max" := by rfl) (he : starEach [a] X.env = (false, eval a X.env) :: starEach [] X.env := by rfl) : PE X (.Call (.Name "max" p) [a] [] pos) (tE c (mUn dMax m)) :=
  de_b1 (cr_max cm.calm) (by
    intro σ H G s x v Qr Q R hx h F
    unfold dMax at h
    split at h
    · obtain ⟨ns, e0, hl, q⟩ := h
      subst e0
      obtain ⟨a, vs, e, h1, h2⟩ := hx.list
      rw [h2.ints] at h1
      exact ⟨a, ns, by rw [e], SqL.of h1, hl, fun m h3 h4 => F.val R (q m h3 h4) (.int _)⟩
    · exact h.elim) (by decide +kernel) (by decide +kernel) (by decide +kernel) (by decide +kernel) ha hg he
theorem de_all [o : Ok X c] [cm : Calm X] (ha : PE X a (tE c m)) (hg : Gl X "all" := by rfl) (he : starEach [a] X.env = (false, eval a X.env) :: starEach [] X.env := by rfl) : PE X (.Call (.Name "all" p) [a] [] pos) (tE c (mUn dAll m)) :=
  de_b1 (cr_all cm.calm) (by
    intro σ H G s x v Qr Q R hx h F
    unfold dAll at h
    split at h
    · obtain ⟨ns, e0, q⟩ := h
      subst e0
      obtain ⟨a, vs, e, h1, h2⟩ := hx.list
      rw [h2.bools] at h1
      exact ⟨a, ns, by rw [e], SqL.of h1, F.val R q (.bl _)⟩
    · exact h.elim) (by decide +kernel) (by decide +kernel) (by decide +kernel) (by decide +kernel) ha hg he
/-! ### isinstance -/
def tyN : D → String
  | .none => "NoneType"
  | .bool _ => "bool"
  | .int _ => "int"
  | .str _ => "str"
  | .list _ => "list"
  | .tup _ => "tuple"
def Ty.name : Ty → String
  | .int => "int"
  | .bool => "bool"
  | .str => "str"
  | .list => "list"
  | .tuple => "tuple"
theorem Peek.tyX [o : Ok X c] (R : Rel c σ H G s) {v : V} {d : D} (h : Peek c H G v d) : TyX X.K H v (.type (tyN d)) := by
  cases d with
  | none => rw [h.non]; exact .base .non
  | bool b => rw [h.bool]; exact .base (.bl b)
  | int b => rw [h.int]; exact .base (.int b)
  | str b => rw [h.str]; exact .base (.str _)
  | list ds =>
    obtain ⟨a, vs, e, h1, _⟩ := h
    rw [e]
    exact .base (.lst h1)
  | tup ds =>
    obtain ⟨a, vs, e, h1, _⟩ := h.tup
    rw [e]
    rcases same_seqT R.gH h1 with (z | ⟨ob, z⟩) | ⟨ob, its, n, z, z2, _⟩
    · exact .base (.tup z)
    · exact .fTuple z
    · exact .kTuple (o.K.symm ▸ z) z2
theorem kit_isTy {K : PySem.W.Frag} (d : D) (t : Ty) : PySem.W.kitOne K (.type (tyN d)) (.type t.name) = some (isTy d t) := by
  have tab : ∀ n ∈ (["NoneType", "bool", "int", "str", "list", "tuple"] : List String), ∀ t ∈ (["int", "bool", "str", "list", "tuple"] : List String), kitB n t = some (n == t || (n == "bool" && t == "int")) := by decide +kernel
  have h1 : tyN d ∈ (["NoneType", "bool", "int", "str", "list", "tuple"] : List String) := by cases d <;> simp [tyN]
  have h2 : t.name ∈ (["int", "bool", "str", "list", "tuple"] : List String) := by cases t <;> simp [Ty.name]
  have h3 : isTy d t = (tyN d == t.name || (tyN d == "bool" && t.name == "int")) := by
    cases d <;> cases t <;> (simp only [isTy, tyN, Ty.name]; decide +kernel)
  rw [h3]
  exact kit_ty (tab _ h1 _ h2)
theorem de_isI {y : Str} {p2 : Pos} (t : Ty) [o : Ok X c] (ha : PE X a (tE c m)) (hy : bootBuiltins y = some (.type t.name)) (hyb : y ∈ bltNames := by decide +kernel) (hg : Gl X "isinstance" := by rfl) (hgy : Gl X y := by rfl) (hn : y ≠ "__name__" := by decide +kernel) (hdb : (y == ("__debug__" : Str)) = false := by decide +kernel)
    (he : starEach [a, .Name y p2] X.env = (false, eval a X.env) :: starEach [.Name y p2] X.env := by rfl) (he2 : starEach [Expr.Name y p2] X.env = (false, eval (.Name y p2) X.env) :: starEach [] X.env := by rfl) (hpl : (backTo pos (starEach [Expr.Name y p2] X.env)).any (·.1) = false := by rfl) :
    PE X (.Call (.Name "isinstance" p) [a, .Name y p2] [] pos) (tE c (mIsI m t)) := by
  refine pe_imp (pe_callB call_isi hg (o.blt _ (by decide +kernel)) (by decide +kernel) (pa_cons ha (pa_cons (pe_bltn (v := .ty t.name) hgy (o.blt y hyb) hy rfl hn hdb) pa_nil he2) he) (by decide +kernel) (by decide +kernel) he hpl) ?_
  rintro σ H Q ⟨G, s, Q0, R, hm, hQ⟩
  refine ⟨G, s, _, R, hm, fun r1 s1 v1 H1 G1 q1 R1 S1 K1 O1 => ?_⟩
  have tx : TyX X.K H1 v1 (.type (tyN r1.d)) := (O1.peek R1).tyX R1
  exact ⟨v1, .ty t.name, _, _, _, rfl, .ty _, tx, kit_isTy _ _, hQ _ _ _ _ _ q1 R1 S1 K1 (.bl _)⟩
end
end DL

/-! DLS7: targets, what is walked, comprehensions. -/
namespace DL
open PySem PySem.Spec PyProof.Rows L2
/-! ### slots -/
theorem puts_length : ∀ (v : List Slot) (vs : List Nat) (y : Slot), (puts v vs y).length = v.length
  | _, [], _ => rfl
  | v, i :: r, y => by
    show (put (puts v r y) i y).length = _
    rw [put_length, puts_length]
theorem get_put_gone (v : List Slot) (i j : Nat) : get (put v i .gone) j = if j = i then .gone else get v j := by
  by_cases h : i < v.length
  · exact get_put v i j _ h
  · rw [put_out _ _ _ h]
    by_cases e : j = i
    · subst e; rw [if_pos rfl, get_out _ _ h]
    · rw [if_neg e]
theorem get_puts : ∀ (v : List Slot) (vs : List Nat) (j : Nat), get (puts v vs .gone) j = if j ∈ vs then .gone else get v j
  | _, [], j => by simp [puts]
  | v, i :: r, j => by
    show get (put (puts v r .gone) i .gone) j = _
    rw [get_put_gone, get_puts v r j]
    by_cases e : j = i
    · subst e; simp
    · by_cases h : j ∈ r
      · rw [if_neg e, if_pos h, if_pos (List.mem_cons_of_mem _ h)]
      · rw [if_neg e, if_neg h, if_neg (by simp [e, h])]
def keepV (x : Slot) : Slot := match x with
  | .val d => .val d
  | _ => .gone
theorem back_length (v0 : List Slot) : ∀ (v : List Slot) (vs : List Nat), (back v0 v vs).length = v.length
  | _, [] => rfl
  | v, i :: r => by
    show (put (back v0 v r) i _).length = _
    rw [put_length, back_length v0 v r]
theorem get_back (v0 : List Slot) : ∀ (v : List Slot) (vs : List Nat) (j : Nat), v.length = v0.length → get (back v0 v vs) j = if j ∈ vs then keepV (get v0 j) else get v j
  | _, [], j, _ => by simp [back]
  | v, i :: r, j, hl => by
    show get (put (back v0 v r) i (keepV (get v0 i))) j = _
    have ih := get_back v0 v r j hl
    by_cases hi : i < v.length
    · rw [get_put _ _ _ _ (by rw [back_length]; exact hi), ih]
      by_cases e : j = i
      · subst e; simp
      · by_cases h : j ∈ r
        · rw [if_neg e, if_pos h, if_pos (List.mem_cons_of_mem _ h)]
        · rw [if_neg e, if_neg h, if_neg (by simp [e, h])]
    · rw [put_out _ _ _ (by rw [back_length]; exact hi), ih]
      by_cases e : j = i
      · subst e
        rw [if_pos List.mem_cons_self]
        by_cases h : j ∈ r
        · rw [if_pos h]
        · rw [if_neg h, get_out _ _ hi, get_out _ _ (by rw [← hl]; exact hi)]
          rfl
      · by_cases h : j ∈ r
        · rw [if_pos h, if_pos (List.mem_cons_of_mem _ h)]
        · rw [if_neg h, if_neg (by simp [e, h])]
/-- the slots is alone may have changed -/
def Chg (is : List Nat) (σ σ' : St) : Prop := σ'.length = σ.length ∧ ∀ i, i ∉ is → σ'[i]? = σ[i]?
theorem Chg.refl {is : List Nat} {σ : St} : Chg is σ σ := ⟨rfl, fun _ _ => rfl⟩
theorem Chg.trans {is js : List Nat} {σ σ1 σ2 : St} (a : Chg is σ σ1) (b : Chg js σ1 σ2) : Chg (is ++ js) σ σ2 := ⟨b.1.trans a.1, fun i h => by
  rw [List.mem_append] at h
  exact (b.2 i fun z => h (.inr z)).trans (a.2 i fun z => h (.inl z))⟩
theorem Chg.set {i : Nat} {σ : St} {v : Option V} : Chg [i] σ (σ.set i v) := ⟨List.length_set, fun j h => List.getElem?_set_ne fun e => h (by simp [e])⟩
theorem wipe_at (σ : St) : ∀ (vs : List Nat) (i : Nat), (wipe σ vs)[i]? = if i ∈ vs then (if i < σ.length then some none else none) else σ[i]?
  | [], i => by simp [wipe]
  | v :: vs, i => by
    show ((wipe σ vs).set v none)[i]? = _
    have ih := wipe_at σ vs i
    by_cases e : v = i
    · subst e
      rw [if_pos List.mem_cons_self]
      by_cases h : v < σ.length
      · rw [if_pos h, List.getElem?_set_self (by rw [wipe_length]; exact h)]
      · rw [if_neg h, List.getElem?_eq_none (by rw [List.length_set, wipe_length]; omega)]
    · rw [List.getElem?_set_ne e, ih]
      by_cases h : i ∈ vs
      · rw [if_pos h, if_pos (List.mem_cons_of_mem _ h)]
      · rw [if_neg h, if_neg (by simp [Ne.symm e, h])]
theorem wipe_chg {σ σ' : St} {vs is : List Nat} (h : Chg is σ σ') (hs : ∀ i ∈ is, i ∈ vs) : wipe σ' vs = wipe σ vs := by
  apply List.ext_getElem?
  intro i
  rw [wipe_at, wipe_at, h.1]
  by_cases e : i ∈ vs
  · rw [if_pos e, if_pos e]
  · rw [if_neg e, if_neg e, h.2 i fun z => e (hs i z)]
theorem wipe_wipe (σ : St) (vs : List Nat) : wipe (wipe σ vs) vs = wipe σ vs := wipe_chg (is := vs) ⟨wipe_length _ _, fun i h => by rw [wipe_at, if_neg h]⟩ fun _ h => h
section
variable {X : Cx} {c : Ct} {a b e : Expr} {es : List Expr} {m m1 m2 m3 : M} {ms : Ms} {t t1 t2 : T} {pos p : Pos} {σ σ1 σ2 : St} {H G : Hp} {s : S} {x : Str} {id ty : String}
theorem Rel.slots (R : Rel c σ2 H G s) {v' : List Slot} (hl : v'.length = σ1.length) (sl : ∀ i, SlotOk c H G σ1[i]? (get v' i)) (ow : ∀ i, (get v' i).isOwn = true → (get s.v i).isOwn = true ∧ σ1[i]? = σ2[i]?) : Rel c σ1 H G { s with v := v' } :=
  ⟨R.g0, R.gH, R.kH, R.gN, hl, sl, fun i j a hij h1 h2 e1 e2 => by
    obtain ⟨o1, q1⟩ := ow i h1
    obtain ⟨o2, q2⟩ := ow j h2
    rw [q1] at e1
    rw [q2] at e2
    exact R.ap i j a hij o1 o2 e1 e2, R.fd, R.rs⟩
theorem Rel.forget (R : Rel c σ2 H G s) {vs : List Nat} (h : Chg vs σ2 σ1) : Rel c σ1 H G { s with v := puts s.v vs .gone } := by
  refine R.slots (by rw [puts_length, R.len, h.1]) (fun i => ?_) fun i hi => ?_
  · rw [get_puts]
    by_cases e : i ∈ vs
    · rw [if_pos e]; trivial
    · rw [if_neg e, h.2 i e]; exact R.sl i
  · rw [get_puts] at hi
    by_cases e : i ∈ vs
    · rw [if_pos e] at hi; cases hi
    · rw [if_neg e] at hi; exact ⟨hi, h.2 i e⟩
theorem Rel.backed {v0 : List Slot} (R : Rel c σ2 H G s) {vs : List Nat} (h : Chg vs σ2 σ1) (hl : v0.length = σ1.length) (h0 : ∀ i, SlotOk c H G σ1[i]? (keepV (get v0 i))) : Rel c σ1 H G { s with v := back v0 s.v vs } := by
  have e0 : s.v.length = v0.length := by rw [R.len, hl, h.1]
  refine R.slots (by rw [back_length, R.len, h.1]) (fun i => ?_) fun i hi => ?_
  · rw [get_back _ _ _ _ e0]
    by_cases e : i ∈ vs
    · rw [if_pos e]; exact h0 i
    · rw [if_neg e, h.2 i e]; exact R.sl i
  · rw [get_back _ _ _ _ e0] at hi
    by_cases e : i ∈ vs
    · rw [if_pos e] at hi
      cases q : get v0 i <;> rw [q] at hi <;> cases hi
    · rw [if_neg e] at hi; exact ⟨hi, h.2 i e⟩
/-- a list that a comprehension makes -/
abbrev Ct.with (c : Ct) (D : Addr) : Ct := { c with rs := fun a => c.rs a ∨ a = D }
instance [o : Ok X c] {D : Addr} : Ok X (c.with D) := ⟨o.K, o.blt, o.hu, o.nd, o.mg, o.xe⟩
theorem Rel.make (R : Rel c σ H G s) {D : Addr} (n : H D = none) : Rel (c.with D) σ (upd H D (.lst [])) G s := by
  have R1 : Rel c σ (upd H D (.lst [])) G s := R.newL n
  obtain ⟨h1, h2, h3⟩ := R.h0 n
  refine ⟨R1.g0, R1.gH, R1.kH, R1.gN, R1.len, fun i => ?_, R1.ap, R1.fd, fun a e => ?_⟩
  · have q := R1.sl i
    have q0 := R.sl i
    cases e : get s.v i with
    | own ds =>
      rw [e] at q q0
      obtain ⟨a, vs, e1, e2, e3, e4, e5, e6, e7⟩ := q
      obtain ⟨a', vs', e1', e2', _⟩ := q0
      rw [e1] at e1'
      cases e1'
      exact ⟨a, vs, e1, e2, e3, e4, e5, e6, fun z => z.elim e7 fun z => by rw [z, n] at e2'; cases e2'⟩
    | gone => trivial
    | val d => rw [e] at q; exact q
    | feed => rw [e] at q; exact q
    | exn x => rw [e] at q; exact q
  · rcases e with e | e
    · exact R1.rs a e
    · subst e
      exact ⟨h3, h2, _, upd_same⟩
theorem Rel.made {D : Addr} (R : Rel (c.with D) σ H G s) : Rel c σ H G s :=
  ⟨R.g0, R.gH, R.kH, R.gN, R.len, fun i => by
    have q := R.sl i
    cases e : get s.v i with
    | own ds =>
      rw [e] at q
      obtain ⟨a, vs, e1, e2, e3, e4, e5, e6, e7⟩ := q
      exact ⟨a, vs, e1, e2, e3, e4, e5, e6, fun z => e7 (.inl z)⟩
    | gone => trivial
    | val d => rw [e] at q; exact q
    | feed => rw [e] at q; exact q
    | exn x => rw [e] at q; exact q, R.ap, R.fd, fun a e => R.rs a (.inl e)⟩
theorem Rel.more {D : Addr} (R : Rel (c.with D) σ H G s) (hD : c.H0 D = none) (o : HO) : Rel (c.with D) σ (upd H D o) G s := by
  obtain ⟨h1, h2, h3⟩ := R.rs D (.inr rfl)
  refine ⟨R.g0, fun b x e => ?_, fun b x e n => ?_, R.gN, R.len, fun i => ?_, R.ap, fun a e => ?_, fun a e => ?_⟩
  · rw [upd_ne (fun z : b = D => by rw [z, h1] at e; cases e)]; exact R.gH b x e
  · rw [upd_ne (fun z : b = D => by
      have e' : c.H0 b = some x := e
      rw [z, hD] at e'; cases e')]
    exact R.kH b x e n
  · have q := R.sl i
    cases e : get s.v i with
    | own ds =>
      rw [e] at q
      obtain ⟨a, vs, e1, e2, e3, e4, e5, e6, e7⟩ := q
      exact ⟨a, vs, e1, by rw [upd_ne (fun z : a = D => e7 (.inr z))]; exact e2, e3, e4, e5, e6, e7⟩
    | gone => trivial
    | val d => rw [e] at q; exact q
    | feed => rw [e] at q; exact q
    | exn x => rw [e] at q; exact q
  · obtain ⟨q1, sa, q2, q3⟩ := R.fd a e
    exact ⟨q1, sa, by rw [upd_ne (fun z : a = D => h2 (z ▸ e))]; exact q2, q3⟩
  · obtain ⟨q1, q2, o', q3⟩ := R.rs a e
    refine ⟨q1, q2, ?_⟩
    by_cases z : a = D
    · subst z; exact ⟨_, upd_same⟩
    · exact ⟨o', by rw [upd_ne z]; exact q3⟩
/-! ### targets -/
def tG (c : Ct) (is : List Nat) (g : Gt) : TG := fun v σ H Q => ∃ G s d Q0, Rel c σ H G s ∧ Dg c.K G v d ∧ g d s Q0 ∧ ∀ s' σ' H' G', Q0 s' → Rel c σ' H' G' s' → Chg is σ σ' → Same G G' → Keep c H H' → Q σ' H'
def tGs (c : Ct) (is : List Nat) (g : Gts) : TGs := fun vs σ H Q => ∃ G s ds Q0, Rel c σ H G s ∧ Dgs c.K G vs ds ∧ g ds s Q0 ∧ ∀ s' σ' H' G', Q0 s' → Rel c σ' H' G' s' → Chg is σ σ' → Same G G' → Keep c H H' → Q σ' H'
theorem pg_imp {X : Cx} {e : Expr} {t t' : TG} (h : PG X e t) (i : ∀ v σ H Q, t' v σ H Q → t v σ H Q) : PG X e t' := ⟨fun pins s σ H v u Q I r q => h.run pins s σ H v u Q I r (i v σ H Q q)⟩
theorem pgs_imp {X : Cx} {e : List Expr} {t t' : TGs} (h : PGs X e t) (i : ∀ v σ H Q, t' v σ H Q → t v σ H Q) : PGs X e t' := ⟨fun pins s σ H v u Q I r q => h.run pins s σ H v u Q I r (i v σ H Q q)⟩
theorem dg_name (i : Nat) [o : Ok X c] (hi : X.N[i]? = some x := by rfl) (hx : Loc X.env.scope x := by first | exact Or.inl rfl | exact Or.inr rfl) (hf : X.fn x = true ∨ X.env.scope.names.lookup x = some .local := by first | exact .inl rfl | exact .inr rfl) : PG X (.Name x pos) (tG c [i] (gV i)) := by
  refine pg_imp (pg_name o.nd hi hx hf) ?_
  rintro v σ H Q ⟨G, s, d, Q0, R, dg, hm, hQ⟩
  exact hQ _ _ H G hm (R.put_val dg) Chg.set (Same.refl _) Keep.refl
theorem dgs_nil : PGs X [] (tGs c [] gsN) := by
  refine pgs_imp pgs_nil ?_
  rintro v σ H Q ⟨G, s, d, Q0, R, dg, hm, hQ⟩
  unfold gsN at hm
  split at hm
  · cases dg
    exact ⟨rfl, hQ _ _ H G hm R Chg.refl (Same.refl _) Keep.refl⟩
  · exact hm.elim
theorem dgs_cons {g : Gt} {gs : Gts} {is js : List Nat} (h1 : PG X e (tG c is g)) (h2 : PGs X es (tGs c js gs)) (hs : (assignEach (e :: es) X.env).map (·.2) = assign e X.env :: (assignEach es X.env).map (·.2) := by rfl) : PGs X (e :: es) (tGs c (is ++ js) (gsC g gs)) := by
  refine pgs_imp (pgs_cons h1 h2 hs) ?_
  rintro v σ H Q ⟨G, s, d, Q0, R, dg, hm, hQ⟩
  unfold gsC at hm
  split at hm
  · cases dg with
    | cons d1 d2 =>
      refine ⟨_, _, rfl, G, s, _, _, R, d1, hm, fun s1 σ1 H1 G1 q R1 C1 S1 K1 => ⟨G1, s1, _, _, R1, d2.mono S1, q, fun s' σ' H' G' q R' C' S' K' => ?_⟩⟩
      exact hQ _ _ _ _ q R' (C1.trans C') (S1.trans S') (K1.trans K')
  · exact hm.elim
theorem dg_tup {gs : Gts} {is : List Nat} {n k : Nat} [o : Ok X c] [cm : Calm X] (h : PGs X es (tGs c is gs)) (hn : (assignEach es X.env).length = n := by rfl) (hst : (assignEach es X.env).findIdx? (·.1) = none := by rfl) : PG X (.Tuple es k pos) (tG c is (gT n gs)) := by
  refine pg_imp (pg_tup cm.calm h hn hst) ?_
  rintro v σ H Q ⟨G, s, d, Q0, R, dg, hm, hQ⟩
  unfold gT at hm
  split at hm
  · cases dg with
    | tup d1 d2 => exact ⟨_, _, rfl, o.K ▸ same_seqT R.gH d1, by rw [d2.length]; exact hm.1, G, s, _, Q0, R, d2, hm.2, hQ⟩
  · exact hm.elim
/-! ### what is walked -/
/-- the iterator J gives the data ds, one after the other -/
structure Walks (c : Ct) (G : Hp) (J : It) (ds : List D) : Prop where
  go : ∀ (i : Nat) (H G1 : Hp), i < ds.length → Same G G1 → Same G1 H → J.go i H
  stop : ∀ (H G1 : Hp), Same G G1 → Same G1 H → J.stop ds.length H
  yld : ∀ (c' : Ct) (σ : St) (i : Nat) (H G1 H' : Hp) (s : S) (v : V) (d : D), c'.K = c.K → Rel c' σ H G1 s → Same G G1 → ds[i]? = some d → J.yld i H v H' → ∃ G2, Rel c' σ H' G2 s ∧ Same G1 G2 ∧ Keep c' H H' ∧ Dg c.K G2 v d
def tI (c : Ct) (src : Src) : TI := fun σ H Q => ∃ G s Q0, Rel c σ H G s ∧ src s Q0 ∧ ∀ ds s' J H' G', Q0 ds s' → Rel c σ H' G' s' → Same G G' → Keep c H H' → Walks c G' J ds → Q J H'
theorem pi_imp {X : Cx} {tg e : Expr} {t t' : TI} (h : PI X tg e t) (i : ∀ σ H Q, t' σ H Q → t σ H Q) : PI X tg e t' := ⟨fun pins s σ H R I q => h.run pins s σ H R I (i σ H R q)⟩
/-- a list, a tuple, a text: which, the value tells -/
def iAny (K : PySem.W.Frag) (tl : TE) : TI := fun σ H R => tl σ H fun x H1 => (∃ a, x = .ref a ∧ (∃ xs, SqL K H1 a xs) ∧ R (Itl K a) H1) ∨ (∃ a, x = .ref a ∧ (∃ xs, SqT K H1 a xs) ∧ R (Itt K a) H1) ∨ ∃ z, x = .str z ∧ R (Its z) H1
theorem pi_any {tg l : Expr} {tl : TE} (hl : PE X l tl) : PI X tg l (iAny X.K tl) := by
  refine ⟨fun pins s σ H R I h => ?_⟩
  refine thn (hl.run pins s σ H _ I h) fun v s1 ⟨x, H1, I1, r1, q1⟩ => ?_
  rcases q1 with ⟨a, e, ⟨xs, hq⟩, q⟩ | ⟨a, e, ⟨xs, hq⟩, q⟩ | ⟨z, e, q⟩
  · subst e
    cases r1
    obtain ⟨its, rv, p, hz⟩ := I1.list hq
    exact wpAny_pyIter_list p.isList (pi_one (tk := s1.toks) I1 _ (turn_list a _) ⟨_, Heap.get?_push_size _ rfl, rfl, rfl⟩ q)
  · subst e
    cases r1
    obtain ⟨its, rv, p, hz⟩ := I1.tuple hq
    exact wpAny_pyIter_tuple (show s1.heap.IsTuple a its.toArray from p) (pi_one (tk := s1.toks) I1 _ (turn_tuple a _) ⟨_, Heap.get?_push_size _ rfl, rfl, rfl⟩ q)
  · subst e
    obtain ⟨t, rfl⟩ := r1
    cases ha : z.cps.all (· < 128)
    · exact wpAny_pyIter_wide ha (pi_one (tk := s1.toks) I1 _ (turn_str _ z t "str_iterator" (.inr rfl)) ⟨_, Heap.get?_push_size _ rfl, rfl, rfl⟩ q)
    · exact wpAny_pyIter_ascii ha (pi_one (tk := s1.toks) I1 _ (turn_str _ z t "str_ascii_iterator" (.inl rfl)) ⟨_, Heap.get?_push_size _ rfl, rfl, rfl⟩ q)
theorem walks_list {K : PySem.W.Frag} (hK : K = c.K) {a : Addr} {vs : List V} {ds : List D} (h : G a = some (.lst vs)) (dg : Dgs c.K G vs ds) : Walks c G (Itl K a) ds where
  go := fun i H G1 hi s1 s2 => by
    have hl := dg.length
    exact ⟨vs, vs[i]'(by omega), SqL.of (s2 _ _ (s1 _ _ h)), by simp⟩
  stop := fun H G1 s1 s2 => ⟨vs, SqL.of (s2 _ _ (s1 _ _ h)), by rw [dg.length]; exact Nat.le_refl _⟩
  yld := fun c' σ i H G1 H' s v d hK R s1 e y => by
    obtain ⟨e1, q⟩ := y
    subst e1
    obtain ⟨u, h1, h2⟩ := dg.get e
    have q2 := q vs (SqL.of (R.gH _ _ (s1 _ _ h)))
    rw [h1] at q2
    cases q2
    exact ⟨G1, R, Same.refl _, Keep.refl, h2.mono s1⟩
theorem walks_tup {K : PySem.W.Frag} (hK : K = c.K) {a : Addr} {vs : List V} {ds : List D} (h : SqT c.K G a vs) (dg : Dgs c.K G vs ds) : Walks c G (Itt K a) ds where
  go := fun i H G1 hi s1 s2 => by
    have hl := dg.length
    subst hK
    exact ⟨vs, vs[i]'(by omega), same_seqT s2 (same_seqT s1 h), by simp⟩
  stop := fun H G1 s1 s2 => by
    subst hK
    exact ⟨vs, same_seqT s2 (same_seqT s1 h), by rw [dg.length]; exact Nat.le_refl _⟩
  yld := fun c' σ i H G1 H' s v d hK' R s1 e y => by
    obtain ⟨e1, q⟩ := y
    subst e1 hK
    obtain ⟨u, h1, h2⟩ := dg.get e
    have q2 := q vs (same_seqT R.gH (same_seqT s1 h))
    rw [h1] at q2
    cases q2
    exact ⟨G1, R, Same.refl _, Keep.refl, h2.mono s1⟩
theorem walks_str (z : List Nat) : Walks c G (Its (sT z)) (z.map fun c => D.str [c]) where
  go := fun i H G1 hi s1 s2 => by
    show i < z.toArray.size
    simpa using hi
  stop := fun H G1 s1 s2 => by
    show z.toArray.size ≤ _
    simp
  yld := fun c' σ i H G1 H' s v d hK' R s1 e y => by
    obtain ⟨e1, ch, q1, q2⟩ := y
    subst e1 q2
    have q1' : z[i]? = some ch := by simpa using q1
    rw [List.getElem?_map, q1'] at e
    cases e
    exact ⟨G1, R, Same.refl _, Keep.refl, .str [ch]⟩
theorem walks_ran (lo : Int) (n : Nat) : Walks c G (Itr lo n) (ran lo n) where
  go := fun i H G1 hi s1 s2 => by
    show i < n
    simpa [ran] using hi
  stop := fun H G1 s1 s2 => by
    show n ≤ _
    simp [ran]
  yld := fun c' σ i H G1 H' s v d hK' R s1 e y => by
    obtain ⟨e1, q2⟩ := y
    subst e1 q2
    have hi : i < n := by
      have := (List.getElem?_eq_some_iff.mp e).1
      simpa [ran] using this
    have e2 : (ran lo n)[i]? = some (.int (lo + i)) := by simp [ran, hi]
    rw [e2] at e
    cases e
    exact ⟨G1, R, Same.refl _, Keep.refl, .int _⟩
theorem ds_val {tg : Expr} [o : Ok X c] (h : PE X e (tE c m)) : PI X tg e (tI c (srcV m)) := by
  refine pi_imp (pi_any h) ?_
  rintro σ H Q ⟨G, s, Q0, R, hm, hQ⟩
  refine ⟨G, s, _, R, hm, fun r s1 v H1 G1 q R1 S1 K1 O1 => ?_⟩
  split at q
  · cases (show Dg c.K G1 v (.list _) from O1) with
    | lst h1 h2 => exact .inl ⟨_, rfl, ⟨_, SqL.of (R1.gH _ _ h1)⟩, hQ _ _ _ _ _ q R1 S1 K1 (walks_list o.K h1 h2)⟩
  · cases (show Dg c.K G1 v (.tup _) from O1) with
    | tup h1 h2 => exact .inr (.inl ⟨_, rfl, ⟨_, o.K ▸ same_seqT R1.gH h1⟩, hQ _ _ _ _ _ q R1 S1 K1 (walks_tup o.K h1 h2)⟩)
  · cases (show Dg c.K G1 v (.str _) from O1) with
    | str _ => exact .inr (.inr ⟨_, rfl, hQ _ _ _ _ _ q R1 S1 K1 (walks_str _)⟩)
  · obtain ⟨a, vs, e, h1, h2, h3, h4, h5, h7, h6⟩ := (show ResOk c σ H1 G1 s1 v (.own _) from O1)
    obtain ⟨R2, sm⟩ := R1.freeze h1 h3 h4 h5 h7 h6
    exact .inl ⟨a, e, ⟨_, SqL.of h1⟩, hQ _ _ _ _ _ q R2 (S1.trans sm) K1 (walks_list o.K upd_same (h2.mono sm))⟩
  · exact q.elim
theorem ds_range1 {tg : Expr} [o : Ok X c] (ha : PE X a (tE c m)) (hg : Gl X "range" := by rfl) (hs : starEach [a] X.env = [(false, eval a X.env)] := by rfl) (he : starEach [a] X.env = (false, eval a X.env) :: starEach [] X.env := by rfl) : PI X tg (.Call (.Name "range" p) [a] [] pos) (tI c (srcR1 m)) := by
  refine pi_imp (pi_range1 hg (o.blt _ (by decide +kernel)) (pa_cons ha pa_nil he) hs) ?_
  rintro σ H Q ⟨G, s, Q0, R, hm, hQ⟩
  refine ⟨G, s, _, R, hm, fun r s1 v H1 G1 q R1 S1 K1 O1 => ?_⟩
  have p := O1.peek R1
  split at q
  · rename_i j e
    rw [e] at p
    exact ⟨j, by rw [p.int], q.1.1, q.1.2, hQ _ _ _ _ _ q.2 R1 S1 K1 (walks_ran 0 _)⟩
  · exact q.elim
theorem ds_range2 {tg : Expr} [o : Ok X c] (ha : PE X a (tE c m1)) (hb : PE X b (tE c m2)) (hg : Gl X "range" := by rfl) (hs : starEach [a, b] X.env = [(false, eval a X.env), (false, eval b X.env)] := by rfl) (hs2 : starEach [b] X.env = [(false, eval b X.env)] := by rfl)
    (he : starEach [a, b] X.env = (false, eval a X.env) :: starEach [b] X.env := by rfl) (he2 : starEach [b] X.env = (false, eval b X.env) :: starEach [] X.env := by rfl) : PI X tg (.Call (.Name "range" p) [a, b] [] pos) (tI c (srcR2 m1 m2)) := by
  refine pi_imp (pi_range2 hg (o.blt _ (by decide +kernel)) (pa_cons ha (pa_cons hb pa_nil he2) he) hs hs2) ?_
  rintro σ H Q ⟨G, s, Q0, R, hm, hQ⟩
  refine ⟨G, s, _, R, hm, fun r s1 v H1 G1 q R1 S1 K1 O1 => ⟨G1, s1, _, R1, q, fun r2 s2 v2 H2 G2 q R2 S2 K2 O2 => ?_⟩⟩
  have p1 := (O1.peek R1).keep S2 K2
  have p2 := O2.peek R2
  split at q
  · rename_i i j e1 e2
    rw [e1] at p1
    rw [e2] at p2
    exact ⟨i, j, by rw [p1.int, p2.int], q.1, hQ _ _ _ _ _ q.2 R2 (S1.trans S2) (K1.trans K2) (walks_ran i _)⟩
  · exact q.elim
/-! ### comprehensions -/
def tYesT (c : Ct) : PTs X [] (tT c tYes) := ⟨fun pins s σ H Q I h => pts_nil.run pins s σ H Q I (by
  obtain ⟨G, s, Q0, R, hm, hQ⟩ := h
  exact hQ _ _ _ _ hm R (Same.refl _) Keep.refl)⟩
theorem dts_one (h : PT X e (tT c t)) : PTs X [e] (tT c t) := pts_one h
theorem comp_run {src : Src} {g : Gt} {is vs0 : List Nat} (his : ∀ i ∈ is, i ∈ vs0) : ∀ σ H Q, tE c (mComp vs0 src g t m) σ H Q → tLc (tI c src) (fun v σ H Q => ∃ D, tG (c.with D) is g v σ H Q) (fun σ H Q => ∃ D, tT (c.with D) t σ H Q) (fun σ H Q => ∃ D, tE (c.with D) m σ H Q) vs0 σ H Q := by
  rintro σ H Q ⟨G, s, Q0, R, hm, hQ⟩
  refine ⟨G, s, _, R, hm, fun ds s1 J H1 G1 q1 R1 S1 K1 Wk D nD => ?_⟩
  obtain ⟨n1, n2, n3⟩ := R1.h0 nD
  have nrs := R1.nrs nD
  have RD := R1.make nD
  -- behind i turns
  refine ⟨fun i k H => ∃ G s acc vs, i + k = ds.length ∧ Rel (c.with D) (wipe σ vs0) H G { s with v := puts s.v vs0 .gone } ∧ Same G1 G ∧ Keep c H1 H ∧ H D = some (.lst vs) ∧ Dgs c.K G vs acc ∧
      (∃ σ2, Chg vs0 σ2 σ ∧ Rel (c.with D) σ2 H G s) ∧ compL vs0 g t m (ds.drop i) acc s (fun acc s2 => Q0 (.own acc) { s2 with v := back s1.v s2.v vs0 }), ⟨ds.length, G1, s1, [], [], by omega, ?_, Same.refl _, Keep.upd nD, upd_same, .nil, ⟨σ, Chg.refl, RD⟩, q1⟩, ?_⟩
  · exact RD.forget ⟨wipe_length _ _, fun i h => by rw [wipe_at, if_neg h]⟩
  rintro i k H2 ⟨G2, s2, acc, vs, ei, Rw, S2, K2, hD, dacc, ⟨σ2, ch2, R2⟩, q⟩
  by_cases hi' : i < ds.length
  · right
    refine ⟨Wk.go i H2 G2 hi' S2 R2.gH, fun H' => ∃ G s acc vs, i + 1 + (k - 1) = ds.length ∧ Rel (c.with D) (wipe σ vs0) H' G { s with v := puts s.v vs0 .gone } ∧ Same G1 G ∧ Keep c H1 H' ∧ H' D = some (.lst vs) ∧ Dgs c.K G vs acc ∧
      (∃ σ2, Chg vs0 σ2 σ ∧ Rel (c.with D) σ2 H' G s) ∧ compL vs0 g t m (ds.drop (i + 1)) acc s (fun acc s2 => Q0 (.own acc) { s2 with v := back s1.v s2.v vs0 }), fun H' h => ⟨k - 1, by omega, h⟩, fun x H3 y => ?_⟩
    obtain ⟨G3, R3, S3, K3, dx⟩ := Wk.yld (c.with D) _ i H2 G2 H3 _ x (ds[i]) rfl Rw S2 (by simp) y
    have ed : ds.drop i = ds[i] :: ds.drop (i + 1) := by rw [← List.drop_eq_getElem_cons hi']
    rw [ed] at q
    refine ⟨D, G3, _, _, _, R3, dx, q, fun s4 σ4 H4 G4 q4 R4 C4 S4 K4 => ?_⟩
    refine ⟨by rw [wipe_chg C4 his, wipe_wipe], D, G4, s4, _, R4, q4, fun b s5 H5 G5 q5 R5 S5 K5 => ?_⟩
    have hch : Chg vs0 σ4 σ := ⟨by rw [C4.1, wipe_length], fun j hj => by rw [C4.2 j fun z => hj (his j z), wipe_at, if_neg hj]⟩
    have hw : Chg vs0 σ4 (wipe σ vs0) := ⟨C4.1.symm, fun j hj => (C4.2 j fun z => hj (his j z)).symm⟩
    have kk : Keep c H1 H5 := ((K2.trans K3).trans K4).trans K5
    have ss : Same G1 G5 := ((S2.trans S3).trans S4).trans S5
    have hD5 : H5 D = some (.lst vs) := K5 _ _ (K4 _ _ (K3 _ _ hD n2) n2) n2
    have da5 : Dgs c.K G5 vs acc := dacc.mono ((S3.trans S4).trans S5)
    cases b with
    | true =>
      rw [if_pos rfl] at q5
      refine iteT ⟨D, G5, s5, _, R5, q5, fun r s6 v6 H6 G6 q6 R6 S6 K6 O6 => ?_⟩
      obtain ⟨d, G7, q7, R7, S7, dg7⟩ := O6.frz R6 q6
      have hD6 : H6 D = some (.lst vs) := K6 _ _ hD5 n2
      refine ⟨vs, hD6, by rw [(dacc.length), ← lineEq]; exact q7.1, ?_⟩
      have R8 := R7.more n1 (.lst (vs ++ [v6]))
      refine ⟨G7, s6, acc ++ [d], vs ++ [v6], by omega, R8.forget hw, ((ss.trans S6).trans S7), fun b o e n => ?_, upd_same, (da5.mono (S6.trans S7)).append (.cons dg7 .nil), ⟨σ4, hch, R8⟩, q7.2⟩
      rw [upd_ne (ne_of_none e nD)]
      exact (kk.trans K6) b o e n
    | false =>
      rw [if_neg Bool.false_ne_true] at q5
      exact iteF ⟨G5, s5, acc, vs, by omega, R5.forget hw, ss, kk, hD5, da5, ⟨σ4, hch, R5⟩, q5⟩
  · left
    have e0 : i = ds.length := by omega
    subst e0
    refine ⟨Wk.stop H2 G2 S2 R2.gH, ?_⟩
    rw [List.drop_length] at q
    have RF : Rel c σ H2 G2 { s2 with v := back s1.v s2.v vs0 } := R2.made.backed ch2 R1.len fun j => by
      have z := R1.sl j
      cases e : get s1.v j with
      | val d =>
        rw [e] at z
        obtain ⟨v, z1, z2⟩ := z
        exact ⟨v, z1, z2.mono S2⟩
      | _ => trivial
    refine hQ _ _ _ _ _ q RF (S1.trans S2) (K1.trans K2) ?_
    obtain ⟨m1, m2, _⟩ := R2.rs D (.inr rfl)
    refine ⟨D, vs, rfl, hD, dacc, m1, n1, n2, nrs, fun j hj ej => ?_⟩
    have e0 : s2.v.length = s1.v.length := by rw [R2.len, R1.len, ch2.1]
    have hj : (get (back s1.v s2.v vs0) j).isOwn = true := hj
    rw [get_back _ _ _ _ e0] at hj
    by_cases z : j ∈ vs0
    · rw [if_pos z] at hj
      cases y : get s1.v j <;> rw [y] at hj <;> cases hj
    · rw [if_neg z] at hj
      have sl := R2.sl j
      cases y : get s2.v j with
      | own es =>
        rw [y] at sl
        obtain ⟨a, us, e1, e2, e3, e4, e5, e6, e7⟩ := sl
        rw [← ch2.2 j z, ej] at e1
        cases e1
        exact e7 (.inr rfl)
      | _ => rw [y] at hj; cases hj
theorem de_comp {elt tg iter : Expr} {ifs : List Expr} {scope : Scope} {src : Src} {g : Gt} {is : List Nat} (own : List (Str × Nat)) [o : Ok X c] [cm : Calm X] (hi : PI X tg iter (tI c src)) (ok : blkC X.N X.env.scope scope own = true)
    (hg : ∀ (c : Ct) [Ok X c] (s : Shared) (H : Hp) (C : Addr) (cl : List (Str × Addr)) (fp : List Addr), PG (X.blk s H scope (compEnvC scope cl C X.env) fp) tg (tG c is g))
    (ht : ∀ (c : Ct) [Ok X c] (s : Shared) (H : Hp) (C : Addr) (cl : List (Str × Addr)) (fp : List Addr), PTs (X.blk s H scope (compEnvC scope cl C X.env) fp) ifs (tT c t))
    (he : ∀ (c : Ct) [Ok X c] (s : Shared) (H : Hp) (C : Addr) (cl : List (Str × Addr)) (fp : List Addr), PE (X.blk s H scope (compEnvC scope cl C X.env) fp) elt (tE c m)) (his : ∀ i ∈ is, i ∈ own.map (·.2) := by decide)
    (hs : ∀ x, foldedSetIterable iter X.env x = pure x := by intro _; rfl) : PE X (.ListComp elt [⟨tg, iter, ifs, 0⟩] scope pos) (tE c (mComp (own.map (·.2)) src g t m)) :=
  pe_imp (pe_lc cm.calm o.nd hi (blkOk_by ok) (fun s H C cl fp => ⟨fun pins s' σ H v u Q I r ⟨D, q⟩ => (hg (c.with D) s _ C cl fp).run pins s' σ H v u Q I r q⟩)
      (fun s H C cl fp => ⟨fun pins s' σ H Q I ⟨D, q⟩ => (ht (c.with D) s _ C cl fp).run pins s' σ H Q I q⟩) (fun s H C cl fp => ⟨fun pins s' σ H Q I ⟨D, q⟩ => (he (c.with D) s _ C cl fp).run pins s' σ H Q I q⟩) hs) (comp_run his)
end
end DL

/-! DLS8: statements. -/
namespace DL
open PySem PySem.Spec PyProof.Rows L2
def RetR (c : Ct) (H G : Hp) (v : V) : R → Prop
  | .val d => Dg c.K G v d
  | .own ds => ∃ a vs, v = .ref a ∧ H a = some (.lst vs) ∧ Dgs c.K G vs ds ∧ G a = none ∧ c.H0 a = none
  | .bor _ => False
structure OutsOk (c : Ct) (G : Hp) (O : Outs) (D : Ends) : Prop where
  nx : ∀ s' σ' H' G', O.nx s' → Rel c σ' H' G' s' → Same G G' → D.nx σ' H'
  bk : ∀ s' σ' H' G', O.bk s' → Rel c σ' H' G' s' → Same G G' → D.bk σ' H'
  ct : ∀ s' σ' H' G', O.ct s' → Rel c σ' H' G' s' → Same G G' → D.ct σ' H'
  rt : ∀ r s' v σ' H' G', O.rt r s'.w → Rel c σ' H' G' s' → Same G G' → RetR c H' G' v r → D.rt v H'
theorem OutsOk.mono {c : Ct} {G G1 : Hp} {O : Outs} {D : Ends} (h : OutsOk c G O D) (sm : Same G G1) : OutsOk c G1 O D :=
  ⟨fun s' σ' H' G' q R S => h.nx s' σ' H' G' q R (sm.trans S), fun s' σ' H' G' q R S => h.bk s' σ' H' G' q R (sm.trans S), fun s' σ' H' G' q R S => h.ct s' σ' H' G' q R (sm.trans S), fun r s' v σ' H' G' q R S => h.rt r s' v σ' H' G' q R (sm.trans S)⟩
def tS (c : Ct) (ms : MS) : TS := fun D σ H => ∃ G s O, Rel c σ H G s ∧ ms s O ∧ OutsOk c G O D
theorem ps_imp {X : Cx} {st : Stmt} {t t' : TS} (h : PS X st t) (i : ∀ D σ H, t' D σ H → t D σ H) : PS X st t' := ⟨fun pins s σ H D I q => h.run pins s σ H D I (i D σ H q)⟩
theorem pss_imp {X : Cx} {st : List Stmt} {t t' : TS} (h : PSs X st t) (i : ∀ D σ H, t' D σ H → t D σ H) : PSs X st t' := ⟨fun pins s σ H D I q => h.run pins s σ H D I (i D σ H q)⟩
section
variable {X : Cx} {c : Ct} {a b e : Expr} {es : List Expr} {st : Stmt} {sts sts' : List Stmt} {m m1 m2 m3 : M} {ms : Ms} {t t1 t2 : T} {u u1 u2 : MS} {pos p : Pos} {σ σ1 σ2 : St} {H G : Hp} {s : S} {x : Str} {id ty : String}
/-! ### slots -/
theorem Rel.put_own (R : Rel c σ H G s) {i : Nat} {v : V} {ds : List D} (h : ResOk c σ H G s v (.own ds)) : Rel c (σ.set i (some v)) H G { s with v := put s.v i (.own ds) } := by
  by_cases hi : i < s.v.length
  · have hi2 : i < σ.length := by rw [← R.len]; exact hi
    obtain ⟨a, vs, e, h1, h2, h3, h4, h5, h7, h6⟩ := h
    have gt : ∀ j, get (put s.v i (.own ds)) j = if j = i then .own ds else get s.v j := fun j => get_put _ _ _ _ hi
    refine ⟨R.g0, R.gH, R.kH, R.gN, by rw [List.length_set]; show (put s.v i _).length = _; rw [put_length]; exact R.len, fun j => ?_, fun j k b hjk o1 o2 e1 e2 => ?_, R.fd, R.rs⟩
    · show SlotOk c H G (σ.set i (some v))[j]? (get (put s.v i (.own ds)) j)
      rw [gt]
      by_cases hj : j = i
      · subst hj
        rw [if_pos rfl, List.getElem?_set_self hi2, e]
        exact ⟨a, vs, rfl, h1, h2, h3, h4, h5, h7⟩
      · rw [if_neg hj, List.getElem?_set_ne (Ne.symm hj)]
        exact R.sl j
    · have o1 : (get (put s.v i (.own ds)) j).isOwn = true := o1
      have o2 : (get (put s.v i (.own ds)) k).isOwn = true := o2
      rw [gt] at o1 o2
      by_cases hj : j = i
      · subst hj
        have hk : k ≠ j := Ne.symm hjk
        rw [if_neg hk] at o2
        rw [List.getElem?_set_self hi2, e] at e1
        rw [List.getElem?_set_ne (Ne.symm hk)] at e2
        cases e1
        exact h6 k o2 e2
      · rw [if_neg hj] at o1
        rw [List.getElem?_set_ne (Ne.symm hj)] at e1
        by_cases hk : k = i
        · subst hk
          rw [List.getElem?_set_self hi2, e] at e2
          cases e2
          exact h6 j (by rw [gt, if_neg hj] at o1; exact o1) e1
        · rw [if_neg hk] at o2
          rw [List.getElem?_set_ne (Ne.symm hk)] at e2
          exact R.ap j k b hjk o1 o2 e1 e2
  · rw [put_out _ _ _ hi, List.set_eq_of_length_le (by rw [← R.len]; omega)]
    exact R
/-- the own list at slot i is changed -/
theorem Rel.change (R : Rel c σ H G s) {i : Nat} {ds ds' : List D} {a : Addr} {vs' : List V} (e : get s.v i = .own ds) (ea : σ[i]? = some (some (.ref a))) (h : Dgs c.K G vs' ds') : Rel c σ (upd H a (.lst vs')) G { s with v := put s.v i (.own ds') } := by
  obtain ⟨a', vs, h1, h2, h3, h4, h5, h6, h7⟩ := R.at e
  rw [ea] at h1
  cases h1
  have hi : i < s.v.length := get_lt (by rw [e]; intro z; cases z)
  have gt : ∀ j, get (put s.v i (.own ds')) j = if j = i then .own ds' else get s.v j := fun j => get_put _ _ _ _ hi
  refine ⟨R.g0, fun b o q => ?_, fun b o q n => ?_, R.gN, by show (put s.v i _).length = _; rw [put_length]; exact R.len, fun j => ?_, fun j k b hjk o1 o2 e1 e2 => ?_, fun b q => ?_, fun b q => ?_⟩
  · rw [upd_ne (fun z : b = a => by rw [z, h4] at q; cases q)]; exact R.gH b o q
  · rw [upd_ne (fun z : b = a => by rw [z, h5] at q; cases q)]; exact R.kH b o q n
  · show SlotOk c (upd H a (.lst vs')) G σ[j]? (get (put s.v i (.own ds')) j)
    rw [gt]
    by_cases hj : j = i
    · subst hj
      rw [if_pos rfl, ea]
      exact ⟨a, vs', rfl, upd_same, h, h4, h5, h6, h7⟩
    · rw [if_neg hj]
      have q := R.sl j
      cases y : get s.v j with
      | own es =>
        rw [y] at q
        obtain ⟨b, us, q1, q2, q3, q4, q5, q6, q7⟩ := q
        have hb : b ≠ a := fun z => R.ap j i a hj (by rw [y]; rfl) (by rw [e]; rfl) (z ▸ q1) ea
        exact ⟨b, us, q1, by rw [upd_ne hb]; exact q2, q3, q4, q5, q6, q7⟩
      | gone => trivial
      | val d => rw [y] at q; exact q
      | feed => rw [y] at q; exact q
      | exn x => rw [y] at q; exact q
  · have o1 : (get (put s.v i (.own ds')) j).isOwn = true := o1
    have o2 : (get (put s.v i (.own ds')) k).isOwn = true := o2
    rw [gt] at o1 o2
    have f : ∀ j, (if j = i then Slot.own ds' else get s.v j).isOwn = true → (get s.v j).isOwn = true := fun j h => by
      by_cases z : j = i
      · subst z; rw [e]; rfl
      · rw [if_neg z] at h; exact h
    exact R.ap j k b hjk (f j o1) (f k o2) e1 e2
  · obtain ⟨q1, sa, q2, q3⟩ := R.fd b q
    exact ⟨q1, sa, by rw [upd_ne (fun z : b = a => h6 (z ▸ q))]; exact q2, q3⟩
  · obtain ⟨q1, q2, o, q3⟩ := R.rs b q
    exact ⟨q1, q2, o, by rw [upd_ne (fun z : b = a => h7 (z ▸ q))]; exact q3⟩
theorem Rel.feed (R : Rel c σ H G s) {fa sa : Addr} {w' : W} (e : c.fa = some fa) (h1 : G sa = some (.lst (s.w.sc.map V.int))) (hw : w'.sc = s.w.sc) : Rel c σ (upd H fa (.lst [.ref sa, .int w'.ix, .int w'.big, .int w'.seed])) G { s with w := w' } := by
  obtain ⟨q1, _⟩ := R.fd fa e
  refine ⟨R.g0, fun b o q => ?_, fun b o q n => ?_, R.gN, R.len, fun j => ?_, R.ap, fun b q => ?_, fun b q => ?_⟩
  · rw [upd_ne (fun z : b = fa => by rw [z, q1] at q; cases q)]; exact R.gH b o q
  · rw [upd_ne (fun z : b = fa => n (z ▸ e))]; exact R.kH b o q n
  · have q := R.sl j
    cases y : get s.v j with
    | own es =>
      rw [y] at q
      obtain ⟨b, us, q1, q2, q3, q4, q5, q6, q7⟩ := q
      exact ⟨b, us, q1, by rw [upd_ne (fun z : b = fa => q6 (z ▸ e))]; exact q2, q3, q4, q5, q6, q7⟩
    | gone => trivial
    | val d => rw [y] at q; exact q
    | feed => rw [y] at q; exact q
    | exn x => rw [y] at q; exact q
  · rw [e] at q
    cases q
    exact ⟨q1, sa, upd_same, by rw [hw]; exact h1⟩
  · obtain ⟨z1, z2, o, z3⟩ := R.rs b q
    exact ⟨z1, z2, o, by rw [upd_ne (fun z : b = fa => z2 (z ▸ e))]; exact z3⟩
/-! ### blocks -/
theorem dss_nil : PSs X [] (tS c sNil) := pss_imp pss_nil fun D σ H ⟨G, s, O, R, h, k⟩ => k.nx _ _ _ _ h R (Same.refl _)
theorem dss_cons (h1 : PS X st (tS c u1)) (h2 : PSs X sts (tS c u2)) : PSs X (st :: sts) (tS c (sSeq u1 u2)) := by
  refine pss_imp (pss_cons h1 h2) ?_
  rintro D σ H ⟨G, s, O, R, h, k⟩
  exact ⟨G, s, _, R, h, ⟨fun s' σ' H' G' q R' S' => ⟨G', s', O, R', q, k.mono S'⟩, k.bk, k.ct, k.rt⟩⟩
theorem dss_one (h1 : PS X st (tS c u)) : PSs X [st] (tS c u) := pss_one h1
theorem ds_pass : PS X (.Pass pos) (tS c sPass) := ps_imp ps_pass fun D σ H ⟨G, s, O, R, h, k⟩ => k.nx _ _ _ _ h R (Same.refl _)
theorem ds_break : PS X (.Break pos) (tS c sBrk) := ps_imp ps_break fun D σ H ⟨G, s, O, R, h, k⟩ => k.bk _ _ _ _ h R (Same.refl _)
theorem ds_continue : PS X (.Continue pos) (tS c sCont) := ps_imp ps_continue fun D σ H ⟨G, s, O, R, h, k⟩ => k.ct _ _ _ _ h R (Same.refl _)
theorem ds_never : PS X st (tS c sNever) := ps_imp ps_never fun D σ H ⟨G, s, O, R, h, k⟩ => h.elim
theorem dss_never : PSs X sts (tS c sNever) := pss_imp pss_never fun D σ H ⟨G, s, O, R, h, k⟩ => h.elim
theorem ds_expr (he : PE X e (tE c m)) (hs : swapsWith e none pos.line X.env = pure false := by rfl) : PS X (.Expr e pos) (tS c (sExpr m)) := by
  refine ps_imp (ps_expr he hs) ?_
  rintro D σ H ⟨G, s, O, R, h, k⟩
  exact ⟨G, s, _, R, h, fun r s' v H' G' q R' S' K' O' => k.nx _ _ _ _ q R' S'⟩
theorem ds_if {d : Expr} (hd : PT X d (tT c t)) (ha : PSs X sts (tS c u1)) (hb : PSs X sts' (tS c u2)) : PS X (.If d sts sts' pos) (tS c (sIf t u1 u2)) := by
  refine ps_imp (ps_if hd ha hb) ?_
  rintro D σ H ⟨G, s, O, R, h, k⟩
  refine ⟨G, s, _, R, h, fun b s1 H1 G1 q R1 S1 K1 => ?_⟩
  cases b with
  | true =>
    rw [if_pos rfl] at q
    exact iteT ⟨G1, s1, O, R1, q, k.mono S1⟩
  | false =>
    rw [if_neg Bool.false_ne_true] at q
    exact iteF ⟨G1, s1, O, R1, q, k.mono S1⟩
/-! ### return -/
theorem RetR.of (R : Rel c σ H G s) {v : V} {r : DL.R} (h : ResOk c σ H G s v r) {rt : DL.R → W → Prop} {w : W} (q : retK r rt w) : ∃ r', rt r' w ∧ RetR c H G v r' := by
  cases r with
  | val d => exact ⟨_, q, h⟩
  | own ds =>
    obtain ⟨a, vs, e, h1, h2, h3, h4, _⟩ := h
    exact ⟨_, q, a, vs, e, h1, h2, h3, h4⟩
  | bor ds =>
    obtain ⟨a, vs, e, h1, h2, h3, h4, _⟩ := h
    exact ⟨_, q, a, vs, e, h1, h2, h3, h4⟩
theorem ds_ret (he : PE X e (tE c m)) : PS X (.Return (some e) pos) (tS c (sRet m)) := by
  refine ps_imp (ps_ret he) ?_
  rintro D σ H ⟨G, s, O, R, h, k⟩
  refine ⟨G, s, _, R, h, fun r s' v H' G' q R' S' K' O' => ?_⟩
  obtain ⟨r', q', hr⟩ := RetR.of R' O' q
  exact k.rt r' s' v _ _ _ q' R' S' hr
theorem ds_retN : PS X (.Return none pos) (tS c sRetN) := by
  refine ps_imp ps_retN ?_
  rintro D σ H ⟨G, s, O, R, h, k⟩
  exact k.rt _ s .non _ _ _ h R (Same.refl _) .non
/-! ### assignments -/
theorem set_run (i : Nat) {D : Ends} : ∀ {σ : St} {H : Hp}, tS c (sSet i m) D σ H → tE c m σ H fun x H1 => gName i x σ H1 D.nx := by
  rintro σ H ⟨G, s, O, R, h, k⟩
  refine ⟨G, s, _, R, h, fun r s' v H' G' q R' S' K' O' => ?_⟩
  cases r with
  | val d => exact k.nx _ _ _ _ q (R'.put_val O') S'
  | own ds => exact k.nx _ _ _ _ q (R'.put_own O') S'
  | bor ds => exact q.elim
theorem ds_set (i : Nat) {pos' : Pos} [o : Ok X c] (he : PE X e (tE c m)) (hi : X.N[i]? = some x := by rfl) (hx : Loc X.env.scope x := by first | exact Or.inl rfl | exact Or.inr rfl) (hs : swapsWith e (some (.Name x pos')) pos.line X.env = pure false := by rfl)
    (hf : X.fn x = true ∨ X.env.scope.names.lookup x = some .local := by first | exact .inl rfl | exact .inr rfl) : PS X (.Assign [.Name x pos'] e pos) (tS c (sSet i m)) :=
  ps_imp (ps_set o.nd hi hx he hs hf) fun D σ H h => set_run i h
theorem ds_setLc (i : Nat) {py : Pos} {elt tg iter : Expr} {ifs : List Expr} {scope : Scope} {src : Src} {g : Gt} {is : List Nat} {spos : Pos} (own : List (Str × Nat)) [o : Ok X c] [cm : Calm X] (hi : PI X tg iter (tI c src)) (ok : blkC X.N X.env.scope scope own = true)
    (hg : ∀ (c : Ct) [Ok X c] (s : Shared) (H : Hp) (C : Addr) (cl : List (Str × Addr)) (fp : List Addr), PG (X.blk s H scope (compEnvC scope cl C X.env) fp) tg (tG c is g))
    (ht : ∀ (c : Ct) [Ok X c] (s : Shared) (H : Hp) (C : Addr) (cl : List (Str × Addr)) (fp : List Addr), PTs (X.blk s H scope (compEnvC scope cl C X.env) fp) ifs (tT c t))
    (he : ∀ (c : Ct) [Ok X c] (s : Shared) (H : Hp) (C : Addr) (cl : List (Str × Addr)) (fp : List Addr), PE (X.blk s H scope (compEnvC scope cl C X.env) fp) elt (tE c m)) (his : ∀ i ∈ is, i ∈ own.map (·.2) := by decide)
    (hy : X.N[i]? = some x := by rfl) (hyl : X.env.scope.names.lookup x = some .local := by rfl) (hsw : swapsWith (.ListComp elt [⟨tg, iter, ifs, 0⟩] scope pos) (some (.Name x py)) spos.line X.env = pure true := by exact sw_true rfl rfl rfl (by decide +kernel))
    (hs : ∀ x, foldedSetIterable iter X.env x = pure x := by intro _; rfl) : PS X (.Assign [.Name x py] (.ListComp elt [⟨tg, iter, ifs, 0⟩] scope pos) spos) (tS c (sSet i (mComp (own.map (·.2)) src g t m))) :=
  ps_imp (ps_setLc cm.calm o.nd hy hyl hsw hi (blkOk_by ok) (fun s H C cl fp => ⟨fun pins s' σ H v u Q I r ⟨D, q⟩ => (hg (c.with D) s _ C cl fp).run pins s' σ H v u Q I r q⟩)
      (fun s H C cl fp => ⟨fun pins s' σ H Q I ⟨D, q⟩ => (ht (c.with D) s _ C cl fp).run pins s' σ H Q I q⟩) (fun s H C cl fp => ⟨fun pins s' σ H Q I ⟨D, q⟩ => (he (c.with D) s _ C cl fp).run pins s' σ H Q I q⟩) hs) fun D σ H h => comp_run his _ _ _ (set_run i h)
theorem ds_asg {tg : Expr} {g : Gt} {is : List Nat} (he : PE X e (tE c m)) (hg : PG X tg (tG c is g)) (hs : swapsWithSole [tg] e pos.line X.env = pure false := by rfl) (hw : swappedStores [tg] e X.env = pure none := by rfl)
    (h1 : (assignEach [tg] X.env).map (·.2) = [assign tg X.env] := by rfl) : PS X (.Assign [tg] e pos) (tS c (sAsg g m)) := by
  refine ps_imp (ps_asg he hg hs hw h1) ?_
  rintro D σ H ⟨G, s, O, R, h, k⟩
  refine ⟨G, s, _, R, h, fun r s' v H' G' q R' S' K' O' => ?_⟩
  obtain ⟨d, G2, q2, R2, S2, dg⟩ := O'.frz R' q
  exact ⟨G2, s', d, _, R2, dg, q2, fun s3 σ3 H3 G3 q3 R3 C3 S3 K3 => k.nx _ _ _ _ q3 R3 ((S'.trans S2).trans S3)⟩
theorem ds_par (i j : Nat) {y : Str} {px py pt : Pos} {kt k2 pt2} [o : Ok X c] [cm : Calm X] (ha : PE X a (tE c m1)) (hb : PE X b (tE c m2)) (hi : X.N[i]? = some x := by rfl) (hj : X.N[j]? = some y := by rfl) (hij : i ≠ j := by decide)
    (hx : X.env.scope.names.lookup x = some .local := by rfl) (hy : X.env.scope.names.lookup y = some .local := by rfl)
    (hw : swappedStores [.Tuple [.Name x px, .Name y py] kt pt] (.Tuple [a, b] k2 pt2) X.env = pure (some [x, y]) := by rfl)
    (hs : swapsWithSole [.Tuple [.Name x px, .Name y py] kt pt] (.Tuple [a, b] k2 pt2) pos.line X.env = pure false := by rfl)
    (he : starEach [a, b] X.env = (false, eval a X.env) :: starEach [b] X.env := by rfl) (he2 : starEach [b] X.env = (false, eval b X.env) :: starEach [] X.env := by rfl) :
    PS X (.Assign [.Tuple [.Name x px, .Name y py] kt pt] (.Tuple [a, b] k2 pt2) pos) (tS c (sPar i j m1 m2)) := by
  refine ps_imp (ps_par cm.calm o.nd hi hj hij hx hy (pa_cons ha (pa_cons hb pa_nil he2) he) hw hs) ?_
  rintro D σ H ⟨G, s, O, R, h, k⟩
  refine ⟨G, s, _, R, h, fun r s1 v H1 G1 q R1 S1 K1 O1 => ?_⟩
  obtain ⟨d, G2, q2, R2, S2, dg⟩ := O1.frz R1 q
  refine ⟨G2, s1, _, R2, q2, fun r2 s3 v2 H3 G3 q3 R3 S3 K3 O3 => ?_⟩
  obtain ⟨d2, G4, q4, R4, S4, dg2⟩ := O3.frz R3 q3
  refine ⟨v, v2, rfl, k.nx _ _ _ _ q4 ?_ (((S1.trans S2).trans S3).trans S4)⟩
  exact (R4.put_val (dg.mono (S3.trans S4))).put_val dg2
theorem ds_aug {op : Operator} {f : Int → Int → Int} (i : Nat) {pos' : Pos} [o : Ok X c] (ho : PIp X op (ipI f)) (he : PE X e (tE c m)) (hi : X.N[i]? = some x := by rfl) (hx : Loc X.env.scope x := by first | exact Or.inl rfl | exact Or.inr rfl)
    (hf : X.fn x = true ∨ X.env.scope.names.lookup x = some .local := by first | exact .inl rfl | exact .inr rfl) : PS X (.AugAssign (.Name x pos') op e pos) (tS c (sAug i f m)) := by
  refine ps_imp (ps_aug o.nd hi hx he ho hf) ?_
  rintro D σ H ⟨G, s, O, R, h, k⟩
  unfold sAug at h
  split at h
  · rename_i n e1
    obtain ⟨v, e2, dg⟩ := R.at e1
    cases dg
    refine ⟨_, e2, G, s, _, R, h, fun r s1 v H1 G1 q R1 S1 K1 O1 => ?_⟩
    have pk := O1.peek R1
    split at q
    · rename_i n2 e3
      rw [e3] at pk
      exact ⟨_, _, rfl, pk.int, k.nx _ _ _ _ q (R1.put_val (.int _)) S1⟩
    · exact q.elim
  · exact h.elim
/-! ### lists that change -/
theorem ownAt_of {i : Nat} {k : List D → Prop} (h : ownAt s i k) : ∃ ds, get s.v i = .own ds ∧ k ds := by
  unfold ownAt at h
  split at h
  · exact ⟨_, by assumption, h⟩
  · exact h.elim
theorem feedAt_of {i : Nat} {k : Prop} (h : feedAt s i k) : get s.v i = .feed ∧ k := by
  unfold feedAt at h
  split at h
  · exact ⟨by assumption, h⟩
  · exact h.elim
theorem intD_of {d : D} {k : Int → Prop} (h : intD d k) : ∃ n, d = .int n ∧ k n := by
  unfold intD at h
  split at h
  · exact ⟨_, rfl, h⟩
  · exact h.elim
theorem ds_app (i : Nat) {y : Pos} {apos cpos : Pos} [o : Ok X c] (he : PE X e (tE c m)) (hN : X.N[i]? = some x := by rfl) (hv : Vis X.env.scope x := by first | exact Or.inl rfl | exact Or.inr (Or.inl rfl) | exact Or.inr (Or.inr rfl))
    (hd : (x == ("__debug__" : Str)) = false := by decide) (hcd : (x == ("__classdict__" : Str)) = false := by decide) (hs0 : starEach [e] X.env = (false, eval e X.env) :: starEach [] X.env := by rfl)
    (hfew : ((backTo cpos (starEach (e :: []) X.env)).all (fun x => !x.1) && (backToKw cpos (keywordEach [] X.env)).all (fun x => x.1.isSome)
      && decide ((e :: []).length + ([] : List Keyword).length + (if ([] : List Keyword).isEmpty then 0 else 1) < 30)) = true := by rfl)
    (hbase : attributeBase (.Name x y) "append" X.env (eval (.Name x y) X.env) = eval (.Name x y) X.env := by rfl) (hline : (apos.endLine == cpos.line) = true := by rfl) (hpl : (backTo cpos (starEach [] X.env)).any (·.1) = false := by rfl)
    (hs : swapsWith (.Call (.Attribute (.Name x y) "append" apos) [e] [] cpos) none pos.line X.env = pure false := by rfl) : PS X (.Expr (.Call (.Attribute (.Name x y) "append" apos) [e] [] cpos) pos) (tS c (sApp i m)) := by
  refine ps_imp (ps_expr (pe_bm PySem.F.plainAttrs_list PySem.F.slot_list_append PySem.F.type_list_append mt_append (pe_var hN hv hd hcd) (pa_cons he pa_nil hs0) hbase hfew hline hs0 hpl) hs) ?_
  rintro D σ H ⟨G, s, O, R, h, k⟩
  obtain ⟨ds0, e0, h⟩ := ownAt_of h
  obtain ⟨a, vs0, e1, e2, _⟩ := R.at e0
  refine ⟨.ref a, e1, .inl ⟨rfl, vs0, SqL.of e2⟩, G, s, _, R, h, fun r s1 v H1 G1 q R1 S1 K1 O1 => ?_⟩
  obtain ⟨d, G2, q2, R2, S2, dg⟩ := O1.frz R1 q
  obtain ⟨ds, e3, hl, q3⟩ := ownAt_of q2
  obtain ⟨a', vs, e4, e5, e6, _⟩ := R2.at e3
  rw [e1] at e4
  cases e4
  exact ⟨a, vs, v, rfl, rfl, e5, by rw [e6.length, ← lineEq]; exact hl, k.nx _ _ _ _ q3 (R2.change e3 e1 (e6.append (.cons dg .nil))) (S1.trans S2)⟩
theorem ds_ext (i : Nat) {y : Pos} {apos cpos : Pos} [o : Ok X c] (he : PE X e (tE c m)) (hN : X.N[i]? = some x := by rfl) (hv : Vis X.env.scope x := by first | exact Or.inl rfl | exact Or.inr (Or.inl rfl) | exact Or.inr (Or.inr rfl))
    (hd : (x == ("__debug__" : Str)) = false := by decide) (hcd : (x == ("__classdict__" : Str)) = false := by decide) (hs0 : starEach [e] X.env = (false, eval e X.env) :: starEach [] X.env := by rfl)
    (hfew : ((backTo cpos (starEach (e :: []) X.env)).all (fun x => !x.1) && (backToKw cpos (keywordEach [] X.env)).all (fun x => x.1.isSome)
      && decide ((e :: []).length + ([] : List Keyword).length + (if ([] : List Keyword).isEmpty then 0 else 1) < 30)) = true := by rfl)
    (hbase : attributeBase (.Name x y) "extend" X.env (eval (.Name x y) X.env) = eval (.Name x y) X.env := by rfl) (hline : (apos.endLine == cpos.line) = true := by rfl) (hpl : (backTo cpos (starEach [] X.env)).any (·.1) = false := by rfl)
    (hs : swapsWith (.Call (.Attribute (.Name x y) "extend" apos) [e] [] cpos) none pos.line X.env = pure false := by rfl) : PS X (.Expr (.Call (.Attribute (.Name x y) "extend" apos) [e] [] cpos) pos) (tS c (sExt i m)) := by
  refine ps_imp (ps_expr (pe_bm PySem.F.plainAttrs_list PySem.F.slot_list_extend PySem.F.type_list_extend mt_extend (pe_var hN hv hd hcd) (pa_cons he pa_nil hs0) hbase hfew hline hs0 hpl) hs) ?_
  rintro D σ H ⟨G, s, O, R, h, k⟩
  obtain ⟨ds0, e0, h⟩ := ownAt_of h
  obtain ⟨a, vs0, e1, e2, _⟩ := R.at e0
  refine ⟨.ref a, e1, .inl ⟨rfl, vs0, SqL.of e2⟩, G, s, _, R, h, fun r s1 v H1 G1 q R1 S1 K1 O1 => ?_⟩
  obtain ⟨ds, e3, q3⟩ := ownAt_of q
  obtain ⟨a', vs, e4, e5, e6, _⟩ := R1.at e3
  rw [e1] at e4
  cases e4
  have pk := O1.peek R1
  split at q3
  · rename_i es e7
    rw [e7] at pk
    obtain ⟨b, us, e8, e9, e10⟩ := pk.list
    subst e8
    exact ⟨a, b, vs, us, rfl, rfl, e5, e9, by rw [e6.length, e10.length, ← lineEq]; exact q3.1, k.nx _ _ _ _ q3.2 (R1.change e3 e1 (e6.append e10)) S1⟩
  · exact q3.elim
theorem ds_setI (i : Nat) {y : Pos} {kx : Expr} {tpos : Pos} [o : Ok X c] (he : PE X e (tE c m)) (hk : PE X kx (tE c m1)) (hN : X.N[i]? = some x := by rfl) (hv : Vis X.env.scope x := by first | exact Or.inl rfl | exact Or.inr (Or.inl rfl) | exact Or.inr (Or.inr rfl))
    (hd : (x == ("__debug__" : Str)) = false := by decide) (hcd : (x == ("__classdict__" : Str)) = false := by decide)
    (ha : ∀ v, assign (.Subscript (.Name x y) kx tpos) X.env v = (do
      let ov ← holding [v] (eval (.Name x y) X.env)
      let iv ← holding [v, ov] (eval kx X.env)
      standAt tpos
      holding [v, ov, iv] (setItem ov iv v)
      release [v, ov, iv] []) := by intro _; rfl)
    (hs : swapsWithSole [.Subscript (.Name x y) kx tpos] e pos.line X.env = pure false := by rfl) (hw : swappedStores [.Subscript (.Name x y) kx tpos] e X.env = pure none := by rfl)
    (h1 : (assignEach [.Subscript (.Name x y) kx tpos] X.env).map (·.2) = [assign (.Subscript (.Name x y) kx tpos) X.env] := by rfl) : PS X (.Assign [.Subscript (.Name x y) kx tpos] e pos) (tS c (sSetI i m1 m)) := by
  refine ps_imp (ps_asg he (pg_sub (pe_var hN hv hd hcd) hk set_list ha) hs hw h1) ?_
  rintro D σ H ⟨G, s, O, R, h, k⟩
  refine ⟨G, s, _, R, h, fun r s1 v H1 G1 q R1 S1 K1 O1 => ?_⟩
  obtain ⟨d, G2, q2, R2, S2, dg⟩ := O1.frz R1 q
  obtain ⟨ds0, e0, q3⟩ := ownAt_of q2
  obtain ⟨a, vs0, e1, e2, _⟩ := R2.at e0
  refine ⟨.ref a, e1, G2, s1, _, R2, q3, fun r2 s2 v2 H3 G3 q4 R3 S3 K3 O3 => ?_⟩
  obtain ⟨ds, e3, q5⟩ := ownAt_of q4
  obtain ⟨n, e4, j, e5, q6⟩ := intD_of q5
  obtain ⟨a', vs, e6, e7, e8, _⟩ := R3.at e3
  rw [e1] at e6
  cases e6
  have pk := O3.peek R3
  rw [e4] at pk
  refine ⟨a, vs, n, j, rfl, pk.int, e7, by rw [e8.length]; exact e5, ?_⟩
  exact k.nx _ _ _ _ q6 (R3.change e3 e1 (e8.set j (dg.mono S3))) ((S1.trans S2).trans S3)
/-- xs[i], by values -/
theorem pget_list : PGet X (rIxL X.K) := by
  intro pins s σ H o i ov iv Q I ro ri h
  obtain ⟨p, xs, k, z, rfl, rfl, hq, he, q⟩ := h
  cases ro
  obtain ⟨t, rfl⟩ := ri
  obtain ⟨its, r, pl, hz⟩ := I.list hq
  obtain ⟨j, h1, h2, h3, h4, h5⟩ := atI_get he
  obtain ⟨w, ew, rw'⟩ := r.get h2
  have hl := r.length
  have hn := line63
  have fin : EP X pins σ Q w s := ⟨z, H, I, rw', q⟩
  have hz' : its.length ≤ sizeLine := by rw [← hl]; exact hz
  by_cases h0 : 0 ≤ k
  · have hj : k.toNat = j := by
      rw [seqIndex_of h0 h5] at h1
      exact Option.some.inj h1
    exact wpAny_getItem_list pl.isList h0 (by omega) (by rw [hj]; simpa using ew) fin
  · have hj : (k + its.length).toNat = j := by
      have := h1
      unfold seqIndex? at this
      rw [← hl]
      simp only [if_neg h0] at this
      first
        | (split at this <;> first | (simp at this; omega) | cases this)
        | (simp at this; omega)
    exact wpAny_getItem_list_neg pl.isList (by omega) (by rw [List.size_toArray]; omega) (by omega) (by rw [List.size_toArray, hj]; simpa using ew) fin
end
end DL

/-! DLS9: statements, further; loops; defs. -/
namespace DL
open PySem PySem.Spec PyProof.Rows L2
section
variable {X : Cx} {c : Ct} {a b e : Expr} {es : List Expr} {st : Stmt} {sts sts' : List Stmt} {m m1 m2 m3 : M} {ms : Ms} {t t1 t2 : T} {u u1 u2 : MS} {pos p : Pos} {σ σ1 σ2 : St} {H G : Hp} {s : S} {x : Str} {id ty : String}
theorem ds_augI {op : Operator} {f : Int → Int → Int} (i : Nat) {y : Pos} {kx : Expr} {tpos : Pos} [o : Ok X c] (ho : PIp X op (ipI f)) (hk : PE X kx (tE c m1)) (he : PE X e (tE c m)) (hN : X.N[i]? = some x := by rfl) (hv : Vis X.env.scope x := by first | exact Or.inl rfl | exact Or.inr (Or.inl rfl) | exact Or.inr (Or.inr rfl))
    (hd : (x == ("__debug__" : Str)) = false := by decide) (hcd : (x == ("__classdict__" : Str)) = false := by decide)
    (ha : ∀ ov iv new, augStore kx ov iv new = (do holding [new, ov, iv] (setItem ov iv new); release [new, ov, iv] []; pure .next) := by intros; rfl) : PS X (.AugAssign (.Subscript (.Name x y) kx tpos) op e pos) (tS c (sAugI i f m1 m)) := by
  refine ps_imp (ps_augS (pe_var hN hv hd hcd) hk pget_list he ho set_list ha) ?_
  rintro D σ H ⟨G, s, O, R, h, k⟩
  obtain ⟨ds0, e0, h⟩ := ownAt_of h
  obtain ⟨a, vs0, e1, e2, _⟩ := R.at e0
  refine ⟨.ref a, e1, G, s, _, R, h, fun r1 s1 v1 H1 G1 q1 R1 S1 K1 O1 => ?_⟩
  obtain ⟨ds, e3, q2⟩ := ownAt_of q1
  obtain ⟨n, e4, j, z, e5, e6, q3⟩ := intD_of q2
  obtain ⟨a', vs, e7, e8, e9, _⟩ := R1.at e3
  rw [e1] at e7
  cases e7
  have pk := O1.peek R1
  rw [e4] at pk
  obtain ⟨vz, g1, g2⟩ := e9.get e6
  cases g2
  refine ⟨a, vs, n, .int z, rfl, pk.int, SqL.of e8, ?_, G1, s1, _, R1, q3, fun r2 s2 v2 H2 G2 q4 R2 S2 K2 O2 => ?_⟩
  · unfold L2.atI
    rw [show L2.ixN vs.length n = ixN ds.length n by rw [e9.length]; rfl, e5]
    exact g1
  obtain ⟨ds2, e10, q5⟩ := ownAt_of q4
  obtain ⟨y, e11, hl, q6⟩ := intD_of q5
  have pk2 := O2.peek R2
  rw [e11] at pk2
  obtain ⟨a', vs2, e12, e13, e14, _⟩ := R2.at e10
  rw [e1] at e12
  cases e12
  refine ⟨_, _, rfl, pk2.int, a, vs2, n, j, rfl, pk.int, e13, by rw [e14.length, hl]; exact e5, ?_⟩
  exact k.nx _ _ _ _ q6 (R2.change e10 e1 (e14.set j (.int _))) (S1.trans S2)
theorem feed_set {fa sa : Addr} {w : W} {kk : Nat} (h1 : 1 ≤ kk) (h3 : kk ≤ 3) (n : Int) : ([V.ref sa, V.int w.ix, V.int w.big, V.int w.seed] : List V).set kk (.int n) = [V.ref sa, V.int (w.set kk n).ix, V.int (w.set kk n).big, V.int (w.set kk n).seed] ∧ (w.set kk n).sc = w.sc := by
  have : kk = 1 ∨ kk = 2 ∨ kk = 3 := by omega
  rcases this with rfl | rfl | rfl <;> exact ⟨rfl, rfl⟩
theorem ixN4 {kk : Nat} (h1 : 1 ≤ kk) (h3 : kk ≤ 3) (l : List V) (hl : l.length = 4) : L2.ixN l.length (kk : Int) = some kk := by
  unfold L2.ixN
  rw [hl, if_pos (by omega), if_pos (by omega)]
  simp
theorem ds_feed (i kk : Nat) {y : Pos} {jj : Nat} {kp tpos : Pos} [o : Ok X c] (he : PE X e (tE c m)) (hN : X.N[i]? = some x := by rfl) (hv : Vis X.env.scope x := by first | exact Or.inl rfl | exact Or.inr (Or.inl rfl) | exact Or.inr (Or.inr rfl))
    (hd : (x == ("__debug__" : Str)) = false := by decide) (hcd : (x == ("__classdict__" : Str)) = false := by decide)
    (hs : swapsWithSole [.Subscript (.Name x y) (.Constant (.int kk) jj kp) tpos] e pos.line X.env = pure false := by rfl) (hw : swappedStores [.Subscript (.Name x y) (.Constant (.int kk) jj kp) tpos] e X.env = pure none := by rfl) :
    PS X (.Assign [.Subscript (.Name x y) (.Constant (.int kk) jj kp) tpos] e pos) (tS c (sFeed i kk m)) := by
  refine ps_imp (ps_asg he (pg_sub (pe_var hN hv hd hcd) pe_int set_list) hs hw) ?_
  rintro D σ H ⟨G, s, O, R, h, k⟩
  obtain ⟨⟨h1, h3⟩, h⟩ := h
  refine ⟨G, s, _, R, h, fun r s1 v H1 G1 q R1 S1 K1 O1 => ?_⟩
  obtain ⟨e0, q2⟩ := feedAt_of q
  obtain ⟨n, e4, q3⟩ := intD_of q2
  obtain ⟨fa, e1, e2⟩ := R1.at e0
  obtain ⟨z1, sa, z2, z3⟩ := R1.fd fa e2
  have pk := O1.peek R1
  rw [e4] at pk
  refine ⟨.ref fa, e1, fa, _, kk, kk, rfl, rfl, z2, ixN4 h1 h3 _ rfl, ?_⟩
  obtain ⟨f1, f2⟩ := feed_set (fa := fa) (sa := sa) (w := s1.w) h1 h3 n
  rw [pk.int, f1]
  exact k.nx _ _ _ _ q3 (R1.feed e2 z3 f2) S1
theorem ds_feedA (i kk : Nat) {n : Int} {y : Pos} {jj jn : Nat} {kp np tpos : Pos} [o : Ok X c] (hN : X.N[i]? = some x := by rfl) (hv : Vis X.env.scope x := by first | exact Or.inl rfl | exact Or.inr (Or.inl rfl) | exact Or.inr (Or.inr rfl))
    (hd : (x == ("__debug__" : Str)) = false := by decide) (hcd : (x == ("__classdict__" : Str)) = false := by decide) :
    PS X (.AugAssign (.Subscript (.Name x y) (.Constant (.int kk) jj kp) tpos) .Add (.Constant (.int n) jn np) pos) (tS c (sFeedA i kk n)) := by
  refine ps_imp (ps_augS (pe_var hN hv hd hcd) pe_int pget_list pe_int ip_add set_list) ?_
  rintro D σ H ⟨G, s, O, R, h, k⟩
  obtain ⟨⟨h1, h3⟩, h⟩ := h
  obtain ⟨e0, q3⟩ := feedAt_of h
  obtain ⟨fa, e1, e2⟩ := R.at e0
  obtain ⟨z1, sa, z2, z3⟩ := R.fd fa e2
  refine ⟨.ref fa, e1, fa, _, kk, .int (s.w.at kk), rfl, rfl, SqL.of z2, ?_, s.w.at kk, n, rfl, rfl, fa, _, kk, kk, rfl, rfl, z2, ixN4 h1 h3 _ rfl, ?_⟩
  · unfold L2.atI
    rw [ixN4 h1 h3 _ rfl]
    have : kk = 1 ∨ kk = 2 ∨ kk = 3 := by omega
    rcases this with rfl | rfl | rfl <;> rfl
  · obtain ⟨f1, f2⟩ := feed_set (fa := fa) (sa := sa) (w := s.w) h1 h3 (s.w.at kk + n)
    rw [f1]
    exact k.nx _ _ _ _ q3 (R.feed e2 z3 f2) (Same.refl _)
/-- xs.pop(k) -/
theorem pop_run {i : Nat} {kx : Expr} {Qd : D → S → Prop} [o : Ok X c] (R : Rel c σ H G s) (h : popD i m s Qd) {Q : VK} (hQ : ∀ d s' v H' G', Qd d s' → Rel c σ H' G' s' → Same G G' → Dg c.K G' v d → Q v H') :
    tBM X.K "list" rPopAt (tVar i) (tCons (tE c m) tNil) σ H Q := by
  unfold popD at h
  obtain ⟨ds0, e0, h⟩ := ownAt_of h
  obtain ⟨a, vs0, e1, e2, _⟩ := R.at e0
  refine ⟨.ref a, e1, .inl ⟨rfl, vs0, SqL.of e2⟩, G, s, _, R, h, fun r s1 v H1 G1 q R1 S1 K1 O1 => ?_⟩
  obtain ⟨ds, e3, q2⟩ := ownAt_of q
  obtain ⟨n, e4, j, d, e5, e6, ⟨b1, b2⟩, q3⟩ := intD_of q2
  obtain ⟨a', vs, e7, e8, e9, _⟩ := R1.at e3
  rw [e1] at e7
  cases e7
  have pk := O1.peek R1
  rw [e4] at pk
  obtain ⟨u, g1, g2⟩ := e9.get e6
  have hj : seqIndex? n vs.length = some j := (ixN_seq (show L2.ixN vs.length n = some j by rw [e9.length]; exact e5)).1
  exact ⟨a, vs, n, j, u, rfl, by rw [pk.int], e8, b1, b2, hj, g1, hQ _ _ _ _ _ q3 (R1.change e3 e1 (e9.eraseIdx j)) S1 g2⟩
theorem ds_pop (i : Nat) {y : Pos} {kx : Expr} {apos cpos : Pos} [o : Ok X c] (hk : PE X kx (tE c m)) (hN : X.N[i]? = some x := by rfl) (hv : Vis X.env.scope x := by first | exact Or.inl rfl | exact Or.inr (Or.inl rfl) | exact Or.inr (Or.inr rfl))
    (hd : (x == ("__debug__" : Str)) = false := by decide) (hcd : (x == ("__classdict__" : Str)) = false := by decide) (hs0 : starEach [kx] X.env = (false, eval kx X.env) :: starEach [] X.env := by rfl)
    (hfew : ((backTo cpos (starEach (kx :: []) X.env)).all (fun x => !x.1) && (backToKw cpos (keywordEach [] X.env)).all (fun x => x.1.isSome)
      && decide ((kx :: []).length + ([] : List Keyword).length + (if ([] : List Keyword).isEmpty then 0 else 1) < 30)) = true := by rfl)
    (hbase : attributeBase (.Name x y) "pop" X.env (eval (.Name x y) X.env) = eval (.Name x y) X.env := by rfl) (hline : (apos.endLine == cpos.line) = true := by rfl) (hpl : (backTo cpos (starEach [] X.env)).any (·.1) = false := by rfl)
    (hs : swapsWith (.Call (.Attribute (.Name x y) "pop" apos) [kx] [] cpos) none pos.line X.env = pure false := by rfl) : PS X (.Expr (.Call (.Attribute (.Name x y) "pop" apos) [kx] [] cpos) pos) (tS c (sPop i m)) := by
  refine ps_imp (ps_expr (pe_bm PySem.F.plainAttrs_list PySem.F.slot_list_pop PySem.F.type_list_pop mt_popAt (pe_var hN hv hd hcd) (pa_cons hk pa_nil hs0) hbase hfew hline hs0 hpl) hs) ?_
  rintro D σ H ⟨G, s, O, R, h, k⟩
  exact pop_run (kx := kx) R h fun d s' v H' G' q R' S' dg => k.nx _ _ _ _ q R' S'
theorem ds_addPop (j i : Nat) {z : Str} {py pz y : Pos} {kx : Expr} {apos cpos bpos : Pos} [o : Ok X c] (hk : PE X kx (tE c m)) (hz : X.N[j]? = some z := by rfl) (hN : X.N[i]? = some x := by rfl)
    (hvz : Vis X.env.scope z := by first | exact Or.inl rfl | exact Or.inr (Or.inl rfl) | exact Or.inr (Or.inr rfl)) (hlz : Loc X.env.scope z := by first | exact Or.inl rfl | exact Or.inr rfl) (hv : Vis X.env.scope x := by first | exact Or.inl rfl | exact Or.inr (Or.inl rfl) | exact Or.inr (Or.inr rfl))
    (hdz : (z == ("__debug__" : Str)) = false := by decide) (hcdz : (z == ("__classdict__" : Str)) = false := by decide)
    (hd : (x == ("__debug__" : Str)) = false := by decide) (hcd : (x == ("__classdict__" : Str)) = false := by decide) (hs0 : starEach [kx] X.env = (false, eval kx X.env) :: starEach [] X.env := by rfl)
    (hfew : ((backTo cpos (starEach (kx :: []) X.env)).all (fun x => !x.1) && (backToKw cpos (keywordEach [] X.env)).all (fun x => x.1.isSome)
      && decide ((kx :: []).length + ([] : List Keyword).length + (if ([] : List Keyword).isEmpty then 0 else 1) < 30)) = true := by rfl)
    (hbase : attributeBase (.Name x y) "pop" X.env (eval (.Name x y) X.env) = eval (.Name x y) X.env := by rfl) (hline : (apos.endLine == cpos.line) = true := by rfl) (hpl : (backTo cpos (starEach [] X.env)).any (·.1) = false := by rfl)
    (hs : swapsWith (.BinOp (.Name z pz) .Add (.Call (.Attribute (.Name x y) "pop" apos) [kx] [] cpos) bpos) (some (.Name z py)) pos.line X.env = pure false := by rfl)
    (hf : X.fn z = true ∨ X.env.scope.names.lookup z = some .local := by first | exact .inl rfl | exact .inr rfl) :
    PS X (.Assign [.Name z py] (.BinOp (.Name z pz) .Add (.Call (.Attribute (.Name x y) "pop" apos) [kx] [] cpos) bpos) pos) (tS c (sAddPop j i m)) := by
  refine ps_imp (ps_set o.nd hz hlz (pe_op op_add_str (pe_var hz hvz hdz hcdz) (pe_bm PySem.F.plainAttrs_list PySem.F.slot_list_pop PySem.F.type_list_pop mt_popAt (pe_var hN hv hd hcd) (pa_cons hk pa_nil hs0) hbase hfew hline hs0 hpl)) hs hf) ?_
  rintro D σ H ⟨G, s, O, R, h, k⟩
  unfold sAddPop at h
  split at h
  · rename_i l e1
    obtain ⟨v, e2, dg⟩ := R.at e1
    cases dg
    refine ⟨_, e2, pop_run (kx := kx) R h fun d s' v H' G' q R' S' dg => ?_⟩
    split at q
    · cases dg
      refine ⟨_, _, rfl, rfl, by rw [len_sT, len_sT, ← lineEq]; exact q.1, ?_⟩
      rw [sT_append]
      exact k.nx _ _ _ _ q.2 (R'.put_val (.str _)) S'
    · exact q.elim
  · exact h.elim
/-! ### loops -/
theorem ds_for {tg iter : Expr} {body : List Stmt} {src : Src} {g : Gt} {is : List Nat} [o : Ok X c] [cm : Calm X] (hp : PassesOwn (model X.prog X.w) X.A X.env X.xe) (hi : PI X tg iter (tI c src)) (hg : PG X tg (tG c is g)) (hb : PSs X body (tS c u))
    (hs : ∀ x, foldedSetIterable iter X.env x = pure x := by intro _; rfl) : PS X (.For tg iter body [] pos) (tS c (sFor src g u)) := by
  refine ps_imp (ps_for hp cm.calm hi hg hb hs) ?_
  rintro D σ H ⟨G, s, O, R, h, k⟩
  refine ⟨G, s, _, R, h, fun ds s1 J H1 G1 q R1 S1 K1 Wk => ?_⟩
  refine ⟨fun i n σ H => ∃ G s, i + n = ds.length ∧ Rel c σ H G s ∧ Same G1 G ∧ forL g u (ds.drop i) s O, ⟨ds.length, G1, s1, by omega, R1, Same.refl _, q⟩, ?_⟩
  rintro i n σ2 H2 ⟨G2, s2, ei, R2, S2, q2⟩
  by_cases hi' : i < ds.length
  · right
    refine ⟨Wk.go i H2 G2 hi' S2 R2.gH, fun σ' H' => ∃ G s, i + 1 + (n - 1) = ds.length ∧ Rel c σ' H' G s ∧ Same G1 G ∧ forL g u (ds.drop (i + 1)) s O, fun σ' H' h => ⟨n - 1, by omega, h⟩, fun x H3 y => ?_⟩
    obtain ⟨G3, R3, S3, K3, dx⟩ := Wk.yld c _ i H2 G2 H3 _ x (ds[i]) rfl R2 S2 (by simp) y
    have ed : ds.drop i = ds[i] :: ds.drop (i + 1) := by rw [← List.drop_eq_getElem_cons hi']
    rw [ed] at q2
    refine ⟨G3, s2, _, _, R3, dx, q2, fun s4 σ4 H4 G4 q4 R4 C4 S4 K4 => ⟨G4, s4, _, R4, q4, ?_⟩⟩
    have ss : Same G1 G4 := (S2.trans S3).trans S4
    refine ⟨fun s' σ' H' G' q R' S' => ⟨G', s', by omega, R', ss.trans S', q⟩, fun s' σ' H' G' q R' S' => k.nx _ _ _ _ q R' ((S1.trans ss).trans S'), fun s' σ' H' G' q R' S' => ⟨G', s', by omega, R', ss.trans S', q⟩, fun r s' v σ' H' G' q R' S' => k.rt _ _ _ _ _ _ q R' ((S1.trans ss).trans S')⟩
  · left
    have e0 : i = ds.length := by omega
    subst e0
    rw [List.drop_length] at q2
    exact ⟨Wk.stop H2 G2 S2 R2.gH, k.nx _ _ _ _ q2 R2 (S1.trans S2)⟩
theorem ds_while {d : Expr} {body : List Stmt} (hp : PassesOwn (model X.prog X.w) X.A X.env X.xe) (hd : PT X d (tT c t)) (hb : PSs X body (tS c u)) : PS X (.While d body [] pos) (tS c (sWhile t u)) := by
  refine ps_imp (ps_while hp hd hb) ?_
  rintro D σ H ⟨G, s, O, R, ⟨I, ⟨m0, i0⟩, turn⟩, k⟩
  refine ⟨fun n σ H => ∃ G1 s, Rel c σ H G1 s ∧ Same G G1 ∧ I n s, ⟨m0, G, s, R, Same.refl _, i0⟩, ?_⟩
  rintro n σ1 H1 ⟨G1, s1, R1, S1, i1⟩
  refine ⟨G1, s1, _, R1, turn n s1 i1, fun b s2 H2 G2 q R2 S2 K2 => ?_⟩
  cases b with
  | true =>
    rw [if_pos rfl] at q
    refine iteT ⟨fun σ' H' => ∃ m', m' < n ∧ ∃ G1 s, Rel c σ' H' G1 s ∧ Same G G1 ∧ I m' s, fun σ' H' h => h, G2, s2, _, R2, q, ?_⟩
    have ss := S1.trans S2
    refine ⟨fun s' σ' H' G' ⟨m', hm, q⟩ R' S' => ⟨m', hm, G', s', R', ss.trans S', q⟩, fun s' σ' H' G' q R' S' => k.nx _ _ _ _ q R' (ss.trans S'), fun s' σ' H' G' ⟨m', hm, q⟩ R' S' => ⟨m', hm, G', s', R', ss.trans S', q⟩, fun r s' v σ' H' G' q R' S' => k.rt _ _ _ _ _ _ q R' (ss.trans S')⟩
  | false =>
    rw [if_neg Bool.false_ne_true] at q
    exact iteF (k.nx _ _ _ _ q R2 (S1.trans S2))
end
end DL

/-! DLS10: defs. -/
namespace DL
open PySem PySem.Spec PyProof.Rows L2
/-! ### defs -/
section
variable {P : Program} {w : World} {K : PySem.W.Frag} {mg : Str → Option Value} {base : Heap}
theorem start_get {N : List Str} {vs : List V} {i : Nat} {v : V} (h : vs[i]? = some v) : (L2.start N vs)[i]? = some (some v) := by
  unfold L2.start
  have hi : i < vs.length := (List.getElem?_eq_some_iff.mp h).1
  rw [List.getElem?_append_left (by simpa using hi), List.getElem?_map, h]
  rfl
theorem get_vals : ∀ (ds : List D) (n i : Nat), get (ds.map Slot.val ++ List.replicate n .gone) i = match ds[i]? with
    | some d => .val d
    | none => .gone
  | [], 0, i => rfl
  | [], n + 1, 0 => rfl
  | [], n + 1, i + 1 => by
    have := get_vals [] n i
    simpa [List.replicate_succ, get] using this
  | d :: ds, n, 0 => rfl
  | d :: ds, n, i + 1 => by
    have := get_vals ds n i
    simpa [get] using this
theorem start_length {N : List Str} {vs : List V} (h : vs.length ≤ N.length) : (L2.start N vs).length = N.length := by
  unfold L2.start
  rw [List.length_append, List.length_map, List.length_replicate]
  omega
/-- at a def's entry: arguments alone -/
theorem rel_start {N : List Str} {vs : List V} {ds : List D} {G0 H : Hp} {w : W} (gH : Same G0 H) (h : Dgs K G0 vs ds) (hl : vs.length ≤ N.length) : Rel ⟨K, G0, H, none, fun _ => False, mg, none⟩ (L2.start N vs) H G0 ⟨ds.map Slot.val ++ List.replicate (N.length - ds.length) .gone, w⟩ := by
  have sl : ∀ i, SlotOk ⟨K, G0, H, none, fun _ => False, mg, none⟩ H G0 (L2.start N vs)[i]? (get (ds.map Slot.val ++ List.replicate (N.length - ds.length) .gone) i) ∧ (get (ds.map Slot.val ++ List.replicate (N.length - ds.length) .gone) i).isOwn = false := fun i => by
    rw [get_vals]
    cases e : ds[i]? with
    | none => exact ⟨trivial, rfl⟩
    | some d =>
      obtain ⟨v, h1, h2⟩ := h.get e
      exact ⟨⟨v, start_get h1, h2⟩, rfl⟩
  refine ⟨Same.refl _, gH, fun b o e _ => e, fun a o e => .inl e, ?_, fun i => (sl i).1, fun i j a hij h1 _ _ _ => ?_, fun a e => (nomatch e), fun a e => e.elim⟩
  · show (ds.map Slot.val ++ List.replicate (N.length - ds.length) Slot.gone).length = _
    rw [start_length hl, List.length_append, List.length_map, List.length_replicate]
    have := h.length
    omega
  · have h1 : (get (ds.map Slot.val ++ List.replicate (N.length - ds.length) .gone) i).isOwn = true := h1
    rw [(sl i).2] at h1
    cases h1
theorem rel_startF {N : List Str} {fa : Addr} {vs : List V} {ds : List D} {G0 H : Hp} {w : W} (gH : Same G0 H) (fd : FeedOk (some fa) H G0 w) (h : Dgs K G0 vs ds) (hl : vs.length + 1 ≤ N.length) :
    Rel ⟨K, G0, H, some fa, fun _ => False, mg, none⟩ (L2.start N (.ref fa :: vs)) H G0 ⟨.feed :: ds.map Slot.val ++ List.replicate (N.length - 1 - ds.length) .gone, w⟩ := by
  have gv : ∀ i, get (Slot.feed :: ds.map Slot.val ++ List.replicate (N.length - 1 - ds.length) .gone) (i + 1) = match ds[i]? with
    | some d => .val d
    | none => .gone := fun i => get_vals ds (N.length - 1 - ds.length) i
  have sl : ∀ i, SlotOk ⟨K, G0, H, some fa, fun _ => False, mg, none⟩ H G0 (L2.start N (.ref fa :: vs))[i]? (get (Slot.feed :: ds.map Slot.val ++ List.replicate (N.length - 1 - ds.length) .gone) i) ∧ (get (Slot.feed :: ds.map Slot.val ++ List.replicate (N.length - 1 - ds.length) .gone) i).isOwn = false := fun i => by
    cases i with
    | zero => exact ⟨⟨fa, start_get rfl, rfl⟩, rfl⟩
    | succ i =>
      rw [gv]
      cases e : ds[i]? with
      | none => exact ⟨trivial, rfl⟩
      | some d =>
        obtain ⟨v, h1, h2⟩ := h.get e
        exact ⟨⟨v, start_get (by simpa using h1), h2⟩, rfl⟩
  refine ⟨Same.refl _, gH, fun b o e _ => e, fun a o e => .inl e, ?_, fun i => (sl i).1, fun i j a hij h1 _ _ _ => ?_, fd, fun a e => e.elim⟩
  · show (Slot.feed :: ds.map Slot.val ++ List.replicate (N.length - 1 - ds.length) Slot.gone).length = _
    rw [start_length (by simpa using hl), List.length_append, List.length_cons, List.length_map, List.length_replicate]
    have := h.length
    omega
  · have h1 : (get (Slot.feed :: ds.map Slot.val ++ List.replicate (N.length - 1 - ds.length) .gone) i).isOwn = true := h1
    rw [(sl i).2] at h1
    cases h1
/-- the context of a def's body -/
abbrev bodyCx (P : Program) (w : World) (K : PySem.W.Frag) (mg : Str → Option Value) (base : Heap) (N : List Str) (qual : Str) (scope : Scope) (f : Addr) (cdv : Value) (A : Around) (outer : List PySem.Env) (s : Shared) (H : Hp) (E : XK) : Cx := (cxOf CX0 P w K mg base N qual scope f cdv A outer s H E).nox
theorem ok_body {N : List Str} {qual : Str} {scope : Scope} {f : Addr} {cdv : Value} {A : Around} {outer : List PySem.Env} {s : Shared} {H : Hp} {E : XK} {k : Nat} {c : Ct} (hr : Room k (A.deeper (envOfC qual scope s.heap.objs.size f cdv))) (nd : N.Nodup) (blt : ∀ x ∈ bltNames, mg x = none) (hK : c.K = K) (hM : c.mg = mg) (hX : c.xe = none) :
    Ok (bodyCx P w K mg base N qual scope f cdv A outer s H E) c := ⟨hK.symm, blt, by have := hr.un; show (A.deeper (envOfC qual scope s.heap.objs.size f cdv)).units + 66 < _; omega, nd, hM.symm, fun _ => hX⟩
/-- a def by its body's meaning -/
theorem fn_ok {x qual : Str} {st : Stmt} {f : Addr} {fd : FuncData} {N ps : List Str} {k : Nat} {body : MS} {spec : Sem} (F : Fun K x qual st f fd) (Sc : FnScope N ps (defScope st)) (len : ∀ ds w Q, spec ds w Q → ds.length = ps.length) (blt : ∀ x ∈ bltNames, mg x = none)
    (hbody : ∀ (cdv : Value) (A : Around) (outer : List PySem.Env) (s : Shared) (H : Hp) (E : XK) (c : Ct), Room k (A.deeper (envOfC qual (defScope st) s.heap.objs.size f cdv)) → Ok (bodyCx P w K mg base N qual (defScope st) f cdv A outer s H E) c → PSs (bodyCx P w K mg base N qual (defScope st) f cdv A outer s H E) (defBody st) (tS c body))
    (vc : ∀ ds w Q, spec ds w Q → run N.length body ds w Q) : FnOk P w K mg base CX0 (k + 1) f fd ps (spD K spec) := by
  refine F.ok Sc (fun vs H Q E h => ?_) (fun cdv A outer s H vs Q E hr h => ?_)
  · obtain ⟨G0, ds, w, Qd, _, h2, h3, _⟩ := h
    rw [h2.length]
    exact len _ _ _ h3
  · obtain ⟨G0, ds, w', Qd, h1, h2, h3, h4⟩ := h
    have hpl : ps.length ≤ N.length := by have := congrArg List.length Sc.pre; rw [List.length_take] at this; omega
    have hl := len _ _ _ h3
    have hl2 := h2.length
    have fin : ∀ {r : DL.R} {s' : S} {v : V} {σ' : St} {H' G' : Hp}, Qd r s'.w → Rel ⟨K, G0, H, none, fun _ => False, mg, none⟩ σ' H' G' s' → RetR ⟨K, G0, H, none, fun _ => False, mg, none⟩ H' G' v r → Q v H' := fun {r s' v σ' H' G'} q R h => by
      refine h4 _ _ _ _ _ q ⟨R.g0, R.gH, R.kH, R.gN, ?_⟩
      cases r with
      | val d => exact h
      | own ds => exact h
      | bor ds => exact h
    refine ⟨_, hbody cdv A outer s H E ⟨K, G0, H, none, fun _ => False, mg, none⟩ hr (ok_body hr Sc.nd blt rfl rfl rfl), G0, _, _, rel_start (w := w') h1 h2 (by omega), vc _ _ _ h3, ?_⟩
    exact ⟨fun s' σ' H' G' q R S => fin q R .non, fun s' σ' H' G' q R S => q.elim, fun s' σ' H' G' q R S => q.elim, fun r s' v σ' H' G' q R S h => fin q R h⟩
theorem fn_okF {x qual : Str} {st : Stmt} {f : Addr} {fd : FuncData} {N ps : List Str} {k : Nat} {body : MS} {spec : Sem} (F : Fun K x qual st f fd) (Sc : FnScope N ps (defScope st)) (len : ∀ ds w Q, spec ds w Q → ds.length + 1 = ps.length) (blt : ∀ x ∈ bltNames, mg x = none)
    (hbody : ∀ (cdv : Value) (A : Around) (outer : List PySem.Env) (s : Shared) (H : Hp) (E : XK) (c : Ct), Room k (A.deeper (envOfC qual (defScope st) s.heap.objs.size f cdv)) → Ok (bodyCx P w K mg base N qual (defScope st) f cdv A outer s H E) c → PSs (bodyCx P w K mg base N qual (defScope st) f cdv A outer s H E) (defBody st) (tS c body))
    (vc : ∀ ds w Q, spec ds w Q → runF N.length body ds w Q) : FnOk P w K mg base CX0 (k + 1) f fd ps (spF K spec) := by
  refine F.ok Sc (fun vs H Q E h => ?_) (fun cdv A outer s H vs Q E hr h => ?_)
  · obtain ⟨fa, us, G0, ds, w, Qd, e, _, _, h2, h3, _⟩ := h
    rw [e, List.length_cons, h2.length]
    exact len _ _ _ h3
  · obtain ⟨fa, us, G0, ds, w', Qd, e, h1, hfd, h2, h3, h4⟩ := h
    subst e
    have hpl : ps.length ≤ N.length := by have := congrArg List.length Sc.pre; rw [List.length_take] at this; omega
    have hl := len _ _ _ h3
    have hl2 := h2.length
    have fin : ∀ {r : DL.R} {s' : S} {v : V} {σ' : St} {H' G' : Hp}, Qd r s'.w → Rel ⟨K, G0, H, some fa, fun _ => False, mg, none⟩ σ' H' G' s' → RetR ⟨K, G0, H, some fa, fun _ => False, mg, none⟩ H' G' v r → Q v H' := fun {r s' v σ' H' G'} q R h => by
      refine h4 _ _ _ _ _ q ⟨R.g0, R.gH, R.kH, R.gN, ?_⟩ R.fd
      cases r with
      | val d => exact h
      | own ds => exact h
      | bor ds => exact h
    refine ⟨_, hbody cdv A outer s H E ⟨K, G0, H, some fa, fun _ => False, mg, none⟩ hr (ok_body hr Sc.nd blt rfl rfl rfl), G0, _, _, rel_startF (w := w') h1 hfd h2 (by omega), vc _ _ _ h3, ?_⟩
    exact ⟨fun s' σ' H' G' q R S => fin q R .non, fun s' σ' H' G' q R S => q.elim, fun s' σ' H' G' q R S => q.elim, fun r s' v σ' H' G' q R S h => fin q R h⟩
end
end DL

/-! DLS11: module constants, defs that are known, methods of texts. -/
namespace DL
open PySem PySem.Spec PyProof.Rows L2
/-- a module's constant -/
def KC (K : PySem.W.Frag) (mg : Str → Option Value) (x : Str) (d : D) : Prop := ∃ u v, mg x = some u ∧ RelV v u ∧ ∀ G, Dg K G v d
/-- a def of the module keeps sp, by at most k levels -/
structure FK (P : Program) (w : World) (K : PySem.W.Frag) (mg : Str → Option Value) (base : Heap) (x : Str) (k : Nat) (sp : Sp) : Prop where
  ex : ∃ (f : Addr) (fd : FuncData) (ps : List Str), FnOk P w K mg base CX0 k f fd ps sp ∧ mg x = some (.ref f) ∧ PySem.W.keepIn K (.ref f) = true ∧ Binds K fd ps []
section
variable {P : Program} {w : World} {K : PySem.W.Frag} {mg : Str → Option Value} {base : Heap}
theorem FK.kn {N : List Str} {qual : Str} {scope : Scope} {f : Addr} {cdv : Value} {A : Around} {outer : List PySem.Env} {s : Shared} {H : Hp} {E : XK} {j k : Nat} {x : Str} {sp : Sp} (F : FK P w K mg base x k sp) (hr : Room j (A.deeper (envOfC qual scope s.heap.objs.size f cdv))) (h : k ≤ j) :
    Kn (bodyCx P w K mg base N qual scope f cdv A outer s H E) x sp := by
  obtain ⟨f', fd, ps, h1, h2, h3, h4⟩ := F.ex
  exact ⟨⟨k, f', fd, ps, h1, hr.mono h, h2, h3, h4⟩⟩
end
section
variable {X : Cx} {c : Ct} {a b e : Expr} {es : List Expr} {m m1 m2 m3 : M} {ms : Ms} {t t1 t2 : T} {pos p : Pos} {σ : St} {H G : Hp} {s : S} {x : Str} {id ty : String}
theorem de_globK {d : D} (h : KC X.K X.mg x d) [o : Ok X c] (hg : Gl X x := by rfl) (hd : (x == ("__debug__" : Str)) = false := by decide) : PE X (.Name x pos) (tE c (mC d)) := by
  obtain ⟨u, v, h1, h2, h3⟩ := h
  exact de_glob hg h1 h2 (fun G => o.K ▸ h3 G) hd
/-! ### methods of texts -/
theorem sT_tl (l : List Nat) : TL.tl (sT l) = l := rfl
theorem one_len (ch : Nat) : (sT [ch]).length = 1 := rfl
theorem fst_lt {ch : Nat} : ∀ {l : List Nat}, ch ∈ l → fstIx ch l < l.length
  | [], h => by simp at h
  | x :: r, h => by
    unfold fstIx
    by_cases e : x = ch
    · rw [if_pos e]; simp
    · rw [if_neg e]
      have := fst_lt (l := r) (ch := ch) (by rcases List.mem_cons.mp h with z | z; exact absurd z.symm e; exact z)
      simp only [List.length_cons]
      omega
theorem fst_at {ch : Nat} : ∀ {l : List Nat}, ch ∈ l → l[fstIx ch l]? = some ch ∧ ∀ k, k < fstIx ch l → l[k]? ≠ some ch
  | [], h => by simp at h
  | x :: r, h => by
    unfold fstIx
    by_cases e : x = ch
    · subst e
      rw [if_pos rfl]
      exact ⟨rfl, fun k hk => absurd hk (Nat.not_lt_zero _)⟩
    · rw [if_neg e]
      obtain ⟨h1, h2⟩ := fst_at (l := r) (ch := ch) (by rcases List.mem_cons.mp h with z | z; exact absurd z.symm e; exact z)
      refine ⟨by simpa using h1, fun k hk => ?_⟩
      cases k with
      | zero => simpa using e
      | succ k => simpa using h2 k (by omega)
theorem at_one {ch : Nat} {l : List Nat} {i : Nat} : PySem.StrLaws.At (sT l) (sT [ch]) (sT l).length i ↔ l[i]? = some ch := by
  have := PySem.StrLaws.subAt_one (sT l) ch i
  simpa [PySem.StrLaws.At] using this
theorem occ_fst {ch : Nat} {l : List Nat} (h : ch ∈ l) : ∃ rest, Builtin.Str.occurrences (sT l) (sT [ch]) 0 (sT l).length 1 = fstIx ch l :: rest := by
  obtain ⟨h1, h2⟩ := fst_at h
  rcases PySem.StrLaws.occ_head (sT l) (sT [ch]) 1 (Nat.le_refl 1) with ⟨_, hn⟩ | ⟨i, r, e, ha, hn⟩
  · exact absurd (at_one.mpr h1) (hn _)
  · have hi : i = fstIx ch l := by
      rcases Nat.lt_trichotomy i (fstIx ch l) with z | z | z
      · exact absurd (at_one.mp ha) (h2 i z)
      · exact z
      · exact absurd (at_one.mpr h1) (hn _ z)
    exact ⟨r, by rw [e, hi]⟩
theorem spl_split {ch : Nat} : ∀ (l acc : List Nat), TL.spl [ch] 0 acc l = match splitC ch l with
    | [] => []
    | p :: ps => (acc ++ p) :: ps
  | [], acc => by simp [TL.spl_nil, splitC]
  | x :: r, acc => by
    unfold splitC
    by_cases e : x = ch
    · subst e
      rw [if_pos rfl, TL.spl_hit (by simp [TL.pre])]
      have ih := spl_split (ch := x) r []
      simp only [List.length_singleton, Nat.sub_self]
      rw [ih]
      cases splitC x r <;> simp
    · rw [if_neg e, TL.spl_miss (by simp [TL.pre, e]), spl_split r (acc ++ [x])]
      cases q : splitC ch r with
      | nil =>
        exfalso
        cases r with
        | nil => simp [splitC] at q
        | cons y r =>
          unfold splitC at q
          split at q
          · cases q
          · split at q <;> cases q
      | cons p ps => simp
theorem split_eq {ch : Nat} (l : List Nat) (hc : ch < 256) : (Txt.split (sT l) (sT [ch])).map TL.tl = splitC ch l := by
  rw [TL.split_spl _ _ (by simp [TL.tl]) (TL.kind_ok (by simpa using hc)), sT_tl, sT_tl, spl_split]
  cases splitC ch l <;> simp
theorem splitC_ne {ch : Nat} : ∀ l : List Nat, splitC ch l ≠ []
  | [] => by simp [splitC]
  | x :: r => by
    unfold splitC
    by_cases e : x = ch
    · rw [if_pos e]; simp
    · rw [if_neg e]
      cases splitC ch r <;> simp
theorem count_eq {ch : Nat} (l : List Nat) (hc : ch < 256) : Txt.count (sT l) (sT [ch]) = (((splitC ch l).length - 1 : Nat) : Int) := by
  have h := congrArg List.length (split_eq l hc)
  rw [List.length_map] at h
  unfold Txt.count
  rw [← h]
  unfold Txt.split
  have hk : decide (Builtin.Str.strKind (sT l) < Builtin.Str.strKind (sT [ch])) = false := decide_eq_false (TL.kind_ok (by simpa using hc))
  rw [hk, Bool.or_false]
  by_cases hl : (sT l).length < (sT [ch]).length
  · rw [if_pos (decide_eq_true hl)]
    rcases PySem.StrLaws.occ_head (sT l) (sT [ch]) ((sT l).length + 1) (by omega) with ⟨e, _⟩ | ⟨i, r, e, ha, _⟩
    · rw [e]; rfl
    · have := ha.1; omega
  · rw [if_neg (by rw [decide_eq_false hl]; exact Bool.false_ne_true)]
    cases e : Builtin.Str.occurrences (sT l) (sT [ch]) 0 (sT l).length ((sT l).length + 1) with
    | nil => rfl
    | cons i r =>
      rw [if_neg (by simp), PySem.length_partsBetween]
      rfl
theorem isS_of {d : D} {k : Prop} (h : isS d k) : (∃ l, d = .str l) ∧ k := by
  unfold isS at h
  split at h
  · exact ⟨⟨_, rfl⟩, h⟩
  · exact h.elim
theorem isL_of {d : D} {k : Prop} (h : isL d k) : (∃ l, d = .list l) ∧ k := by
  unfold isL at h
  split at h
  · exact ⟨⟨_, rfl⟩, h⟩
  · exact h.elim
theorem mMS_run {f : D → D → (R → Prop) → Prop} {r : V → List V → Hp → VK → Prop} (ho : OpD c f (fun x y H Q => r x [y] H Q)) : ∀ σ H Q, tE c (mMS f m1 m2) σ H Q → tM1 r (tE c m1) (tE c m2) σ H Q := by
  rintro σ H Q ⟨G, s, Q0, R, hm, hQ⟩
  refine ⟨G, s, _, R, hm, fun r1 s1 v1 H1 G1 q1 R1 S1 K1 O1 => ?_⟩
  obtain ⟨⟨l, e⟩, q1⟩ := isS_of q1
  have p1 := O1.peek R1
  refine ⟨⟨sT l, by rw [e] at p1; exact p1.str⟩, G1, s1, _, R1, q1, fun r2 s2 v2 H2 G2 q2 R2 S2 K2 O2 => ?_⟩
  exact ho R2 (p1.keep S2 K2) (O2.peek R2) q2 fun r v H' G' q R' S' K' O' => hQ r s2 v H' G' q R' ((S1.trans S2).trans S') ((K1.trans K2).trans K') O'
theorem mML_run {f : D → D → (R → Prop) → Prop} {r : V → List V → Hp → VK → Prop} {K : PySem.W.Frag} (hK : K = c.K) (ho : OpD c f (fun x y H Q => r x [y] H Q)) : ∀ σ H Q, tE c (mML f m1 m2) σ H Q → tBM K "list" r (tE c m1) (tCons (tE c m2) tNil) σ H Q := by
  rintro σ H Q ⟨G, s, Q0, R, hm, hQ⟩
  refine ⟨G, s, _, R, hm, fun r1 s1 v1 H1 G1 q1 R1 S1 K1 O1 => ?_⟩
  obtain ⟨⟨l, e⟩, q1⟩ := isL_of q1
  have p1 := O1.peek R1
  have p1' := p1
  rw [e] at p1'
  obtain ⟨a, vs, e1, h1, h2⟩ := p1'.list
  subst e1
  refine ⟨.inl ⟨rfl, vs, SqL.of h1⟩, G1, s1, _, R1, q1, fun r2 s2 v2 H2 G2 q2 R2 S2 K2 O2 => ?_⟩
  exact ho R2 (p1.keep S2 K2) (O2.peek R2) q2 fun r v H' G' q R' S' K' O' => hQ r s2 v H' G' q R' ((S1.trans S2).trans S') ((K1.trans K2).trans K') O'
theorem de_indexS {apos : Pos} (ha : PE X a (tE c m1)) (hb : PE X b (tE c m2)) (hs : starEach [b] X.env = [(false, eval b X.env)] := by rfl) (hbase : attributeBase a "index" X.env (eval a X.env) = eval a X.env := by rfl) (hline : (apos.endLine == pos.line) = true := by rfl) :
    PE X (.Call (.Attribute a "index" apos) [b] [] pos) (tE c (mMS dIndexS m1 m2)) :=
  pe_imp (pe_m1 F.slot_str_index F.type_str_index mt_sindex ha hb hs hbase hline) (mMS_run (by
    intro σ H G s x y v u Qr Q R hx hy h F
    unfold dIndexS at h
    split at h
    · obtain ⟨rest, e⟩ := occ_fst h.1
      exact ⟨_, _, _, rest, hx.str, by rw [hy.str], e, F.val R h.2 (.int _)⟩
    · exact h.elim))
theorem de_indexL [o : Ok X c] {apos : Pos} (ha : PE X a (tE c m1)) (hb : PE X b (tE c m2)) (hs : starEach [b] X.env = (false, eval b X.env) :: starEach [] X.env := by rfl) (hbase : attributeBase a "index" X.env (eval a X.env) = eval a X.env := by rfl) (hline : (apos.endLine == pos.line) = true := by rfl)
    (hfew : ((backTo pos (starEach (b :: []) X.env)).all (fun x => !x.1) && (backToKw pos (keywordEach [] X.env)).all (fun x => x.1.isSome)
      && decide ((b :: []).length + ([] : List Keyword).length + (if ([] : List Keyword).isEmpty then 0 else 1) < 30)) = true := by rfl) (hpl : (backTo pos (starEach [] X.env)).any (·.1) = false := by rfl) :
    PE X (.Call (.Attribute a "index" apos) [b] [] pos) (tE c (mML dIndexL m1 m2)) :=
  pe_imp (pe_bm PySem.F.plainAttrs_list PySem.F.slot_list_index PySem.F.type_list_index (mt_indexD (by have := o.hu; omega)) ha (pa_cons hb pa_nil hs) hbase hfew hline hs hpl) (mML_run o.K (by
    intro σ H G s x y v u Qr Q R hx hy h F
    unfold dIndexL at h
    split at h
    · obtain ⟨h1, h2, j, z, h3, h4, h5, h6⟩ := h
      rename_i ds
      obtain ⟨a, vs, e, g1, g2⟩ := hx.list
      have hd := hx.dp R
      simp only [toP] at hd
      refine ⟨a, u, toP y, toPs ds, j, toP z, e, rfl, o.K ▸ (e ▸ hd), o.K ▸ hy.dp R, ?_, shaped_of h1 (by decide), ?_, by rw [eqv_toP]; exact h4, fun i w hi hw => ?_, F.val R h6 (.int _)⟩
      · exact shaped_of (n := 9) (d := .list ds) h2 (by decide)
      · rw [toPs_map, List.getElem?_map, h3]; rfl
      · rw [toPs_map, List.getElem?_map] at hw
        cases q : ds[i]? with
        | none => rw [q] at hw; cases hw
        | some w' =>
          rw [q] at hw
          cases hw
          rw [eqv_toP]
          exact h5 i w' hi q
    · exact h.elim))
theorem de_count {apos : Pos} (ha : PE X a (tE c m1)) (hb : PE X b (tE c m2)) (hs : starEach [b] X.env = [(false, eval b X.env)] := by rfl) (hbase : attributeBase a "count" X.env (eval a X.env) = eval a X.env := by rfl) (hline : (apos.endLine == pos.line) = true := by rfl) :
    PE X (.Call (.Attribute a "count" apos) [b] [] pos) (tE c (mMS dCount m1 m2)) :=
  pe_imp (pe_m1 F.slot_str_count F.type_str_count mt_count ha hb hs hbase hline) (mMS_run (by
    intro σ H G s x y v u Qr Q R hx hy h F
    unfold dCount at h
    split at h
    · refine ⟨_, _, hx.str, by rw [hy.str], ?_⟩
      rw [count_eq _ h.2.1]
      exact F.val R h.2.2 (.int _)
    · exact h.elim))
theorem map_tl {ls : List (List Nat)} {ys : List Str} (h : ys.map TL.tl = ls) : ys = ls.map sT := by
  apply TL.map_tl_inj
  rw [h, List.map_map]
  symm
  calc ls.map (TL.tl ∘ sT) = ls.map id := List.map_congr_left fun _ _ => rfl
    _ = ls := List.map_id _
theorem Dgs.strs (ls : List (List Nat)) {K : PySem.W.Frag} {G : Hp} : Dgs K G ((ls.map sT).map V.str) (ls.map D.str) := by
  induction ls with
  | nil => exact .nil
  | cons l r ih => exact .cons (.str l) ih
theorem de_split {apos : Pos} (ha : PE X a (tE c m1)) (hb : PE X b (tE c m2)) (hs : starEach [b] X.env = [(false, eval b X.env)] := by rfl) (hbase : attributeBase a "split" X.env (eval a X.env) = eval a X.env := by rfl) (hline : (apos.endLine == pos.line) = true := by rfl) :
    PE X (.Call (.Attribute a "split" apos) [b] [] pos) (tE c (mMS dSplit m1 m2)) :=
  pe_imp (pe_m1 F.slot_str_split F.type_str_split mt_split ha hb hs hbase hline) (mMS_run (by
    intro σ H G s x y v u Qr Q R hx hy h F
    unfold dSplit at h
    split at h
    · refine ⟨_, _, hx.str, by rw [hy.str], rfl, by rw [len_sT, ← lineEq]; exact h.1, fun p n => ?_⟩
      rw [map_tl (split_eq _ h.2.1)]
      exact F.own R h.2.2 (Dgs.strs _) n
    · exact h.elim))
theorem joinL_S (sep : List Nat) : ∀ ls : List (List Nat), TL.joinL sep ls = joinS sep ls
  | [] => rfl
  | [_] => rfl
  | p :: q :: r => by
    show p ++ (sep ++ TL.joinL sep (q :: r)) = p ++ (sep ++ joinS sep (q :: r))
    rw [joinL_S sep (q :: r)]
theorem join_sT (sep : List Nat) (ls : List (List Nat)) : Txt.join (sT sep) (ls.map sT) = sT (joinS sep ls) := by
  apply TL.ext_tl
  rw [TL.join_eq, TL.tl_join, List.map_map, sT_tl, sT_tl, ← joinL_S]
  congr 1
  calc ls.map (TL.tl ∘ sT) = ls.map id := List.map_congr_left fun _ _ => rfl
    _ = ls := List.map_id _
theorem Dgs.toStrs {K : PySem.W.Frag} {G : Hp} : ∀ {ls : List (List Nat)} {vs : List V}, Dgs K G vs (ls.map D.str) → vs = (ls.map sT).map V.str
  | [], _, .nil => rfl
  | l :: r, _, h => by
    rw [List.map_cons] at h
    cases h with
    | cons h t => cases h; rw [Dgs.toStrs t]; rfl
theorem de_join [o : Ok X c] {apos : Pos} (ha : PE X a (tE c m1)) (hb : PE X b (tE c m2)) (hs : starEach [b] X.env = [(false, eval b X.env)] := by rfl) (hbase : attributeBase a "join" X.env (eval a X.env) = eval a X.env := by rfl) (hline : (apos.endLine == pos.line) = true := by rfl) :
    PE X (.Call (.Attribute a "join" apos) [b] [] pos) (tE c (mMS dJoin m1 m2)) :=
  pe_imp (pe_m1 F.slot_str_join F.type_str_join mt_join ha hb hs hbase hline) (mMS_run (by
    intro σ H G s x y v u Qr Q R hx hy h F
    unfold dJoin at h
    split at h
    · obtain ⟨ls, e, hz, q⟩ := h
      subst e
      obtain ⟨p, vs, e1, h1, h2⟩ := hy.list
      have e2 := h2.toStrs
      subst e2
      refine ⟨_, p, ls.map sT, hx.str, by rw [e1], .inl (SqL.of h1), ?_, ?_⟩
      · rw [List.map_map, List.length_map, len_sT]
        have : ls.map ((fun x => x.length) ∘ sT) = ls.map List.length := List.map_congr_left fun l _ => len_sT l
        rw [this]
        exact hz
      · rw [join_sT]
        exact F.val R q (.str _)
    · exact h.elim))
end
end DL

/-! DLS12: further expressions. -/
namespace DL
open PySem PySem.Spec PyProof.Rows L2
section
variable {X : Cx} {c : Ct} {a b e : Expr} {es : List Expr} {m m1 m2 m3 : M} {ms : Ms} {t t1 t2 : T} {pos p : Pos} {σ : St} {H G : Hp} {s : S} {x : Str} {id ty : String}
theorem fm_of {α β : Type} {f : α → Option β} {l : List α} {ys : List β} (h : l.map f = ys.map some) : l.filterMap f = ys := by
  have e : l.filterMap f = (l.map f).filterMap id := by rw [List.filterMap_map]; rfl
  rw [e, h, List.filterMap_map]
  simp
/-- xs[:k:-1] -/
theorem pick_revTo (items : Array Value) (k : Nat) (h : k < items.size) : slicePick items none (some (k : Int)) (some (-1)) = ((items.toList.drop (k + 1)).reverse).toArray := by
  unfold slicePick
  have hb : sliceBounds none (some (k : Int)) (some (-1)) items.size = ((items.size : Int) - 1, (k : Int), -1) := by
    unfold sliceBounds
    simp only [Option.getD_some, show ¬ ((-1 : Int) > 0) by decide, if_false]
    rw [if_neg (by omega)]
    refine Prod.ext rfl (Prod.ext ?_ rfl)
    show max (-1 : Int) (min (k : Int) ((items.size : Int) - 1)) = k
    omega
  rw [hb]
  have hr : sliceRange ((items.size : Int) - 1) (k : Int) (-1) = (List.range (items.size - 1 - k)).map fun j => items.size - 1 - j := by
    unfold sliceRange
    simp only [show ¬ ((-1 : Int) > 0) by decide, if_false]
    by_cases h2 : (items.size : Int) - 1 > k
    · rw [if_pos h2, show (- -1 : Int) = 1 by decide, Int.ediv_one]
      have e : ((items.size : Int) - 1 - k - -1 - 1).toNat = items.size - 1 - k := by omega
      rw [e]
      apply List.map_congr_left
      intro j hj
      have := List.mem_range.mp hj
      omega
    · rw [if_neg h2]
      have e : items.size - 1 - k = 0 := by omega
      rw [e]
      rfl
  show ((sliceRange ((items.size : Int) - 1) (k : Int) (-1)).filterMap (items[·]?)).toArray = _
  rw [hr]
  congr 1
  rw [List.filterMap_map]
  refine fm_of ?_
  apply List.ext_getElem
  · simp; omega
  · intro i h1 h2
    simp only [List.length_map, List.length_range] at h1
    simp only [List.getElem_map, List.getElem_range, Function.comp]
    rw [Array.getElem?_eq_getElem (by omega)]
    congr 1
    rw [List.getElem_reverse]
    simp
    congr 1
    omega
def tRevTo (K : PySem.W.Frag) (k : Nat) (te : TE) : TE := fun σ H Q => te σ H fun x H1 => ∃ a xs, x = .ref a ∧ SqL K H1 a xs ∧ k < xs.length ∧ ∀ p, H1 p = none → Q (.ref p) (upd H1 p (.lst (xs.drop (k + 1)).reverse))
theorem pe_revTo {e : Expr} {te : TE} {k : Nat} {jk k1 : Nat} {p0 p1 p2 p3 pos : Pos} (he : PE X e te) : PE X (.Subscript e (.Slice none (some (.Constant (.int (k : Int)) jk p0)) (some (.UnaryOp .USub (.Constant (.int 1) k1 p1) p2)) p3) pos) (tRevTo X.K k te) := by
  refine ⟨fun pins s σ H Q I h => ?_⟩
  refine Subscript_ (thn (he.run pins s σ H _ I h) fun v s1 ⟨x, H1, I1, r1, q1⟩ => ?_)
  have hst : PO X (some (.UnaryOp .USub (.Constant (.int 1) k1 p1) p2)) (tPart (tUn (rU fun i => .int (-i)) (tC (.int 1)))) := po_some (pe_un un_neg pe_int)
  have hup : PO X (some (.Constant (.int (k : Int)) jk p0)) (tPart (tC (.int (k : Int)))) := po_some pe_int
  refine wpAny_Slice (thn (po_none.run pins s1 σ H1 (fun o H2 => o = none ∧ H2 = H1) I1 ⟨rfl, rfl⟩) fun vl s2 ⟨l, H2, I2, pl, el, e2⟩ => ?_)
  subst el e2
  refine thn (hup.run pins s2 σ H2 (fun o H3 => o = some (k : Int) ∧ H3 = H2) I2 ⟨_, rfl, rfl, rfl⟩) fun vu s3 ⟨u, H3, I3, pu, eu, e3⟩ => ?_
  subst eu e3
  refine thn (hst.run pins s3 σ H3 (fun o H4 => o = some (-1) ∧ H4 = H3) I3 ⟨1, rfl, -1, rfl, rfl, rfl⟩) fun vs s4 ⟨o, H4, I4, ps, eo, e4⟩ => ?_
  subst eo e4
  have I5 : Inv X pins σ H4 { s4 with heap := s4.heap.push { cls := .type "slice", data := .fields #[vl, vu, vs] } } := I4.kept (t' := s4.toks) fun b ob q => Heap.get?_push_of_some _ q
  obtain ⟨a, xs, ex, hx, hk, q⟩ := q1
  subst ex
  cases r1
  obtain ⟨its, r, ht, hz⟩ := I5.list hx
  have hlen := r.length
  show wpAny (model X.prog X.w) X.A (subscriptTail e (.Slice none (some (.Constant (.int (k : Int)) jk p0)) (some (.UnaryOp .USub (.Constant (.int 1) k1 p1) p2)) p3) (.ref a) (.ref s4.heap.objs.size)) (EP X pins σ Q) X.xe { s4 with heap := s4.heap.push { cls := .type "slice", data := .fields #[vl, vu, vs] } }
  refine tail_any (ops := [.ref a, .ref s4.heap.objs.size]) ht.isList.typeIs (PySem.slot_list_getitem.lookup) ?_ (by with_unfolding_all rfl)
  refine wpAny_getItem_list_slice ht.isList (Heap.IsSliceOf.new _ vl vu vs) pl pu ps (by decide) ?_ (by rw [List.size_toArray]; omega)
  rw [pick_revTo _ _ (by rw [List.size_toArray]; omega)]
  refine ⟨.ref _, _, I5.laid (t' := s4.toks) (o := .lst (xs.drop (k + 1)).reverse) (fun b ob q => Heap.get?_push_of_some _ q) (Nat.le_refl _) ?_, rfl, q _ (I5.hok.fresh (Nat.le_refl _))⟩
  exact ⟨by rw [List.length_reverse, List.length_drop]; omega, _, 0, (r.drop (k + 1)).reverse, Heap.get?_push_size _ rfl⟩
theorem de_revTo (k : Nat) [o : Ok X c] {jk k1 : Nat} {p0 p1 p2 p3 : Pos} (he : PE X e (tE c m)) : PE X (.Subscript e (.Slice none (some (.Constant (.int (k : Int)) jk p0)) (some (.UnaryOp .USub (.Constant (.int 1) k1 p1) p2)) p3) pos) (tE c (mRevTo m k)) := by
  refine pe_imp (pe_revTo he) ?_
  rintro σ H Q ⟨G, s, Q0, R, hm, hQ⟩
  refine ⟨G, s, _, R, hm, fun r s1 v H1 G1 q R1 S1 K1 O1 => ?_⟩
  have p := O1.peek R1
  split at q
  · rename_i ds e
    rw [e] at p
    obtain ⟨a, vs, e1, h1, h2, _⟩ := p
    exact ⟨a, vs, e1, SqL.of h1, by rw [h2.length]; exact q.1, fun x n => hQ _ _ _ _ _ q.2 (R1.newL n) S1 (K1.trans (Keep.upd n)) (R1.own_new n (h2.drop _).reverse)⟩
  · exact q.elim
end
end DL

/-! DLS13: the law's own def, what the top has written. -/
namespace DL
open PySem PySem.Spec PyProof.Rows L2
/-- a def of the module, as it stands -/
structure FnAt (K : PySem.W.Frag) (x : Str) (st : Stmt) : Prop where
  ex : ∃ (f : Addr) (fd : FuncData), PySem.W.nsIn K mainGlobals x = some (some (.ref f)) ∧ Fun K x x st f fd
theorem FnAt.mk' {K : PySem.W.Frag} {x : Str} {st : Stmt} {f : Addr} {oc kV doc pm cdv ct : Value} {od an : Option Addr} {osl : Array (Option Value)} (a : PySem.W.nsIn K mainGlobals x = some (some (.ref f)))
    (l : K.lookup f = some ⟨oc, od, .func (PySem.W.fnOf x x (defArgs st) (defBody st) (defScope st) .none kV doc pm an cdv ct), osl⟩) (c : PySem.W.codeIn K cdv x = true) (k : PySem.W.keepIn K (.ref f) = true) : FnAt K x st :=
  ⟨f, _, a, fun_mk l c k⟩
section
variable {P : Program} {w : World} {K : PySem.W.Frag} {mg : Str → Option Value} {base hp : Heap}
theorem FnAt.fk {x : Str} {st : Stmt} {ps : List Str} {sp : Sp} {k : Nat} (h : FnAt K x st) (X : K.In hp) (G : hp.Ns mainGlobals mg) (hb : ∀ f fd, Fun K x x st f fd → FnOk P w K mg base CX0 k f fd ps sp)
    (bind : ∀ (kV doc pm : Value) (an : Option Addr) (cdv ct : Value) (us : List Value), us.length = ps.length → bindArgs (PySem.W.fnOf x x (defArgs st) (defBody st) (defScope st) .none kV doc pm an cdv ct) ⟨us, []⟩ = pure (ps.zip us)) : FK P w K mg base x k sp := by
  obtain ⟨f, fd, a, F⟩ := h.ex
  exact ⟨f, fd, ps, hb f fd F, PySem.W.mg_of X G a, F.kp, F.binds bind⟩
/-! ### constants of the module -/
theorem KC.int {x : Str} {i : Int} {t : Tok} (X : K.In hp) (G : hp.Ns mainGlobals mg) (a : PySem.W.nsIn K mainGlobals x = some (some (.int i t))) : KC K mg x (.int i) := ⟨_, .int i, PySem.W.mg_of X G a, ⟨t, rfl⟩, fun _ => .int i⟩
theorem KC.str {x y : Str} {l : List Nat} {t : Tok} (X : K.In hp) (G : hp.Ns mainGlobals mg) (a : PySem.W.nsIn K mainGlobals x = some (some (.str y t))) (h : y.cps.toList = l) : KC K mg x (.str l) := by
  have e : y = sT l := by subst h; cases y; rfl
  subst e
  exact ⟨_, .str _, PySem.W.mg_of X G a, ⟨t, rfl⟩, fun _ => .str l⟩
/-- values of the module's own tuples -/
inductive DK : Value → V → D → Prop
  | int (i : Int) (t : Tok) : DK (.int i t) (.int i) (.int i)
  | str (l : List Nat) (t : Tok) : DK (.str (sT l) t) (.str (sT l)) (.str l)
inductive DKs : List Value → List V → List D → Prop
  | nil : DKs [] [] []
  | cons {u : Value} {v : V} {d : D} {us : List Value} {vs : List V} {ds : List D} : DK u v d → DKs us vs ds → DKs (u :: us) (v :: vs) (d :: ds)
theorem DKs.vals : ∀ {us : List Value} {vs : List V} {ds : List D}, DKs us vs ds → Vals vs us
  | _, _, _, .nil => .nil
  | _, _, _, .cons (.int i t) r => .cons ⟨t, rfl⟩ r.vals
  | _, _, _, .cons (.str i t) r => .cons ⟨t, rfl⟩ r.vals
theorem DKs.dgs : ∀ {us : List Value} {vs : List V} {ds : List D} {G : Hp}, DKs us vs ds → Dgs K G vs ds
  | _, _, _, _, .nil => .nil
  | _, _, _, _, .cons (.int i t) r => .cons (.int i) r.dgs
  | _, _, _, _, .cons (.str i t) r => .cons (.str i) r.dgs
theorem KC.tup {x : Str} {a : Addr} {dd : Option Addr} {its : Array Value} {n : Nat} {sl : Array (Option Value)} {vs : List V} {ds : List D} (X : K.In hp) (G : hp.Ns mainGlobals mg) (h1 : PySem.W.nsIn K mainGlobals x = some (some (.ref a)))
    (h2 : K.lookup a = some ⟨.type "tuple", dd, .seq its n, sl⟩) (h3 : DKs its.toList vs ds) (h4 : its.size ≤ 1000) : KC K mg x (.tup ds) :=
  ⟨_, .ref a, PySem.W.mg_of X G h1, rfl, fun G => .tup (.inr ⟨_, its, n, h2, rfl, rfl, Nat.le_of_lt (small1000 h4), h3.vals⟩) h3.dgs⟩
theorem blt_of (X : K.In hp) (G : hp.Ns mainGlobals mg) (b0 : PySem.W.nsIn K mainGlobals "len" = some none) (b1 : PySem.W.nsIn K mainGlobals "abs" = some none) (b2 : PySem.W.nsIn K mainGlobals "int" = some none) (b3 : PySem.W.nsIn K mainGlobals "min" = some none) (b4 : PySem.W.nsIn K mainGlobals "max" = some none) (b5 : PySem.W.nsIn K mainGlobals "list" = some none) (b6 : PySem.W.nsIn K mainGlobals "tuple" = some none) (b7 : PySem.W.nsIn K mainGlobals "sum" = some none) (b8 : PySem.W.nsIn K mainGlobals "all" = some none) (b9 : PySem.W.nsIn K mainGlobals "range" = some none) (b10 : PySem.W.nsIn K mainGlobals "enumerate" = some none) (b11 : PySem.W.nsIn K mainGlobals "reversed" = some none) (b12 : PySem.W.nsIn K mainGlobals "isinstance" = some none) (b13 : PySem.W.nsIn K mainGlobals "sorted" = some none) (b14 : PySem.W.nsIn K mainGlobals "zip" = some none) (b15 : PySem.W.nsIn K mainGlobals "str" = some none) (b16 : PySem.W.nsIn K mainGlobals "bool" = some none) : ∀ x ∈ bltNames, mg x = none := by
  intro x hx
  unfold bltNames at hx
  simp only [List.mem_cons, List.not_mem_nil, or_false] at hx
  rcases hx with rfl | rfl | rfl | rfl | rfl | rfl | rfl | rfl | rfl | rfl | rfl | rfl | rfl | rfl | rfl | rfl | rfl
  · exact PySem.W.mg_none_of X G b0
  · exact PySem.W.mg_none_of X G b1
  · exact PySem.W.mg_none_of X G b2
  · exact PySem.W.mg_none_of X G b3
  · exact PySem.W.mg_none_of X G b4
  · exact PySem.W.mg_none_of X G b5
  · exact PySem.W.mg_none_of X G b6
  · exact PySem.W.mg_none_of X G b7
  · exact PySem.W.mg_none_of X G b8
  · exact PySem.W.mg_none_of X G b9
  · exact PySem.W.mg_none_of X G b10
  · exact PySem.W.mg_none_of X G b11
  · exact PySem.W.mg_none_of X G b12
  · exact PySem.W.mg_none_of X G b13
  · exact PySem.W.mg_none_of X G b14
  · exact PySem.W.mg_none_of X G b15
  · exact PySem.W.mg_none_of X G b16
/-! ### _law_feed and law -/
/-- a new feed -/
def spFeed (K : PySem.W.Frag) : Sp := fun vs H Q _ => ∃ (a : Addr) (ns : List Int), vs = [.ref a] ∧ SqL K H a (ns.map V.int) ∧ ∀ p q, H p = none → H q = none → p ≠ q → Q (.ref q) (upd (upd H p (.lst (ns.map V.int))) q (.lst [.ref p, .int 0, .int 0, .int 1]))
theorem feed_fn {st : Stmt} {f : Addr} {fd : FuncData} {p1 p2 p3 p4 p5 p6 p7 p8 : Pos} {j1 j2 j3 : Nat} (F : Fun K "_law_feed" "_law_feed" st f fd) (Sc : FnScope ["script"] ["script"] (defScope st)) (ml : mg "list" = none)
    (hv : (defScope st).names.lookup ("script" : Str) = some NameKind.local) (hg : ∀ (qual : Str) (L f : Addr) (cd : Value), (envOfC qual (defScope st) L f cd).kindOf ("list" : Str) = some NameKind.globalImplicit)
    (hb : defBody st = [.Return (some (.List [.Call (.Name "list" p1) [.Name "script" p2] [] p3, .Constant (.int 0) j1 p4, .Constant (.int 0) j2 p5, .Constant (.int 1) j3 p6] p7)) p8]) : FnOk P w K mg base CX0 1 f fd ["script"] (spFeed K) := by
  refine F.ok Sc (fun vs H Q E h => ?_) (fun cdv A outer s H vs Q E hr h => ?_)
  · obtain ⟨a, ns, rfl, _⟩ := h
    rfl
  · obtain ⟨a, ns, rfl, hS, kq⟩ := h
    rw [hb]
    refine ⟨_, pss_one (ps_ret (pe_lst (pa_cons (pe_callTy call_list_of (hg _ _ _ _) ml (by decide +kernel) (pa_cons (pe_var (i := 0) rfl (Or.inl hv)) pa_nil)) (pa_cons pe_int (pa_cons pe_int (pa_cons pe_int pa_nil)))))), ?_⟩
    refine ⟨_, rfl, a, _, rfl, .inl hS, fun p np => ⟨by show 4 ≤ sizeLine; decide, fun q nq => ?_⟩⟩
    have hpq : p ≠ q := fun e => by rw [e, upd_same] at nq; cases nq
    rw [upd_ne hpq.symm] at nq
    exact kq p q np nq hpq
def spLaw (K : PySem.W.Frag) : Sp := fun vs H Q _ => ∃ (a : Addr) (ns : List Int), vs = [.ref a] ∧ SqL K H a (ns.map V.int) ∧ ns.length ≤ 63 ∧ ∀ H', Q (.bl true) H'
/-- the law answers True -/
theorem get_rep : ∀ (n i : Nat), get (List.replicate n Slot.gone) i = .gone
  | 0, _ => rfl
  | n + 1, 0 => rfl
  | n + 1, i + 1 => get_rep n i
theorem law_fn {st : Stmt} {f : Addr} {fd : FuncData} {N : List Str} {k : Nat} {rest : List Stmt} {body : MS} {p1 p2 p3 p4 p5 : Pos} (F : Fun K "law" "law" st f fd) (Sc : FnScope N ["script"] (defScope st)) (blt : ∀ x ∈ bltNames, mg x = none) (FF : FK P w K mg base "_law_feed" 1 (spFeed K)) (hk : 1 ≤ k)
    (hb : defBody st = .Assign [.Name "feed" p1] (.Call (.Name "_law_feed" p2) [.Name "script" p3] [] p4) p5 :: rest) (h0 : N[0]? = some ("script" : Str)) (h1 : N[1]? = some ("feed" : Str)) (hv : (defScope st).names.lookup ("script" : Str) = some NameKind.local)
    (hl : (defScope st).names.lookup ("feed" : Str) = some NameKind.local ∨ (defScope st).names.lookup ("feed" : Str) = some NameKind.cell) (hg : ∀ (qual : Str) (L f : Addr) (cd : Value), (envOfC qual (defScope st) L f cd).kindOf ("_law_feed" : Str) = some NameKind.globalImplicit)
    (hbody : ∀ (cdv : Value) (A : Around) (outer : List PySem.Env) (s : Shared) (H : Hp) (E : XK) (c : Ct), Room k (A.deeper (envOfC "law" (defScope st) s.heap.objs.size f cdv)) → Ok (bodyCx P w K mg base N "law" (defScope st) f cdv A outer s H E) c → PSs (bodyCx P w K mg base N "law" (defScope st) f cdv A outer s H E) rest (tS c body))
    (vc : ∀ ns : List Int, ns.length ≤ 63 → lawTrue N.length body ns) : FnOk P w K mg base CX0 (k + 1) f fd ["script"] (spLaw K) := by
  refine F.ok Sc (fun vs H Q E h => ?_) (fun cdv A outer s H vs Q E hr h => ?_)
  · obtain ⟨a, ns, rfl, _⟩ := h
    rfl
  · obtain ⟨a, ns, rfl, hS, hlen, kq⟩ := h
    obtain ⟨ff, fdf, ps, hF, hm, hkp, hbd⟩ := FF.ex
    rw [hb]
    have hN : 2 ≤ N.length := (List.getElem?_eq_some_iff.mp h1).1
    have key : ∀ c, c.K = K → c.mg = mg → c.xe = none → PSs (bodyCx P w K mg base N "law" (defScope st) f cdv A outer s H E) rest (tS c body) := fun c hc hM hX => hbody cdv A outer s H E c hr (ok_body hr Sc.nd blt hc hM hX)
    refine ⟨_, pss_cons (ps_set (i := 1) Sc.nd h1 hl (pe_call hF (hr.mono hk) (hg _ _ _ _) hm hkp hbd .nil pass0 (pa_cons (pe_var (i := 0) h0 (Or.inl hv)) pa_nil)) (hf := .inl rfl))
      (⟨fun pins s' σ' H' D I ⟨c, hc, hM, hX, q⟩ => (key c hc hM hX).run pins s' σ' H' D I q⟩ : PSs _ rest (fun D σ H => ∃ c : Ct, c.K = K ∧ c.mg = mg ∧ c.xe = none ∧ tS c body D σ H)), ?_⟩
    refine ⟨_, start_get rfl, a, ns, rfl, hS, fun p q np nq hpq => ?_⟩
    refine ⟨⟨K, fun b => if b = p then some (.lst (ns.map V.int)) else none, upd (upd H p (.lst (ns.map V.int))) q (.lst [.ref p, .int 0, .int 0, .int 1]), some q, fun _ => False, mg, none⟩, rfl, rfl, rfl, fun b => if b = p then some (.lst (ns.map V.int)) else none, _, _, ?_, vc ns hlen, ?_⟩
    · have hl2 : (L2.start N [V.ref a]).length = N.length := start_length (by simpa using (by omega : 1 ≤ N.length))
      have sl : ∀ i, get (Slot.gone :: Slot.feed :: List.replicate (N.length - 2) .gone) i = if i = 1 then .feed else .gone := fun i => match i with
        | 0 => rfl
        | 1 => rfl
        | i + 2 => by
          rw [if_neg (by omega)]
          exact get_rep _ i
      refine ⟨Same.refl _, fun b o e => ?_, fun b o e _ => e, fun b o e => .inl e, ?_, fun i => ?_, fun i j b hij o1 => ?_, fun b e => ?_, fun b e => e.elim⟩
      · by_cases hb : b = p
        · subst hb
          rw [if_pos rfl] at e
          cases e
          rw [upd_ne hpq, upd_same]
        · rw [if_neg hb] at e; cases e
      · rw [List.length_set, hl2]
        show (Slot.gone :: Slot.feed :: List.replicate (N.length - 2) Slot.gone).length = _
        simp only [List.length_cons, List.length_replicate]
        omega
      · show SlotOk _ _ _ ((L2.start N [V.ref a]).set 1 (some (V.ref q)))[i]? (get (Slot.gone :: Slot.feed :: List.replicate (N.length - 2) .gone) i)
        rw [sl]
        by_cases hi : i = 1
        · subst hi
          rw [if_pos rfl, List.getElem?_set_self (by rw [hl2]; omega)]
          exact ⟨q, rfl, rfl⟩
        · rw [if_neg hi]; trivial
      · have o1 : (get (Slot.gone :: Slot.feed :: List.replicate (N.length - 2) .gone) i).isOwn = true := o1
        rw [sl] at o1
        by_cases hi : i = 1
        · rw [if_pos hi] at o1; cases o1
        · rw [if_neg hi] at o1; cases o1
      · cases e
        refine ⟨by show (if q = p then _ else _) = _; rw [if_neg hpq.symm], p, upd_same, by show (if p = p then _ else _) = _; rw [if_pos rfl]⟩
    · exact ⟨fun s' σ' H' G' q R S => q.elim, fun s' σ' H' G' q R S => q.elim, fun s' σ' H' G' q R S => q.elim, fun r s' v σ' H' G' q R S h => by
        subst q
        cases (show Dg _ _ v (.bool true) from h)
        exact kq _⟩
end
end DL

/-! DLS14: enumerate and reversed. -/
namespace DL
open PySem PySem.Spec PyProof.Rows L2
section
variable {X : Cx} {c : Ct} {a b e : Expr} {es : List Expr} {m m1 m2 m3 : M} {ms : Ms} {t t1 t2 : T} {pos p : Pos} {σ : St} {H G : Hp} {s : S} {x : Str} {id ty : String}
/-! ### enumerate(text) -/
def Ites (x : Str) : It := ⟨fun i _ => i < x.cps.size, fun i H v H' => ∃ T ch, v = .ref T ∧ H T = none ∧ x.cps[i]? = some ch ∧ H' = upd H T (.tup [.int (i : Nat), .str ⟨#[ch]⟩]), fun i _ => x.cps.size ≤ i⟩
theorem turn_enumS {P : Program} {w : World} {K : PySem.W.Frag} {elts : List Expr} {kk : Nat} {tpos : Pos} (x : Str) (t : Tok) (e it : Addr) :
    Turn P w K (.Tuple elts kk tpos) (Ites x) [e, it] e (fun i h => (∃ old, IsEnum h e it ((i : Nat) : Int) old) ∧ h.IsStrIter it (strIterType x) x t i ∧ e ≠ it ∧ i ≤ x.cps.size) where
  mem := by simp
  obj := fun i h st b hb => by
    obtain ⟨⟨old, he⟩, ⟨o, ho, hc, hd⟩, _, _⟩ := st
    have e' : b = e ∨ b = it := by simpa using hb
    rcases e' with z | z
    · rw [z]; exact ⟨_, he, fun v q => nomatch q⟩
    · rw [z]; exact ⟨o, ho, fun v q => by rw [hd] at q; cases q⟩
  keep := fun i h h' st k => let ⟨⟨old, he⟩, ⟨o, ho, r⟩, hne, hle⟩ := st; ⟨⟨old, k e (by simp) _ he⟩, ⟨o, k it (by simp) o ho, r⟩, hne, hle⟩
  item := by
    intro X hP hw hK hc i pins s σ H E I hf st hg
    subst hP hw hK
    obtain ⟨⟨old, he⟩, hit, hne, hle⟩ := st
    have hel : e < s.heap.objs.size := Heap.lt_size he
    have hil : it < s.heap.objs.size := by obtain ⟨_, q, _⟩ := hit; exact Heap.lt_size q
    have DT := Draws.text (prog := X.prog) (w := X.w) (A := X.A.in1) (I.ok.hd hc) it x t
    refine wpAny_pyNext_enum_itemD DT he hit hg hne (by simpa using hne) fun v h' tk hv ho hit' hT hsz hk => ?_
    obtain ⟨ch, u, hcx, rfl⟩ := hv
    refine ⟨_, rfl, wpAny_letOwnedTupleGo_enum (s := { s with heap := h', toks := tk + 1 }) ho fun h'' he' sb => ?_⟩
    have hT2 : h''.get? s.heap.objs.size = some { cls := .type "tuple", data := .seq #[.int i tk, .str ⟨#[ch]⟩ u] } := (sb.2 _ (Nat.ne_of_gt hel)).trans hT
    have new : ObjOk X.prog X.w (upd H s.heap.objs.size (.tup [.int (i : Nat), .str ⟨#[ch]⟩])) h'' s.heap.objs.size (.tup [.int (i : Nat), .str ⟨#[ch]⟩]) :=
      ⟨by show 2 ≤ sizeLine; decide, [.int i tk, .str ⟨#[ch]⟩ u], .cons ⟨_, rfl⟩ (.cons ⟨_, rfl⟩ .nil), ⟨_, hT2, rfl, _, rfl⟩⟩
    have I1 : Inv X pins σ (upd H s.heap.objs.size (.tup [.int (i : Nat), .str ⟨#[ch]⟩])) { s with heap := h'', toks := tk + 1 } :=
      I.turnedNew (ch := [e, it]) (fun b ob hb q => (sb.2 b (fun z => hb (by simp [z]))).trans (hk b ob (fun z => hb (by simp [z])) (fun z => hb (by simp [z])) q)) hf (Nat.le_refl _) new
    refine ⟨.ref s.heap.objs.size, _, I1, rfl, ⟨_, ch, rfl, I.hok.fresh (Nat.le_refl _), hcx, rfl⟩, ⟨⟨.str ⟨#[ch]⟩ u, ?_⟩, ?_, hne, hg⟩, fun b hb => ?_⟩
    · have e1 : ((i + 1 : Nat) : Int) = (i : Int) + 1 := by omega
      rw [e1]; exact he'
    · obtain ⟨o, q, r⟩ := hit'
      exact ⟨o, (sb.2 it (Ne.symm hne)).trans q, r⟩
    · have hb' : b < s.heap.objs.size := by
        have e' : b = e ∨ b = it := by simpa using hb
        rcases e' with z | z
        · rw [z]; exact hel
        · rw [z]; exact hil
      rw [upd_ne (Nat.ne_of_lt hb')]
      exact (hf b hb).1
  done := by
    intro X hP hw hK hc i pins s σ H E I hf st hg
    subst hP hw hK
    obtain ⟨⟨old, he⟩, hit, hne, hle⟩ := st
    obtain ⟨f0, f1, f2, f3, f4, f5⟩ := hf it (by simp)
    have DT := Draws.text (prog := X.prog) (w := X.w) (A := X.A.in1) (I.ok.hd hc) it x t
    have hn : i = x.cps.size := Nat.le_antisymm hle hg
    exact wpAny_pyNext_enum_endD DT he (by rw [← hn]; exact hit) fun h' eb => ⟨rfl, I.turned (t' := s.toks) (fun b o hb q => eb b o hb q) f0 f1 f3 f4 f5⟩
  self := fun A i s Q E st h => let ⟨⟨_, he⟩, _⟩ := st; wpAny_pyIter_enum he h
/-- enumerate(x): x a list or a text -/
def iEnumA (K : PySem.W.Frag) (ta : TA) : TI := fun σ H R => ta σ H fun vs H1 => (∃ a xs, vs = [.ref a] ∧ SqL K H1 a xs ∧ R (Ite K a) H1) ∨ ∃ z, vs = [.str z] ∧ R (Ites z) H1
theorem pi_enumA {ta : TA} {tpos : Pos} {elts : List Expr} {kk : Nat} (hg : Gl X "enumerate") (hm : X.mg "enumerate" = none) (ha : PA X [e] ta) (hs : starEach [e] X.env = [(false, eval e X.env)] := by rfl) :
    PI X (.Tuple elts kk tpos) (.Call (.Name "enumerate" p) [e] [] pos) (iEnumA X.K ta) := by
  refine ⟨fun pins s σ H R I h => ?_⟩
  refine Call_ (ld_blt I hg hm boot_enumerate (PyProof.Rows.callWith_type1 (thn (ha.run pos pins s σ H _ I h) fun us s1 ⟨vs, H1, I1, r1, q1⟩ => ?_) hs rfl))
  rcases q1 with ⟨a, xs, ex, hq, q⟩ | ⟨z, ex, q⟩
  · subst ex
    cases r1 with
    | cons r rr =>
      cases rr
      cases r
      obtain ⟨its, rv, p', hz⟩ := I1.list hq
      refine call_enumerate_list p'.isList fun h' he hit hsz hk => wpAny_pyIter_enum he ?_
      have I2 : Inv X pins σ H1 { s1 with heap := h' } := I1.kept (t' := s1.toks) hk
      refine ⟨s1.heap.objs.size + 1, [s1.heap.objs.size + 1, s1.heap.objs.size], _, _, H1, rfl, I2, turn_enum a (s1.heap.objs.size + 1) s1.heap.objs.size, ⟨⟨.none, he⟩, hit, Nat.succ_ne_self _⟩, fun b hb => ?_, q⟩
      have e' : b = s1.heap.objs.size + 1 ∨ b = s1.heap.objs.size := by simpa using hb
      have hle : s1.heap.objs.size ≤ b := by
        rcases e' with z | z
        · rw [z]; exact Nat.le_add_right _ _
        · rw [z]; exact Nat.le_refl _
      exact I1.fpOk hle (I1.hok.fresh hle)
  · subst ex
    cases r1 with
    | cons r rr =>
      cases rr
      obtain ⟨t, rfl⟩ := r
      refine call_enumerate_str fun h' he hit hsz hk => wpAny_pyIter_enum he ?_
      have I2 : Inv X pins σ H1 { s1 with heap := h' } := I1.kept (t' := s1.toks) hk
      refine ⟨s1.heap.objs.size + 1, [s1.heap.objs.size + 1, s1.heap.objs.size], _, _, H1, rfl, I2, turn_enumS z t (s1.heap.objs.size + 1) s1.heap.objs.size, ⟨⟨.none, he⟩, hit, Nat.succ_ne_self _, Nat.zero_le _⟩, fun b hb => ?_, q⟩
      have e' : b = s1.heap.objs.size + 1 ∨ b = s1.heap.objs.size := by simpa using hb
      have hle : s1.heap.objs.size ≤ b := by
        rcases e' with z | z
        · rw [z]; exact Nat.le_add_right _ _
        · rw [z]; exact Nat.le_refl _
      exact I1.fpOk hle (I1.hok.fresh hle)
theorem walks_enum {K : PySem.W.Frag} (hK : K = c.K) {a : Addr} {vs : List V} {ds : List D} (h : G a = some (.lst vs)) (dg : Dgs c.K G vs ds) : Walks c G (Ite K a) (enumFrom 0 ds) where
  go := fun i H G1 hi s1 s2 => by
    have hl := dg.length
    rw [enum_len] at hi
    exact ⟨vs, vs[i]'(by omega), SqL.of (s2 _ _ (s1 _ _ h)), by simp⟩
  stop := fun H G1 s1 s2 => ⟨vs, SqL.of (s2 _ _ (s1 _ _ h)), by rw [dg.length, enum_len]; exact Nat.le_refl _⟩
  yld := fun c' σ i H G1 H' s v d hK' R s1 e y => by
    obtain ⟨T, x, rfl, nT, rfl, q⟩ := y
    obtain ⟨z, hz, rfl⟩ := enum_get 0 ds i d e
    obtain ⟨u, h1, h2⟩ := dg.get hz
    have q2 := q vs (SqL.of (R.gH _ _ (s1 _ _ h)))
    rw [h1] at q2
    cases q2
    obtain ⟨R', sm⟩ := R.newG (o := .tup [.int (i : Nat), x]) nT
    refine ⟨_, R', sm, Keep.upd nT, .tup (.inl (.inl upd_same)) (.cons ?_ (.cons (h2.mono (s1.trans sm)) .nil))⟩
    rw [Nat.zero_add]
    exact .int _
theorem walks_enumS (z : List Nat) : Walks c G (Ites (sT z)) (enumFrom 0 (z.map fun c => D.str [c])) where
  go := fun i H G1 hi s1 s2 => by
    rw [enum_len] at hi
    show i < z.toArray.size
    simpa using hi
  stop := fun H G1 s1 s2 => by
    rw [enum_len]
    show z.toArray.size ≤ _
    simp
  yld := fun c' σ i H G1 H' s v d hK' R s1 e y => by
    obtain ⟨T, ch, rfl, nT, hc, rfl⟩ := y
    obtain ⟨y, hy, rfl⟩ := enum_get 0 _ i d e
    have hc' : z[i]? = some ch := by simpa using hc
    rw [List.getElem?_map, hc'] at hy
    cases hy
    obtain ⟨R', sm⟩ := R.newG (o := .tup [.int (i : Nat), .str ⟨#[ch]⟩]) nT
    refine ⟨_, R', sm, Keep.upd nT, .tup (.inl (.inl upd_same)) (.cons ?_ (.cons (.str [ch]) .nil))⟩
    rw [Nat.zero_add]
    exact .int _
theorem ds_enum {tpos : Pos} {elts : List Expr} {kk : Nat} [o : Ok X c] (ha : PE X e (tE c m)) (hg : Gl X "enumerate" := by rfl) (hs : starEach [e] X.env = [(false, eval e X.env)] := by rfl) (he : starEach [e] X.env = (false, eval e X.env) :: starEach [] X.env := by rfl) :
    PI X (.Tuple elts kk tpos) (.Call (.Name "enumerate" p) [e] [] pos) (tI c (srcEnum m)) := by
  refine pi_imp (pi_enumA hg (o.blt _ (by decide +kernel)) (pa_cons ha pa_nil he) hs) ?_
  rintro σ H Q ⟨G, s, Q0, R, hm, hQ⟩
  refine ⟨G, s, _, R, hm, fun r s1 v H1 G1 q R1 S1 K1 O1 => ?_⟩
  split at q
  · cases (show Dg c.K G1 v (.list _) from O1) with
    | lst h1 h2 => exact .inl ⟨_, _, rfl, SqL.of (R1.gH _ _ h1), hQ _ _ _ _ _ q R1 S1 K1 (walks_enum o.K h1 h2)⟩
  · cases (show Dg c.K G1 v (.str _) from O1) with
    | str _ => exact .inr ⟨_, rfl, hQ _ _ _ _ _ q R1 S1 K1 (walks_enumS _)⟩
  · obtain ⟨a, vs, e, h1, h2, h3, h4, h5, h7, h6⟩ := (show ResOk c σ H1 G1 s1 v (.own _) from O1)
    obtain ⟨R2, sm⟩ := R1.freeze h1 h3 h4 h5 h7 h6
    subst e
    exact .inl ⟨a, _, rfl, SqL.of h1, hQ _ _ _ _ _ q R2 (S1.trans sm) K1 (walks_enum o.K upd_same (h2.mono sm))⟩
  · exact q.elim
/-! ### reversed(list) -/
theorem walks_rev {K : PySem.W.Frag} (hK : K = c.K) {a : Addr} {vs : List V} {ds : List D} (h : G a = some (.lst vs)) (dg : Dgs c.K G vs ds) : Walks c G (Itv K a vs.length) ds.reverse where
  go := fun i H G1 hi s1 s2 => by
    have hl := dg.length
    rw [List.length_reverse] at hi
    exact ⟨by omega, vs, vs[vs.length - 1 - i]'(by omega), SqL.of (s2 _ _ (s1 _ _ h)), by simp⟩
  stop := fun H G1 s1 s2 => by
    show vs.length ≤ _
    rw [List.length_reverse, dg.length]
    exact Nat.le_refl _
  yld := fun c' σ i H G1 H' s v d hK' R s1 e y => by
    obtain ⟨rfl, q⟩ := y
    have hl := dg.length
    have hi : i < ds.length := by
      have := (List.getElem?_eq_some_iff.mp e).1
      rwa [List.length_reverse] at this
    rw [List.getElem?_reverse hi, ← hl] at e
    obtain ⟨u, h1, h2⟩ := dg.get e
    have q2 := q vs (SqL.of (R.gH _ _ (s1 _ _ h)))
    rw [h1] at q2
    cases q2
    exact ⟨G1, R, Same.refl _, Keep.refl, h2.mono s1⟩
theorem ds_rev {tg : Expr} [o : Ok X c] (ha : PE X e (tE c m)) (hg : Gl X "reversed" := by rfl) (hs : starEach [e] X.env = [(false, eval e X.env)] := by rfl) (he : starEach [e] X.env = (false, eval e X.env) :: starEach [] X.env := by rfl) :
    PI X tg (.Call (.Name "reversed" p) [e] [] pos) (tI c (srcRev m)) := by
  refine pi_imp (pi_reversed hg (o.blt _ (by decide +kernel)) (pa_cons ha pa_nil he) hs) ?_
  rintro σ H Q ⟨G, s, Q0, R, hm, hQ⟩
  refine ⟨G, s, _, R, hm, fun r s1 v H1 G1 q R1 S1 K1 O1 => ?_⟩
  split at q
  · cases (show Dg c.K G1 v (.list _) from O1) with
    | lst h1 h2 => exact ⟨_, _, rfl, SqL.of (R1.gH _ _ h1), hQ _ _ _ _ _ q R1 S1 K1 (walks_rev o.K h1 h2)⟩
  · obtain ⟨a, vs, e, h1, h2, h3, h4, h5, h7, h6⟩ := (show ResOk c σ H1 G1 s1 v (.own _) from O1)
    obtain ⟨R2, sm⟩ := R1.freeze h1 h3 h4 h5 h7 h6
    subst e
    exact ⟨a, _, rfl, SqL.of h1, hQ _ _ _ _ _ q R2 (S1.trans sm) K1 (walks_rev o.K upd_same (h2.mono sm))⟩
  · exact q.elim
end
end DL

/-! DLS15: min and max of data of one make. -/
namespace DL
open PySem PySem.Spec PyProof.Rows L2
mutual
theorem like_toP : ∀ d e : D, likeD d e = true → PySem.W.alike (toP d) (toP e) = true
  | .int _, e, h => by cases e <;> simp_all [likeD, toP, PySem.W.alike]
  | .str _, e, h => by cases e <;> simp_all [likeD, toP, PySem.W.alike]
  | .none, e, h => by cases e <;> simp_all [likeD]
  | .bool _, e, h => by cases e <;> simp_all [likeD]
  | .list xs, e, h => by
    cases e with
    | list ys =>
      simp only [likeD] at h
      simp only [toP, PySem.W.alike]
      exact likes_toP xs ys h
    | _ => simp [likeD] at h
  | .tup xs, e, h => by
    cases e with
    | tup ys =>
      simp only [likeD] at h
      simp only [toP, PySem.W.alike]
      exact likes_toP xs ys h
    | _ => simp [likeD] at h
theorem likes_toP : ∀ d e : List D, likeDs d e = true → PySem.W.alikeAll (toPs d) (toPs e) = true
  | [], e, _ => by simp [toPs, PySem.W.alikeAll]
  | _ :: _, [], _ => by simp [toPs, PySem.W.alikeAll]
  | x :: xs, y :: ys, h => by
    simp only [likeDs, Bool.and_eq_true] at h
    simp only [toPs, PySem.W.alikeAll, Bool.and_eq_true]
    exact ⟨like_toP x y h.1, likes_toP xs ys h.2⟩
end
mutual
theorem lt_toP : ∀ d e : D, likeD d e = true → PySem.W.dataLt (toP d) (toP e) = ltD d e
  | .int a, e, h => by
    cases e with
    | int b => simp only [toP, ltD]; exact PySem.W.dataLt_int a b
    | _ => simp [likeD] at h
  | .str a, e, h => by
    cases e with
    | str b => simp only [toP, ltD]; exact PySem.W.dataLt_str (sT a) (sT b)
    | _ => simp [likeD] at h
  | .none, e, h => by simp [likeD] at h
  | .bool _, e, h => by simp [likeD] at h
  | .list xs, e, h => by
    cases e with
    | list ys =>
      simp only [likeD] at h
      simp only [toP, ltD]
      rw [PySem.W.dataLt_list]
      exact lts_toP xs ys h
    | _ => simp [likeD] at h
  | .tup xs, e, h => by
    cases e with
    | tup ys =>
      simp only [likeD] at h
      simp only [toP, ltD]
      rw [PySem.W.dataLt_tuple]
      exact lts_toP xs ys h
    | _ => simp [likeD] at h
theorem lts_toP : ∀ d e : List D, likeDs d e = true → PyProof.Rows.lexLt itemOrd (PySem.W.keyToksAll (toPs d)) (PySem.W.keyToksAll (toPs e)) = ltDs d e
  | [], [], _ => by simp only [toPs, ltDs]; exact lex_irrefl _
  | x :: xs, [], _ => by
    simp only [toPs, ltDs, PySem.W.keyToksAll]
    rfl
  | [], y :: ys, _ => by
    simp only [toPs, ltDs, PySem.W.keyToksAll]
    rfl
  | x :: xs, y :: ys, h => by
    simp only [likeDs, Bool.and_eq_true] at h
    simp only [toPs, ltDs]
    have ha := like_toP x y h.1
    cases e : eqD x y with
    | true =>
      rw [PySem.W.dataLt_all_yes ha (by rw [eqv_toP]; exact e), lts_toP xs ys h.2]
      rfl
    | false =>
      rw [PySem.W.dataLt_all_no ha (by rw [eqv_toP]; exact e), lt_toP x y h.1]
      rfl
end
section
open PySem.W
theorem min_fold : ∀ (xs : List PyData) (x : PyData), xs.foldl (fun a y => if dataLt y a then y else a) x ∈ x :: xs ∧ ∀ y, y ∈ x :: xs → dataLt y (xs.foldl (fun a y => if dataLt y a then y else a) x) = false
  | [], x => ⟨List.mem_cons_self, fun y hy => by
    rw [List.mem_singleton.mp hy]
    exact dataLt_self x⟩
  | z :: r, x => by
    rw [List.foldl_cons]
    obtain ⟨h1, h2⟩ := min_fold r (if dataLt z x then z else x)
    generalize hm : r.foldl (fun a y => if dataLt y a then y else a) (if dataLt z x then z else x) = m at h1 h2
    refine ⟨?_, fun y hy => ?_⟩
    · rcases List.mem_cons.mp h1 with e | e
      · rw [e]
        split
        · exact List.mem_cons_of_mem _ List.mem_cons_self
        · exact List.mem_cons_self
      · exact List.mem_cons_of_mem _ (List.mem_cons_of_mem _ e)
    · have h3 := h2 _ List.mem_cons_self
      have hxz : dataLt x m = false ∧ dataLt z m = false := by
        by_cases c : dataLt z x = true
        · rw [if_pos c] at h3
          refine ⟨?_, h3⟩
          cases q : dataLt x m with
          | false => rfl
          | true => rw [show dataLt z m = true from lex_trans _ _ _ c q] at h3; cases h3
        · rw [if_neg c] at h3
          refine ⟨h3, ?_⟩
          cases q : dataLt z m with
          | false => rfl
          | true =>
            rcases lex_negTrans _ (keyToks x) _ q with k | k
            · exact absurd k c
            · rw [show dataLt x m = true from k] at h3; cases h3
      rcases List.mem_cons.mp hy with e | e
      · rw [e]; exact hxz.1
      · rcases List.mem_cons.mp e with e | e
        · rw [e]; exact hxz.2
        · exact h2 _ (List.mem_cons_of_mem _ e)
end
section
variable {X : Cx} {c : Ct} {a b e : Expr} {m : M} {pos p : Pos} {σ : St} {H G : Hp}
open PySem.W
/-- min(xs) of data of one make -/
def rMinD (K : PySem.W.Frag) : List V → Hp → VK → Prop := fun vs H Q => ∃ (a : Addr) (xs : List V) (ds : List PyData), vs = [V.ref a] ∧ SqL K H a xs ∧ DpAll K H xs ds ∧ AlikeAll ds ∧ PyData.depthAll ds ≤ 60 ∧ 0 < ds.length ∧
  ∀ (i : Nat) (x : V) (d : PyData), xs[i]? = some x → ds[i]? = some d → (∀ y, y ∈ ds → dataLt y d = false) → Q x H
theorem cr_minD (hc : X.calm = true) (hu : X.A.units + 65 < cLine) : CallR X (.builtin "min") (rMinD X.K) := by
  intro pins s σ H vs us Q I r h
  obtain ⟨a, xs, ds, rfl, hs, hd, ha, hdep, hne, q⟩ := h
  obtain ⟨its, rv, hl, _⟩ := I.list hs
  rw [Vals.ref1 r]
  obtain ⟨as, hr⟩ := Dp.readsAll I ds xs its hd rv
  cases ds with
  | nil => cases hne
  | cons d0 r0 =>
    refine min_list_data (I.ok.hd hc) hl.isList (by simpa using hr) ha (by omega) fun i v h' tk bs hv hrd hk => ?_
    obtain ⟨hm1, hm2⟩ := min_fold r0 d0
    obtain ⟨bs', hr1, hi, hmem, _⟩ := readsAll_atA (vs := its.toArray) (by simpa using hr) i v hv
    have hx : i < xs.length := by
      have := (Array.getElem?_eq_some_iff.mp hv).1
      rw [rv.length]
      simpa using this
    obtain ⟨u, hu1, ru⟩ := rv.get (List.getElem?_eq_getElem hx)
    have hvu : u = v := by
      have : its[i]? = some v := by simpa using hv
      rw [hu1] at this
      exact Option.some.inj this
    subst hvu
    have hdi : (d0 :: r0)[i]? = some ((d0 :: r0).getD i .none) := by
      rw [List.getD_eq_getElem?_getD, List.getElem?_eq_getElem hi]
      rfl
    have he := alike_unique _ _ _ _ _ (ha.1 _ hmem _ hm1) (reads_keeps hk hr1) hrd
    refine ⟨_, H, I.kept hk, ru, q i _ _ (List.getElem?_eq_getElem hx) hdi fun y hy => ?_⟩
    rw [he]
    exact hm2 y hy
theorem max_fold : ∀ (xs : List PyData) (x : PyData), xs.foldl (fun a y => if dataLt a y then y else a) x ∈ x :: xs ∧ ∀ y, y ∈ x :: xs → dataLt (xs.foldl (fun a y => if dataLt a y then y else a) x) y = false
  | [], x => ⟨List.mem_cons_self, fun y hy => by
    rw [List.mem_singleton.mp hy]
    exact dataLt_self x⟩
  | z :: r, x => by
    rw [List.foldl_cons]
    obtain ⟨h1, h2⟩ := max_fold r (if dataLt x z then z else x)
    generalize hm : r.foldl (fun a y => if dataLt a y then y else a) (if dataLt x z then z else x) = m at h1 h2
    refine ⟨?_, fun y hy => ?_⟩
    · rcases List.mem_cons.mp h1 with e | e
      · rw [e]
        split
        · exact List.mem_cons_of_mem _ List.mem_cons_self
        · exact List.mem_cons_self
      · exact List.mem_cons_of_mem _ (List.mem_cons_of_mem _ e)
    · have h3 := h2 _ List.mem_cons_self
      have hxz : dataLt m x = false ∧ dataLt m z = false := by
        by_cases c : dataLt x z = true
        · rw [if_pos c] at h3
          refine ⟨?_, h3⟩
          cases q : dataLt m x with
          | false => rfl
          | true => rw [show dataLt m z = true from lex_trans _ _ _ q c] at h3; cases h3
        · rw [if_neg c] at h3
          refine ⟨h3, ?_⟩
          cases q : dataLt m z with
          | false => rfl
          | true =>
            rcases lex_negTrans _ (keyToks x) _ q with k | k
            · rw [show dataLt m x = true from k] at h3; cases h3
            · exact absurd k c
      rcases List.mem_cons.mp hy with e | e
      · rw [e]; exact hxz.1
      · rcases List.mem_cons.mp e with e | e
        · rw [e]; exact hxz.2
        · exact h2 _ (List.mem_cons_of_mem _ e)
/-- max(xs) of data of one make -/
def rMaxD (K : PySem.W.Frag) : List V → Hp → VK → Prop := fun vs H Q => ∃ (a : Addr) (xs : List V) (ds : List PyData), vs = [V.ref a] ∧ SqL K H a xs ∧ DpAll K H xs ds ∧ AlikeAll ds ∧ PyData.depthAll ds ≤ 60 ∧ 0 < ds.length ∧
  ∀ (i : Nat) (x : V) (d : PyData), xs[i]? = some x → ds[i]? = some d → (∀ y, y ∈ ds → dataLt d y = false) → Q x H
theorem cr_maxD (hc : X.calm = true) (hu : X.A.units + 65 < cLine) : CallR X (.builtin "max") (rMaxD X.K) := by
  intro pins s σ H vs us Q I r h
  obtain ⟨a, xs, ds, rfl, hs, hd, ha, hdep, hne, q⟩ := h
  obtain ⟨its, rv, hl, _⟩ := I.list hs
  rw [Vals.ref1 r]
  obtain ⟨as, hr⟩ := Dp.readsAll I ds xs its hd rv
  cases ds with
  | nil => cases hne
  | cons d0 r0 =>
    refine max_list_data (I.ok.hd hc) hl.isList (by simpa using hr) ha (by omega) fun i v h' tk bs hv hrd hk => ?_
    obtain ⟨hm1, hm2⟩ := max_fold r0 d0
    obtain ⟨bs', hr1, hi, hmem, _⟩ := readsAll_atA (vs := its.toArray) (by simpa using hr) i v hv
    have hx : i < xs.length := by
      have := (Array.getElem?_eq_some_iff.mp hv).1
      rw [rv.length]
      simpa using this
    obtain ⟨u, hu1, ru⟩ := rv.get (List.getElem?_eq_getElem hx)
    have hvu : u = v := by
      have : its[i]? = some v := by simpa using hv
      rw [hu1] at this
      exact Option.some.inj this
    subst hvu
    have hdi : (d0 :: r0)[i]? = some ((d0 :: r0).getD i .none) := by
      rw [List.getD_eq_getElem?_getD, List.getElem?_eq_getElem hi]
      rfl
    have he := alike_unique _ _ _ _ _ (ha.1 _ hmem _ hm1) (reads_keeps hk hr1) hrd
    refine ⟨_, H, I.kept hk, ru, q i _ _ (List.getElem?_eq_getElem hx) hdi fun y hy => ?_⟩
    rw [he]
    exact hm2 y hy
theorem like_all {ds : List D} (h : ∀ x, x ∈ ds → ∀ y, y ∈ ds → likeD x y = true) : AlikeAll (toPs ds) := by
  rw [toPs_map]
  refine ⟨fun x hx y hy => ?_, fun x hx => ?_⟩
  · obtain ⟨a, ha, rfl⟩ := List.mem_map.mp hx
    obtain ⟨b, hb, rfl⟩ := List.mem_map.mp hy
    exact like_toP _ _ (h a ha b hb)
  · obtain ⟨a, ha, rfl⟩ := List.mem_map.mp hx
    have := h a ha a ha
    cases a <;> simp_all [likeD, toP]
theorem de_minG [o : Ok X c] [cm : Calm X] (ha : PE X a (tE c m)) (hg : Gl X "min" := by rfl) (he : starEach [a] X.env = (false, eval a X.env) :: starEach [] X.env := by rfl) : PE X (.Call (.Name "min" p) [a] [] pos) (tE c (mUn dMinG m)) :=
  de_b1 (cr_minD cm.calm (by have := o.hu; omega)) (by
    intro σ H G s x v Qr Q R hx h F
    unfold dMinG at h
    split at h
    · rename_i ds
      obtain ⟨hlk, hok, hl, q⟩ := h
      obtain ⟨a, vs, e, h1, h2⟩ := hx.list
      have hdp := (okDs_lay 8 ds hok).2
      refine ⟨a, vs, toPs ds, by rw [e], SqL.of h1, o.K ▸ (h2.mono R.gH).dp, like_all hlk, by omega, by rw [toPs_map, List.length_map]; exact hl, fun i x d hxi hdi hmin => ?_⟩
      rw [toPs_map, List.getElem?_map] at hdi
      cases hd : ds[i]? with
      | none => rw [hd] at hdi; cases hdi
      | some d0 =>
        rw [hd] at hdi
        cases hdi
        have hm0 := List.mem_of_getElem? hd
        obtain ⟨u, hu1, hu2⟩ := h2.get hd
        rw [hxi] at hu1
        cases hu1
        refine F.val R (q d0 hm0 fun y hy => ?_) hu2
        have := hmin (toP y) (by rw [toPs_map]; exact List.mem_map_of_mem hy)
        rwa [lt_toP _ _ (hlk _ hy _ hm0)] at this
    · exact h.elim) (by decide +kernel) (by decide +kernel) (by decide +kernel) (by decide +kernel) ha hg he
theorem de_maxG [o : Ok X c] [cm : Calm X] (ha : PE X a (tE c m)) (hg : Gl X "max" := by rfl) (he : starEach [a] X.env = (false, eval a X.env) :: starEach [] X.env := by rfl) : PE X (.Call (.Name "max" p) [a] [] pos) (tE c (mUn dMaxG m)) :=
  de_b1 (cr_maxD cm.calm (by have := o.hu; omega)) (by
    intro σ H G s x v Qr Q R hx h F
    unfold dMaxG at h
    split at h
    · rename_i ds
      obtain ⟨hlk, hok, hl, q⟩ := h
      obtain ⟨a, vs, e, h1, h2⟩ := hx.list
      have hdp := (okDs_lay 8 ds hok).2
      refine ⟨a, vs, toPs ds, by rw [e], SqL.of h1, o.K ▸ (h2.mono R.gH).dp, like_all hlk, by omega, by rw [toPs_map, List.length_map]; exact hl, fun i x d hxi hdi hmin => ?_⟩
      rw [toPs_map, List.getElem?_map] at hdi
      cases hd : ds[i]? with
      | none => rw [hd] at hdi; cases hdi
      | some d0 =>
        rw [hd] at hdi
        cases hdi
        have hm0 := List.mem_of_getElem? hd
        obtain ⟨u, hu1, hu2⟩ := h2.get hd
        rw [hxi] at hu1
        cases hu1
        refine F.val R (q d0 hm0 fun y hy => ?_) hu2
        have := hmin (toP y) (by rw [toPs_map]; exact List.mem_map_of_mem hy)
        rwa [lt_toP _ _ (hlk _ hm0 _ hy)] at this
    · exact h.elim) (by decide +kernel) (by decide +kernel) (by decide +kernel) (by decide +kernel) ha hg he
end
end DL

/-! DLS16: s.index(c, i). -/
namespace DL
open PySem PySem.Spec PyProof.Rows L2
theorem split_from {lo n a : Nat} {pre post : List Nat} (h : List.range' lo n = pre ++ a :: post) : lo ≤ a ∧ ∀ k, lo ≤ k → k < a → k ∈ pre := by
  have hL : n = pre.length + (post.length + 1) := by
    have := congrArg List.length h
    simpa using this
  have hlen : lo + pre.length = a := by
    have h1 : (List.range' lo n)[pre.length]? = some a := by rw [h]; simp
    rw [List.getElem?_range' (by omega)] at h1
    simpa using h1
  refine ⟨by omega, fun k hk1 hk => ?_⟩
  have h2 : (List.range' lo n)[k - lo]? = pre[k - lo]? := by rw [h, List.getElem?_append_left (by omega)]
  rw [List.getElem?_range' (by omega)] at h2
  have h3 : pre[k - lo]? = some k := by rw [← h2]; simp; omega
  exact List.mem_of_getElem? h3
theorem occ_from (x y : Str) (lo : Nat) : (Builtin.Str.occurrences x y lo x.length 1 = [] ∧ ∀ i, lo ≤ i → ¬ PySem.StrLaws.At x y x.length i) ∨
    ∃ i r, Builtin.Str.occurrences x y lo x.length 1 = i :: r ∧ lo ≤ i ∧ PySem.StrLaws.At x y x.length i ∧ ∀ k, lo ≤ k → k < i → ¬ PySem.StrLaws.At x y x.length k := by
  rw [PySem.StrLaws.occ_eq]
  rcases PySem.StrLaws.occ_first x y x.length 1 (Nat.le_refl 1) (List.range' lo (x.length + 1 - lo)) lo (fun i hi => by simp [List.mem_range'] at hi; omega) with ⟨h0, hn⟩ | ⟨pre, a, post, e, h0, ha, hn⟩
  · refine .inl ⟨by rw [h0], fun i hlo hi => ?_⟩
    exact hn i (by have := hi.1; rw [List.mem_range'_1]; omega) hi
  · obtain ⟨s1, s2⟩ := split_from e
    refine .inr ⟨a, ((forIn (List.range' lo (x.length + 1 - lo)) ((#[] : Array Nat), lo) (PySem.StrLaws.occBody x y x.length 1)).run.fst.toList).tail, ?_, s1, ha, fun k hk1 hk => hn k (s2 k hk1 hk)⟩
    generalize (forIn (List.range' lo (x.length + 1 - lo)) ((#[] : Array Nat), lo) (PySem.StrLaws.occBody x y x.length 1)).run.fst = arr at h0
    have h1 : arr.toList[0]? = some a := by simpa using h0
    cases hL : arr.toList with
    | nil => rw [hL] at h1; cases h1
    | cons b t => rw [hL] at h1; simp at h1; rw [h1]; rfl
section
variable {X : Cx} {c : Ct} {a b e : Expr} {m m1 m2 m3 : M} {pos p : Pos} {σ : St} {H G : Hp}
theorem mt_sindex2 : MtR X "str.index" (fun x xs H Q => ∃ (a b : Str) (i : Int) (k : Nat) (rest : List Nat), x = .str a ∧ xs = [.str b, .int i] ∧ Builtin.Str.occurrences a b (PySem.fromIndex a.length i) a.length 1 = k :: rest ∧ Q (.int (k : Nat)) H) := by
  intro pins s σ H x xs v us Q I rx rs h
  obtain ⟨a, b, i, k, rest, rfl, rfl, ho, q⟩ := h
  obtain ⟨t, rfl⟩ := rx
  cases rs with
  | cons r1 rs =>
    cases rs with
    | cons r2 rs =>
      cases rs
      obtain ⟨u, rfl⟩ := r1
      obtain ⟨z, rfl⟩ := r2
      exact call_gives PySem.F.slot_str_index (typeIs_str _ _ _) PySem.F.entry_str_index (PySem.F.args_str_index_3 _ _ _) (gives_str_index_from a b i t u z k rest ho) ⟨.int (k : Nat), H, I.tok _, ⟨_, rfl⟩, q⟩
theorem de_indexFrom [o : Ok X c] {apos : Pos} (ha : PE X a (tE c m1)) (hb : PE X b (tE c m2)) (h3 : PE X e (tE c m3)) (hs : starEach [b, e] X.env = (false, eval b X.env) :: starEach [e] X.env := by rfl) (hs2 : starEach [e] X.env = (false, eval e X.env) :: starEach [] X.env := by rfl) (hbase : attributeBase a "index" X.env (eval a X.env) = eval a X.env := by rfl) (hline : (apos.endLine == pos.line) = true := by rfl)
    (hfew : ((backTo pos (starEach (b :: [e]) X.env)).all (fun x => !x.1) && (backToKw pos (keywordEach [] X.env)).all (fun x => x.1.isSome)
      && decide ((b :: [e]).length + ([] : List Keyword).length + (if ([] : List Keyword).isEmpty then 0 else 1) < 30)) = true := by rfl) (hpl : (backTo pos (starEach [e] X.env)).any (·.1) = false := by rfl) :
    PE X (.Call (.Attribute a "index" apos) [b, e] [] pos) (tE c (mMS2 dIndexFrom m1 m2 m3)) := by
  refine pe_imp (pe_bm (T := "str") PySem.F.plainAttrs_str PySem.F.slot_str_index PySem.F.type_str_index mt_sindex2 ha (pa_cons hb (pa_cons h3 pa_nil hs2) hs) hbase hfew hline hs hpl) ?_
  rintro σ H Q ⟨G, s, Q0, R, hm, hQ⟩
  refine ⟨G, s, _, R, hm, fun r1 s1 v1 H1 G1 q1 R1 S1 K1 O1 => ?_⟩
  obtain ⟨⟨l, el⟩, q1⟩ := isS_of q1
  have p1 := O1.peek R1
  have p1' := p1
  rw [el] at p1'
  refine ⟨by rw [p1'.str]; rfl, G1, s1, _, R1, q1, fun r2 s2 v2 H2 G2 q2 R2 S2 K2 O2 => ⟨G2, s2, _, R2, q2, fun r3 s3 v3 H3 G3 q3 R3 S3 K3 O3 => ?_⟩⟩
  have p2 := (O2.peek R2).keep S3 K3
  have p3 := O3.peek R3
  have p1k := (p1.keep S2 K2).keep S3 K3
  unfold dIndexFrom at q3
  split at q3
  · rename_i sl ch i e1 e2 e3
    obtain ⟨h0, j, hj1, hj2, hj3, q⟩ := q3
    rw [e1] at p1k
    rw [e2] at p2
    rw [e3] at p3
    have hf : PySem.fromIndex (sT sl).length i = i.toNat := by
      unfold PySem.fromIndex
      rw [if_neg (by omega)]
      omega
    rcases occ_from (sT sl) (sT [ch]) i.toNat with ⟨_, hn⟩ | ⟨k, rest, eo, hk1, hk2, hk3⟩
    · exact absurd (at_one.mpr hj2) (hn j (by omega))
    · have hkj : k = j := by
        rcases Nat.lt_trichotomy k j with z | z | z
        · exact absurd (at_one.mp hk2) (hj3 k (by omega) z)
        · exact z
        · exact absurd (at_one.mpr hj2) (hk3 j (by omega) z)
      subst hkj
      refine ⟨sT sl, sT [ch], i, k, rest, p1k.str, by rw [p2.str, p3.int], by rw [hf]; exact eo, hQ _ s3 _ _ _ q R3 ((S1.trans S2).trans S3) ((K1.trans K2).trans K3) ?_⟩
      exact .int _
  · exact q3.elim
end
end DL

/-! DLS17: calls that only look at their arguments. -/
namespace DL
open PySem PySem.Spec PyProof.Rows L2
theorem flat_dg {K : PySem.W.Frag} {G G' : Hp} {v : V} {d : D} (h : Dg K G v d) (f : flatD d = true) : Dg K G' v d := by
  cases h with
  | non => exact .non
  | bl b => exact .bl b
  | int i => exact .int i
  | str l => exact .str l
  | lst h r => cases f
  | tup h r => cases f
/-- what has been looked at: a name's value; a value for good -/
inductive EvOk (c : Ct) (σ : St) (G : Hp) (s : S) : List Ar → List V → List D → Prop
  | nil : EvOk c σ G s [] [] []
  | nm {i : Nat} {v : V} {d : D} {r : List Ar} {vs : List V} {ds : List D} : σ[i]? = some (some v) → peekA s.v i = some d → EvOk c σ G s r vs ds → EvOk c σ G s (.nm i :: r) (v :: vs) (d :: ds)
  | ex {m : M} {v : V} {d : D} {r : List Ar} {vs : List V} {ds : List D} : Dg c.K G v d → EvOk c σ G s r vs ds → EvOk c σ G s (.ex m :: r) (v :: vs) (d :: ds)
section
variable {X : Cx} {c : Ct} {e : Expr} {es : List Expr} {σ : St} {H G : Hp} {s : S} {p pos : Pos} {m : M}
theorem peek_put {v : List Slot} {i : Nat} {ds : List D} (h : get v i = .own ds) (j : Nat) : peekA (put v i (.val (.list ds))) j = peekA v j := by
  have hi : i < v.length := get_lt (by rw [h]; intro z; cases z)
  unfold peekA
  rw [get_put _ _ _ _ hi]
  by_cases e : j = i
  · subst e
    rw [if_pos rfl, h]
  · rw [if_neg e]
theorem EvOk.mono {as : List Ar} {vs : List V} {ds : List D} {G' : Hp} (sm : Same G G') (h : EvOk c σ G s as vs ds) : EvOk c σ G' s as vs ds := by
  induction h with
  | nil => exact .nil
  | nm h1 h2 _ ih => exact .nm h1 h2 ih
  | ex h1 _ ih => exact .ex (h1.mono sm) ih
theorem EvOk.put {as : List Ar} {vs : List V} {ds : List D} {i : Nat} {es : List D} (e : get s.v i = .own es) (h : EvOk c σ G s as vs ds) : EvOk c σ G { s with v := DL.put s.v i (.val (.list es)) } as vs ds := by
  induction h with
  | nil => exact .nil
  | nm h1 h2 _ ih => exact .nm h1 ((peek_put e _).trans h2) ih
  | ex h1 _ ih => exact .ex h1 ih
/-- all that was looked at is made good -/
theorem EvOk.frz {as : List Ar} {vs : List V} {ds : List D} (R : Rel c σ H G s) (h : EvOk c σ G s as vs ds) : ∃ G1 s1, Rel c σ H G1 s1 ∧ Same G G1 ∧ Dgs c.K G1 vs ds := by
  suffices h : ∀ (as : List Ar) (vs : List V) (ds : List D) (G : Hp) (s : S), Rel c σ H G s → EvOk c σ G s as vs ds → ∃ G1 s1, Rel c σ H G1 s1 ∧ Same G G1 ∧ Dgs c.K G1 vs ds from h as vs ds G s R ‹_›
  intro as
  induction as with
  | nil =>
    intro vs ds G s R h
    cases h
    exact ⟨G, s, R, Same.refl _, .nil⟩
  | cons a as ih =>
    intro vs ds G s R h
    cases h with
    | ex h1 hr =>
      obtain ⟨G1, s1, R1, sm, dg⟩ := ih _ _ _ _ R hr
      exact ⟨G1, s1, R1, sm, .cons (h1.mono sm) dg⟩
    | @nm i v d _ vs ds h1 h2 hr =>
      unfold peekA at h2
      cases q : get s.v i with
      | val d0 =>
        rw [q] at h2
        cases h2
        obtain ⟨v', q1, q2⟩ := R.at q
        rw [h1] at q1
        cases q1
        obtain ⟨G1, s1, R1, sm, dg⟩ := ih _ _ _ _ R hr
        exact ⟨G1, s1, R1, sm, .cons (q2.mono sm) dg⟩
      | own ds0 =>
        rw [q] at h2
        cases h2
        obtain ⟨a, us, q1, R1, sm1, dg0⟩ := R.freezeAt q
        rw [h1] at q1
        cases q1
        obtain ⟨G1, s1, R2, sm, dg⟩ := ih _ _ _ _ R1 ((hr.mono sm1).put q)
        exact ⟨G1, s1, R2, sm1.trans sm, .cons (dg0.mono sm) dg⟩
      | gone => rw [q] at h2; cases h2
      | feed => rw [q] at h2; cases h2
      | exn x => rw [q] at h2; cases h2
/-- the reading of such arguments -/
def tEv (c : Ct) (as : List Ar) : TA := fun σ H Q => ∃ G s P, Rel c σ H G s ∧ evAs as s P ∧ ∀ ds vs H' G', P ds → Rel c σ H' G' s → Same G G' → Keep c H H' → EvOk c σ G' s as vs ds → Q vs H'
theorem dk_nil : PA X [] (tEv c []) := pa_imp pa_nil fun σ H Q ⟨G, s, P, R, h, k⟩ => k _ _ _ _ h R (Same.refl _) Keep.refl .nil
theorem dk_nm (i : Nat) {x : Str} {as : List Ar} (hr : PA X es (tEv c as)) (hN : X.N[i]? = some x := by rfl) (hv : Vis X.env.scope x := by first | exact Or.inl rfl | exact Or.inr (Or.inl rfl) | exact Or.inr (Or.inr rfl)) (hd : (x == ("__debug__" : Str)) = false := by decide)
    (hcd : (x == ("__classdict__" : Str)) = false := by decide) (hs : starEach (.Name x pos :: es) X.env = (false, eval (.Name x pos) X.env) :: starEach es X.env := by rfl) : PA X (.Name x pos :: es) (tEv c (.nm i :: as)) := by
  refine pa_imp (pa_cons (pe_var (i := i) hN hv hd hcd) hr hs) ?_
  rintro σ H Q ⟨G, s, P, R, ⟨d, h1, h2⟩, k⟩
  have hv : ∃ v, σ[i]? = some (some v) := by
    unfold peekA at h1
    cases q : get s.v i with
    | val d0 =>
      obtain ⟨v, q1, _⟩ := R.at q
      exact ⟨v, q1⟩
    | own ds0 =>
      obtain ⟨a, _, q1, _⟩ := R.at q
      exact ⟨_, q1⟩
    | gone => rw [q] at h1; cases h1
    | feed => rw [q] at h1; cases h1
    | exn x => rw [q] at h1; cases h1
  obtain ⟨v, hv⟩ := hv
  exact ⟨v, hv, G, s, _, R, h2, fun ds vs H' G' q R' S' K' ev => k _ _ _ _ q R' S' K' (.nm hv h1 ev)⟩
theorem dk_ex {as : List Ar} (he : PE X e (tE c m)) (hr : PA X es (tEv c as)) (hs : starEach (e :: es) X.env = (false, eval e X.env) :: starEach es X.env := by rfl) : PA X (e :: es) (tEv c (.ex m :: as)) := by
  refine pa_imp (pa_cons he hr hs) ?_
  rintro σ H Q ⟨G, s, P, R, h, k⟩
  refine ⟨G, s, _, R, h, fun r s1 v H1 G1 q R1 S1 K1 O1 => ?_⟩
  obtain ⟨rfl, q⟩ := q
  obtain ⟨d, G2, q, R2, S2, dg⟩ := O1.frz R1 q
  exact ⟨G2, s1, _, R2, q, fun ds vs H' G' q R' S' K' ev => k _ _ _ _ q R' ((S1.trans S2).trans S') (K1.trans K') (.ex (dg.mono S') ev)⟩
theorem de_callB {x : Str} {g : Sem} {as : List Ar} [o : Ok X c] (F : Kn X x (spD X.K g)) (ha : PA X (e :: es) (tEv c as)) (hg : Gl X x := by rfl) (hdb : (x == ("__debug__" : Str)) = false := by decide)
    (he : starEach (e :: es) X.env = (false, eval e X.env) :: starEach es X.env := by rfl) (hpl : (backTo pos (starEach es X.env)).any (·.1) = false := by rfl) : PE X (.Call (.Name x p) (e :: es) [] pos) (tE c (mCallB g as)) := by
  obtain ⟨k, f, fd, ps, F, hr, hm, hk', hb⟩ := F.ex
  refine pe_imp (pe_call F hr hg hm hk' hb .nil pass0 ha hdb he hpl) ?_
  rintro σ H Q ⟨G, s, Q0, R, h, hQ⟩
  refine ⟨G, s, _, R, h, fun ds vs H1 G1 q R1 S1 K1 ev => ?_⟩
  obtain ⟨G2, s2, R2, sm, dgs⟩ := ev.frz R1
  show spD X.K g (vs ++ []) H1 Q _
  rw [List.append_nil]
  refine ⟨G2, ds, s.w, _, R2.gH, o.K ▸ dgs, q, fun r w' v H' G' q2 h => ?_⟩
  obtain ⟨d, rfl, fl, q3⟩ : ∃ d, r = .val d ∧ flatD d = true ∧ Q0 (.val d) s := by
    cases r with
    | val d => exact ⟨d, rfl, q2.1, q2.2⟩
    | own ds => exact q2.elim
    | bor ds => exact q2.elim
  have kh : ∀ b o, H1 b = some o → H' b = some o := fun b o e => h.kH b o e (by simp)
  have k2 : Keep c H1 H' := fun b o e _ => kh b o e
  have R' : Rel c σ H' G1 s := R1.grow (Same.refl _) (fun b o e => kh b o (R1.gH b o e)) k2 (fun _ _ e => .inl e) fun a e => by
    obtain ⟨_, sa, q, _⟩ := R1.fd a e
    rw [q]
    exact kh a _ q
  have res : Dg X.K G' v d := h.res
  have res' : Dg c.K G1 v d := by
    rw [o.K] at res
    exact flat_dg res fl
  exact hQ _ _ _ _ _ q3 R' S1 (K1.trans k2) res'
end
end DL

/-! DLS18: is, of truth values; a def that calls itself. -/
namespace DL
open PySem PySem.Spec PyProof.Rows L2
section
variable {X : Cx} {c : Ct} {a b e : Expr} {m m1 m2 : M} {pos p : Pos}
theorem od_is : OpD c dIs (fun x y H Q => ∃ a b, x = .bl a ∧ y = .bl b ∧ Q (.bl (decide (a = b))) H) := by
  intro σ H G s x y v u Qr Q R hx hy h F
  unfold dIs at h
  split at h
  · exact ⟨_, _, hx.bool, hy.bool, F.val R h (.bl _)⟩
  · exact h.elim
theorem od_isNot : OpD c dIsNot (fun x y H Q => ∃ a b, x = .bl a ∧ y = .bl b ∧ Q (.bl (!decide (a = b))) H) := by
  intro σ H G s x y v u Qr Q R hx hy h F
  unfold dIsNot at h
  split at h
  · exact ⟨_, _, hx.bool, hy.bool, F.val R h (.bl _)⟩
  · exact h.elim
theorem de_is (ha : PE X a (tE c m1)) (hb : PE X b (tE c m2)) : PE X (.Compare a [.Is] [b] pos) (tE c (mBin dIs m1 m2)) := de_cmpR op_is_bl od_is ha hb (nomark _)
theorem de_isNot (ha : PE X a (tE c m1)) (hb : PE X b (tE c m2)) : PE X (.Compare a [.IsNot] [b] pos) (tE c (mBin dIsNot m1 m2)) := de_cmpR op_isnot_bl od_isNot ha hb (nomark _)
theorem dt_is (ha : PE X a (tE c m1)) (hb : PE X b (tE c m2)) : PT X (.Compare a [.Is] [b] pos) (tT c (tB (mBin dIs m1 m2))) := dt_cmpR op_is_bl od_is ha hb (nomark _)
theorem dt_isNot (ha : PE X a (tE c m1)) (hb : PE X b (tE c m2)) : PT X (.Compare a [.IsNot] [b] pos) (tT c (tB (mBin dIsNot m1 m2))) := dt_cmpR op_isnot_bl od_isNot ha hb (nomark _)
end
/-- a promise that nobody asks for -/
theorem fn_no {P : Program} {w : World} {K : PySem.W.Frag} {mg : Str → Option Value} {base : Heap} {k : Nat} {f : Addr} {fd : FuncData} {ps : List Str} {g : Sem} (hg : ∀ ds w Q, g ds w Q → False) : FnOk P w K mg base CX0 k f fd ps (spD K g) := by
  refine ⟨fun vs H Q E h => ?_, fun A outer s H args us vs Q E _ _ _ _ h => ?_⟩
  · obtain ⟨_, _, _, _, _, _, h, _⟩ := h
    exact (hg _ _ _ h).elim
  · obtain ⟨_, _, _, _, _, _, h, _⟩ := h
    exact (hg _ _ _ h).elim
/-! ### a table of the module -/
def KT (K : PySem.W.Frag) (w : World) (mg : Str → Option Value) (x : Str) (es : List (List Nat × D)) : Prop := ∃ a, mg x = some (.ref a) ∧ ∀ s d, lookS es s = some d → ∃ v, KDct K w a (sT s) v ∧ ∀ G, Dg K G v d
def VD (K : PySem.W.Frag) (u : Value) (d : D) : Prop := ∃ v, RelV v u ∧ ∀ G, Dg K G v d
theorem VD.tup {K : PySem.W.Frag} {a : Addr} {dd : Option Addr} {its : Array Value} {n : Nat} {sl : Array (Option Value)} {vs : List V} {ds : List D} (h2 : K.lookup a = some ⟨.type "tuple", dd, .seq its n, sl⟩) (h3 : DKs its.toList vs ds) (h4 : its.size ≤ 1000) : VD K (.ref a) (.tup ds) :=
  ⟨.ref a, rfl, fun G => .tup (.inr ⟨_, its, n, h2, rfl, rfl, Nat.le_of_lt (small1000 h4), h3.vals⟩) h3.dgs⟩
theorem VD.str {K : PySem.W.Frag} {y : Str} {l : List Nat} {t : Tok} (h : y.cps.toList = l) : VD K (.str y t) (.str l) := by
  have e : y = sT l := by subst h; cases y; rfl
  subst e
  exact ⟨.str _, ⟨t, rfl⟩, fun _ => .str l⟩
theorem VD.int {K : PySem.W.Frag} {i : Int} {t : Tok} : VD K (.int i t) (.int i) := ⟨.int i, ⟨t, rfl⟩, fun _ => .int i⟩
inductive KEs (K : PySem.W.Frag) (a : Addr) : List (List Nat × D) → Prop
  | nil : KEs K a []
  | cons {k : Str} {l : List Nat} {u : Value} {d : D} {r : List (List Nat × D)} : PySem.W.nsIn K a k = some (some u) → k.cps.toList = l → VD K u d → KEs K a r → KEs K a ((l, d) :: r)
theorem KEs.at {K : PySem.W.Frag} {a : Addr} : ∀ {es : List (List Nat × D)}, KEs K a es → ∀ s d, lookS es s = some d → ∃ u, PySem.W.nsIn K a (sT s) = some (some u) ∧ VD K u d
  | _, .nil, _, _, h => by cases h
  | _, .cons (k := k) (l := l) h1 h2 h3 h4, s, d, h => by
    unfold lookS at h
    by_cases e : l = s
    · rw [if_pos e] at h
      cases h
      have ek : k = sT s := by subst e; subst h2; cases k; rfl
      exact ⟨_, ek ▸ h1, h3⟩
    · rw [if_neg e] at h
      exact h4.at s d h
theorem KT.mk' {K : PySem.W.Frag} {w : World} {mg : Str → Option Value} {hp : Heap} {x : Str} {a : Addr} {arr : Array DictEntry} {n : Nat} {es : List (List Nat × D)} (X : K.In hp) (G : hp.Ns mainGlobals mg) (h1 : PySem.W.nsIn K mainGlobals x = some (some (.ref a)))
    (h2 : K.lookup a = some ⟨.type "dict", none, .dict arr n, #[]⟩) (h3 : PySem.W.KeysLit w.params arr.toList) (h4 : KEs K a es) : KT K w mg x es := by
  refine ⟨a, PySem.W.mg_of X G h1, fun s d h => ?_⟩
  obtain ⟨u, e, v, r, g⟩ := h4.at s d h
  exact ⟨v, ⟨arr, n, u, h2, h3, e, r⟩, g⟩
theorem de_tab {X : Cx} {c : Ct} {x : Str} {b : Expr} {m : M} {pos p : Pos} {es : List (List Nat × D)} (h : KT X.K X.w X.mg x es) [o : Ok X c] (hb : PE X b (tE c m)) (hg : Gl X x := by rfl) (hd : (x == ("__debug__" : Str)) = false := by decide) (hs : PlainIx b := by intro _ _; rfl) :
    PE X (.Subscript (.Name x p) b pos) (tE c (mUn (dTab es) m)) := by
  obtain ⟨a, h1, h2⟩ := h
  refine pe_imp (pe_ix ix_kdict (pe_glob (v := .ref a) hg h1 rfl hd) hb hs) ?_
  intro σ H Q h
  show tUn (fun y H Q => rIxD X.K X.w (.ref a) y H Q) (tE c m) σ H Q
  refine mUn_run (f := dTab es) ?_ σ H Q h
  intro σ H G s x v Qr Q R hx h F
  unfold dTab at h
  split at h
  · obtain ⟨d, e, q⟩ := h
    obtain ⟨v', k1, k2⟩ := h2 _ _ e
    exact ⟨a, _, v', rfl, hx.str, k1, F.val R q (o.K ▸ k2 _)⟩
  · exact h.elim
end DL

/-! DLR: gcd; comprehensions with two fors. -/
namespace DL
def dGcd : D → D → (R → Prop) → Prop
  | .int a, .int b, k => k (.val (.int ((Nat.gcd a.natAbs b.natAbs : Nat) : Int)))
  | _, _, _ => False
def compL2 (own own1 : List Nat) (g : Gt) (t : T) (src1 : Src) (g1 : Gt) (t1 : T) (e : M) : List D → List D → S → (List D → S → Prop) → Prop
  | [], acc, s, Q => Q acc s
  | d :: r, acc, s, Q => g d { s with v := puts s.v own .gone } fun s1 => t s1 fun c s2 =>
      if c = true then src1 s2 fun es s3 => compL own1 g1 t1 e es acc s3 fun acc s4 => compL2 own own1 g t src1 g1 t1 e r acc s4 Q
      else compL2 own own1 g t src1 g1 t1 e r acc s2 Q
def mComp2 (own own1 : List Nat) (src : Src) (g : Gt) (t : T) (src1 : Src) (g1 : Gt) (t1 : T) (e : M) (s : S) (Q : R → S → Prop) : Prop := src s fun ds s1 => compL2 own own1 g t src1 g1 t1 e ds [] s1 fun acc s2 => Q (.own acc) { s2 with v := back s1.v s2.v own }
end DL

/-! DLR2: binomials; sorted texts. -/
namespace DL
/-- the binomials -/
def cmb : Nat → Nat → Nat
  | _, 0 => 1
  | 0, _ + 1 => 0
  | n + 1, k + 1 => cmb n k + cmb n (k + 1)
def dComb : D → D → (R → Prop) → Prop
  | .int a, .int b, k => 0 ≤ a ∧ a ≤ 24 ∧ 0 ≤ b ∧ b ≤ 24 ∧ k (.val (.int ((cmb a.toNat b.toNat : Nat) : Int)))
  | _, _, _ => False
/-- sorted, of texts -/
def dSortS : D → (R → Prop) → Prop
  | .list ds, k => ∃ ls : List (List Nat), ds = ls.map D.str ∧ ls.length < 64 ∧ ∀ qs : List (List Nat), qs.Perm ls → qs.Pairwise (fun a b => ¬ b < a) → k (.own (qs.map D.str))
  | _, _ => False
end DL

/-! DLS22: gcd; comprehensions with two fors. -/
namespace DL
open PySem PySem.Spec PyProof.Rows L2
/-- a module's name for a built-in function -/
def KB (mg : Str → Option Value) (x : Str) (id : String) : Prop := mg x = some (.builtin id)
section
variable {X : Cx} {c : Ct} {a b e : Expr} {es : List Expr} {m m1 m2 m3 : M} {ms : Ms} {t t1 t2 : T} {pos p : Pos} {σ : St} {H G : Hp} {s : S} {x : Str} {id ty : String}
theorem KB.mk' {K : PySem.W.Frag} {hp : Heap} {mg : Str → Option Value} (X : K.In hp) (G : hp.Ns mainGlobals mg) (a : PySem.W.nsIn K mainGlobals x = some (some (.builtin id))) : KB mg x id := PySem.W.mg_of X G a
theorem de_gcd {x : Str} [o : Ok X c] (h : KB X.mg x "math.gcd") (ha : PE X a (tE c m1)) (hb : PE X b (tE c m2)) (hg : Gl X x := by rfl) (hdb : (x == ("__debug__" : Str)) = false := by decide)
    (he : starEach [a, b] X.env = (false, eval a X.env) :: starEach [b] X.env := by rfl) (he2 : starEach [b] X.env = (false, eval b X.env) :: starEach [] X.env := by rfl) (hpl : (backTo pos (starEach [b] X.env)).any (·.1) = false := by rfl) : PE X (.Call (.Name x p) [a, b] [] pos) (tE c (mBin dGcd m1 m2)) := by
  refine pe_imp (pe_callBfun cr_gcd hg h (pa_cons ha (pa_cons hb pa_nil he2) he) hdb he hpl) ?_
  rintro σ H Q ⟨G, s, Q0, R, hm, hQ⟩
  refine ⟨G, s, _, R, hm, fun r1 s1 v1 H1 G1 q1 R1 S1 K1 O1 => ⟨G1, s1, _, R1, q1, fun r2 s2 v2 H2 G2 q2 R2 S2 K2 O2 => ?_⟩⟩
  have p1 := (O1.peek R1).keep S2 K2
  have p2 := O2.peek R2
  unfold dGcd at q2
  split at q2
  · rename_i k i j e1 e2
    rw [e1] at p1
    rw [e2] at p2
    exact ⟨i, j, by rw [p1.int, p2.int], hQ _ _ _ _ _ q2 R2 (S1.trans S2) (K1.trans K2) (.int _)⟩
  · exact q2.elim
theorem comp2_run {src src1 : Src} {g g1 : Gt} {is is1 vs0 vs1 : List Nat} (his : ∀ i ∈ is, i ∈ vs0) (his1 : ∀ i ∈ is1, i ∈ vs1) (hv : ∀ i ∈ vs1, i ∈ vs0) : ∀ σ H Q, tE c (mComp2 vs0 vs1 src g t src1 g1 t1 m) σ H Q →
    tLc2 (tI c src) (fun v σ H Q => ∃ D, tG (c.with D) is g v σ H Q) (fun σ H Q => ∃ D, tT (c.with D) t σ H Q) (fun σ H Q => ∃ D, tI (c.with D) src1 σ H Q) (fun v σ H Q => ∃ D, tG (c.with D) is1 g1 v σ H Q) (fun σ H Q => ∃ D, tT (c.with D) t1 σ H Q) (fun σ H Q => ∃ D, tE (c.with D) m σ H Q) vs0 vs1 σ H Q := by
  rintro σ H Q ⟨G, s, Q0, R, hm, hQ⟩
  refine ⟨G, s, _, R, hm, fun ds s1 J H1 G1 q1 R1 S1 K1 Wk D nD => ?_⟩
  obtain ⟨n1, n2, n3⟩ := R1.h0 nD
  have nrs := R1.nrs nD
  have RD := R1.make nD
  refine ⟨fun i k H => ∃ G s acc vs, i + k = ds.length ∧ Rel (c.with D) (wipe σ vs0) H G { s with v := puts s.v vs0 .gone } ∧ Same G1 G ∧ Keep c H1 H ∧ H D = some (.lst vs) ∧ Dgs c.K G vs acc ∧
      (∃ σ2, Chg vs0 σ2 σ ∧ Rel (c.with D) σ2 H G s) ∧ compL2 vs0 vs1 g t src1 g1 t1 m (ds.drop i) acc s (fun acc s2 => Q0 (.own acc) { s2 with v := back s1.v s2.v vs0 }), ⟨ds.length, G1, s1, [], [], by omega, ?_, Same.refl _, Keep.upd nD, upd_same, .nil, ⟨σ, Chg.refl, RD⟩, q1⟩, ?_⟩
  · exact RD.forget ⟨wipe_length _ _, fun i h => by rw [wipe_at, if_neg h]⟩
  rintro i k H2 ⟨G2, s2, acc, vs, ei, Rw, S2, K2, hD, dacc, ⟨σ2, ch2, R2⟩, q⟩
  by_cases hi' : i < ds.length
  · right
    refine ⟨Wk.go i H2 G2 hi' S2 R2.gH, fun H' => ∃ G s acc vs, i + 1 + (k - 1) = ds.length ∧ Rel (c.with D) (wipe σ vs0) H' G { s with v := puts s.v vs0 .gone } ∧ Same G1 G ∧ Keep c H1 H' ∧ H' D = some (.lst vs) ∧ Dgs c.K G vs acc ∧
      (∃ σ2, Chg vs0 σ2 σ ∧ Rel (c.with D) σ2 H' G s) ∧ compL2 vs0 vs1 g t src1 g1 t1 m (ds.drop (i + 1)) acc s (fun acc s2 => Q0 (.own acc) { s2 with v := back s1.v s2.v vs0 }), fun H' h => ⟨k - 1, by omega, h⟩, fun x H3 y => ?_⟩
    obtain ⟨G3, R3, S3, K3, dx⟩ := Wk.yld (c.with D) _ i H2 G2 H3 _ x (ds[i]) rfl Rw S2 (by simp) y
    have ed : ds.drop i = ds[i] :: ds.drop (i + 1) := by rw [← List.drop_eq_getElem_cons hi']
    rw [ed] at q
    refine ⟨D, G3, _, _, _, R3, dx, q, fun s4 σ4 H4 G4 q4 R4 C4 S4 K4 => ?_⟩
    refine ⟨by rw [wipe_chg C4 his, wipe_wipe], D, G4, s4, _, R4, q4, fun b s5 H5 G5 q5 R5 S5 K5 => ?_⟩
    have hch : Chg vs0 σ4 σ := ⟨by rw [C4.1, wipe_length], fun j hj => by rw [C4.2 j fun z => hj (his j z), wipe_at, if_neg hj]⟩
    have hw : Chg vs0 σ4 (wipe σ vs0) := ⟨C4.1.symm, fun j hj => (C4.2 j fun z => hj (his j z)).symm⟩
    have kk : Keep c H1 H5 := ((K2.trans K3).trans K4).trans K5
    have ss : Same G1 G5 := ((S2.trans S3).trans S4).trans S5
    have hD5 : H5 D = some (.lst vs) := K5 _ _ (K4 _ _ (K3 _ _ hD n2) n2) n2
    have da5 : Dgs c.K G5 vs acc := dacc.mono ((S3.trans S4).trans S5)
    cases b with
    | true =>
      rw [if_pos rfl] at q5
      refine iteT ⟨D, G5, s5, _, R5, q5, fun es s6 J1 H6 G6 q6 R6 S6 K6 Wk1 => ?_⟩
      have hD6 : H6 D = some (.lst vs) := K6 _ _ hD5 n2
      have da6 : Dgs c.K G6 vs acc := da5.mono S6
      refine ⟨fun j k H => ∃ G s acc vs, j + k = es.length ∧ Rel (c.with D) (wipe σ4 vs1) H G { s with v := puts s.v vs1 .gone } ∧ Same G6 G ∧ Keep c H1 H ∧ H D = some (.lst vs) ∧ Dgs c.K G vs acc ∧
        (∃ σ2, Chg vs1 σ2 σ4 ∧ Rel (c.with D) σ2 H G s) ∧ compL vs1 g1 t1 m (es.drop j) acc s (fun acc s4 => compL2 vs0 vs1 g t src1 g1 t1 m (ds.drop (i + 1)) acc s4 fun acc s2 => Q0 (.own acc) { s2 with v := back s1.v s2.v vs0 }), ⟨es.length, G6, s6, acc, vs, by omega, ?_, Same.refl _, kk.trans K6, hD6, da6, ⟨σ4, Chg.refl, R6⟩, q6⟩, ?_⟩
      · exact R6.forget ⟨wipe_length _ _, fun i h => by rw [wipe_at, if_neg h]⟩
      rintro j k1 H7 ⟨G7, s7, acc7, vs7, ej, Rw7, S7, K7, hD7, da7, ⟨σ7, ch7, R7⟩, q7⟩
      by_cases hj' : j < es.length
      · right
        refine ⟨Wk1.go j H7 G7 hj' S7 R7.gH, fun H' => ∃ G s acc vs, j + 1 + (k1 - 1) = es.length ∧ Rel (c.with D) (wipe σ4 vs1) H' G { s with v := puts s.v vs1 .gone } ∧ Same G6 G ∧ Keep c H1 H' ∧ H' D = some (.lst vs) ∧ Dgs c.K G vs acc ∧
          (∃ σ2, Chg vs1 σ2 σ4 ∧ Rel (c.with D) σ2 H' G s) ∧ compL vs1 g1 t1 m (es.drop (j + 1)) acc s (fun acc s4 => compL2 vs0 vs1 g t src1 g1 t1 m (ds.drop (i + 1)) acc s4 fun acc s2 => Q0 (.own acc) { s2 with v := back s1.v s2.v vs0 }), fun H' h => ⟨k1 - 1, by omega, h⟩, fun x1 H8 y1 => ?_⟩
        obtain ⟨G8, R8, S8, K8, dx8⟩ := Wk1.yld (c.with D) _ j H7 G7 H8 _ x1 (es[j]) rfl Rw7 S7 (by simp) y1
        have ed1 : es.drop j = es[j] :: es.drop (j + 1) := by rw [← List.drop_eq_getElem_cons hj']
        rw [ed1] at q7
        refine ⟨D, G8, _, _, _, R8, dx8, q7, fun s9 σ9 H9 G9 q9 R9 C9 S9 K9 => ?_⟩
        refine ⟨by rw [wipe_chg C9 his1, wipe_wipe], D, G9, s9, _, R9, q9, fun b1 sa Ha Ga qa Ra Sa Ka => ?_⟩
        have hch1 : Chg vs1 σ9 σ4 := ⟨by rw [C9.1, wipe_length], fun j hj => by rw [C9.2 j fun z => hj (his1 j z), wipe_at, if_neg hj]⟩
        have hw1 : Chg vs1 σ9 (wipe σ4 vs1) := ⟨C9.1.symm, fun j hj => (C9.2 j fun z => hj (his1 j z)).symm⟩
        have kka : Keep c H1 Ha := ((K7.trans K8).trans K9).trans Ka
        have ssa : Same G6 Ga := ((S7.trans S8).trans S9).trans Sa
        have hDa : Ha D = some (.lst vs7) := Ka _ _ (K9 _ _ (K8 _ _ hD7 n2) n2) n2
        have daa : Dgs c.K Ga vs7 acc7 := da7.mono ((S8.trans S9).trans Sa)
        cases b1 with
        | true =>
          rw [if_pos rfl] at qa
          refine iteT ⟨D, Ga, sa, _, Ra, qa, fun r sb vb Hb Gb qb Rb Sb Kb Ob => ?_⟩
          obtain ⟨d, Gc, qc, Rc, Sc, dgc⟩ := Ob.frz Rb qb
          have hDb : Hb D = some (.lst vs7) := Kb _ _ hDa n2
          refine ⟨vs7, hDb, by rw [(da7.length), ← lineEq]; exact qc.1, ?_⟩
          have Rd := Rc.more n1 (.lst (vs7 ++ [vb]))
          refine ⟨Gc, sb, acc7 ++ [d], vs7 ++ [vb], by omega, Rd.forget hw1, ((ssa.trans Sb).trans Sc), fun b o e n => ?_, upd_same, (daa.mono (Sb.trans Sc)).append (.cons dgc .nil), ⟨σ9, hch1, Rd⟩, qc.2⟩
          rw [upd_ne (ne_of_none e nD)]
          exact (kka.trans Kb) b o e n
        | false =>
          rw [if_neg Bool.false_ne_true] at qa
          exact iteF ⟨Ga, sa, acc7, vs7, by omega, Ra.forget hw1, ssa, kka, hDa, daa, ⟨σ9, hch1, Ra⟩, qa⟩
      · left
        have e0 : j = es.length := by omega
        subst e0
        refine ⟨Wk1.stop H7 G7 S7 R7.gH, ?_⟩
        rw [List.drop_length] at q7
        have hch7 : Chg vs0 σ7 σ := ⟨ch7.1 ▸ hch.1, fun j hj => (hch.2 j hj).trans (ch7.2 j fun z => hj (hv j z))⟩
        have hw7 : Chg vs0 σ7 (wipe σ vs0) := ⟨by rw [wipe_length, hch7.1], fun j hj => by rw [wipe_at, if_neg hj]; exact hch7.2 j hj⟩
        exact ⟨G7, s7, acc7, vs7, by omega, R7.forget hw7, (ss.trans S6).trans S7, K7, hD7, da7, ⟨σ7, hch7, R7⟩, q7⟩
    | false =>
      rw [if_neg Bool.false_ne_true] at q5
      exact iteF ⟨G5, s5, acc, vs, by omega, R5.forget hw, ss, kk, hD5, da5, ⟨σ4, hch, R5⟩, q5⟩
  · left
    have e0 : i = ds.length := by omega
    subst e0
    refine ⟨Wk.stop H2 G2 S2 R2.gH, ?_⟩
    rw [List.drop_length] at q
    have RF : Rel c σ H2 G2 { s2 with v := back s1.v s2.v vs0 } := R2.made.backed ch2 R1.len fun j => by
      have z := R1.sl j
      cases e : get s1.v j with
      | val d =>
        rw [e] at z
        obtain ⟨v, z1, z2⟩ := z
        exact ⟨v, z1, z2.mono S2⟩
      | _ => trivial
    refine hQ _ _ _ _ _ q RF (S1.trans S2) (K1.trans K2) ?_
    obtain ⟨m1, m2, _⟩ := R2.rs D (.inr rfl)
    refine ⟨D, vs, rfl, hD, dacc, m1, n1, n2, nrs, fun j hj ej => ?_⟩
    have e0 : s2.v.length = s1.v.length := by rw [R2.len, R1.len, ch2.1]
    have hj : (get (back s1.v s2.v vs0) j).isOwn = true := hj
    rw [get_back _ _ _ _ e0] at hj
    by_cases z : j ∈ vs0
    · rw [if_pos z] at hj
      cases y : get s1.v j <;> rw [y] at hj <;> cases hj
    · rw [if_neg z] at hj
      have sl := R2.sl j
      cases y : get s2.v j with
      | own es =>
        rw [y] at sl
        obtain ⟨a, us, e1, e2, e3, e4, e5, e6, e7⟩ := sl
        rw [← ch2.2 j z, ej] at e1
        cases e1
        exact e7 (.inr rfl)
      | _ => rw [y] at hj; cases hj
theorem de_comp2 {elt tg iter tg1 iter1 : Expr} {ifs ifs1 : List Expr} {scope : Scope} {src src1 : Src} {g g1 : Gt} {is is1 : List Nat} (own : List (Str × Nat)) (vs1 : List Nat) [o : Ok X c] [cm : Calm X] (hi : PI X tg iter (tI c src)) (ok : blkC X.N X.env.scope scope own = true)
    (hg : ∀ (c : Ct) [Ok X c] (s : Shared) (H : Hp) (C : Addr) (cl : List (Str × Addr)) (fp : List Addr), PG (X.blk s H scope (compEnvC scope cl C X.env) fp) tg (tG c is g))
    (ht : ∀ (c : Ct) [Ok X c] (s : Shared) (H : Hp) (C : Addr) (cl : List (Str × Addr)) (fp : List Addr), PTs (X.blk s H scope (compEnvC scope cl C X.env) fp) ifs (tT c t))
    (hi1 : ∀ (c : Ct) [Ok X c] (s : Shared) (H : Hp) (C : Addr) (cl : List (Str × Addr)) (fp : List Addr), PI (X.blk s H scope (compEnvC scope cl C X.env) fp) tg1 iter1 (tI c src1))
    (hg1 : ∀ (c : Ct) [Ok X c] (s : Shared) (H : Hp) (C : Addr) (cl : List (Str × Addr)) (fp : List Addr), PG (X.blk s H scope (compEnvC scope cl C X.env) fp) tg1 (tG c is1 g1))
    (ht1 : ∀ (c : Ct) [Ok X c] (s : Shared) (H : Hp) (C : Addr) (cl : List (Str × Addr)) (fp : List Addr), PTs (X.blk s H scope (compEnvC scope cl C X.env) fp) ifs1 (tT c t1))
    (he : ∀ (c : Ct) [Ok X c] (s : Shared) (H : Hp) (C : Addr) (cl : List (Str × Addr)) (fp : List Addr), PE (X.blk s H scope (compEnvC scope cl C X.env) fp) elt (tE c m)) (his : ∀ i ∈ is, i ∈ own.map (·.2) := by decide) (his1 : ∀ i ∈ is1, i ∈ vs1 := by decide) (hv : ∀ i ∈ vs1, i ∈ own.map (·.2) := by decide)
    (hs : ∀ x, foldedSetIterable iter X.env x = pure x := by intro _; rfl) (hs1 : ∀ env x, foldedSetIterable iter1 env x = pure x := by intro _ _; rfl) : PE X (.ListComp elt [⟨tg, iter, ifs, 0⟩, ⟨tg1, iter1, ifs1, 0⟩] scope pos) (tE c (mComp2 (own.map (·.2)) vs1 src g t src1 g1 t1 m)) :=
  pe_imp (pe_lc2 cm.calm o.nd hi (blkOk_by ok) hv (fun s H C cl fp => ⟨fun pins s' σ H v u Q I r ⟨D, q⟩ => (hg (c.with D) s _ C cl fp).run pins s' σ H v u Q I r q⟩)
      (fun s H C cl fp => ⟨fun pins s' σ H Q I ⟨D, q⟩ => (ht (c.with D) s _ C cl fp).run pins s' σ H Q I q⟩)
      (fun s H C cl fp => ⟨fun pins s' σ H R I ⟨D, q⟩ => (hi1 (c.with D) s _ C cl fp).run pins s' σ H R I q⟩)
      (fun s H C cl fp => ⟨fun pins s' σ H v u Q I r ⟨D, q⟩ => (hg1 (c.with D) s _ C cl fp).run pins s' σ H v u Q I r q⟩)
      (fun s H C cl fp => ⟨fun pins s' σ H Q I ⟨D, q⟩ => (ht1 (c.with D) s _ C cl fp).run pins s' σ H Q I q⟩)
      (fun s H C cl fp => ⟨fun pins s' σ H Q I ⟨D, q⟩ => (he (c.with D) s _ C cl fp).run pins s' σ H Q I q⟩) hs hs1) (comp2_run his his1 hv)
theorem ds_setLc2 (i : Nat) {py : Pos} {elt tg iter tg1 iter1 : Expr} {ifs ifs1 : List Expr} {scope : Scope} {src src1 : Src} {g g1 : Gt} {is is1 : List Nat} {spos : Pos} (own : List (Str × Nat)) (vs1 : List Nat) [o : Ok X c] [cm : Calm X] (hi : PI X tg iter (tI c src)) (ok : blkC X.N X.env.scope scope own = true)
    (hg : ∀ (c : Ct) [Ok X c] (s : Shared) (H : Hp) (C : Addr) (cl : List (Str × Addr)) (fp : List Addr), PG (X.blk s H scope (compEnvC scope cl C X.env) fp) tg (tG c is g))
    (ht : ∀ (c : Ct) [Ok X c] (s : Shared) (H : Hp) (C : Addr) (cl : List (Str × Addr)) (fp : List Addr), PTs (X.blk s H scope (compEnvC scope cl C X.env) fp) ifs (tT c t))
    (hi1 : ∀ (c : Ct) [Ok X c] (s : Shared) (H : Hp) (C : Addr) (cl : List (Str × Addr)) (fp : List Addr), PI (X.blk s H scope (compEnvC scope cl C X.env) fp) tg1 iter1 (tI c src1))
    (hg1 : ∀ (c : Ct) [Ok X c] (s : Shared) (H : Hp) (C : Addr) (cl : List (Str × Addr)) (fp : List Addr), PG (X.blk s H scope (compEnvC scope cl C X.env) fp) tg1 (tG c is1 g1))
    (ht1 : ∀ (c : Ct) [Ok X c] (s : Shared) (H : Hp) (C : Addr) (cl : List (Str × Addr)) (fp : List Addr), PTs (X.blk s H scope (compEnvC scope cl C X.env) fp) ifs1 (tT c t1))
    (he : ∀ (c : Ct) [Ok X c] (s : Shared) (H : Hp) (C : Addr) (cl : List (Str × Addr)) (fp : List Addr), PE (X.blk s H scope (compEnvC scope cl C X.env) fp) elt (tE c m)) (his : ∀ i ∈ is, i ∈ own.map (·.2) := by decide) (his1 : ∀ i ∈ is1, i ∈ vs1 := by decide) (hv : ∀ i ∈ vs1, i ∈ own.map (·.2) := by decide)
    (hy : X.N[i]? = some x := by rfl) (hyl : X.env.scope.names.lookup x = some .local := by rfl) (hsw : swapsWith (.ListComp elt [⟨tg, iter, ifs, 0⟩, ⟨tg1, iter1, ifs1, 0⟩] scope pos) (some (.Name x py)) spos.line X.env = pure true := by exact sw_true rfl rfl rfl (by decide +kernel))
    (hs : ∀ x, foldedSetIterable iter X.env x = pure x := by intro _; rfl) (hs1 : ∀ env x, foldedSetIterable iter1 env x = pure x := by intro _ _; rfl) : PS X (.Assign [.Name x py] (.ListComp elt [⟨tg, iter, ifs, 0⟩, ⟨tg1, iter1, ifs1, 0⟩] scope pos) spos) (tS c (sSet i (mComp2 (own.map (·.2)) vs1 src g t src1 g1 t1 m))) :=
  ps_imp (ps_setLc2 cm.calm o.nd hy hyl hsw hi (blkOk_by ok) hv (fun s H C cl fp => ⟨fun pins s' σ H v u Q I r ⟨D, q⟩ => (hg (c.with D) s _ C cl fp).run pins s' σ H v u Q I r q⟩)
      (fun s H C cl fp => ⟨fun pins s' σ H Q I ⟨D, q⟩ => (ht (c.with D) s _ C cl fp).run pins s' σ H Q I q⟩)
      (fun s H C cl fp => ⟨fun pins s' σ H R I ⟨D, q⟩ => (hi1 (c.with D) s _ C cl fp).run pins s' σ H R I q⟩)
      (fun s H C cl fp => ⟨fun pins s' σ H v u Q I r ⟨D, q⟩ => (hg1 (c.with D) s _ C cl fp).run pins s' σ H v u Q I r q⟩)
      (fun s H C cl fp => ⟨fun pins s' σ H Q I ⟨D, q⟩ => (ht1 (c.with D) s _ C cl fp).run pins s' σ H Q I q⟩)
      (fun s H C cl fp => ⟨fun pins s' σ H Q I ⟨D, q⟩ => (he (c.with D) s _ C cl fp).run pins s' σ H Q I q⟩) hs hs1) fun D σ H h => comp2_run his his1 hv _ _ _ (set_run i h)
end
end DL

/-! DLS23: comb; sorted, of texts. -/
namespace DL
open PySem PySem.Spec PyProof.Rows L2
section
variable {X : Cx} {c : Ct} {a b e : Expr} {m m1 m2 : M} {pos p : Pos} {x : Str}
def rComb : List V → Hp → VK → Prop := fun vs H Q => ∃ a b : Int, vs = [.int a, .int b] ∧ 0 ≤ a ∧ a ≤ 24 ∧ 0 ≤ b ∧ b ≤ 24 ∧ Q (.int (PySem.W.mcComb a b)) H
theorem cr_comb : CallR X (.builtin "math.comb") rComb := by
  intro pins s σ H vs us Q I r h
  obtain ⟨a, b, rfl, h1, h2, h3, h4, q⟩ := h
  obtain ⟨t, u, rfl⟩ := Vals.int2 r
  exact PySem.W.mc_comb h1 h3 (by omega) (.inl (by omega)) fun _ => ⟨.int _, H, I.tok _, ⟨_, rfl⟩, q⟩
end
theorem comb_all : ∀ a b : _root_.Fin 25, PySem.W.mcComb a.val b.val = ((cmb a.val b.val : Nat) : Int) := by decide +kernel
section
variable {X : Cx} {c : Ct} {a b e : Expr} {m m1 m2 : M} {pos p : Pos} {x : Str}
theorem de_comb {x : Str} [o : Ok X c] (h : KB X.mg x "math.comb") (ha : PE X a (tE c m1)) (hb : PE X b (tE c m2)) (hg : Gl X x := by rfl) (hdb : (x == ("__debug__" : Str)) = false := by decide)
    (he : starEach [a, b] X.env = (false, eval a X.env) :: starEach [b] X.env := by rfl) (he2 : starEach [b] X.env = (false, eval b X.env) :: starEach [] X.env := by rfl) (hpl : (backTo pos (starEach [b] X.env)).any (·.1) = false := by rfl) : PE X (.Call (.Name x p) [a, b] [] pos) (tE c (mBin dComb m1 m2)) := by
  refine pe_imp (pe_callBfun cr_comb hg h (pa_cons ha (pa_cons hb pa_nil he2) he) hdb he hpl) ?_
  rintro σ H Q ⟨G, s, Q0, R, hm, hQ⟩
  refine ⟨G, s, _, R, hm, fun r1 s1 v1 H1 G1 q1 R1 S1 K1 O1 => ⟨G1, s1, _, R1, q1, fun r2 s2 v2 H2 G2 q2 R2 S2 K2 O2 => ?_⟩⟩
  have p1 := (O1.peek R1).keep S2 K2
  have p2 := O2.peek R2
  unfold dComb at q2
  split at q2
  · rename_i k i j e1 e2
    rw [e1] at p1
    rw [e2] at p2
    obtain ⟨a0, a1, b0, b1, q2⟩ := q2
    refine ⟨i, j, by rw [p1.int, p2.int], a0, a1, b0, b1, ?_⟩
    have := comb_all ⟨i.toNat, by omega⟩ ⟨j.toNat, by omega⟩
    dsimp only at this
    rw [Int.toNat_of_nonneg a0, Int.toNat_of_nonneg b0] at this
    rw [this]
    exact hQ _ _ _ _ _ q2 R2 (S1.trans S2) (K1.trans K2) (.int _)
  · exact q2.elim
theorem rising_low : ∀ (r : List (List Nat)) (p : List Nat), risingS (sT p) (r.map sT) = true → (∀ y ∈ r, ¬ y < p) ∧ r.Pairwise fun a b => ¬ b < a
  | [], p, _ => ⟨fun y h => (by cases h), .nil⟩
  | x :: r, p, h => by
    have h : (!ltCps x p && risingS (sT x) (r.map sT)) = true := h
    rw [Bool.and_eq_true, ltCps_eq] at h
    have h1 : ¬ x < p := by simpa using h.1
    obtain ⟨h2, h3⟩ := rising_low r x h.2
    refine ⟨fun y hy => ?_, .cons (fun y hy => h2 y hy) h3⟩
    rcases List.mem_cons.mp hy with z | z
    · rw [z]; exact h1
    · intro hlt
      exact h1 (List.not_lt.mp (h2 y z) |> fun hxy => (by
        rcases List.le_iff_lt_or_eq.mp hxy with w | w
        · exact List.lt_trans w hlt
        · rw [w]; exact hlt))
theorem sorted_pw {qs : List (List Nat)} (h : sortedS (qs.map sT) = true) : qs.Pairwise fun a b => ¬ b < a := by
  cases qs with
  | nil => exact .nil
  | cons x r =>
    obtain ⟨h1, h2⟩ := rising_low r x h
    exact .cons (fun y hy => h1 y hy) h2
theorem perm_sT {ys l : List Str} (h : ys.Perm l) : ∀ {ls : List (List Nat)}, l = ls.map sT → ∃ qs : List (List Nat), qs.Perm ls ∧ ys = qs.map sT := by
  induction h with
  | nil => intro ls e; cases ls with
    | nil => exact ⟨[], .refl _, rfl⟩
    | cons _ _ => cases e
  | @cons x l1 l2 _ ih =>
    intro ls e
    cases ls with
    | nil => cases e
    | cons p ps =>
      rw [List.map_cons, List.cons.injEq] at e
      obtain ⟨qs, q1, q2⟩ := ih e.2
      exact ⟨p :: qs, q1.cons _, by rw [List.map_cons, ← q2, ← e.1]⟩
  | @swap x y l =>
    intro ls e
    match ls, e with
    | p :: q :: ps, e =>
      rw [List.map_cons, List.map_cons, List.cons.injEq, List.cons.injEq] at e
      exact ⟨q :: p :: ps, List.Perm.swap p q ps, by rw [List.map_cons, List.map_cons, ← e.1, ← e.2.1, ← e.2.2]⟩
  | @trans l1 l2 l3 _ _ ih1 ih2 =>
    intro ls e
    obtain ⟨qs, q1, q2⟩ := ih2 e
    obtain ⟨rs, r1, r2⟩ := ih1 q2
    exact ⟨rs, r1.trans q1, r2⟩
theorem de_sortS [o : Ok X c] [cm : Calm X] (ha : PE X a (tE c m)) (hg : Gl X "sorted" := by rfl) (he : starEach [a] X.env = (false, eval a X.env) :: starEach [] X.env := by rfl) : PE X (.Call (.Name "sorted" p) [a] [] pos) (tE c (mUn dSortS m)) :=
  de_b1 cr_sortedS (by
    intro σ H G s x v Qr Q R hx h F
    unfold dSortS at h
    split at h
    · obtain ⟨ls, e0, hl, q⟩ := h
      subst e0
      obtain ⟨a, vs, e, h1, h2⟩ := hx.list
      have e2 := Dgs.toStrs h2
      refine ⟨a, ls.map sT, by rw [e], e2 ▸ SqL.of h1, by rw [List.length_map]; exact hl, fun ys p hp hs n => ?_⟩
      obtain ⟨qs, q1, rfl⟩ := perm_sT hp rfl
      exact F.own R (q qs q1 (sorted_pw hs)) (Dgs.strs _) n
    · exact h.elim) (by decide +kernel) (by decide +kernel) (by decide +kernel) (by decide +kernel) ha hg he
end
end DL

/-! DLMath: plain facts about the meanings. -/
namespace DL
theorem atI_map {α β : Type} (f : α → β) (xs : List α) (i : Int) : atI (xs.map f) i = (atI xs i).map f := by
  unfold atI
  rw [List.length_map]
  cases ixN xs.length i <;> simp
theorem ex_map {α β : Type} {f : α → β} {o : Option α} {P : β → Prop} : (∃ d, o.map f = some d ∧ P d) ↔ ∃ x, o = some x ∧ P (f x) := by
  constructor
  · rintro ⟨d, h, p⟩
    cases o with
    | none => cases h
    | some x => cases h; exact ⟨x, rfl, p⟩
  · rintro ⟨x, rfl, p⟩
    exact ⟨_, rfl, p⟩
theorem ex_some {α : Type} {a : α} {P : α → Prop} : (∃ d, some a = some d ∧ P d) ↔ P a := ⟨fun ⟨_, e, p⟩ => by cases e; exact p, fun p => ⟨a, rfl, p⟩⟩
theorem ex_arg {f : String} {x : D} {P : D → Prop} : (∃ d, (some (f, x) : Option (String × D)) = some (f, d) ∧ P d) = P x := propext ⟨fun ⟨_, e, p⟩ => by cases e; exact p, fun p => ⟨x, rfl, p⟩⟩
theorem ex_valB {x : D} {P : D → Prop} : (∃ d, R.val x = R.val d ∧ flatD d = true ∧ P d) = (flatD x = true ∧ P x) := propext ⟨fun ⟨_, e, p⟩ => by cases e; exact p, fun p => ⟨x, rfl, p⟩⟩
theorem atI_of {α : Type} {xs : List α} {i : Int} (h0 : 0 ≤ i) (h1 : i < xs.length) : atI xs i = some (xs[i.toNat]'(by omega)) := by
  unfold atI ixN
  rw [if_pos h0, if_pos h1]
  simp
theorem atI_at {α : Type} {xs : List α} {i : Int} {a : α} (h0 : 0 ≤ i) (h : xs[i.toNat]? = some a) : atI xs i = some a := by
  have hl : i.toNat < xs.length := (List.getElem?_eq_some_iff.mp h).1
  unfold atI ixN
  rw [if_pos h0, if_pos (by omega)]
  exact h
theorem eqD_none_none : eqD D.none D.none = true := by simp only [eqD]
theorem eqD_none_bool (b : Bool) : eqD D.none (D.bool b) = false := by simp only [eqD]
theorem eqD_none_int (b : Int) : eqD D.none (D.int b) = false := by simp only [eqD]
theorem eqD_none_str (b : List Nat) : eqD D.none (D.str b) = false := by simp only [eqD]
theorem eqD_none_list (b : List D) : eqD D.none (D.list b) = false := by simp only [eqD]
theorem eqD_none_tup (b : List D) : eqD D.none (D.tup b) = false := by simp only [eqD]
theorem eqD_bool_none (a : Bool) : eqD (D.bool a) D.none = false := by simp only [eqD]
theorem eqD_bool_bool (a : Bool) (b : Bool) : eqD (D.bool a) (D.bool b) = (a == b) := by simp only [eqD]
theorem eqD_bool_int (a : Bool) (b : Int) : eqD (D.bool a) (D.int b) = ((if a then (1 : Int) else 0) == b) := by simp only [eqD]
theorem eqD_bool_str (a : Bool) (b : List Nat) : eqD (D.bool a) (D.str b) = false := by simp only [eqD]
theorem eqD_bool_list (a : Bool) (b : List D) : eqD (D.bool a) (D.list b) = false := by simp only [eqD]
theorem eqD_bool_tup (a : Bool) (b : List D) : eqD (D.bool a) (D.tup b) = false := by simp only [eqD]
theorem eqD_int_none (a : Int) : eqD (D.int a) D.none = false := by simp only [eqD]
theorem eqD_int_bool (a : Int) (b : Bool) : eqD (D.int a) (D.bool b) = (a == (if b then (1 : Int) else 0)) := by simp only [eqD]
theorem eqD_int_int (a : Int) (b : Int) : eqD (D.int a) (D.int b) = (a == b) := by simp only [eqD]
theorem eqD_int_str (a : Int) (b : List Nat) : eqD (D.int a) (D.str b) = false := by simp only [eqD]
theorem eqD_int_list (a : Int) (b : List D) : eqD (D.int a) (D.list b) = false := by simp only [eqD]
theorem eqD_int_tup (a : Int) (b : List D) : eqD (D.int a) (D.tup b) = false := by simp only [eqD]
theorem eqD_str_none (a : List Nat) : eqD (D.str a) D.none = false := by simp only [eqD]
theorem eqD_str_bool (a : List Nat) (b : Bool) : eqD (D.str a) (D.bool b) = false := by simp only [eqD]
theorem eqD_str_int (a : List Nat) (b : Int) : eqD (D.str a) (D.int b) = false := by simp only [eqD]
theorem eqD_str_str (a : List Nat) (b : List Nat) : eqD (D.str a) (D.str b) = (a == b) := by simp only [eqD]
theorem eqD_str_list (a : List Nat) (b : List D) : eqD (D.str a) (D.list b) = false := by simp only [eqD]
theorem eqD_str_tup (a : List Nat) (b : List D) : eqD (D.str a) (D.tup b) = false := by simp only [eqD]
theorem eqD_list_none (a : List D) : eqD (D.list a) D.none = false := by simp only [eqD]
theorem eqD_list_bool (a : List D) (b : Bool) : eqD (D.list a) (D.bool b) = false := by simp only [eqD]
theorem eqD_list_int (a : List D) (b : Int) : eqD (D.list a) (D.int b) = false := by simp only [eqD]
theorem eqD_list_str (a : List D) (b : List Nat) : eqD (D.list a) (D.str b) = false := by simp only [eqD]
theorem eqD_list_list (a : List D) (b : List D) : eqD (D.list a) (D.list b) = eqDs a b := by simp only [eqD]
theorem eqD_list_tup (a : List D) (b : List D) : eqD (D.list a) (D.tup b) = false := by simp only [eqD]
theorem eqD_tup_none (a : List D) : eqD (D.tup a) D.none = false := by simp only [eqD]
theorem eqD_tup_bool (a : List D) (b : Bool) : eqD (D.tup a) (D.bool b) = false := by simp only [eqD]
theorem eqD_tup_int (a : List D) (b : Int) : eqD (D.tup a) (D.int b) = false := by simp only [eqD]
theorem eqD_tup_str (a : List D) (b : List Nat) : eqD (D.tup a) (D.str b) = false := by simp only [eqD]
theorem eqD_tup_list (a : List D) (b : List D) : eqD (D.tup a) (D.list b) = false := by simp only [eqD]
theorem eqD_tup_tup (a : List D) (b : List D) : eqD (D.tup a) (D.tup b) = eqDs a b := by simp only [eqD]
theorem eqDs_nn : eqDs [] [] = true := by simp only [eqDs]
theorem eqDs_cc (x y : D) (a b : List D) : eqDs (x :: a) (y :: b) = (eqD x y && eqDs a b) := by simp only [eqDs]
theorem eqDs_nc (y : D) (b : List D) : eqDs [] (y :: b) = false := by simp only [eqDs]
theorem eqDs_cn (x : D) (a : List D) : eqDs (x :: a) [] = false := by simp only [eqDs]
theorem beq_int (a b : Int) : (a == b) = decide (a = b) := rfl
end DL
namespace DL
theorem lg_lt {n k : Nat} (h : n < 2 ^ k) (hk : 0 < k) : n.log2 < k := by
  by_cases h0 : n = 0
  · subst h0
    simpa using hk
  · exact (Nat.log2_lt h0).mpr h
theorem lg62 {i : Int} (h1 : -4611686018427387904 < i) (h2 : i < 4611686018427387904) : i.natAbs.log2 < 62 := lg_lt (by omega) (by decide)
theorem mul62 {i j : Int} (h1 : -4611686018427387904 < i) (h2 : i < 4611686018427387904) (h3 : -4611686018427387904 < j) (h4 : j < 4611686018427387904) : i.natAbs.log2 + j.natAbs.log2 < 1000000 := by
  have := lg62 h1 h2
  have := lg62 h3 h4
  omega
theorem div62 {j : Int} (h3 : -4611686018427387904 < j) (h4 : j < 4611686018427387904) : j.natAbs.log2 < 9000 := by
  have := lg62 h3 h4
  omega
theorem lg_pow {i : Int} {k : Nat} (h : i.natAbs < 2 ^ k) (hk : 0 < k) : i.natAbs.log2 < k := lg_lt h hk
theorem mul_pow {i j : Int} {a b : Nat} (h : i.natAbs < 2 ^ a) (ha : 0 < a) (h' : j.natAbs < 2 ^ b) (hb : 0 < b) (hab : a + b ≤ 1000000) : i.natAbs.log2 + j.natAbs.log2 < 1000000 := by
  have := lg_lt h ha
  have := lg_lt h' hb
  omega
/-! ### the feed -/
structure Wok (w : W) : Prop where
  len : w.sc.length ≤ 63
  i0 : 0 ≤ w.ix
  i1 : w.ix ≤ w.sc.length
  b0 : 0 ≤ w.big
  s0 : 0 ≤ w.seed
  s1 : w.seed < 2147483648
theorem Wok.start {ns : List Int} (h : ns.length ≤ 63) : Wok ⟨ns, 0, 0, 1⟩ := ⟨h, Int.le_refl 0, by show (0 : Int) ≤ (ns.length : Int); omega, Int.le_refl 0, (by decide : (0 : Int) ≤ 1), (by decide : (1 : Int) < 2147483648)⟩
end DL

/-! DLLoop: loops, by an invariant. -/
namespace DL
theorem forL_ix {g : Gt} {body : MS} {O : Outs} : ∀ (ds : List D) (I : Nat → S → Prop), (∀ k d s, ds[k]? = some d → I k s → ∀ K : S → Prop, (∀ s', I (k + 1) s' → K s') → g d s fun s1 => body s1 { nx := K, ct := K, bk := O.nx, rt := O.rt }) → (∀ s, I ds.length s → O.nx s) → ∀ s, I 0 s → forL g body ds s O
  | [], I, _, he, s, h => he s h
  | d :: r, I, hb, he, s, h => by
    refine hb 0 d s rfl h (fun s2 => forL g body r s2 O) fun s2 h2 => ?_
    exact forL_ix r (fun k => I (k + 1)) (fun k d s e h K q => hb (k + 1) d s e h K q) he s2 h2
theorem ran_get {lo : Int} {n k : Nat} {d : D} (h : (ran lo n)[k]? = some d) : k < n ∧ d = .int (lo + k) := by
  unfold ran at h
  rw [List.getElem?_map] at h
  cases e : (List.range n)[k]? with
  | none => rw [e] at h; cases h
  | some m =>
    rw [e] at h
    have hk : k < n := by simpa using (List.getElem?_eq_some_iff.mp e).1
    have : m = k := by
      have := (List.getElem?_eq_some_iff.mp e).2
      simpa using this.symm
    subst this
    cases h
    exact ⟨hk, rfl⟩
theorem ran_len (lo : Int) (n : Nat) : (ran lo n).length = n := by simp [ran]
theorem forL_ran {g : Gt} {body : MS} {O : Outs} {lo : Int} {n : Nat} (I : Nat → S → Prop) (s : S) (h0 : I 0 s) (h : ∀ k s, k < n → I k s → ∀ K : S → Prop, (∀ s', I (k + 1) s' → K s') → g (.int (lo + k)) s fun s1 => body s1 { nx := K, ct := K, bk := O.nx, rt := O.rt }) (he : ∀ s, I n s → O.nx s) : forL g body (ran lo n) s O := by
  refine forL_ix (ran lo n) I (fun k d s e hI K q => ?_) (fun s hI => he s (by rwa [ran_len] at hI)) s h0
  obtain ⟨hk, rfl⟩ := ran_get e
  exact h k s hk hI K q
theorem compL_ix {own : List Nat} {g : Gt} {t : T} {e : M} {Q : List D → S → Prop} : ∀ (ds : List D) (acc : List D) (s : S) (I : Nat → List D → S → Prop), I 0 acc s →
    (∀ k d acc s, ds[k]? = some d → I k acc s → ∀ K : List D → S → Prop, (∀ acc' s', I (k + 1) acc' s' → K acc' s') → g d { s with v := puts s.v own .gone } fun s1 => t s1 fun c s2 =>
      if c = true then e s2 fun x s3 => frz x fun y => acc.length < LINE ∧ K (acc ++ [y]) s3 else K acc s2) → (∀ acc s, I ds.length acc s → Q acc s) → compL own g t e ds acc s Q
  | [], acc, s, I, h, _, he => he acc s h
  | d :: r, acc, s, I, h, hb, he => hb 0 d acc s rfl h (fun acc2 s2 => compL own g t e r acc2 s2 Q) fun acc2 s2 h2 => compL_ix r acc2 s2 (fun k => I (k + 1)) h2 (fun k d acc s e h K q => hb (k + 1) d acc s e h K q) he
/-- a comprehension without a condition: a map -/
theorem compL_f {own : List Nat} {g : Gt} {e : M} {Q : List D → S → Prop} {s : S} (ds : List D) (f : D → D) (J : S → Prop) (hJ : J s) (hl : ds.length ≤ LINE)
    (h : ∀ d s, d ∈ ds → J s → ∀ (C : Prop) (K : D → S → Prop), C → (∀ s', J s' → K (f d) s') → g d { s with v := puts s.v own .gone } fun s1 => e s1 fun x s3 => frz x fun y => C ∧ K y s3) (he : ∀ s', J s' → Q (ds.map f) s') : compL own g tYes e ds [] s Q := by
  refine compL_ix ds [] s (fun k acc s => acc = (ds.take k).map f ∧ J s) ⟨by simp, hJ⟩ ?_ ?_
  · rintro k d acc s hd ⟨rfl, hj⟩ K hK
    have hk : k < ds.length := (List.getElem?_eq_some_iff.mp hd).1
    have hde := (List.getElem?_eq_some_iff.mp hd).2
    refine h d s (List.mem_of_getElem? hd) hj (((ds.take k).map f).length < LINE) (fun y s3 => K ((ds.take k).map f ++ [y]) s3) (by simp only [List.length_map, List.length_take]; omega) fun s' hj' => hK _ _ ⟨?_, hj'⟩
    rw [← hde, List.take_succ_eq_append_getElem hk, List.map_append]
    rfl
  · rintro acc s' ⟨rfl, hj⟩
    rw [List.take_length]
    exact he s' hj
theorem cut_from {α : Type} (xs : List α) (p : Nat) : cut xs (some (p : Int)) none = xs.drop p := by
  unfold cut sIx
  simp only [if_neg (show ¬ ((p : Int) < 0) by omega), Int.toNat_natCast]
  rw [List.take_of_length_le (by rw [List.length_drop]; omega)]
  rcases Nat.le_total p xs.length with h | h
  · rw [Nat.min_eq_left h]
  · rw [Nat.min_eq_right h, List.drop_length, List.drop_of_length_le h]
theorem cut_to {α : Type} (xs : List α) (p : Nat) : cut xs none (some (p : Int)) = xs.take p := by
  unfold cut sIx
  simp only [if_neg (show ¬ ((p : Int) < 0) by omega), Int.toNat_natCast, List.drop_zero, Nat.sub_zero]
  rcases Nat.le_total p xs.length with h | h
  · rw [Nat.min_eq_left h]
  · rw [Nat.min_eq_right h, List.take_length, List.take_of_length_le h]
theorem cut_1 {α : Type} (xs : List α) : cut xs (some 1) none = xs.drop 1 := cut_from xs 1
theorem map_eraseIdx {α β : Type} (f : α → β) : ∀ (xs : List α) (i : Nat), (xs.map f).eraseIdx i = (xs.eraseIdx i).map f
  | [], _ => rfl
  | _ :: _, 0 => rfl
  | x :: r, i + 1 => congrArg (f x :: ·) (map_eraseIdx f r i)
theorem pop_perm {α : Type} : ∀ (xs : List α) (i : Nat) (h : i < xs.length), ((xs[i]) :: xs.eraseIdx i).Perm xs
  | _ :: _, 0, _ => .refl _
  | x :: r, i + 1, h => .trans (.swap _ _ _) ((pop_perm r i (Nat.lt_of_succ_lt_succ h)).cons x)
theorem atI_range {n : Nat} {i : Int} (h0 : 0 ≤ i) (h1 : i < n) : atI (List.range n) i = some i.toNat := by
  rw [atI_of h0 (by rw [List.length_range]; exact h1), List.getElem_range]
/-- a cut between two statements -/
theorem seq_cut {a b : MS} {s : S} {O : Outs} (I : S → Prop) (h1 : ∀ K : S → Prop, (∀ s', I s' → K s') → a s { nx := K, rt := O.rt, bk := O.bk, ct := O.ct }) (h2 : ∀ s', I s' → b s' O) : sSeq a b s O := h1 _ h2
/-- a loop whose list is told apart -/
theorem for_cut {src : Src} {g : Gt} {body : MS} {s : S} {O : Outs} (J : List D → S → Prop) (h1 : ∀ K : List D → S → Prop, (∀ ds s', J ds s' → K ds s') → src s K) (h2 : ∀ ds s', J ds s' → forL g body ds s' O) : sFor src g body s O := h1 _ h2
/-- a loop over a range that starts at nought -/
theorem for_r1 {m : M} {g : Gt} {body : MS} {s : S} {O : Outs} (n : Nat) (I : Nat → S → Prop) (s0 : S) (hm : ∀ K : R → S → Prop, K (.val (.int n)) s0 → m s K) (hn : n < 4611686018427387904) (h0 : I 0 s0)
    (h : ∀ k s, k < n → I k s → ∀ K : S → Prop, (∀ s', I (k + 1) s' → K s') → g (.int k) s fun s1 => body s1 { nx := K, ct := K, bk := O.nx, rt := O.rt }) (he : ∀ s, I n s → O.nx s) : sFor (srcR1 m) g body s O := by
  refine hm _ ?_
  show (-(2 ^ 62) ≤ (n : Int) ∧ (n : Int) < 2 ^ 62) ∧ forL g body (ran 0 (n : Int).toNat) s0 O
  rw [Int.toNat_natCast]
  refine ⟨by omega, forL_ran I s0 h0 (fun k s hk hI K hK => ?_) he⟩
  rw [Int.zero_add]
  exact h k s hk hI K hK
/-- a list display whose elements are all of one kind -/
def AllMs (P : D → Prop) (J : S → Prop) (n : Nat) (es : Ms) : Prop := ∀ s, J s → ∀ K : List D → S → Prop, (∀ ds s', ds.length = n → (∀ d, d ∈ ds → P d) → J s' → K ds s') → es s K
theorem allN {P : D → Prop} {J : S → Prop} : AllMs P J 0 msN := fun s hj K hK => hK [] s rfl (fun d hd => absurd hd (List.not_mem_nil)) hj
theorem allC {P : D → Prop} {J : S → Prop} {a : DL.M} {r : Ms} {n : Nat} (ha : ∀ s, J s → ∀ K : R → S → Prop, (∀ d s', P d → J s' → K (.val d) s') → a s K) (hr : AllMs P J n r) : AllMs P J (n + 1) (msC a r) := fun s hj K hK =>
  ha s hj _ fun d s' hp hj' => hr s' hj' _ fun ds s2 hl hds hj2 => hK (d :: ds) s2 (congrArg (· + 1) hl) (fun x hx => by
    rcases List.mem_cons.mp hx with h | h
    · rw [h]; exact hp
    · exact hds x h) hj2
theorem allK {P : D → Prop} {J : S → Prop} {d : D} {r : Ms} {n : Nat} (h : P d) (hr : AllMs P J n r) : AllMs P J (n + 1) (msC (mC d) r) := allC (fun s hj K hK => hK d s h hj) hr
theorem allG {P : D → Prop} {J : S → Prop} {i : Int} {r : Ms} {n : Nat} (h : P (.int (-i))) (hr : AllMs P J n r) : AllMs P J (n + 1) (msC (mUn dNeg (mC (.int i))) r) := allC (fun s hj K hK => hK _ s h hj) hr
theorem for_list {es : Ms} {g : Gt} {body : MS} {s : S} {O : Outs} {n : Nat} {P : D → Prop} {J : S → Prop} (hall : AllMs P J n es) (hn : n ≤ LINE) (hj : J s) (h : ∀ ds s', ds.length = n → (∀ d, d ∈ ds → P d) → J s' → forL g body ds s' O) : sFor (srcV (mList es)) g body s O :=
  hall s hj _ fun ds s' hl hds hj' => ⟨by rw [hl]; exact hn, h ds s' hl hds hj'⟩
/-- x = [..] -/
theorem set_all {es : Ms} {i : Nat} {s : S} {O : Outs} {n : Nat} {P : D → Prop} {J : S → Prop} (hall : AllMs P J n es) (hn : n ≤ LINE) (hj : J s) (h : ∀ ds s', ds.length = n → (∀ d, d ∈ ds → P d) → J s' → O.nx { s' with v := put s'.v i (.own ds) }) : sSet i (mList es) s O :=
  hall s hj _ fun ds s' hl hd hj' => ⟨by omega, h ds s' hl hd hj'⟩
/-- x + [..] -/
theorem cat_all {es : Ms} {j : Nat} {ds0 : List D} {s : S} {Q : R → S → Prop} {n : Nat} {P : D → Prop} {J : S → Prop} (hg : get s.v j = .own ds0) (hall : AllMs P J n es) (hj : J s) (hn : ds0.length + n ≤ LINE) (h : ∀ ds s', ds.length = n → (∀ d, d ∈ ds → P d) → J s' → Q (.own (ds0 ++ ds)) s') : mBin dAdd (mVar j) (mList es) s Q := by
  show mVar j s _
  unfold mVar
  rw [hg]
  refine hall s hj _ fun ds s' hl hd hj' => ⟨by omega, ?_⟩
  show dAdd (.list ds0) (.list ds) _
  exact ⟨by omega, h ds s' hl hd hj'⟩
theorem while_of {c : T} {body : MS} {s : S} {O : Outs} (I : Nat → S → Prop) (m : Nat) (h0 : I m s) (h : ∀ m s, I m s → ∀ K : S → Prop, (∀ m' s', m' < m → I m' s' → K s') → c s fun t s1 => if t = true then body s1 { nx := K, ct := K, bk := O.nx, rt := O.rt } else O.nx s1) : sWhile c body s O :=
  ⟨I, ⟨m, h0⟩, fun m s hI => h m s hI _ fun m' s' a b => ⟨m', a, b⟩⟩
theorem at0 {α : Type} (a : α) (r : List α) : atI (a :: r) 0 = some a := by
  unfold atI ixN
  rw [if_pos (by decide), if_pos (by simp only [List.length_cons]; omega)]
  rfl
theorem at1 {α : Type} (a b : α) (r : List α) : atI (a :: b :: r) 1 = some b := by
  unfold atI ixN
  rw [if_pos (by decide), if_pos (by simp only [List.length_cons]; omega)]
  rfl
theorem at2 {α : Type} (a b c : α) (r : List α) : atI (a :: b :: c :: r) 2 = some c := by
  unfold atI ixN
  rw [if_pos (by decide), if_pos (by simp only [List.length_cons]; omega)]
  rfl
theorem at3 {α : Type} (a b c d : α) (r : List α) : atI (a :: b :: c :: d :: r) 3 = some d := by
  unfold atI ixN
  rw [if_pos (by decide), if_pos (by simp only [List.length_cons]; omega)]
  rfl
theorem at_end {α : Type} (xs : List α) (a : α) : atI (xs ++ [a]) (-1) = some a := by
  unfold atI ixN
  rw [if_neg (by decide), if_pos (by simp only [List.length_append, List.length_cons, List.length_nil]; omega)]
  simp only [Option.bind_some, List.length_append, List.length_cons, List.length_nil]
  rw [show (-1 + ((xs.length + (0 + 1) : Nat) : Int)).toNat = xs.length by omega]
  simp
end DL
namespace DL
theorem mapInt_inj {a b : List Int} : (a.map D.int = b.map D.int) = (a = b) := by
  apply propext
  constructor
  · intro h
    induction a generalizing b with
    | nil => cases b with
      | nil => rfl
      | cons y r => cases h
    | cons x r ih => cases b with
      | nil => cases h
      | cons y r' =>
        simp only [List.map_cons, List.cons.injEq, D.int.injEq] at h
        rw [h.1, ih h.2]
  · rintro rfl
    rfl
abbrev dP (p : Int × Int) : D := .tup [.int p.1, .int p.2]
end DL

/-! DLEq: == of data. -/
namespace DL
mutual
theorem eqD_refl : ∀ d : D, eqD d d = true
  | .none => eqD_none_none
  | .bool b => by rw [eqD_bool_bool]; exact beq_self_eq_true b
  | .int i => by rw [eqD_int_int]; exact beq_self_eq_true i
  | .str s => by rw [eqD_str_str]; exact beq_self_eq_true s
  | .list ds => by rw [eqD_list_list]; exact eqDs_refl ds
  | .tup ds => by rw [eqD_tup_tup]; exact eqDs_refl ds
theorem eqDs_refl : ∀ ds : List D, eqDs ds ds = true
  | [] => eqDs_nn
  | d :: r => by rw [eqDs_cc, eqD_refl d, eqDs_refl r]; rfl
end
theorem eqDs_map {α : Type} [DecidableEq α] (f : α → D) (hf : ∀ x y, eqD (f x) (f y) = decide (x = y)) : ∀ a b : List α, eqDs (a.map f) (b.map f) = decide (a = b)
  | [], [] => by rw [List.map_nil, eqDs_nn]; rfl
  | [], y :: b => by rw [List.map_nil, List.map_cons, eqDs_nc]; rfl
  | x :: a, [] => by rw [List.map_nil, List.map_cons, eqDs_cn]; rfl
  | x :: a, y :: b => by
    rw [List.map_cons, List.map_cons, eqDs_cc, hf, eqDs_map f hf a b, Bool.eq_iff_iff]
    simp
theorem eqDs_ints (a b : List Int) : eqDs (a.map D.int) (b.map D.int) = decide (a = b) := eqDs_map D.int (fun x y => by rw [eqD_int_int]; rfl) a b
theorem eqDs_strs (a b : List (List Nat)) : eqDs (a.map D.str) (b.map D.str) = decide (a = b) := eqDs_map D.str (fun x y => by rw [eqD_str_str, Bool.eq_iff_iff]; simp) a b
end DL

/-! LandM: words of signs, their triangles, the pairs at the corners. Plain mathematics. -/
namespace LandM
/-- the sign at place t, round -/
def sg (l : List Nat) (t : Int) : Nat := l.getD (t % (l.length : Int)).toNat 0
/-- 1 at an o -/
def io (l : List Nat) (t : Int) : Int := if sg l t = 111 then 1 else 0
def cF (l : List Nat) : Nat → Int
  | 0 => 0
  | k + 1 => cF l k + io l k
def cB (l : List Nat) : Nat → Int
  | 0 => 0
  | k + 1 => cB l k - io l (-1 - k)
/-- the outer corner behind t triangles -/
def out (l : List Nat) (t : Int) : Int := if 0 ≤ t then cF l t.toNat else cB l (-t).toNat
def inn (l : List Nat) (t : Int) : Int := t - out l t
theorem io01 (l : List Nat) (t : Int) : io l t = 0 ∨ io l t = 1 := by
  unfold io
  split <;> simp
theorem out_zero (l : List Nat) : out l 0 = 0 := rfl
theorem out_succ (l : List Nat) (t : Int) : out l (t + 1) = out l t + io l t := by
  unfold out
  by_cases h : 0 ≤ t
  · rw [if_pos h, if_pos (by omega)]
    have e : (t + 1).toNat = t.toNat + 1 := by omega
    rw [e]
    show cF l t.toNat + io l (t.toNat : Int) = _
    rw [show ((t.toNat : Nat) : Int) = t by omega]
  · rw [if_neg h]
    obtain ⟨k, rfl⟩ : ∃ k : Nat, t = -((k : Int) + 1) := ⟨(-t - 1).toNat, by omega⟩
    have e1 : (-(-((k : Int) + 1))).toNat = k + 1 := by omega
    rw [e1]
    show _ = cB l k - io l (-1 - (k : Int)) + io l (-((k : Int) + 1))
    rw [show (-1 - (k : Int)) = -((k : Int) + 1) by omega]
    by_cases h2 : 0 ≤ -((k : Int) + 1) + 1
    · rw [if_pos h2]
      have : k = 0 := by omega
      subst this
      show (0 : Int) = 0 - _ + _
      omega
    · rw [if_neg h2]
      rw [show (-(-((k : Int) + 1) + 1)).toNat = k by omega]
      omega
theorem inn_succ (l : List Nat) (t : Int) : inn l (t + 1) = inn l t + (1 - io l t) := by
  unfold inn
  rw [out_succ]
  omega
/-- two pairs: that of the outer and that of the inner corner -/
structure Mt where
  a : Int
  b : Int
  c : Int
  d : Int
def Mt.P (m : Mt) : Int × Int := (m.a, m.b)
def Mt.Q (m : Mt) : Int × Int := (m.c, m.d)
def one : Mt := ⟨1, 0, 0, 1⟩
def step (o : Int) (m : Mt) : Mt := if o = 1 then ⟨m.a + m.c, m.b + m.d, m.c, m.d⟩ else ⟨m.a, m.b, m.c + m.a, m.d + m.b⟩
def unstep (o : Int) (m : Mt) : Mt := if o = 1 then ⟨m.a - m.c, m.b - m.d, m.c, m.d⟩ else ⟨m.a, m.b, m.c - m.a, m.d - m.b⟩
theorem step_un (o : Int) (m : Mt) : step o (unstep o m) = m := by
  unfold step unstep
  by_cases h : o = 1
  · rw [if_pos h, if_pos h]
    cases m
    simp
  · rw [if_neg h, if_neg h]
    cases m
    simp
theorem un_step (o : Int) (m : Mt) : unstep o (step o m) = m := by
  unfold step unstep
  by_cases h : o = 1
  · rw [if_pos h, if_pos h]
    cases m
    simp
  · rw [if_neg h, if_neg h]
    cases m
    simp
def Mf (l : List Nat) : Nat → Mt
  | 0 => one
  | k + 1 => step (io l k) (Mf l k)
def Mb (l : List Nat) : Nat → Mt
  | 0 => one
  | k + 1 => unstep (io l (-1 - k)) (Mb l k)
def M (l : List Nat) (t : Int) : Mt := if 0 ≤ t then Mf l t.toNat else Mb l (-t).toNat
theorem M_zero (l : List Nat) : M l 0 = one := rfl
theorem M_succ (l : List Nat) (t : Int) : M l (t + 1) = step (io l t) (M l t) := by
  unfold M
  by_cases h : 0 ≤ t
  · rw [if_pos h, if_pos (by omega)]
    have e : (t + 1).toNat = t.toNat + 1 := by omega
    rw [e]
    show step (io l (t.toNat : Int)) _ = _
    rw [show ((t.toNat : Nat) : Int) = t by omega]
  · rw [if_neg h]
    obtain ⟨k, rfl⟩ : ∃ k : Nat, t = -((k : Int) + 1) := ⟨(-t - 1).toNat, by omega⟩
    have e1 : (-(-((k : Int) + 1))).toNat = k + 1 := by omega
    rw [e1]
    show _ = step (io l (-((k : Int) + 1))) (unstep (io l (-1 - (k : Int))) (Mb l k))
    rw [show (-1 - (k : Int)) = -((k : Int) + 1) by omega, step_un]
    by_cases h2 : 0 ≤ -((k : Int) + 1) + 1
    · rw [if_pos h2]
      have : k = 0 := by omega
      subst this
      rfl
    · rw [if_neg h2]
      rw [show (-(-((k : Int) + 1) + 1)).toNat = k by omega]
theorem M_pred (l : List Nat) (t : Int) : M l (t - 1) = unstep (io l (t - 1)) (M l t) := by
  have h := M_succ l (t - 1)
  rw [show t - 1 + 1 = t by omega] at h
  rw [h, un_step]
theorem out_pred (l : List Nat) (t : Int) : out l (t - 1) = out l t - io l (t - 1) := by
  have h := out_succ l (t - 1)
  rw [show t - 1 + 1 = t by omega] at h
  omega
/-- the product of two pairs, crosswise -/
def det (p q : Int × Int) : Int := p.1 * q.2 - p.2 * q.1
theorem det_step (o : Int) (m : Mt) : det (step o m).P (step o m).Q = det m.P m.Q := by
  unfold step det Mt.P Mt.Q
  by_cases h : o = 1
  · rw [if_pos h]
    simp only []
    rw [Int.add_mul, Int.add_mul]
    have := Int.mul_comm m.c m.d
    omega
  · rw [if_neg h]
    simp only []
    rw [Int.mul_add, Int.mul_add]
    have := Int.mul_comm m.a m.b
    omega
theorem int_ind {p : Int → Prop} (h0 : p 0) (hs : ∀ t, p t → p (t + 1)) (hp : ∀ t, p t → p (t - 1)) (t : Int) : p t := by
  have hf : ∀ k : Nat, p k := fun k => by
    induction k with
    | zero => exact h0
    | succ k ih => exact hs _ ih
  have hb : ∀ k : Nat, p (-(k : Int)) := fun k => by
    induction k with
    | zero => exact h0
    | succ k ih =>
      have := hp _ ih
      rw [show -((k + 1 : Nat) : Int) = -(k : Int) - 1 by omega]
      exact this
  by_cases h : 0 ≤ t
  · have := hf t.toNat
    rwa [show ((t.toNat : Nat) : Int) = t by omega] at this
  · have := hb (-t).toNat
    rwa [show -(((-t).toNat : Nat) : Int) = t by omega] at this
theorem det_M (l : List Nat) : ∀ t : Int, det (M l t).P (M l t).Q = 1 := by
  apply int_ind
  · rfl
  · intro t h
    rw [M_succ, det_step]
    exact h
  · intro t h
    have q := det_step (io l (t - 1)) (M l (t - 1))
    rw [← M_succ, show t - 1 + 1 = t by omega] at q
    rw [← q]
    exact h
/-! ### monotone counts -/
theorem out_mono (l : List Nat) (t : Int) (k : Nat) : out l t ≤ out l (t + k) ∧ inn l t ≤ inn l (t + k) := by
  induction k with
  | zero => simp
  | succ k ih =>
    have h1 := out_succ l (t + k)
    have h2 := inn_succ l (t + k)
    have h3 := io01 l (t + k)
    rw [show t + (k : Int) + 1 = t + ((k + 1 : Nat) : Int) by omega] at h1 h2
    omega
theorem out_le (l : List Nat) {t u : Int} (h : t ≤ u) : out l t ≤ out l u := by
  have := (out_mono l t (u - t).toNat).1
  rwa [show t + (((u - t).toNat : Nat) : Int) = u by omega] at this
theorem inn_le (l : List Nat) {t u : Int} (h : t ≤ u) : inn l t ≤ inn l u := by
  have := (out_mono l t (u - t).toNat).2
  rwa [show t + (((u - t).toNat : Nat) : Int) = u by omega] at this
/-- where the outer corner is the same, so is its pair -/
theorem P_same_up (l : List Nat) (t : Int) (k : Nat) (h : out l (t + k) = out l t) : (M l (t + k)).P = (M l t).P := by
  induction k with
  | zero => simp
  | succ k ih =>
    have h1 := out_succ l (t + k)
    have h2 := (out_mono l t k).1
    have h3 := io01 l (t + k)
    have e : t + (k : Int) + 1 = t + ((k + 1 : Nat) : Int) := by omega
    rw [e] at h1
    have h4 : io l (t + k) = 0 := by omega
    rw [← e, M_succ, h4]
    have := ih (by omega)
    rw [← this]
    rfl
theorem P_same (l : List Nat) {t u : Int} (h : out l t = out l u) : (M l t).P = (M l u).P := by
  rcases Int.le_total t u with z | z
  · have := P_same_up l t (u - t).toNat (by rw [show t + (((u - t).toNat : Nat) : Int) = u by omega]; exact h.symm)
    rw [show t + (((u - t).toNat : Nat) : Int) = u by omega] at this
    exact this.symm
  · have := P_same_up l u (t - u).toNat (by rw [show u + (((t - u).toNat : Nat) : Int) = t by omega]; exact h)
    rw [show u + (((t - u).toNat : Nat) : Int) = t by omega] at this
    exact this
theorem Q_same_up (l : List Nat) (t : Int) (k : Nat) (h : inn l (t + k) = inn l t) : (M l (t + k)).Q = (M l t).Q := by
  induction k with
  | zero => simp
  | succ k ih =>
    have h1 := inn_succ l (t + k)
    have h2 := (out_mono l t k).2
    have h3 := io01 l (t + k)
    have e : t + (k : Int) + 1 = t + ((k + 1 : Nat) : Int) := by omega
    rw [e] at h1
    have h4 : io l (t + k) = 1 := by omega
    rw [← e, M_succ, h4]
    have := ih (by omega)
    rw [← this]
    rfl
theorem Q_same (l : List Nat) {t u : Int} (h : inn l t = inn l u) : (M l t).Q = (M l u).Q := by
  rcases Int.le_total t u with z | z
  · have := Q_same_up l t (u - t).toNat (by rw [show t + (((u - t).toNat : Nat) : Int) = u by omega]; exact h.symm)
    rw [show t + (((u - t).toNat : Nat) : Int) = u by omega] at this
    exact this.symm
  · have := Q_same_up l u (t - u).toNat (by rw [show u + (((t - u).toNat : Nat) : Int) = t by omega]; exact h)
    rw [show u + (((t - u).toNat : Nat) : Int) = t by omega] at this
    exact this
/-! ### between two times: the numbers of what one pair is of the earlier ones -/
/-- behind k more triangles the pairs are sums of the pairs at t: m tells how often -/
def lin (m : Mt) (n : Mt) : Prop := True
/-- m, as a table over the pairs at hand -/
def times (m w : Mt) : Mt := ⟨m.a * w.a + m.b * w.c, m.a * w.b + m.b * w.d, m.c * w.a + m.d * w.c, m.c * w.b + m.d * w.d⟩
theorem step_times (o : Int) (m w : Mt) : step o (times m w) = times (step o m) w := by
  unfold step times
  by_cases h : o = 1
  · rw [if_pos h, if_pos h]
    simp only [Mt.mk.injEq, Int.add_mul]
    refine ⟨by omega, by omega, trivial, trivial⟩
  · rw [if_neg h, if_neg h]
    simp only [Mt.mk.injEq, Int.add_mul]
    refine ⟨trivial, trivial, by omega, by omega⟩
theorem one_times (w : Mt) : times one w = w := by
  unfold times one
  cases w
  simp
/-- the table of the k signs from t on -/
def seg (l : List Nat) (t : Int) : Nat → Mt
  | 0 => one
  | k + 1 => step (io l (t + k)) (seg l t k)
theorem M_seg (l : List Nat) (t : Int) (k : Nat) : M l (t + k) = times (seg l t k) (M l t) := by
  induction k with
  | zero => simp [seg, one_times]
  | succ k ih =>
    rw [show t + ((k + 1 : Nat) : Int) = t + k + 1 by omega, M_succ, ih, step_times]
    rfl
/-- signs: d is 1 just if no i stands behind an o, a is 1 just if no o stands behind an i -/
theorem seg_pos (l : List Nat) (t : Int) (k : Nat) : 1 ≤ (seg l t k).a ∧ 0 ≤ (seg l t k).b ∧ 0 ≤ (seg l t k).c ∧ 1 ≤ (seg l t k).d ∧
    ((seg l t k).b = 0 → out l (t + k) = out l t) ∧ ((seg l t k).c = 0 → inn l (t + k) = inn l t) ∧
    ((seg l t k).d = 1 → ∃ u, t ≤ u ∧ u ≤ t + k ∧ out l u = out l t ∧ inn l u = inn l (t + k)) ∧ ((seg l t k).a = 1 → ∃ u, t ≤ u ∧ u ≤ t + k ∧ out l u = out l (t + k) ∧ inn l u = inn l t) := by
  induction k with
  | zero => exact ⟨by show (1 : Int) ≤ 1; decide, by show (0 : Int) ≤ 0; decide, by show (0 : Int) ≤ 0; decide, by show (1 : Int) ≤ 1; decide, fun _ => by simp, fun _ => by simp, fun _ => ⟨t, by omega, by omega, rfl, by simp⟩, fun _ => ⟨t, by omega, by omega, by simp, rfl⟩⟩
  | succ k ih =>
    obtain ⟨h1, h2, h3, h4, h5, h6, h7, h8⟩ := ih
    have o1 := out_succ l (t + k)
    have i1 := inn_succ l (t + k)
    have e : t + ((k + 1 : Nat) : Int) = t + k + 1 := by omega
    rw [e]
    show 1 ≤ (step (io l (t + k)) (seg l t k)).a ∧ 0 ≤ (step (io l (t + k)) (seg l t k)).b ∧ 0 ≤ (step (io l (t + k)) (seg l t k)).c ∧ 1 ≤ (step (io l (t + k)) (seg l t k)).d ∧
      ((step (io l (t + k)) (seg l t k)).b = 0 → _) ∧ ((step (io l (t + k)) (seg l t k)).c = 0 → _) ∧ ((step (io l (t + k)) (seg l t k)).d = 1 → _) ∧ ((step (io l (t + k)) (seg l t k)).a = 1 → _)
    rcases io01 l (t + k) with z | z
    · rw [z] at o1 i1 ⊢
      unfold step
      rw [if_neg (by decide)]
      refine ⟨h1, h2, by show 0 ≤ (seg l t k).c + (seg l t k).a; omega, by show 1 ≤ (seg l t k).d + (seg l t k).b; omega, fun q => by rw [o1]; have := h5 q; omega, fun q => ?_, fun q => ?_, fun q => ?_⟩
      · have q : (seg l t k).c + (seg l t k).a = 0 := q
        omega
      · have q : (seg l t k).d + (seg l t k).b = 1 := q
        have b0 : (seg l t k).b = 0 := by omega
        exact ⟨t + k + 1, by omega, by omega, by have := h5 b0; omega, rfl⟩
      · obtain ⟨u, u1, u2, u3, u4⟩ := h8 q
        exact ⟨u, u1, by omega, by omega, u4⟩
    · rw [z] at o1 i1 ⊢
      unfold step
      rw [if_pos rfl]
      refine ⟨by show 1 ≤ (seg l t k).a + (seg l t k).c; omega, by show 0 ≤ (seg l t k).b + (seg l t k).d; omega, h3, h4, fun q => ?_, fun q => by rw [i1]; have := h6 q; omega, fun q => ?_, fun q => ?_⟩
      · have q : (seg l t k).b + (seg l t k).d = 0 := q
        omega
      · obtain ⟨u, u1, u2, u3, u4⟩ := h7 q
        exact ⟨u, u1, by omega, u3, by omega⟩
      · have q : (seg l t k).a + (seg l t k).c = 1 := q
        have c0 : (seg l t k).c = 0 := by omega
        exact ⟨t + k + 1, by omega, by omega, rfl, by have := h6 c0; omega⟩
theorem det_lin (m w : Mt) : det w.P (times m w).Q = m.d * det w.P w.Q ∧ det (times m w).P w.Q = m.a * det w.P w.Q ∧ det w.P (times m w).P = m.b * det w.P w.Q := by
  unfold det times Mt.P Mt.Q
  refine ⟨by grind, by grind, by grind⟩
/-- THE NUMBER OF A CORD is above 0, and 1 just where the corners stand at one time -/
theorem cord_pos (l : List Nat) (t u : Int) : 1 ≤ det (M l t).P (M l u).Q ∧ (det (M l t).P (M l u).Q = 1 ↔ ∃ v, out l v = out l t ∧ inn l v = inn l u) := by
  have conv : (∃ v, out l v = out l t ∧ inn l v = inn l u) → det (M l t).P (M l u).Q = 1 := fun ⟨v, h1, h2⟩ => by
    rw [← P_same l h1, ← Q_same l h2]
    exact det_M l v
  rcases Int.le_total t u with z | z
  · have hs := M_seg l t (u - t).toNat
    have hp := seg_pos l t (u - t).toNat
    rw [show t + (((u - t).toNat : Nat) : Int) = u by omega] at hs hp
    have hd := (det_lin (seg l t (u - t).toNat) (M l t)).1
    rw [← hs, det_M, Int.mul_one] at hd
    rw [hd]
    refine ⟨hp.2.2.2.1, fun q => ?_, fun q => ?_⟩
    · obtain ⟨v, _, _, v3, v4⟩ := hp.2.2.2.2.2.2.1 q
      exact ⟨v, v3, v4⟩
    · rw [← hd]; exact conv q
  · have hs := M_seg l u (t - u).toNat
    have hp := seg_pos l u (t - u).toNat
    rw [show u + (((t - u).toNat : Nat) : Int) = t by omega] at hs hp
    have hd := (det_lin (seg l u (t - u).toNat) (M l u)).2.1
    rw [← hs, det_M, Int.mul_one] at hd
    rw [hd]
    refine ⟨hp.1, fun q => ?_, fun q => ?_⟩
    · obtain ⟨v, _, _, v3, v4⟩ := hp.2.2.2.2.2.2.2 q
      exact ⟨v, v3, v4⟩
    · rw [← hd]; exact conv q
end LandM

/-! LandN: the corners' pairs by number; rims. -/
namespace LandM
structure Word (l : List Nat) : Prop where
  all : ∀ x ∈ l, x = 111 ∨ x = 105
  o : 111 ∈ l
  i : 105 ∈ l
theorem Word.ne {l : List Nat} (w : Word l) : 0 < l.length := by
  have := w.o
  cases l with
  | nil => cases this
  | cons a r => exact Nat.succ_pos _
theorem sg_nat {l : List Nat} {k : Nat} (h : k < l.length) : sg l (k : Int) = l[k] := by
  unfold sg
  rw [Int.emod_eq_of_lt (by omega) (by omega), Int.toNat_natCast, List.getD_eq_getElem?_getD, List.getElem?_eq_getElem h]
  rfl
theorem sg_mod (l : List Nat) (t : Int) : sg l (t % l.length) = sg l t := by
  unfold sg
  rw [Int.emod_emod]
theorem sg_per (l : List Nat) (t q : Int) : sg l (t + q * l.length) = sg l t := by
  unfold sg
  rw [Int.add_mul_emod_self_right]
theorem sg_at {l : List Nat} (h : 0 < l.length) (t : Int) : DL.atI l (t % l.length) = some (sg l t) := by
  have h1 : 0 ≤ t % (l.length : Int) := Int.emod_nonneg _ (by omega)
  have h2 : t % (l.length : Int) < l.length := Int.emod_lt_of_pos _ (by omega)
  rw [DL.atI_of h1 h2]
  unfold sg
  rw [List.getD_eq_getElem?_getD, List.getElem?_eq_getElem (by omega)]
  rfl
theorem sg_mem {l : List Nat} (h : 0 < l.length) (t : Int) : sg l t ∈ l := by
  have h1 : 0 ≤ t % (l.length : Int) := Int.emod_nonneg _ (by omega)
  have h2 : t % (l.length : Int) < l.length := Int.emod_lt_of_pos _ (by omega)
  unfold sg
  rw [List.getD_eq_getElem?_getD, List.getElem?_eq_getElem (by omega)]
  exact List.getElem_mem _
theorem Word.sg {l : List Nat} (w : Word l) (t : Int) : sg l t = 111 ∨ sg l t = 105 := w.all _ (sg_mem w.ne t)
/-- how many of the sign s stand ahead -/
def cn (l : List Nat) (s : Nat) (t : Int) : Int := if s = 111 then out l t else inn l t
abbrev Sign (s : Nat) : Prop := s = 111 ∨ s = 105
theorem cn_zero (l : List Nat) (s : Nat) : cn l s 0 = 0 := by
  unfold cn inn
  rw [out_zero]
  split <;> rfl
theorem cn_succ {l : List Nat} (w : Word l) {s : Nat} (hs : Sign s) (t : Int) : cn l s (t + 1) = cn l s t + (if sg l t = s then 1 else 0) := by
  unfold cn
  rcases hs with rfl | rfl
  · rw [if_pos rfl, if_pos rfl, out_succ]
    rfl
  · rw [if_neg (by decide), if_neg (by decide), inn_succ]
    unfold io
    rcases w.sg t with h | h <;> rw [h] <;> simp
theorem cn_pred {l : List Nat} (w : Word l) {s : Nat} (hs : Sign s) (t : Int) : cn l s (t - 1) = cn l s t - (if sg l (t - 1) = s then 1 else 0) := by
  have := cn_succ w hs (t - 1)
  rw [show t - 1 + 1 = t by omega] at this
  omega
theorem cn_mono {l : List Nat} {s : Nat} (hs : Sign s) {t u : Int} (h : t ≤ u) : cn l s t ≤ cn l s u := by
  unfold cn
  split
  · exact out_le l h
  · exact inn_le l h
theorem cn_lt {l : List Nat} {s : Nat} (hs : Sign s) {t u : Int} (h : cn l s t < cn l s u) : t < u := by
  rcases Int.lt_or_le t u with z | z
  · exact z
  · have := cn_mono (l := l) hs z
    omega
theorem cn_add (l : List Nat) (t : Int) : cn l 111 t + cn l 105 t = t := by
  unfold cn inn
  rw [if_pos rfl, if_neg (by decide)]
  omega
/-- how many in all -/
def many (l : List Nat) (s : Nat) : Int := cn l s l.length
theorem cn_per1 {l : List Nat} (w : Word l) {s : Nat} (hs : Sign s) : ∀ t : Int, cn l s (t + l.length) = cn l s t + many l s := by
  apply int_ind
  · rw [cn_zero, Int.zero_add, Int.zero_add]
    rfl
  · intro t h
    have := sg_per l t 1
    rw [Int.one_mul] at this
    rw [show t + 1 + (l.length : Int) = t + l.length + 1 by omega, cn_succ w hs, cn_succ w hs, h, this]
    omega
  · intro t h
    have := sg_per l (t - 1) 1
    rw [Int.one_mul] at this
    rw [show t - 1 + (l.length : Int) = t + l.length - 1 by omega, cn_pred w hs, cn_pred w hs, h, show t + (l.length : Int) - 1 = t - 1 + l.length by omega, this]
    omega
theorem cn_per {l : List Nat} (w : Word l) {s : Nat} (hs : Sign s) (t : Int) : ∀ q : Int, cn l s (t + q * l.length) = cn l s t + q * many l s := by
  apply int_ind
  · simp
  · intro q h
    rw [Int.add_mul, Int.add_mul, Int.one_mul, Int.one_mul, ← Int.add_assoc, cn_per1 w hs, h]
    omega
  · intro q h
    have := cn_per1 w hs (t + (q - 1) * l.length)
    rw [Int.add_assoc, Int.sub_mul, Int.one_mul, show q * (l.length : Int) - l.length + l.length = q * l.length by omega, h] at this
    rw [Int.sub_mul, Int.sub_mul, Int.one_mul, Int.one_mul]
    omega
/-- the sign number j stands somewhere -/
theorem tm_nat {l : List Nat} (w : Word l) {s : Nat} (hs : Sign s) : ∀ (k : Nat) (j : Int), 0 ≤ j → j < cn l s k → ∃ t : Int, 0 ≤ t ∧ t < k ∧ cn l s t = j ∧ sg l t = s
  | 0, j, h0, h1 => by
    rw [show ((0 : Nat) : Int) = 0 by rfl, cn_zero] at h1
    omega
  | k + 1, j, h0, h1 => by
    by_cases h : j < cn l s k
    · obtain ⟨t, a, b, c⟩ := tm_nat w hs k j h0 h
      exact ⟨t, a, by omega, c⟩
    · have := cn_succ w hs (k : Int)
      rw [show ((k + 1 : Nat) : Int) = (k : Int) + 1 by omega] at h1
      by_cases hk : sg l (k : Int) = s
      · rw [if_pos hk] at this
        exact ⟨k, by omega, by omega, by omega, hk⟩
      · rw [if_neg hk] at this
        omega
theorem many_pos {l : List Nat} (w : Word l) {s : Nat} (hs : Sign s) : 1 ≤ many l s := by
  have hm : s ∈ l := by
    rcases hs with rfl | rfl
    · exact w.o
    · exact w.i
  obtain ⟨k, hk, e⟩ := List.getElem_of_mem hm
  have h1 := cn_succ w hs (k : Int)
  rw [sg_nat hk, e, if_pos rfl] at h1
  have h2 := cn_mono (l := l) hs (show (0 : Int) ≤ k by omega)
  rw [cn_zero] at h2
  have h3 := cn_mono (l := l) hs (show (k : Int) + 1 ≤ l.length by omega)
  unfold many
  omega
theorem many_le {l : List Nat} (s : Nat) : many l s ≤ l.length := by
  have h1 := cn_mono (l := l) (.inl rfl) (show (0 : Int) ≤ l.length by omega)
  have h2 := cn_mono (l := l) (.inr rfl) (show (0 : Int) ≤ l.length by omega)
  have h3 := cn_add l l.length
  rw [cn_zero] at h1 h2
  unfold many
  unfold cn at *
  split <;> simp_all <;> omega
theorem many_add (l : List Nat) : many l 111 + many l 105 = l.length := cn_add l l.length
theorem tm {l : List Nat} (w : Word l) {s : Nat} (hs : Sign s) (j : Int) : ∃ t : Int, cn l s t = j ∧ sg l t = s ∧ t.natAbs ≤ (j.natAbs + 1) * l.length := by
  have hp := many_pos w hs
  have h1 : 0 ≤ j % many l s := Int.emod_nonneg _ (by omega)
  have h2 : j % many l s < many l s := Int.emod_lt_of_pos _ (by omega)
  obtain ⟨t, a, b, c, d⟩ := tm_nat w hs l.length _ h1 h2
  have hd := Int.emod_add_mul_ediv j (many l s)
  refine ⟨t + (j / many l s) * l.length, ?_, ?_, ?_⟩
  · rw [cn_per w hs, c, Int.mul_comm]
    exact hd
  · rw [sg_per]
    exact d
  · have hq : (j / many l s).natAbs ≤ j.natAbs := by
      exact Int.natAbs_ediv_le_natAbs j (many l s)
    have h3 : (t + (j / many l s) * l.length).natAbs ≤ t.natAbs + (j / many l s).natAbs * l.length := by
      refine Nat.le_trans (Int.natAbs_add_le _ _) ?_
      rw [Int.natAbs_mul]
      exact Nat.le_refl _
    have h4 := Nat.mul_le_mul_right l.length hq
    rw [Nat.add_mul]
    omega
/-- the pair of one kind -/
def Mt.pr (m : Mt) (s : Nat) : Int × Int := if s = 111 then m.P else m.Q
theorem pr_same (l : List Nat) {s : Nat} {t u : Int} (h : cn l s t = cn l s u) : (M l t).pr s = (M l u).pr s := by
  unfold cn at h
  unfold Mt.pr
  split
  · rename_i e
    rw [if_pos e, if_pos e] at h
    exact P_same l h
  · rename_i e
    rw [if_neg e, if_neg e] at h
    exact Q_same l h
open Classical in
/-- the pair of corner j -/
noncomputable def pp (l : List Nat) (s : Nat) (j : Int) : Int × Int := if h : ∃ t, cn l s t = j then (M l (choose h)).pr s else (0, 0)
theorem pp_eq (l : List Nat) {s : Nat} {t j : Int} (h : cn l s t = j) : pp l s j = (M l t).pr s := by
  unfold pp
  have hx : ∃ t, cn l s t = j := ⟨t, h⟩
  rw [dif_pos hx]
  exact pr_same l ((Classical.choose_spec hx).trans h.symm)
theorem pp_cn (l : List Nat) (s : Nat) (t : Int) : pp l s (cn l s t) = (M l t).pr s := pp_eq l rfl
theorem pp_zero_o (l : List Nat) : pp l 111 0 = (1, 0) := by
  rw [pp_eq l (cn_zero l 111), M_zero]
  rfl
theorem pp_zero_i (l : List Nat) : pp l 105 0 = (0, 1) := by
  rw [pp_eq l (cn_zero l 105), M_zero]
  rfl
/-! ### the number of a cord -/
theorem num_pos {l : List Nat} (w : Word l) (i j : Int) : 1 ≤ det (pp l 111 i) (pp l 105 j) ∧ (det (pp l 111 i) (pp l 105 j) = 1 ↔ out l (i + j) = i ∧ inn l (i + j) = j) := by
  obtain ⟨t, ht, _⟩ := tm w (.inl rfl) i
  obtain ⟨u, hu, _⟩ := tm w (.inr rfl) j
  rw [pp_eq l ht, pp_eq l hu]
  have h := cord_pos l t u
  refine ⟨h.1, h.2.trans ⟨fun ⟨v, h1, h2⟩ => ?_, fun ⟨h1, h2⟩ => ⟨i + j, ?_, ?_⟩⟩⟩
  · have h3 := cn_add l v
    have ht : out l t = i := ht
    have hu : inn l u = j := hu
    have : v = i + j := by
      have h3 : out l v + inn l v = v := h3
      omega
    subst this
    exact ⟨h1.trans ht, h2.trans hu⟩
  · exact h1.trans ht.symm
  · exact h2.trans hu.symm
theorem unstep_times (o : Int) (m w : Mt) : unstep o (times m w) = times (unstep o m) w := by
  rw [← un_step o (times (unstep o m) w), step_times, step_un]
theorem io_per (l : List Nat) (t : Int) : io l (t + l.length) = io l t := by
  have := sg_per l t 1
  rw [Int.one_mul] at this
  unfold io
  rw [this]
theorem M_per (l : List Nat) : ∀ t : Int, M l (t + l.length) = times (M l t) (M l l.length) := by
  apply int_ind
  · rw [Int.zero_add, M_zero, one_times]
  · intro t h
    rw [show t + 1 + (l.length : Int) = t + l.length + 1 by omega, M_succ, M_succ, h, io_per, step_times]
  · intro t h
    rw [show t - 1 + (l.length : Int) = t + l.length - 1 by omega, M_pred, M_pred, h, show t + (l.length : Int) - 1 = t - 1 + l.length by omega, io_per, unstep_times]
theorem det_times (m m' w : Mt) : det (times m w).P (times m' w).Q = det m.P m'.Q * det w.P w.Q := by
  unfold det times Mt.P Mt.Q
  grind
theorem num_per {l : List Nat} (w : Word l) (i j : Int) : det (pp l 111 (i + many l 111)) (pp l 105 (j + many l 105)) = det (pp l 111 i) (pp l 105 j) := by
  obtain ⟨t, ht, _⟩ := tm w (.inl rfl) i
  obtain ⟨u, hu, _⟩ := tm w (.inr rfl) j
  rw [pp_eq l ht, pp_eq l hu, pp_eq l ((cn_per1 w (.inl rfl) t).trans (by rw [ht])), pp_eq l ((cn_per1 w (.inr rfl) u).trans (by rw [hu])), M_per, M_per]
  show det (times _ _).P (times _ _).Q = det (M l t).P (M l u).Q
  rw [det_times, det_M, Int.mul_one]
/-! ### rims -/
/-- r is the rim of the sign s: at the k-th of them stands two and what lies behind it up to the next -/
structure Rim (l : List Nat) (s : Nat) (r : List Int) : Prop where
  len : (r.length : Int) = many l s
  at_ : ∀ (k : Nat) (x : Int), r[k]? = some x → ∃ (t : Int) (m : Nat), cn l s t = k ∧ sg l t = s ∧ x = 2 + m ∧ (∀ i : Nat, i < m → sg l (t + 1 + i) ≠ s) ∧ sg l (t + 1 + m) = s
theorem run_o {l : List Nat} {t : Int} : ∀ m : Nat, (∀ i : Nat, i < m → sg l (t + i) ≠ 111) → M l (t + m) = ⟨(M l t).a, (M l t).b, (M l t).c + m * (M l t).a, (M l t).d + m * (M l t).b⟩
  | 0, _ => by simp
  | m + 1, h => by
    have ih := run_o m (fun i hi => h i (by omega))
    rw [show t + ((m + 1 : Nat) : Int) = t + m + 1 by omega, M_succ, ih]
    have hz : io l (t + m) = 0 := if_neg (h m (by omega))
    rw [hz]
    unfold step
    rw [if_neg (by decide)]
    simp only [Mt.mk.injEq, true_and, Int.natCast_add, Int.add_mul]
    omega
theorem run_i {l : List Nat} (w : Word l) {t : Int} : ∀ m : Nat, (∀ i : Nat, i < m → sg l (t + i) ≠ 105) → M l (t + m) = ⟨(M l t).a + m * (M l t).c, (M l t).b + m * (M l t).d, (M l t).c, (M l t).d⟩
  | 0, _ => by simp
  | m + 1, h => by
    have ih := run_i w m (fun i hi => h i (by omega))
    rw [show t + ((m + 1 : Nat) : Int) = t + m + 1 by omega, M_succ, ih]
    have hz : io l (t + m) = 1 := if_pos ((w.sg _).resolve_right (h m (by omega)))
    rw [hz]
    unfold step
    rw [if_pos rfl]
    simp only [Mt.mk.injEq, and_true, Int.natCast_add, Int.add_mul]
    omega
theorem rec_at {l : List Nat} (w : Word l) {s : Nat} (hs : Sign s) {t : Int} {m : Nat} (h1 : sg l t = s) (h2 : ∀ i : Nat, i < m → sg l (t + 1 + i) ≠ s) (h3 : sg l (t + 1 + m) = s) :
    cn l s (t + 1) = cn l s t + 1 ∧ cn l s (t + 1 + m + 1) = cn l s t + 2 ∧ ((M l (t + 1 + m + 1)).pr s).1 + ((M l t).pr s).1 = (2 + m) * ((M l (t + 1)).pr s).1 ∧ ((M l (t + 1 + m + 1)).pr s).2 + ((M l t).pr s).2 = (2 + m) * ((M l (t + 1)).pr s).2 := by
  have c1 : cn l s (t + 1) = cn l s t + 1 := by rw [cn_succ w hs, if_pos h1]
  have c2 : ∀ k : Nat, k ≤ m → cn l s (t + 1 + k) = cn l s (t + 1) := fun k => by
    induction k with
    | zero => intro _; simp
    | succ k ih =>
      intro hk
      rw [show t + 1 + ((k + 1 : Nat) : Int) = t + 1 + k + 1 by omega, cn_succ w hs, if_neg (h2 k (by omega)), ih (by omega)]
      omega
  refine ⟨c1, by rw [cn_succ w hs, if_pos h3, c2 m (Nat.le_refl m)]; omega, ?_⟩
  rcases hs with rfl | rfl
  · rw [M_succ l (t + 1 + m), run_o m h2, M_succ l t]
    have z1 : io l t = 1 := if_pos h1
    have z2 : io l (t + 1 + m) = 1 := if_pos h3
    rw [z1, z2]
    unfold step Mt.pr Mt.P
    simp only [if_true]
    constructor <;> grind
  · rw [M_succ l (t + 1 + m), run_i w m h2, M_succ l t]
    have z1 : io l t = 0 := if_neg (by rw [h1]; decide)
    have z2 : io l (t + 1 + m) = 0 := if_neg (by rw [h3]; decide)
    rw [z1, z2]
    unfold step Mt.pr Mt.Q
    simp only [if_false, show ¬ (0 : Int) = 1 by decide, show ¬ (105 : Nat) = 111 by decide]
    constructor <;> grind
/-- an entry of a rim: its index round, and what stands there -/
theorem Rim.get {l : List Nat} (w : Word l) {s : Nat} (hs : Sign s) {r : List Int} (R : Rim l s r) (j : Int) : ∃ x, DL.atI r (j % r.length) = some x ∧ 2 ≤ x ∧ x < 2 + l.length ∧
    ((pp l s (j + 2)).1 + (pp l s j).1 = x * (pp l s (j + 1)).1) ∧ ((pp l s (j + 2)).2 + (pp l s j).2 = x * (pp l s (j + 1)).2) := by
  have hp := many_pos w hs
  have hl := R.len
  have h1 : 0 ≤ j % (r.length : Int) := Int.emod_nonneg _ (by omega)
  have h2 : j % (r.length : Int) < r.length := Int.emod_lt_of_pos _ (by omega)
  have hd := Int.emod_add_mul_ediv j r.length
  obtain ⟨t, m, c1, c2, c3, c4, c5⟩ := R.at_ (j % (r.length : Int)).toNat _ (List.getElem?_eq_getElem (by omega))
  refine ⟨_, DL.atI_of h1 h2, ?_⟩
  rw [c3]
  have hm : m < l.length := by
    refine Nat.lt_of_not_le fun hn => ?_
    have := c4 (l.length - 1) (by have := w.ne; omega)
    rw [show t + 1 + ((l.length - 1 : Nat) : Int) = t + 1 * l.length by have := w.ne; omega, sg_per] at this
    exact this c2
  refine ⟨by omega, by omega, ?_⟩
  have e : ∀ i : Int, t + j / (r.length : Int) * l.length + i = t + i + j / (r.length : Int) * l.length := fun i => by omega
  have hr := rec_at w hs (t := t + j / (r.length : Int) * l.length) (m := m) (by rw [sg_per]; exact c2) (fun i hi => by rw [e, show t + 1 + j / (r.length : Int) * (l.length : Int) + i = t + 1 + i + j / (r.length : Int) * l.length by omega, sg_per]; exact c4 i hi)
    (by rw [e, show t + 1 + j / (r.length : Int) * (l.length : Int) + m = t + 1 + m + j / (r.length : Int) * l.length by omega, sg_per]; exact c5)
  have hc : cn l s (t + j / (r.length : Int) * l.length) = j := by
    rw [cn_per w hs, c1, ← hl, Int.mul_comm]
    omega
  rw [hc] at hr
  rw [pp_eq l hc, pp_eq l hr.1, pp_eq l hr.2.1]
  exact hr.2.2
/-- the first two -/
theorem first_o {l : List Nat} (w : Word l) {p : Nat} (h1 : sg l p = 111) (h2 : ∀ i : Nat, i < p → sg l i ≠ 111) : pp l 111 1 = (1 + (p : Int), 1) := by
  have hr := run_o (l := l) (t := 0) p (fun i hi => by rw [Int.zero_add]; exact h2 i hi)
  have hc : ∀ k : Nat, k ≤ p → cn l 111 k = 0 := fun k => by
    induction k with
    | zero => intro _; exact cn_zero l 111
    | succ k ih =>
      intro hk
      rw [show ((k + 1 : Nat) : Int) = (k : Int) + 1 by omega, cn_succ w (.inl rfl), if_neg (h2 k (by omega)), ih (by omega)]
      rfl
  rw [pp_eq l (t := (p : Int) + 1) (by rw [cn_succ w (.inl rfl), if_pos h1, hc p (Nat.le_refl p)]; rfl), M_succ]
  rw [Int.zero_add, M_zero] at hr
  rw [hr]
  have z1 : io l p = 1 := if_pos h1
  rw [z1]
  simp [step, one, Mt.pr, Mt.P]
theorem first_i {l : List Nat} (w : Word l) {p : Nat} (h1 : sg l p = 105) (h2 : ∀ i : Nat, i < p → sg l i ≠ 105) : pp l 105 1 = (1, 1 + (p : Int)) := by
  have hr := run_i w (l := l) (t := 0) p (fun i hi => by rw [Int.zero_add]; exact h2 i hi)
  have hc : ∀ k : Nat, k ≤ p → cn l 105 k = 0 := fun k => by
    induction k with
    | zero => intro _; exact cn_zero l 105
    | succ k ih =>
      intro hk
      rw [show ((k + 1 : Nat) : Int) = (k : Int) + 1 by omega, cn_succ w (.inr rfl), if_neg (h2 k (by omega)), ih (by omega)]
      rfl
  rw [pp_eq l (t := (p : Int) + 1) (by rw [cn_succ w (.inr rfl), if_pos h1, hc p (Nat.le_refl p)]; rfl), M_succ]
  rw [Int.zero_add, M_zero] at hr
  rw [hr]
  have z1 : io l p = 0 := if_neg (by rw [h1]; decide)
  rw [z1]
  simp [step, one, Mt.pr, Mt.Q]
/-- neighbours on one rim -/
theorem det_next {l : List Nat} (w : Word l) (j : Int) : det (pp l 111 j) (pp l 111 (j + 1)) = 1 := by
  obtain ⟨t, h1, h2, _⟩ := tm w (.inl rfl) j
  have hc : cn l 111 (t + 1) = j + 1 := by rw [cn_succ w (.inl rfl), if_pos h2, h1]
  rw [pp_eq l h1, pp_eq l hc, M_succ]
  have z1 : io l t = 1 := if_pos h2
  rw [z1]
  have := det_M l t
  simp only [det, Mt.pr, Mt.P, Mt.Q, step, if_true] at this ⊢
  grind
/-! ### sizes -/
def small (k : Nat) (m : Mt) : Prop := m.a.natAbs ≤ 2 ^ k ∧ m.b.natAbs ≤ 2 ^ k ∧ m.c.natAbs ≤ 2 ^ k ∧ m.d.natAbs ≤ 2 ^ k
theorem small_step {k : Nat} {m : Mt} (o : Int) (h : small k m) : small (k + 1) (step o m) ∧ small (k + 1) (unstep o m) := by
  obtain ⟨h1, h2, h3, h4⟩ := h
  unfold small step unstep
  rw [Nat.pow_succ]
  split <;> simp only [] <;> omega
theorem small_one : small 0 one := ⟨by decide, by decide, by decide, by decide⟩
theorem small_M (l : List Nat) (t : Int) : small t.natAbs (M l t) := by
  have hf : ∀ k : Nat, small k (Mf l k) := fun k => by
    induction k with
    | zero => exact small_one
    | succ k ih => exact (small_step _ ih).1
  have hb : ∀ k : Nat, small k (Mb l k) := fun k => by
    induction k with
    | zero => exact small_one
    | succ k ih => exact (small_step _ ih).2
  unfold M
  split
  · have := hf t.toNat
    rwa [show t.natAbs = t.toNat by omega]
  · have := hb (-t).toNat
    rwa [show t.natAbs = (-t).toNat by omega]
/-- below 2^6000 -/
def lowP (p : Int × Int) : Prop := p.1.natAbs < 2 ^ 6000 ∧ p.2.natAbs < 2 ^ 6000
theorem low_pp {l : List Nat} (w : Word l) (hl : l.length ≤ 48) {s : Nat} (hs : Sign s) {j : Int} (h1 : -120 ≤ j) (h2 : j ≤ 120) : lowP (pp l s j) := by
  obtain ⟨t, c, _, hb⟩ := tm w hs j
  rw [pp_eq l c]
  have hk : t.natAbs < 6000 := by
    have : (j.natAbs + 1) * l.length ≤ 121 * 48 := Nat.mul_le_mul (by omega) hl
    omega
  have hp : 2 ^ t.natAbs < 2 ^ 6000 := Nat.pow_lt_pow_right (by decide) hk
  obtain ⟨a1, a2, a3, a4⟩ := small_M l t
  unfold lowP Mt.pr Mt.P Mt.Q
  split
  · exact ⟨Nat.lt_of_le_of_lt a1 hp, Nat.lt_of_le_of_lt a2 hp⟩
  · exact ⟨Nat.lt_of_le_of_lt a3 hp, Nat.lt_of_le_of_lt a4 hp⟩
end LandM

/-! LandO: the rim by cutting a word at its signs. -/
namespace LandM
open DL (fstIx splitC)
theorem fst_spec {c : Nat} : ∀ {l : List Nat}, c ∈ l → fstIx c l < l.length ∧ l[fstIx c l]? = some c ∧ ∀ i, i < fstIx c l → l[i]? ≠ some c
  | x :: r, h => by
    unfold fstIx
    by_cases e : x = c
    · rw [if_pos e]
      exact ⟨Nat.succ_pos _, by rw [e]; rfl, fun i hi => absurd hi (Nat.not_lt_zero i)⟩
    · rw [if_neg e]
      have hr : c ∈ r := by
        rcases List.mem_cons.mp h with h | h
        · exact absurd h.symm e
        · exact h
      obtain ⟨h1, h2, h3⟩ := fst_spec hr
      refine ⟨Nat.succ_lt_succ h1, h2, fun i hi => ?_⟩
      cases i with
      | zero => exact fun q => e (Option.some.inj q)
      | succ i => exact h3 i (Nat.lt_of_succ_lt_succ hi)
/-- a word, begun at p -/
def turn (l : List Nat) (p : Nat) : List Nat := l.drop p ++ l.take p
theorem turn_len (l : List Nat) {p : Nat} (h : p ≤ l.length) : (turn l p).length = l.length := by
  unfold turn
  simp only [List.length_append, List.length_drop, List.length_take]
  omega
theorem turn_get {l : List Nat} {p i : Nat} (h : p ≤ l.length) (hi : i < l.length) : (turn l p)[i]? = some (sg l ((p : Int) + i)) := by
  unfold turn
  by_cases z : p + i < l.length
  · rw [List.getElem?_append_left (by rw [List.length_drop]; omega), List.getElem?_drop, List.getElem?_eq_getElem z]
    have := sg_nat z
    rw [← this]
    rfl
  · rw [List.getElem?_append_right (by rw [List.length_drop]; omega), List.length_drop, List.getElem?_take, if_pos (by omega), List.getElem?_eq_getElem (by omega)]
    have hk : i - (l.length - p) < l.length := by omega
    have := sg_nat hk
    have h2 := sg_per l ((i - (l.length - p) : Nat) : Int) 1
    rw [Int.one_mul, this, show ((i - (l.length - p) : Nat) : Int) + l.length = (p : Int) + i by omega] at h2
    rw [h2]
/-- the pieces of a word: the first holds no c; behind each c its piece -/
theorem split_spec (c : Nat) : ∀ l : List Nat, ∃ p ps, splitC c l = p :: ps ∧ ps.length = l.count c ∧ p.length ≤ l.length ∧ (∀ i : Nat, i < p.length → l[i]? ≠ some c) ∧ (p.length = l.length ∨ l[p.length]? = some c) ∧
    ∀ k q, ps[k]? = some q → ∃ t : Nat, t < l.length ∧ l[t]? = some c ∧ (l.take t).count c = k ∧ t + 1 + q.length ≤ l.length ∧ (∀ i : Nat, i < q.length → l[t + 1 + i]? ≠ some c) ∧ (t + 1 + q.length = l.length ∨ l[t + 1 + q.length]? = some c)
  | [] => ⟨[], [], rfl, rfl, Nat.le_refl _, fun i h => absurd h (Nat.not_lt_zero i), .inl rfl, fun k q h => by cases h⟩
  | x :: r => by
    obtain ⟨p, ps, e, hl, hp1, hp2, hp3, hps⟩ := split_spec c r
    unfold splitC
    by_cases h : x = c
    · rw [if_pos h, e]
      refine ⟨[], p :: ps, rfl, by rw [h, List.count_cons_self, List.length_cons, hl], Nat.zero_le _, fun i h => absurd h (Nat.not_lt_zero i), .inr (by rw [h]; rfl), fun k q hk => ?_⟩
      cases k with
      | zero =>
        cases hk
        refine ⟨0, Nat.succ_pos _, by rw [h]; rfl, rfl, by simp only [List.length_cons]; omega, fun i hi => ?_, ?_⟩
        · rw [show 0 + 1 + i = i + 1 by omega]
          exact hp2 i hi
        · rw [show 0 + 1 + p.length = p.length + 1 by omega]
          rcases hp3 with z | z
          · exact .inl (by rw [List.length_cons, z])
          · exact .inr z
      | succ k =>
        obtain ⟨t, t1, t2, t3, t4, t5, t6⟩ := hps k q hk
        refine ⟨t + 1, Nat.succ_lt_succ t1, t2, by rw [List.take_succ_cons, h, List.count_cons_self, t3], by simp only [List.length_cons]; omega, fun i hi => ?_, ?_⟩
        · rw [show t + 1 + 1 + i = t + 1 + i + 1 by omega]
          exact t5 i hi
        · rw [show t + 1 + 1 + q.length = t + 1 + q.length + 1 by omega]
          rcases t6 with z | z
          · exact .inl (by rw [List.length_cons, z])
          · exact .inr z
    · rw [if_neg h, e]
      refine ⟨x :: p, ps, rfl, by rw [List.count_cons_of_ne h, hl], Nat.succ_le_succ hp1, fun i hi => ?_, ?_, fun k q hk => ?_⟩
      · cases i with
        | zero => exact fun q => h (Option.some.inj q)
        | succ i => exact hp2 i (Nat.lt_of_succ_lt_succ hi)
      · rcases hp3 with z | z
        · exact .inl (by rw [List.length_cons, List.length_cons, z])
        · exact .inr z
      · obtain ⟨t, t1, t2, t3, t4, t5, t6⟩ := hps k q hk
        refine ⟨t + 1, Nat.succ_lt_succ t1, t2, by rw [List.take_succ_cons, List.count_cons_of_ne h, t3], by simp only [List.length_cons]; omega, fun i hi => ?_, ?_⟩
        · rw [show t + 1 + 1 + i = t + 1 + i + 1 by omega]
          exact t5 i hi
        · rw [show t + 1 + 1 + q.length = t + 1 + q.length + 1 by omega]
          rcases t6 with z | z
          · exact .inl (by rw [List.length_cons, z])
          · exact .inr z
/-- how many stand in a turned word -/
theorem turn_count {l : List Nat} (w : Word l) {s : Nat} (hs : Sign s) {p : Nat} (h : p ≤ l.length) : ∀ i : Nat, i ≤ l.length → (((turn l p).take i).count s : Int) = cn l s ((p : Int) + i) - cn l s p
  | 0, _ => by simp
  | i + 1, hi => by
    have ih := turn_count w hs h i (by omega)
    have hg := turn_get h (show i < l.length by omega)
    have hl := turn_len l h
    rw [List.take_succ, List.count_append, hg]
    have hc := cn_succ w hs ((p : Int) + i)
    rw [show (p : Int) + ((i + 1 : Nat) : Int) = p + i + 1 by omega, hc, Int.natCast_add, ih]
    simp only [Option.toList]
    by_cases e : sg l ((p : Int) + i) = s
    · rw [if_pos e, e]; simp; omega
    · rw [if_neg e, List.count_cons_of_ne e]; simp
/-- the rim of the sign s -/
def rim (l : List Nat) (s : Nat) : List Int := ((splitC s (turn l (fstIx s l))).drop 1).map fun q => 2 + (q.length : Int)
theorem Word.mem {l : List Nat} (w : Word l) {s : Nat} (hs : Sign s) : s ∈ l := by
  rcases hs with rfl | rfl
  · exact w.o
  · exact w.i
theorem Rim.of {l : List Nat} (w : Word l) {s : Nat} (hs : Sign s) : Rim l s (rim l s) := by
  obtain ⟨f1, f2, f3⟩ := fst_spec (w.mem hs)
  have hp : fstIx s l ≤ l.length := Nat.le_of_lt f1
  have hl := turn_len l hp
  obtain ⟨p, ps, e, e1, e2, e3, e4, e5⟩ := split_spec s (turn l (fstIx s l))
  have hc0 : ∀ k : Nat, k ≤ fstIx s l → cn l s k = 0 := fun k => by
    induction k with
    | zero => intro _; exact cn_zero l s
    | succ k ih =>
      intro hk
      have hne : ¬ sg l (k : Int) = s := fun q => f3 k (by omega) (by rw [List.getElem?_eq_getElem (by omega), ← sg_nat (by omega : k < l.length), q])
      rw [show ((k + 1 : Nat) : Int) = (k : Int) + 1 by omega, cn_succ w hs, if_neg hne, ih (by omega)]
      rfl
  have hc := hc0 (fstIx s l) (Nat.le_refl _)
  have hr : rim l s = ps.map fun q => 2 + (q.length : Int) := by
    unfold rim
    rw [e]
    rfl
  refine ⟨?_, fun k x hx => ?_⟩
  · rw [hr, List.length_map, e1]
    have := turn_count w hs hp l.length (Nat.le_refl _)
    rw [← hl, List.take_length, hl, hc, Int.sub_zero, cn_per1 w hs, hc] at this
    omega
  · rw [hr, List.getElem?_map] at hx
    cases hq : ps[k]? with
    | none => rw [hq] at hx; cases hx
    | some q =>
      rw [hq] at hx
      cases hx
      obtain ⟨t, t1, t2, t3, t4, t5, t6⟩ := e5 k q hq
      rw [hl] at t1 t4 t6
      have g : ∀ i : Nat, i < l.length → (turn l (fstIx s l))[i]? = some (sg l ((fstIx s l : Nat) + (i : Int))) := fun i hi => turn_get hp hi
      have cnt := turn_count w hs hp t (by omega)
      rw [t3, hc] at cnt
      refine ⟨(fstIx s l : Nat) + (t : Int), q.length, by omega, ?_, rfl, fun i hi => ?_, ?_⟩
      · have := (g t t1).symm.trans t2
        exact Option.some.inj this
      · have h5 := t5 i hi
        rw [g _ (by omega)] at h5
        intro z
        refine h5 (congrArg some ((congrArg (sg l) ?_).trans z))
        omega
      · rcases t6 with z | z
        · have h0 : sg l ((fstIx s l : Nat) : Int) = s := by
            rw [sg_nat f1]
            rw [List.getElem?_eq_getElem f1] at f2
            exact Option.some.inj f2
          have := sg_per l ((fstIx s l : Nat) : Int) 1
          rw [Int.one_mul, h0] at this
          refine (congrArg (sg l) ?_).trans this
          omega
        · by_cases hz : t + 1 + q.length < l.length
          · rw [g _ hz] at z
            have z := Option.some.inj z
            refine (congrArg (sg l) ?_).trans z
            omega
          · rw [List.getElem?_eq_none (by omega)] at z
            cases z
/-- one place for each number -/
theorem at_one {l : List Nat} (w : Word l) {s : Nat} (hs : Sign s) {t u : Int} (h : cn l s t = cn l s u) (h1 : sg l t = s) (h2 : sg l u = s) : t = u := by
  have a := cn_succ w hs t
  have b := cn_succ w hs u
  rw [if_pos h1] at a
  rw [if_pos h2] at b
  rcases Int.lt_trichotomy t u with z | z | z
  · have := cn_mono (l := l) hs (show t + 1 ≤ u by omega)
    omega
  · exact z
  · have := cn_mono (l := l) hs (show u + 1 ≤ t by omega)
    omega
theorem Rim.uniq {l : List Nat} (w : Word l) {s : Nat} (hs : Sign s) {r r' : List Int} (R : Rim l s r) (R' : Rim l s r') : r = r' := by
  have hl : r.length = r'.length := by
    have := R.len
    have := R'.len
    omega
  refine List.ext_getElem hl fun k h1 h2 => ?_
  obtain ⟨t, m, c1, c2, c3, c4, c5⟩ := R.at_ k _ (List.getElem?_eq_getElem h1)
  obtain ⟨u, n, d1, d2, d3, d4, d5⟩ := R'.at_ k _ (List.getElem?_eq_getElem h2)
  have e := at_one w hs (c1.trans d1.symm) c2 d2
  subst e
  rw [c3, d3]
  rcases Nat.lt_trichotomy m n with z | z | z
  · exact absurd c5 (d4 m z)
  · rw [z]
  · exact absurd d5 (c4 n z)
end LandM

/-! LandQ: how far two words are apart. -/
namespace LandM
/-- the places of the outer signs, from k on -/
def sp : Int → List Nat → List Int
  | _, [] => []
  | k, x :: r => if x = 111 then k :: sp (k + 1) r else sp (k + 1) r
def dist : List Int → List Int → Nat
  | a :: A, b :: B => (a - b).natAbs + dist A B
  | _, _ => 0
theorem sp_len : ∀ (l : List Nat) (k : Int), (sp k l).length = l.count 111
  | [], _ => rfl
  | x :: r, k => by
    unfold sp
    by_cases h : x = 111
    · rw [if_pos h, h, List.count_cons_self, List.length_cons, sp_len r]
    · rw [if_neg h, List.count_cons_of_ne h, sp_len r]
theorem sp_cons (k : Int) (x : Nat) (r : List Nat) : sp k (x :: r) = if x = 111 then k :: sp (k + 1) r else sp (k + 1) r := rfl
theorem sp_app : ∀ (a b : List Nat) (k : Int), sp k (a ++ b) = sp k a ++ sp (k + a.length) b
  | [], b, k => by simp [sp]
  | x :: r, b, k => by
    rw [List.cons_append, sp_cons, sp_cons, sp_app r b, List.length_cons, show k + 1 + (r.length : Int) = k + ((r.length + 1 : Nat) : Int) by omega]
    split <;> rfl
theorem sp_i (d : Nat) (k : Int) : sp k (List.replicate d 105) = [] := by
  induction d generalizing k with
  | zero => rfl
  | succ d ih => rw [List.replicate_succ]; unfold sp; rw [if_neg (by decide), ih]
/-- an outer sign drawn to the front over d inner ones -/
theorem dist_o (d : Nat) (t o : List Nat) (k : Int) : dist (sp k (List.replicate d 105 ++ 111 :: t)) (sp k (111 :: o)) = d + dist (sp (k + 1) (List.replicate d 105 ++ t)) (sp (k + 1) o) := by
  rw [sp_app, sp_app, sp_i, sp_i, List.nil_append, List.nil_append, List.length_replicate]
  have e1 : sp (k + d) (111 :: t) = (k + d) :: sp (k + d + 1) t := by rw [sp]; rfl
  have e2 : sp k (111 :: o) = k :: sp (k + 1) o := by rw [sp]; rfl
  rw [e1, e2, show k + (d : Int) + 1 = k + 1 + d by omega]
  show (k + d - k).natAbs + _ = _
  rw [show (k + (d : Int) - k).natAbs = d by omega]
/-- d outer signs, each one further ahead of its mark -/
theorem dist_step : ∀ (d : Nat) (C : List Int) (l : List Nat) (k j : Int), j < k → d ≤ l.count 111 →
    dist (sp j (List.replicate d 111) ++ C) (sp k l) = d + dist (sp (j + 1) (List.replicate d 111) ++ C) (sp k l)
  | 0, C, l, k, j, _, _ => by simp [sp]
  | d + 1, C, [], k, j, _, h => by simp at h
  | d + 1, C, x :: r, k, j, hk, h => by
    by_cases hx : x = 111
    · subst hx
      rw [List.count_cons_self] at h
      have ih := dist_step d C r (k + 1) (j + 1) (by omega) (by omega)
      have e1 : sp k (111 :: r) = k :: sp (k + 1) r := by rw [sp]; rfl
      have e2 : ∀ q : Int, sp q (List.replicate (d + 1) 111) = q :: sp (q + 1) (List.replicate d 111) := fun q => by rw [List.replicate_succ, sp]; rfl
      rw [e1, e2, e2, List.cons_append, List.cons_append]
      show (j - k).natAbs + _ = _ + ((j + 1 - k).natAbs + _)
      rw [ih]
      omega
    · rw [List.count_cons_of_ne hx] at h
      have e1 : sp k (x :: r) = sp (k + 1) r := by rw [sp, if_neg hx]
      rw [e1]
      exact dist_step (d + 1) C r (k + 1) j (by omega) h
/-- an inner sign drawn to the front over d outer ones -/
theorem dist_i (d : Nat) (t o : List Nat) (k : Int) (h : (List.replicate d 111 ++ t).count 111 = o.count 111) : dist (sp k (List.replicate d 111 ++ 105 :: t)) (sp k (105 :: o)) = d + dist (sp (k + 1) (List.replicate d 111 ++ t)) (sp (k + 1) o) := by
  have e2 : sp k (105 :: o) = sp (k + 1) o := by rw [sp]; rfl
  have e1 : sp (k + d) (105 :: t) = sp (k + d + 1) t := by rw [sp]; rfl
  rw [sp_app, sp_app, List.length_replicate, e1, e2, show k + (d : Int) + 1 = k + 1 + d by omega]
  rw [List.count_append, List.count_replicate_self] at h
  exact dist_step d _ o (k + 1) k (by omega) (by omega)
/-- nought just for equal words -/
theorem dist_zero : ∀ (a b : List Nat) (k : Int), a.length = b.length → (∀ x ∈ a, x = 111 ∨ x = 105) → (∀ x ∈ b, x = 111 ∨ x = 105) → a.count 111 = b.count 111 → dist (sp k a) (sp k b) = 0 → a = b := by
  have le_sp : ∀ (l : List Nat) (k : Int) (x : Int) (r : List Int), sp k l = x :: r → k ≤ x := by
    intro l
    induction l with
    | nil => intro k x r h; cases h
    | cons y t ih =>
      intro k x r h
      rw [sp] at h
      split at h
      · cases h; exact Int.le_refl _
      · have := ih _ _ _ h
        omega
  intro a
  induction a with
  | nil => intro b k h _ _ _ _; exact (List.eq_nil_of_length_eq_zero h.symm).symm
  | cons x r ih =>
    intro b k hl ha hb hc hd
    cases b with
    | nil => cases hl
    | cons y t =>
      have hx := ha x List.mem_cons_self
      have hy := hb y List.mem_cons_self
      have ha' : ∀ z ∈ r, z = 111 ∨ z = 105 := fun z hz => ha z (List.mem_cons_of_mem _ hz)
      have hb' : ∀ z ∈ t, z = 111 ∨ z = 105 := fun z hz => hb z (List.mem_cons_of_mem _ hz)
      have hl' : r.length = t.length := Nat.succ.inj hl
      rcases hx with rfl | rfl <;> rcases hy with rfl | rfl
      · rw [List.count_cons_self, List.count_cons_self] at hc
        rw [sp, sp, if_pos rfl, if_pos rfl] at hd
        have hd : (k - k).natAbs + dist (sp (k + 1) r) (sp (k + 1) t) = 0 := hd
        rw [ih t (k + 1) hl' ha' hb' (by omega) (by omega)]
      · rw [List.count_cons_self, List.count_cons_of_ne (by decide)] at hc
        rw [sp, sp, if_pos rfl, if_neg (by decide)] at hd
        cases e : sp (k + 1) t with
        | nil =>
          have := sp_len t (k + 1)
          rw [e] at this
          simp at this
          omega
        | cons z q =>
          rw [e] at hd
          have h1 := le_sp _ _ _ _ e
          have hd : (k - z).natAbs + _ = 0 := hd
          omega
      · rw [List.count_cons_self, List.count_cons_of_ne (by decide)] at hc
        rw [sp, sp, if_pos rfl, if_neg (by decide)] at hd
        cases e : sp (k + 1) r with
        | nil =>
          have := sp_len r (k + 1)
          rw [e] at this
          simp at this
          omega
        | cons z q =>
          rw [e] at hd
          have h1 := le_sp _ _ _ _ e
          have hd : (z - k).natAbs + _ = 0 := hd
          omega
      · rw [List.count_cons_of_ne (by decide), List.count_cons_of_ne (by decide)] at hc
        rw [sp, sp, if_neg (by decide), if_neg (by decide)] at hd
        rw [ih t (k + 1) hl' ha' hb' hc hd]
theorem dist_self (a : List Int) : dist a a = 0 := by
  induction a with
  | nil => rfl
  | cons x r ih =>
    show (x - x).natAbs + dist r r = 0
    omega
theorem dist_le (N : Nat) : ∀ A B : List Int, (∀ x ∈ A, ∀ y ∈ B, (x - y).natAbs ≤ N) → dist A B ≤ A.length * N
  | [], _, _ => Nat.zero_le _
  | a :: A, [], _ => Nat.zero_le _
  | a :: A, b :: B, h => by
    have h1 := h a List.mem_cons_self b List.mem_cons_self
    have h2 := dist_le N A B fun x hx y hy => h x (List.mem_cons_of_mem _ hx) y (List.mem_cons_of_mem _ hy)
    show (a - b).natAbs + dist A B ≤ (A.length + 1) * N
    rw [Nat.add_mul]
    omega
theorem sp_in : ∀ (l : List Nat) (k x : Int), x ∈ sp k l → k ≤ x ∧ x < k + l.length
  | [], k, x, h => by cases h
  | y :: r, k, x, h => by
    rw [sp_cons] at h
    have ih : x ∈ sp (k + 1) r → k + 1 ≤ x ∧ x < k + 1 + r.length := sp_in r (k + 1) x
    rw [List.length_cons]
    split at h
    · rcases List.mem_cons.mp h with e | e
      · omega
      · have := ih e
        omega
    · have := ih h
      omega
theorem dist_small {a b : List Nat} (h : a.length = b.length) (hl : a.length ≤ 1000) : dist (sp 0 a) (sp 0 b) ≤ 1000000 := by
  have h1 := dist_le 1000 (sp 0 a) (sp 0 b) fun x hx y hy => by
    have := sp_in a 0 x hx
    have := sp_in b 0 y hy
    omega
  have h2 : (sp 0 a).length ≤ 1000 := by
    rw [sp_len]
    exact Nat.le_trans List.count_le_length hl
  have := Nat.mul_le_mul_right 1000 h2
  omega
end LandM

/-! LandR: the growth of a rim. -/
namespace LandM
structure Q4 where
  p : Int
  q : Int
  r : Int
  s : Int
def Q4.go (m : Q4) (a : Int) : Q4 := ⟨m.p * a + m.q, 0 - m.p, m.r * a + m.s, 0 - m.r⟩
def grow4 (l : List Int) : Q4 := l.foldl Q4.go ⟨1, 0, 0, 1⟩
def Q4.small (k : Nat) (m : Q4) : Prop := m.p.natAbs ≤ 2 ^ k ∧ m.q.natAbs ≤ 2 ^ k ∧ m.r.natAbs ≤ 2 ^ k ∧ m.s.natAbs ≤ 2 ^ k
theorem Q4.small_go {k : Nat} {m : Q4} {a : Int} (h : m.small k) (h0 : 0 ≤ a) (h1 : a < 4000) : (m.go a).small (k + 13) := by
  obtain ⟨a1, a2, a3, a4⟩ := h
  have e : 2 ^ (k + 13) = 8192 * 2 ^ k := by rw [Nat.pow_add, Nat.mul_comm]
  have m1 : (m.p * a).natAbs ≤ 2 ^ k * 4000 := by rw [Int.natAbs_mul]; exact Nat.mul_le_mul a1 (by omega)
  have m2 : (m.r * a).natAbs ≤ 2 ^ k * 4000 := by rw [Int.natAbs_mul]; exact Nat.mul_le_mul a3 (by omega)
  unfold Q4.small Q4.go
  rw [e]
  simp only []
  generalize 2 ^ k = B at *
  refine ⟨?_, ?_, ?_, ?_⟩ <;> omega
/-- what the growth's loop holds behind n numbers -/
theorem grow_inv {l : List Nat} (w : Word l) {s : Nat} (hs : Sign s) {r : List Int} (R : Rim l s r) {j : Nat} {x p q : Int} (hx : r[j]? = some x)
    (f : Int × Int → Int) (hf : f = Prod.fst ∨ f = Prod.snd) {v : Int} (h : p * f (pp l s j) + q * f (pp l s ((j : Int) + 1)) = v) : (p * x + q) * f (pp l s ((j : Int) + 1)) + (0 - p) * f (pp l s ((j : Int) + 2)) = v := by
  obtain ⟨y, y1, _, _, y2, y3⟩ := R.get w hs j
  have hj := (List.getElem?_eq_some_iff.mp hx).1
  rw [Int.emod_eq_of_lt (by omega) (by omega), DL.atI_at (by omega) (by rw [Int.toNat_natCast]; exact hx)] at y1
  cases y1
  rcases hf with rfl | rfl
  · grind
  · grind
theorem grow_at {l : List Nat} (w : Word l) {s : Nat} (hs : Sign s) {r : List Int} (R : Rim l s r) (f : Int × Int → Int) (hf : f = Prod.fst ∨ f = Prod.snd) : ∀ n : Nat, n ≤ r.length →
    (grow4 (r.take n)).p * f (pp l s n) + (grow4 (r.take n)).q * f (pp l s ((n : Int) + 1)) = f (pp l s 0) ∧ (grow4 (r.take n)).r * f (pp l s n) + (grow4 (r.take n)).s * f (pp l s ((n : Int) + 1)) = f (pp l s 1)
  | 0, _ => by
    show (1 : Int) * f (pp l s (0 : Nat)) + 0 * _ = _ ∧ (0 : Int) * _ + 1 * f (pp l s (((0 : Nat) : Int) + 1)) = _
    constructor
    · rw [Int.one_mul, Int.zero_mul, Int.add_zero]; rfl
    · rw [Int.one_mul, Int.zero_mul, Int.zero_add]; rfl
  | n + 1, h => by
    obtain ⟨h1, h2⟩ := grow_at w hs R f hf n (by omega)
    have e := List.getElem?_eq_getElem (show n < r.length by omega)
    have et : grow4 (r.take (n + 1)) = (grow4 (r.take n)).go r[n] := by
      unfold grow4
      rw [List.take_succ, e, List.foldl_append]
      rfl
    rw [et, show ((n + 1 : Nat) : Int) = (n : Int) + 1 by omega, show (n : Int) + 1 + 1 = n + 2 by omega]
    exact ⟨grow_inv w hs R e f hf h1, grow_inv w hs R e f hf h2⟩
theorem pp_shift {l : List Nat} (w : Word l) {s : Nat} (hs : Sign s) (j : Int) :
    (pp l s (j + many l s)).1 = (pp l s j).1 * (M l l.length).a + (pp l s j).2 * (M l l.length).c ∧ (pp l s (j + many l s)).2 = (pp l s j).1 * (M l l.length).b + (pp l s j).2 * (M l l.length).d := by
  obtain ⟨t, ht, _⟩ := tm w hs j
  rw [pp_eq l ht, pp_eq l ((cn_per1 w hs t).trans (by rw [ht])), M_per]
  rcases hs with rfl | rfl
  · exact ⟨rfl, rfl⟩
  · exact ⟨rfl, rfl⟩
theorem cr1 (p q X Y X1 Y1 : Int) : p * (X * Y1 - Y * X1) = (p * X + q * X1) * Y1 - (p * Y + q * Y1) * X1 := by grind
theorem cr2 (r s X Y X1 Y1 : Int) : s * (X * Y1 - Y * X1) = X * (r * Y + s * Y1) - Y * (r * X + s * X1) := by grind
theorem cr3 (x0 y0 x1 y1 a b c d : Int) : (x0 * a + y0 * c) * (x1 * b + y1 * d) - (x0 * b + y0 * d) * (x1 * a + y1 * c) = (a * d - b * c) * (x0 * y1 - y0 * x1) := by grind
theorem cr4 (x0 y0 x1 y1 a b c d : Int) : x0 * (x1 * b + y1 * d) - y0 * (x1 * a + y1 * c) + ((x0 * a + y0 * c) * y1 - (x0 * b + y0 * d) * x1) = (a + d) * (x0 * y1 - y0 * x1) := by grind
theorem trace_eq {p q r s x0 y0 x1 y1 a b c d X Y X1 Y1 : Int} (h1 : p * X + q * X1 = x0) (h2 : p * Y + q * Y1 = y0) (h3 : r * X + s * X1 = x1) (h4 : r * Y + s * Y1 = y1)
    (e1 : X = x0 * a + y0 * c) (e2 : Y = x0 * b + y0 * d) (e3 : X1 = x1 * a + y1 * c) (e4 : Y1 = x1 * b + y1 * d) (hd : a * d - b * c = 1) : (p + s) * (x0 * y1 - y0 * x1) = (a + d) * (x0 * y1 - y0 * x1) := by
  have k1 := cr1 p q X Y X1 Y1
  have k2 := cr2 r s X Y X1 Y1
  have k3 := cr3 x0 y0 x1 y1 a b c d
  have k4 := cr4 x0 y0 x1 y1 a b c d
  rw [hd, Int.one_mul, ← e1, ← e2, ← e3, ← e4] at k3
  rw [← e1, ← e2, ← e3, ← e4] at k4
  rw [h1, h2, k3] at k1
  rw [h3, h4, k3] at k2
  rw [Int.add_mul, k1, k2, ← k4]
theorem det01 {l : List Nat} (w : Word l) {s : Nat} (hs : Sign s) : (pp l s 0).1 * (pp l s 1).2 - (pp l s 0).2 * (pp l s 1).1 = 1 ∨ (pp l s 0).1 * (pp l s 1).2 - (pp l s 0).2 * (pp l s 1).1 = -1 := by
  rcases hs with rfl | rfl
  · exact .inl (det_next w 0)
  · refine .inr ?_
    obtain ⟨t, h1, h2, _⟩ := tm w (.inr rfl) 0
    have hc : cn l 105 (t + 1) = 1 := by rw [cn_succ w (.inr rfl), if_pos h2, h1]; rfl
    rw [pp_eq l h1, pp_eq l hc, M_succ, show io l t = 0 from if_neg (by rw [h2]; decide)]
    have := det_M l t
    simp only [det, Mt.pr, Mt.P, Mt.Q, step, if_false, show ¬ (105 : Nat) = 111 by decide, show ¬ (0 : Int) = 1 by decide] at this ⊢
    grind
/-- the growth of a rim is that of the land -/
theorem grow_trace {l : List Nat} (w : Word l) {s : Nat} (hs : Sign s) {r : List Int} (R : Rim l s r) : (grow4 r).p + (grow4 r).s = (M l l.length).a + (M l l.length).d := by
  have h1 := grow_at w hs R Prod.fst (.inl rfl) r.length (Nat.le_refl _)
  have h2 := grow_at w hs R Prod.snd (.inr rfl) r.length (Nat.le_refl _)
  rw [List.take_length, R.len] at h1 h2
  have s0 := pp_shift w hs 0
  have s1 := pp_shift w hs 1
  rw [Int.zero_add] at s0
  rw [Int.add_comm] at s1
  have hd := det_M l l.length
  have ht := trace_eq h1.1 h2.1 h1.2 h2.2 s0.1 s0.2 s1.1 s1.2 hd
  rcases det01 w hs with e | e <;> rw [e] at ht <;> omega
end LandM

/-! LandS: a land flipped. -/
namespace LandM
/-- two lands that differ by two neighbours -/
structure Flip (l l' : List Nat) (a : Nat) (c d : Nat) : Prop where
  len : l'.length = l.length
  inl : a + 1 < l.length
  atc : l[a]? = some c
  atd : l[a + 1]? = some d
  atc' : l'[a]? = some d
  atd' : l'[a + 1]? = some c
  same : ∀ k, k ≠ a → k ≠ a + 1 → l'[k]? = l[k]?
theorem Flip.symm {l l' : List Nat} {a c d : Nat} (f : Flip l l' a c d) : Flip l' l a d c :=
  ⟨f.len.symm, by rw [f.len]; exact f.inl, f.atc', f.atd', f.atc, f.atd, fun k h1 h2 => (f.same k h1 h2).symm⟩
theorem sg_get {l : List Nat} {k : Nat} {c : Nat} (h : l[k]? = some c) : sg l (k : Int) = c := by
  obtain ⟨h1, h2⟩ := List.getElem?_eq_some_iff.mp h
  rw [sg_nat h1, h2]
theorem Flip.sgc {l l' : List Nat} {a c d : Nat} (f : Flip l l' a c d) : sg l a = c := sg_get f.atc
theorem Flip.sgd {l l' : List Nat} {a c d : Nat} (f : Flip l l' a c d) : sg l ((a : Int) + 1) = d := sg_get (k := a + 1) f.atd
theorem sg_def (l : List Nat) (t : Int) : sg l t = l.getD (t % (l.length : Int)).toNat 0 := rfl
theorem Flip.sg {l l' : List Nat} {a c d : Nat} (f : Flip l l' a c d) (t : Int) (h1 : t % l.length ≠ a) (h2 : t % l.length ≠ (a : Int) + 1) : sg l' t = sg l t := by
  have hl := f.len
  have hi := f.inl
  rw [sg_def, sg_def, hl, List.getD_eq_getElem?_getD, List.getD_eq_getElem?_getD]
  have m1 : 0 ≤ t % (l.length : Int) := Int.emod_nonneg _ (by omega)
  rw [f.same _ (by omega) (by omega)]
theorem Flip.many_nat {l l' : List Nat} {a c d : Nat} (f : Flip l l' a c d) (w : Word l) (w' : Word l') {s : Nat} (hs : Sign s) : ∀ k : Nat, k ≤ l.length → cn l' s k = cn l s k + (if k = a + 1 then (if d = s then 1 else 0) - (if c = s then 1 else 0) else 0)
  | 0, _ => by rw [show ((0 : Nat) : Int) = 0 from rfl, cn_zero, cn_zero, if_neg (by omega)]; rfl
  | k + 1, hk => by
    have ih := f.many_nat w w' hs k (by omega)
    rw [show ((k + 1 : Nat) : Int) = (k : Int) + 1 by omega, cn_succ w hs, cn_succ w' hs, ih]
    by_cases h1 : k = a
    · subst h1
      have e1 := f.sgc
      have e2 := f.symm.sgc
      rw [e1, e2, if_neg (by omega), if_pos rfl]
      omega
    · by_cases h2 : k = a + 1
      · subst h2
        have e1 := f.sgd
        have e2 := f.symm.sgd
        rw [show ((a + 1 : Nat) : Int) = (a : Int) + 1 by omega, e1, e2, if_pos rfl, if_neg (show ¬ (a + 1 + 1 = a + 1) by omega)]
        omega
      · have e := f.sg k (by rw [Int.emod_eq_of_lt (by omega) (by omega)]; omega) (by rw [Int.emod_eq_of_lt (by omega) (by omega)]; omega)
        rw [e, if_neg h2, if_neg (show ¬ (k + 1 = a + 1) by omega)]
        omega
theorem Flip.many {l l' : List Nat} {a c d : Nat} (f : Flip l l' a c d) (w : Word l) (w' : Word l') {s : Nat} (hs : Sign s) : many l' s = many l s := by
  have h := f.many_nat w w' hs l.length (Nat.le_refl _)
  have hi := f.inl
  rw [if_neg (by omega)] at h
  unfold LandM.many
  rw [f.len, h]
  omega
theorem Flip.cn {l l' : List Nat} {a c d : Nat} (f : Flip l l' a c d) (w : Word l) (w' : Word l') {s : Nat} (hs : Sign s) (t : Int) : cn l' s t = cn l s t + (if t % l.length = (a : Int) + 1 then (if d = s then 1 else 0) - (if c = s then 1 else 0) else 0) := by
  have hi := f.inl
  have m1 : 0 ≤ t % (l.length : Int) := Int.emod_nonneg _ (by omega)
  have m2 : t % (l.length : Int) < l.length := Int.emod_lt_of_pos _ (by omega)
  have hd := Int.emod_add_mul_ediv t l.length
  have h := f.many_nat w w' hs (t % (l.length : Int)).toNat (by omega)
  have p1 := cn_per w hs (t % (l.length : Int)) (t / (l.length : Int))
  have p2 := cn_per w' hs (t % (l.length : Int)) (t / (l.length : Int))
  rw [f.len, f.many w w' hs] at p2
  rw [show t % (l.length : Int) + t / (l.length : Int) * l.length = t by rw [Int.mul_comm (t / (l.length : Int))]; exact hd] at p1 p2
  rw [show (((t % (l.length : Int)).toNat : Nat) : Int) = t % (l.length : Int) by omega] at h
  rw [p1, p2, h]
  by_cases e : t % (l.length : Int) = (a : Int) + 1
  · rw [if_pos e, if_pos (by omega)]
    omega
  · rw [if_neg e, if_neg (by omega)]
    omega
/-- the place of a sign of a rim -/
theorem Rim.val {l : List Nat} (w : Word l) {s : Nat} (hs : Sign s) {r : List Int} (R : Rim l s r) {k : Nat} {t u : Int} (hk : k < r.length) (t1 : LandM.cn l s t = k) (t2 : LandM.sg l t = s) (u1 : LandM.cn l s u = k + 1) (u2 : LandM.sg l u = s) : r.getD k 0 = 1 + u - t := by
  obtain ⟨t', m, c1, c2, c3, c4, c5⟩ := R.at_ k _ (List.getElem?_eq_getElem hk)
  have e := at_one w hs (c1.trans t1.symm) c2 t2
  subst e
  have hr := rec_at w hs c2 c4 c5
  have h3 : LandM.cn l s (t' + 1 + m) = k + 1 := by
    have := hr.2.1
    rw [cn_succ w hs, if_pos c5, c1] at this
    omega
  have e := at_one w hs (h3.trans u1.symm) c5 u2
  rw [List.getD_eq_getElem?_getD, List.getElem?_eq_getElem hk]
  show r[k] = _
  rw [c3]
  omega
/-- where a sign goes when the land is flipped -/
theorem Flip.place {l l' : List Nat} {a c d : Nat} (f : Flip l l' a c d) (w : Word l) (w' : Word l') {s : Nat} (hs : Sign s) (hcd : c ≠ d) {t : Int} (h : LandM.sg l t = s) :
    ∃ t', LandM.cn l' s t' = LandM.cn l s t ∧ LandM.sg l' t' = s ∧ t' = t + (if (LandM.cn l s t - LandM.cn l s a) % (LandM.many l s) = 0 then (if c = s then 1 else -1) else 0) := by
  have hi := f.inl
  have hmp := many_pos w hs
  have m1 : 0 ≤ t % (l.length : Int) := Int.emod_nonneg _ (by omega)
  have m2 : t % (l.length : Int) < l.length := Int.emod_lt_of_pos _ (by omega)
  have hd := Int.emod_add_mul_ediv t l.length
  have htq : t = t % (l.length : Int) + t / (l.length : Int) * l.length := by rw [Int.mul_comm (t / (l.length : Int))]; exact hd.symm
  have hsgm := sg_mod l t
  have hcs : c = s ∨ d = s := by
    have h1 := w.all c (List.mem_of_getElem? f.atc)
    have h2 := w.all d (List.mem_of_getElem? f.atd)
    rcases hs with rfl | rfl <;> omega
  by_cases e1 : t % (l.length : Int) = a
  · have hc : c = s := by rw [e1, f.sgc] at hsgm; rw [hsgm]; exact h
    have hds : d ≠ s := fun e => hcd (hc.trans e.symm)
    refine ⟨t + 1, ?_, ?_, ?_⟩
    · rw [htq, e1, show (a : Int) + t / (l.length : Int) * l.length + 1 = (a : Int) + 1 + t / (l.length : Int) * l.length by omega, cn_per w hs, ← f.len, cn_per w' hs, f.many w w' hs, cn_succ w' hs, f.symm.sgc, if_neg hds, f.cn w w' hs, if_neg (by rw [Int.emod_eq_of_lt (by omega) (by omega)]; omega)]
      omega
    · rw [htq, e1, show (a : Int) + t / (l.length : Int) * l.length + 1 = (a : Int) + 1 + t / (l.length : Int) * l.length by omega, ← f.len, sg_per, f.symm.sgd]
      exact hc
    · have hk : LandM.cn l s t = LandM.cn l s a + t / (l.length : Int) * LandM.many l s := by
        conv => lhs; rw [htq, e1]
        exact cn_per w hs _ _
      rw [if_pos (by rw [hk, show LandM.cn l s a + t / (l.length : Int) * LandM.many l s - LandM.cn l s a = t / (l.length : Int) * LandM.many l s by omega]; exact Int.mul_emod_left _ _), if_pos hc]
  · by_cases e2 : t % (l.length : Int) = (a : Int) + 1
    · have hds : d = s := by rw [e2, f.sgd] at hsgm; rw [hsgm]; exact h
      have hc : c ≠ s := fun e => hcd (e.trans hds.symm)
      refine ⟨t - 1, ?_, ?_, ?_⟩
      · rw [htq, e2, show (a : Int) + 1 + t / (l.length : Int) * l.length - 1 = (a : Int) + t / (l.length : Int) * l.length by omega, cn_per w hs, ← f.len, cn_per w' hs, f.many w w' hs, cn_succ w hs, f.sgc, if_neg hc, f.cn w w' hs, if_neg (by rw [Int.emod_eq_of_lt (by omega) (by omega)]; omega)]
      · rw [htq, e2, show (a : Int) + 1 + t / (l.length : Int) * l.length - 1 = (a : Int) + t / (l.length : Int) * l.length by omega, ← f.len, sg_per, f.symm.sgc]
        exact hds
      · have hk : LandM.cn l s t = LandM.cn l s a + t / (l.length : Int) * LandM.many l s := by
          conv => lhs; rw [htq, e2]
          rw [cn_per w hs, cn_succ w hs, f.sgc, if_neg hc]
          omega
        rw [if_pos (by rw [hk, show LandM.cn l s a + t / (l.length : Int) * LandM.many l s - LandM.cn l s a = t / (l.length : Int) * LandM.many l s by omega]; exact Int.mul_emod_left _ _), if_neg hc]
        omega
    · refine ⟨t, ?_, ?_, ?_⟩
      · rw [f.cn w w' hs, if_neg e2]
        omega
      · rw [f.sg t e1 e2]
        exact h
      · rw [if_neg ?_]
        · omega
        · intro hz
          obtain ⟨q, hq⟩ := Int.dvd_of_emod_eq_zero hz
          -- the place of the sign that is moved
          obtain ⟨b, hb1, hb2, hb3⟩ : ∃ b : Int, (b = a ∨ b = (a : Int) + 1) ∧ LandM.cn l s b = LandM.cn l s a ∧ LandM.sg l b = s := by
            rcases hcs with e | e
            · exact ⟨a, .inl rfl, rfl, by rw [f.sgc]; exact e⟩
            · exact ⟨(a : Int) + 1, .inr rfl, by rw [cn_succ w hs, f.sgc, if_neg (fun z => hcd (z.trans e.symm))]; omega, by rw [f.sgd]; exact e⟩
          have hk : LandM.cn l s (b + q * l.length) = LandM.cn l s t := by
            rw [cn_per w hs, hb2, Int.mul_comm]
            omega
          have hu := at_one w hs hk (by rw [sg_per]; exact hb3) h
          have hm : t % (l.length : Int) = b := by
            rw [← hu, Int.add_mul_emod_self_right]
            exact Int.emod_eq_of_lt (by omega) (by omega)
          rcases hb1 with e | e <;> omega
def bump (r : List Int) (i : Nat) (a : Int) : List Int := r.set i (r.getD i 0 + a)
theorem bump_len (r : List Int) (i : Nat) (a : Int) : (bump r i a).length = r.length := by
  unfold bump
  rw [List.length_set]
theorem bump_get (r : List Int) (i : Nat) (a : Int) (k : Nat) (hk : k < r.length) : (bump r i a).getD k 0 = r.getD k 0 + (if k = i then a else 0) := by
  unfold bump
  rw [List.getD_eq_getElem?_getD, List.getD_eq_getElem?_getD, List.getD_eq_getElem?_getD, List.getElem?_set]
  by_cases h : i = k
  · subst h
    rw [if_pos rfl, if_pos hk, if_pos rfl]
    rfl
  · rw [if_neg h, if_neg (fun e => h e.symm)]
    omega
theorem rim_len {l : List Nat} (w : Word l) {s : Nat} (hs : Sign s) : ((rim l s).length : Int) = many l s := (Rim.of w hs).len
theorem mod_eq {p k i : Int} (hp : 0 < p) (h0 : 0 ≤ k) (h1 : k < p) : (k - i) % p = 0 ↔ k = i % p := by
  constructor
  · intro h
    have h2 : k % p = i % p := Int.emod_eq_emod_iff_emod_sub_eq_zero.mpr h
    rw [← h2, Int.emod_eq_of_lt h0 h1]
  · intro h
    exact Int.emod_eq_emod_iff_emod_sub_eq_zero.mp (by rw [Int.emod_eq_of_lt h0 h1]; exact h)
/-- the rims of a flipped land -/
theorem Flip.rim {l l' : List Nat} {a c d : Nat} (f : Flip l l' a c d) (w : Word l) (w' : Word l') {s : Nat} (hs : Sign s) (hcd : c ≠ d) {x y : Int}
    (hx : (c = s → x = LandM.cn l s a + 1 ∧ y = LandM.cn l s a) ∧ (c ≠ s → x = LandM.cn l s a ∧ y = LandM.cn l s a + 1)) :
    LandM.rim l' s = bump (bump (LandM.rim l s) ((x - 1) % ((LandM.rim l s).length : Int)).toNat (-1)) ((y - 1) % ((LandM.rim l s).length : Int)).toNat 1 := by
  have hmp := many_pos w hs
  have rl := rim_len w hs
  have rl' := rim_len w' hs
  rw [f.many w w' hs] at rl'
  have hl : (LandM.rim l' s).length = (LandM.rim l s).length := by omega
  refine List.ext_getElem (by rw [bump_len, bump_len]; exact hl) fun k h1 h2 => ?_
  have hk : k < (LandM.rim l s).length := by omega
  obtain ⟨t, t1, t2, _⟩ := tm w hs (k : Int)
  obtain ⟨u, u1, u2, _⟩ := tm w hs ((k : Int) + 1)
  obtain ⟨t', t1', t2', et⟩ := f.place w w' hs hcd t2
  obtain ⟨u', u1', u2', eu⟩ := f.place w w' hs hcd u2
  have v := Rim.val w hs (Rim.of w hs) hk t1 t2 u1 u2
  have v' := Rim.val w' hs (Rim.of w' hs) h1 (t1'.trans t1) t2' (u1'.trans u1) u2'
  have b2 := bump_get (bump (LandM.rim l s) ((x - 1) % ((LandM.rim l s).length : Int)).toNat (-1)) ((y - 1) % ((LandM.rim l s).length : Int)).toNat 1 k (by rw [bump_len]; exact hk)
  rw [bump_get _ _ _ _ hk, v] at b2
  rw [t1] at et
  rw [u1] at eu
  rw [List.getD_eq_getElem?_getD, List.getElem?_eq_getElem h1] at v'
  rw [List.getD_eq_getElem?_getD, List.getElem?_eq_getElem h2] at b2
  show (some (LandM.rim l' s)[k]).getD 0 = (some _).getD 0
  rw [v', b2]
  rw [rl]
  have q1 := mod_eq (i := LandM.cn l s a) (k := (k : Int)) hmp (by omega) (by omega)
  have q2 := mod_eq (i := LandM.cn l s a - 1) (k := (k : Int)) hmp (by omega) (by omega)
  rw [show (k : Int) - (LandM.cn l s a - 1) = (k : Int) + 1 - LandM.cn l s a by omega] at q2
  have n1 : 0 ≤ LandM.cn l s a % LandM.many l s := Int.emod_nonneg _ (by omega)
  have n2 : 0 ≤ (LandM.cn l s a - 1) % LandM.many l s := Int.emod_nonneg _ (by omega)
  by_cases hc : c = s
  · obtain ⟨rfl, rfl⟩ := hx.1 hc
    rw [if_pos hc] at et eu
    rw [show LandM.cn l s a + 1 - 1 = LandM.cn l s a by omega]
    generalize LandM.cn l s a % LandM.many l s = A at *
    generalize (LandM.cn l s a - 1) % LandM.many l s = B at *
    by_cases z1 : (k : Int) = A <;> by_cases z2 : (k : Int) = B
    all_goals
      first | rw [if_pos (q1.mpr z1)] at et | rw [if_neg (fun z => z1 (q1.mp z))] at et
      first | rw [if_pos (q2.mpr z2)] at eu | rw [if_neg (fun z => z2 (q2.mp z))] at eu
      first | rw [if_pos (show k = A.toNat by omega)] | rw [if_neg (show ¬ k = A.toNat by omega)]
      first | rw [if_pos (show k = B.toNat by omega)] | rw [if_neg (show ¬ k = B.toNat by omega)]
      omega
  · obtain ⟨rfl, rfl⟩ := hx.2 hc
    rw [if_neg hc] at et eu
    rw [show LandM.cn l s a + 1 - 1 = LandM.cn l s a by omega]
    generalize LandM.cn l s a % LandM.many l s = A at *
    generalize (LandM.cn l s a - 1) % LandM.many l s = B at *
    by_cases z1 : (k : Int) = A <;> by_cases z2 : (k : Int) = B
    all_goals
      first | rw [if_pos (q1.mpr z1)] at et | rw [if_neg (fun z => z1 (q1.mp z))] at et
      first | rw [if_pos (q2.mpr z2)] at eu | rw [if_neg (fun z => z2 (q2.mp z))] at eu
      first | rw [if_pos (show k = B.toNat by omega)] | rw [if_neg (show ¬ k = B.toNat by omega)]
      first | rw [if_pos (show k = A.toNat by omega)] | rw [if_neg (show ¬ k = A.toNat by omega)]
      omega
/-- the numbers of the cord that goes and of the one that comes -/
theorem Flip.nums {l l' : List Nat} {a c d : Nat} (f : Flip l l' a c d) (w : Word l) (hcd : c ≠ d) :
    (c = 111 → det (pp l 111 (out l a + 1)) (pp l 105 (inn l a)) = 1 ∧ det (pp l 111 (out l a)) (pp l 105 (inn l a + 1)) = 2) ∧
    (c ≠ 111 → det (pp l 111 (out l a)) (pp l 105 (inn l a + 1)) = 1 ∧ det (pp l 111 (out l a + 1)) (pp l 105 (inn l a)) = 2) := by
  have hc := w.all c (List.mem_of_getElem? f.atc)
  have hd := w.all d (List.mem_of_getElem? f.atd)
  have i0 := io01 l a
  have hD := det_M l a
  have o1 := out_succ l a
  have n1 := inn_succ l a
  have o2 := out_succ l ((a : Int) + 1)
  have n2 := inn_succ l ((a : Int) + 1)
  have m1 := M_succ l a
  have m2 := M_succ l ((a : Int) + 1)
  have pe : ∀ t : Int, pp l 111 (out l t) = (M l t).P := fun t => pp_eq l (s := 111) (t := t) rfl
  have qe : ∀ t : Int, pp l 105 (inn l t) = (M l t).Q := fun t => pp_eq l (s := 105) (t := t) rfl
  have p0 := pe a
  have q0 := qe a
  have p1 := pe ((a : Int) + 1 + 1)
  have q1 := qe ((a : Int) + 1 + 1)
  constructor
  · intro hc1
    have hd1 : d = 105 := by omega
    have z1 : io l a = 1 := if_pos (by rw [f.sgc]; exact hc1)
    have z2 : io l ((a : Int) + 1) = 0 := if_neg (by rw [f.sgd, hd1]; decide)
    rw [z1] at o1 n1 m1
    rw [z2] at o2 n2 m2
    rw [show out l ((a : Int) + 1 + 1) = out l a + 1 by omega] at p1
    rw [show inn l ((a : Int) + 1 + 1) = inn l a + 1 by omega] at q1
    rw [p0, q0, p1, q1, m2, m1]
    simp only [det, Mt.P, Mt.Q, step, if_true, if_false, show ¬ (0 : Int) = 1 by decide] at hD ⊢
    constructor <;> grind
  · intro hc1
    have hd1 : d = 111 := by omega
    have z1 : io l a = 0 := if_neg (by rw [f.sgc]; exact hc1)
    have z2 : io l ((a : Int) + 1) = 1 := if_pos (by rw [f.sgd, hd1])
    rw [z1] at o1 n1 m1
    rw [z2] at o2 n2 m2
    rw [show out l ((a : Int) + 1 + 1) = out l a + 1 by omega] at p1
    rw [show inn l ((a : Int) + 1 + 1) = inn l a + 1 by omega] at q1
    rw [p0, q0, p1, q1, m2, m1]
    simp only [det, Mt.P, Mt.Q, step, if_true, if_false, show ¬ (0 : Int) = 1 by decide] at hD ⊢
    constructor <;> grind
theorem flip_of {l : List Nat} {a : Nat} (h : a + 1 < l.length) : Flip l (l.take a ++ [l.getD (a + 1) 0] ++ [l.getD a 0] ++ l.drop (a + 2)) a (l.getD a 0) (l.getD (a + 1) 0) := by
  have g : ∀ k, k < l.length → l[k]? = some (l.getD k 0) := fun k hk => by
    rw [List.getD_eq_getElem?_getD, List.getElem?_eq_getElem hk]
    rfl
  have tl : (l.take a).length = a := by rw [List.length_take]; omega
  refine ⟨?_, h, g a (by omega), g _ h, ?_, ?_, ?_⟩
  · simp only [List.length_append, List.length_take, List.length_drop, List.length_cons, List.length_nil]
    omega
  · rw [List.append_assoc, List.append_assoc, List.getElem?_append_right (by omega), tl, Nat.sub_self]
    rfl
  · rw [List.append_assoc, List.append_assoc, List.getElem?_append_right (by omega), tl, show a + 1 - a = 1 by omega]
    rfl
  · intro k h1 h2
    rw [List.append_assoc, List.append_assoc]
    by_cases hk : k < a
    · rw [List.getElem?_append_left (by omega), List.getElem?_take, if_pos hk]
    · rw [List.getElem?_append_right (by omega), tl, List.getElem?_append_right (by rw [List.length_cons, List.length_nil]; omega), List.getElem?_append_right (by rw [List.length_cons, List.length_nil, List.length_cons, List.length_nil]; omega), List.getElem?_drop]
      congr 1
      simp only [List.length_cons, List.length_nil]
      omega
theorem Flip.word {l l' : List Nat} {a c d : Nat} (f : Flip l l' a c d) (w : Word l) : Word l' := by
  have mem : ∀ x, x ∈ l' ↔ x ∈ l := by
    have one : ∀ {l l' : List Nat} {a c d : Nat}, Flip l l' a c d → ∀ x, x ∈ l' → x ∈ l := by
      intro l l' a c d f x hx
      obtain ⟨k, hk⟩ := List.getElem?_of_mem hx
      by_cases h1 : k = a
      · rw [h1, f.atc'] at hk
        cases hk
        exact List.mem_of_getElem? f.atd
      · by_cases h2 : k = a + 1
        · rw [h2, f.atd'] at hk
          cases hk
          exact List.mem_of_getElem? f.atc
        · rw [f.same k h1 h2] at hk
          exact List.mem_of_getElem? hk
    exact fun x => ⟨one f x, one f.symm x⟩
  exact ⟨fun x hx => w.all x ((mem x).mp hx), (mem _).mpr w.o, (mem _).mpr w.i⟩
/-- all that the law asks of a flip -/
structure Flipped (l l' : List Nat) (a : Nat) (x1 y1 x2 y2 : Int) : Prop where
  old : out l ((a : Int) + 1) = x1 ∧ inn l ((a : Int) + 1) = y1
  new : out l' ((a : Int) + 1) = x2 ∧ inn l' ((a : Int) + 1) = y2
  same : out l' a = out l a ∧ inn l' a = inn l a
  same2 : out l' ((a : Int) + 2) = out l ((a : Int) + 2) ∧ inn l' ((a : Int) + 2) = inn l ((a : Int) + 2)
  n1 : det (pp l 111 x1) (pp l 105 y1) = 1
  n2 : det (pp l 111 x2) (pp l 105 y2) = 2
  n3 : det (pp l' 111 x2) (pp l' 105 y2) = 1
  n4 : det (pp l' 111 x1) (pp l' 105 y1) = 2
  ro : LandM.rim l' 111 = bump (bump (LandM.rim l 111) ((x1 - 1) % ((LandM.rim l 111).length : Int)).toNat (-1)) ((x2 - 1) % ((LandM.rim l 111).length : Int)).toNat 1
  ri : LandM.rim l' 105 = bump (bump (LandM.rim l 105) ((y1 - 1) % ((LandM.rim l 105).length : Int)).toNat (-1)) ((y2 - 1) % ((LandM.rim l 105).length : Int)).toNat 1
theorem Flip.all {l l' : List Nat} {a c d : Nat} (f : Flip l l' a c d) (w : Word l) (hcd : c ≠ d) {x1 y1 x2 y2 : Int}
    (h : (c = 111 → x1 = out l a + 1 ∧ y1 = inn l a ∧ x2 = out l a ∧ y2 = inn l a + 1) ∧ (c ≠ 111 → x1 = out l a ∧ y1 = inn l a + 1 ∧ x2 = out l a + 1 ∧ y2 = inn l a)) : Flipped l l' a x1 y1 x2 y2 := by
  have w' := f.word w
  have hc := w.all c (List.mem_of_getElem? f.atc)
  have hd := w.all d (List.mem_of_getElem? f.atd)
  have hi := f.inl
  have oo : ∀ t : Int, LandM.cn l 111 t = out l t := fun t => rfl
  have ii : ∀ t : Int, LandM.cn l 105 t = inn l t := fun t => rfl
  have oo' : ∀ t : Int, LandM.cn l' 111 t = out l' t := fun t => rfl
  have ii' : ∀ t : Int, LandM.cn l' 105 t = inn l' t := fun t => rfl
  have a1 := f.cn w w' (.inl rfl) (s := 111) (a : Int)
  have a2 := f.cn w w' (.inr rfl) (s := 105) (a : Int)
  have b1 := f.cn w w' (.inl rfl) (s := 111) ((a : Int) + 1)
  have b2 := f.cn w w' (.inr rfl) (s := 105) ((a : Int) + 1)
  have c1 := f.cn w w' (.inl rfl) (s := 111) ((a : Int) + 2)
  have c2 := f.cn w w' (.inr rfl) (s := 105) ((a : Int) + 2)
  rw [Int.emod_eq_of_lt (by omega) (by omega)] at a1 a2 b1 b2
  have hC : ¬ ((a : Int) + 2) % (l.length : Int) = (a : Int) + 1 := by
    by_cases e : a + 2 = l.length
    · rw [show (a : Int) + 2 = (l.length : Int) by omega, Int.emod_self]
      omega
    · rw [Int.emod_eq_of_lt (by omega) (by omega)]
      omega
  rw [if_neg (by omega)] at a1 a2
  rw [if_pos rfl] at b1 b2
  rw [if_neg hC] at c1 c2
  have s1 := cn_succ w (.inl rfl) (s := 111) (a : Int)
  have s2 := cn_succ w (.inr rfl) (s := 105) (a : Int)
  rw [f.sgc] at s1 s2
  have nA := f.nums w hcd
  have nB := f.symm.nums w' (fun e => hcd e.symm)
  rw [Int.add_zero] at a1 a2 c1 c2
  rw [oo, oo'] at a1 b1 c1
  rw [ii, ii'] at a2 b2 c2
  rw [oo, oo] at s1
  rw [ii, ii] at s2
  rw [a1, a2] at nB
  by_cases e : c = 111
  · obtain ⟨rfl, rfl, rfl, rfl⟩ := h.1 e
    have e1 : d = 105 := by omega
    subst e e1
    simp only [if_true, if_false, show ¬ (105 : Nat) = 111 by decide, show ¬ (111 : Nat) = 105 by decide] at s1 s2 b1 b2
    obtain ⟨k1, k2⟩ := nA.1 rfl
    obtain ⟨k3, k4⟩ := nB.2 (by decide)
    exact ⟨⟨by omega, by omega⟩, ⟨by omega, by omega⟩, ⟨a1, a2⟩, ⟨c1, c2⟩, k1, k2, k3, k4,
      f.rim w w' (.inl rfl) hcd ⟨fun _ => ⟨rfl, rfl⟩, fun z => absurd rfl z⟩, f.rim w w' (.inr rfl) hcd ⟨fun z => absurd z (by decide), fun _ => ⟨rfl, rfl⟩⟩⟩
  · obtain ⟨rfl, rfl, rfl, rfl⟩ := h.2 e
    have e0 : c = 105 := by omega
    have e1 : d = 111 := by omega
    subst e0 e1
    simp only [if_true, if_false, show ¬ (105 : Nat) = 111 by decide, show ¬ (111 : Nat) = 105 by decide] at s1 s2 b1 b2
    obtain ⟨k1, k2⟩ := nA.2 (by decide)
    obtain ⟨k3, k4⟩ := nB.1 rfl
    exact ⟨⟨by omega, by omega⟩, ⟨by omega, by omega⟩, ⟨a1, a2⟩, ⟨c1, c2⟩, k1, k2, k3, k4,
      f.rim w w' (.inl rfl) hcd ⟨fun z => absurd z (by decide), fun _ => ⟨rfl, rfl⟩⟩, f.rim w w' (.inr rfl) hcd ⟨fun _ => ⟨rfl, rfl⟩, fun z => absurd rfl z⟩⟩
end LandM

/-! LandT: turnings. -/
namespace LandM
theorem turn_sg {l : List Nat} {p : Nat} (h : p ≤ l.length) (h0 : 0 < l.length) (t : Int) : sg (turn l p) t = sg l ((p : Int) + t) := by
  have m1 : 0 ≤ t % (l.length : Int) := Int.emod_nonneg _ (by omega)
  have m2 : t % (l.length : Int) < l.length := Int.emod_lt_of_pos _ (by omega)
  have hd := Int.emod_add_mul_ediv t l.length
  have hg := turn_get h (i := (t % (l.length : Int)).toNat) (by omega)
  rw [sg_def, turn_len l h, List.getD_eq_getElem?_getD, hg]
  show sg l _ = _
  rw [show (p : Int) + t = (p : Int) + ((t % (l.length : Int)).toNat : Nat) + t / (l.length : Int) * l.length by rw [Int.mul_comm (t / (l.length : Int))]; omega, sg_per]
theorem turn_turn {l : List Nat} {k j : Nat} (hk : k ≤ l.length) (hj : j ≤ l.length) (h0 : 0 < l.length) : turn (turn l k) j = turn l ((k + j) % l.length) := by
  have hm : (k + j) % l.length < l.length := Nat.mod_lt _ h0
  have l1 := turn_len l hk
  have l2 := turn_len (turn l k) (p := j) (by omega)
  have l3 := turn_len l (p := (k + j) % l.length) (by omega)
  refine List.ext_getElem? fun i => ?_
  by_cases hi : i < l.length
  · rw [turn_get (by omega) (by omega), turn_get (by omega) hi, turn_sg hk h0]
    congr 1
    have hd := Nat.mod_add_div (k + j) l.length
    have : ((k : Int) + ((j : Int) + i)) = (((k + j) % l.length : Nat) : Int) + i + (((k + j) / l.length : Nat) : Int) * l.length := by
      have e : ((((k + j) % l.length + l.length * ((k + j) / l.length) : Nat)) : Int) = ((k + j : Nat) : Int) := by rw [hd]
      rw [Int.natCast_add, Int.natCast_mul, Int.mul_comm] at e
      omega
    rw [this, sg_per]
  · rw [List.getElem?_eq_none (by omega), List.getElem?_eq_none (by omega)]
theorem turn_zero (l : List Nat) : turn l 0 = l := by unfold turn; simp
theorem turn_perm (l : List Nat) (k : Nat) : (turn l k).Perm l := by
  unfold turn
  refine List.perm_append_comm.trans ?_
  rw [List.take_append_drop]
def isTurn (a b : List Nat) : Prop := ∃ k, k < b.length ∧ turn b k = a
noncomputable instance (a b : List Nat) : Decidable (isTurn a b) := Classical.propDecidable _
theorem isTurn.len {a b : List Nat} (h : isTurn a b) : a.length = b.length := by
  obtain ⟨k, hk, rfl⟩ := h
  exact turn_len b (by omega)
theorem isTurn.refl {a : List Nat} (h : 0 < a.length) : isTurn a a := ⟨0, h, turn_zero a⟩
theorem isTurn.trans {a b c : List Nat} (h : isTurn a b) (h' : isTurn b c) : isTurn a c := by
  obtain ⟨k, hk, rfl⟩ := h
  have hl := h'.len
  obtain ⟨j, hj, rfl⟩ := h'
  have h0 : 0 < c.length := by omega
  exact ⟨(j + k) % c.length, Nat.mod_lt _ h0, (turn_turn (by omega) (by omega) h0).symm⟩
theorem isTurn.symm {a b : List Nat} (h : isTurn a b) : isTurn b a := by
  have hl := h.len
  obtain ⟨k, hk, rfl⟩ := h
  have h0 : 0 < b.length := by omega
  by_cases e : k = 0
  · subst e
    rw [turn_zero]
    exact .refl h0
  · refine ⟨b.length - k, by omega, ?_⟩
    rw [turn_turn (by omega) (by omega) h0, show k + (b.length - k) = b.length by omega, Nat.mod_self, turn_zero]
/-- a least one of all turnings -/
def Least (l m : List Nat) : Prop := isTurn m l ∧ ∀ x, isTurn x l → ¬ x < m
theorem Least.same {a b m n : List Nat} (h0 : 0 < a.length) (h : Least a m) (h' : Least b n) : m = n ↔ isTurn a b := by
  constructor
  · rintro rfl
    exact h.1.symm.trans h'.1
  · intro e
    have h1 : ¬ m < n := h'.2 m (h.1.trans e)
    have h2 : ¬ n < m := h.2 n (h'.1.trans e.symm)
    exact List.le_antisymm h2 h1
end LandM

/-! LandU: lands of rings; rims of turned and of exchanged lands; growths. -/
namespace LandM
open DL
/-- the land of a ring -/
def landOf (r : List Int) : List Nat := (r.map fun x => 111 :: List.replicate (x - 2).toNat 105).flatten
theorem split_land : ∀ b : List Nat, (∀ x ∈ b, x = 111 ∨ x = 105) → ((splitC 111 b).map fun q => 111 :: List.replicate q.length 105).flatten = 111 :: b
  | [], _ => rfl
  | x :: r, h => by
    have ih := split_land r fun y hy => h y (List.mem_cons_of_mem _ hy)
    unfold splitC
    rcases h x List.mem_cons_self with rfl | rfl
    · rw [if_pos rfl, List.map_cons, List.flatten_cons, ih]
      rfl
    · rw [if_neg (by decide)]
      cases e : splitC 111 r with
      | nil => rw [e] at ih; cases ih
      | cons p ps =>
        rw [e, List.map_cons, List.flatten_cons] at ih
        show (List.map _ ((105 :: p) :: ps)).flatten = _
        rw [List.map_cons, List.flatten_cons, List.length_cons, List.replicate_succ]
        have ih : List.replicate p.length 105 ++ (List.map (fun q => 111 :: List.replicate q.length 105) ps).flatten = r := (List.cons.inj ih).2
        show 111 :: (105 :: (List.replicate p.length 105 ++ _)) = _
        rw [ih]
theorem fst_turn {l : List Nat} {c : Nat} (h : c ∈ l) : ∃ b, turn l (fstIx c l) = c :: b := by
  obtain ⟨h1, h2, _⟩ := fst_spec h
  unfold turn
  rw [List.drop_eq_getElem_cons h1, (List.getElem?_eq_some_iff.mp h2).2]
  exact ⟨_, rfl⟩
theorem landOf_rim {l : List Nat} (w : Word l) : landOf (rim l 111) = turn l (fstIx 111 l) := by
  obtain ⟨b, hb⟩ := fst_turn w.o
  have hs : ∀ x ∈ b, x = 111 ∨ x = 105 := fun x hx => w.all x ((turn_perm l _).mem_iff.mp (by rw [hb]; exact List.mem_cons_of_mem _ hx))
  unfold landOf rim
  rw [hb]
  have e : splitC 111 (111 :: b) = [] :: splitC 111 b := by
    rw [splitC, if_pos rfl]
  rw [e, List.drop_one, List.tail_cons, List.map_map, ← split_land b hs]
  congr 1
  refine List.map_congr_left fun q _ => ?_
  show 111 :: List.replicate (2 + (q.length : Int) - 2).toNat 105 = _
  rw [show (2 + (q.length : Int) - 2).toNat = q.length by omega]
theorem landOf_len : ∀ r : List Int, (∀ x ∈ r, 2 ≤ x) → ((landOf r).length : Int) = r.sum - r.length
  | [], _ => rfl
  | x :: r, h => by
    have ih := landOf_len r fun y hy => h y (List.mem_cons_of_mem _ hy)
    have hx := h x List.mem_cons_self
    unfold landOf at ih ⊢
    rw [List.map_cons, List.flatten_cons, List.length_append, List.length_cons, List.length_replicate, List.sum_cons, List.length_cons]
    omega
theorem landOf_all (r : List Int) : ∀ x ∈ landOf r, x = 111 ∨ x = 105 := by
  intro x hx
  unfold landOf at hx
  obtain ⟨q, hq, hx⟩ := List.mem_flatten.mp hx
  obtain ⟨z, _, rfl⟩ := List.mem_map.mp hq
  rcases List.mem_cons.mp hx with e | e
  · exact .inl e
  · exact .inr (List.eq_of_mem_replicate e)
theorem landOf_word {r : List Int} (h : ∀ x ∈ r, 2 ≤ x) (hs : 2 * (r.length : Int) < r.sum) : Word (landOf r) := by
  refine ⟨landOf_all r, ?_, ?_⟩
  · cases r with
    | nil => exact absurd hs (by decide)
    | cons x r => exact List.mem_flatten.mpr ⟨_, List.mem_map.mpr ⟨x, List.mem_cons_self, rfl⟩, List.mem_cons_self⟩
  · have key : ∃ x ∈ r, 2 < x := by
      refine Classical.byContradiction fun hn => ?_
      have : ∀ l : List Int, (∀ x ∈ l, x ≤ 2) → l.sum ≤ 2 * l.length := by
        intro l
        induction l with
        | nil => intro _; exact Int.le_refl _
        | cons x t ih =>
          intro hx
          have h1 := hx x List.mem_cons_self
          have h2 := ih fun y hy => hx y (List.mem_cons_of_mem _ hy)
          rw [List.sum_cons, List.length_cons]
          omega
      have := this r fun x hx => Int.not_lt.mp fun z => hn ⟨x, hx, z⟩
      omega
    obtain ⟨x, hx, h2⟩ := key
    refine List.mem_flatten.mpr ⟨_, List.mem_map.mpr ⟨x, hx, rfl⟩, List.mem_cons_of_mem _ (List.mem_replicate.mpr ⟨by omega, rfl⟩)⟩
/-! ### signs exchanged -/
def exg (l : List Nat) : List Nat := l.map fun x => 216 - x
theorem exg_len (l : List Nat) : (exg l).length = l.length := List.length_map ..
theorem exg_turn (l : List Nat) (p : Nat) : exg (turn l p) = turn (exg l) p := by
  unfold exg turn
  rw [List.map_append, List.map_drop, List.map_take]
theorem exg_exg {l : List Nat} (h : ∀ x ∈ l, x = 111 ∨ x = 105) : exg (exg l) = l := by
  unfold exg
  rw [List.map_map]
  refine (List.map_congr_left fun x hx => ?_).trans (List.map_id l)
  show 216 - (216 - x) = x
  rcases h x hx with rfl | rfl <;> rfl
theorem exg_word {l : List Nat} (w : Word l) : Word (exg l) := by
  refine ⟨fun x hx => ?_, List.mem_map.mpr ⟨105, w.i, rfl⟩, List.mem_map.mpr ⟨111, w.o, rfl⟩⟩
  obtain ⟨y, hy, rfl⟩ := List.mem_map.mp hx
  rcases w.all y hy with rfl | rfl
  · exact .inr rfl
  · exact .inl rfl
theorem exg_eq {x s : Nat} (hx : x = 111 ∨ x = 105) (hs : Sign s) : 216 - x = 216 - s ↔ x = s := by
  rcases hx with rfl | rfl <;> rcases hs with rfl | rfl <;> decide
theorem exg_fst {s : Nat} (hs : Sign s) : ∀ l : List Nat, (∀ x ∈ l, x = 111 ∨ x = 105) → fstIx (216 - s) (exg l) = fstIx s l
  | [], _ => rfl
  | x :: r, h => by
    have ih := exg_fst hs r fun y hy => h y (List.mem_cons_of_mem _ hy)
    show (if 216 - x = 216 - s then 0 else fstIx (216 - s) (exg r) + 1) = if x = s then 0 else fstIx s r + 1
    rw [ih]
    by_cases e : x = s
    · rw [if_pos e, if_pos ((exg_eq (h x List.mem_cons_self) hs).mpr e)]
    · rw [if_neg e, if_neg fun z => e ((exg_eq (h x List.mem_cons_self) hs).mp z)]
theorem exg_split {s : Nat} (hs : Sign s) : ∀ l : List Nat, (∀ x ∈ l, x = 111 ∨ x = 105) → (splitC (216 - s) (exg l)).map List.length = (splitC s l).map List.length
  | [], _ => rfl
  | x :: r, h => by
    have ih := exg_split hs r fun y hy => h y (List.mem_cons_of_mem _ hy)
    have e1 : exg (x :: r) = (216 - x) :: exg r := rfl
    rw [e1]
    by_cases e : x = s
    · rw [splitC, splitC, if_pos e, if_pos ((exg_eq (h x List.mem_cons_self) hs).mpr e), List.map_cons, List.map_cons, ih]
    · rw [splitC, splitC, if_neg e, if_neg fun z => e ((exg_eq (h x List.mem_cons_self) hs).mp z)]
      cases e2 : splitC (216 - s) (exg r) with
      | nil => obtain ⟨_, _, q, _⟩ := split_spec (216 - s) (exg r); rw [e2] at q; cases q
      | cons p ps =>
        cases e3 : splitC s r with
        | nil => obtain ⟨_, _, q, _⟩ := split_spec s r; rw [e3] at q; cases q
        | cons q qs =>
          rw [e2, e3, List.map_cons, List.map_cons] at ih
          obtain ⟨i1, i2⟩ := List.cons.inj ih
          show List.map List.length (((216 - x) :: p) :: ps) = List.map List.length ((x :: q) :: qs)
          rw [List.map_cons, List.map_cons, List.length_cons, List.length_cons, i1, i2]
theorem exg_rim {l : List Nat} (w : Word l) {s : Nat} (hs : Sign s) : rim (exg l) (216 - s) = rim l s := by
  have h := exg_split hs (turn l (fstIx s l)) fun x hx => w.all x ((turn_perm l _).mem_iff.mp hx)
  have e : ∀ (L : List (List Nat)), (L.drop 1).map (fun q => 2 + (q.length : Int)) = ((L.map List.length).drop 1).map fun n : Nat => 2 + (n : Int) := fun L => by
    rw [← List.map_drop, List.map_map]
    rfl
  unfold rim
  rw [exg_fst hs l w.all, ← exg_turn, e, e, h]
theorem landOf_rim_i {l : List Nat} (w : Word l) : landOf (rim l 105) = exg (turn l (fstIx 105 l)) := by
  have h1 := exg_rim w (.inr rfl) (s := 105)
  have h2 := landOf_rim (exg_word w)
  rw [show (216 : Nat) - 105 = 111 from rfl] at h1
  rw [h1] at h2
  rw [h2, exg_turn]
  congr 1
  exact exg_fst (.inr rfl) (s := 105) l w.all
/-! ### turnings of rims -/
def rot {α : Type} (l : List α) (k : Nat) : List α := l.drop k ++ l.take k
theorem rot_len {α : Type} (l : List α) (k : Nat) (h : k ≤ l.length) : (rot l k).length = l.length := by
  unfold rot
  rw [List.length_append, List.length_drop, List.length_take]
  omega
theorem rot_get {α : Type} (l : List α) (k j : Nat) (h : k < l.length) (hj : j < l.length) : (rot l k)[j]? = l[(j + k) % l.length]? := by
  unfold rot
  by_cases e : j + k < l.length
  · rw [List.getElem?_append_left (by rw [List.length_drop]; omega), List.getElem?_drop, Nat.mod_eq_of_lt e, Nat.add_comm]
  · rw [List.getElem?_append_right (by rw [List.length_drop]; omega), List.length_drop, List.getElem?_take, if_pos (by omega)]
    congr 1
    rw [Nat.mod_eq_sub_mod (by omega), Nat.mod_eq_of_lt (by omega)]
    omega
/-- a place of a rim, the index counted round -/
theorem Rim.valZ {l : List Nat} (w : Word l) {s : Nat} (hs : Sign s) {j t u : Int} (t1 : cn l s t = j) (t2 : sg l t = s) (u1 : cn l s u = j + 1) (u2 : sg l u = s) : (rim l s).getD (j % (rim l s).length).toNat 0 = 1 + u - t := by
  have rl := rim_len w hs
  have hp := many_pos w hs
  have m1 : 0 ≤ j % ((rim l s).length : Int) := Int.emod_nonneg _ (by omega)
  have m2 : j % ((rim l s).length : Int) < (rim l s).length := Int.emod_lt_of_pos _ (by omega)
  have hd := Int.emod_add_mul_ediv j (rim l s).length
  have sh : ∀ x y : Int, cn l s x = y → cn l s (x + -(j / ((rim l s).length : Int)) * l.length) = y - ((rim l s).length : Int) * (j / ((rim l s).length : Int)) := fun x y h => by
    rw [cn_per w hs, h, rl, Int.neg_mul, Int.mul_comm]
    omega
  have v := Rim.val w hs (Rim.of w hs) (k := (j % ((rim l s).length : Int)).toNat) (t := t + -(j / ((rim l s).length : Int)) * l.length) (u := u + -(j / ((rim l s).length : Int)) * l.length) (by omega)
    (by rw [sh t j t1]; omega) (by rw [sg_per]; exact t2) (by rw [sh u (j + 1) u1]; omega) (by rw [sg_per]; exact u2)
  rw [v]
  omega
theorem cn_turn {l : List Nat} (w : Word l) (w' : ∀ p, Word (turn l p)) {s : Nat} (hs : Sign s) {p : Nat} (h : p ≤ l.length) (t : Int) : cn (turn l p) s t = cn l s ((p : Int) + t) - cn l s p := by
  refine int_ind (p := fun t => cn (turn l p) s t = cn l s ((p : Int) + t) - cn l s p) ?_ ?_ ?_ t
  · rw [cn_zero, Int.add_zero]; omega
  · intro t ih
    rw [cn_succ (w' p) hs, ih, turn_sg h w.ne, show (p : Int) + (t + 1) = (p : Int) + t + 1 by omega, cn_succ w hs]
    omega
  · intro t ih
    rw [cn_pred (w' p) hs, ih, turn_sg h w.ne, show (p : Int) + (t - 1) = (p : Int) + t - 1 by omega, cn_pred w hs]
    omega
theorem Word.turn {l : List Nat} (w : Word l) (p : Nat) : Word (LandM.turn l p) := ⟨fun x hx => w.all x ((turn_perm l p).mem_iff.mp hx), (turn_perm l p).mem_iff.mpr w.o, (turn_perm l p).mem_iff.mpr w.i⟩
theorem rim_turn {l : List Nat} (w : Word l) {s : Nat} (hs : Sign s) {p : Nat} (h : p ≤ l.length) : ∃ k, k < (rim l s).length ∧ rim (turn l p) s = rot (rim l s) k := by
  have hp := many_pos w hs
  have rl := rim_len w hs
  have wt := w.turn p
  have rl' := rim_len wt hs
  have tl := turn_len l h
  have hm : many (turn l p) s = many l s := by
    unfold many
    have := cn_per1 w hs (p : Int)
    unfold many at this
    rw [tl, cn_turn w w.turn hs h, this]
    omega
  rw [hm] at rl'
  have hl : (rim (turn l p) s).length = (rim l s).length := by omega
  have m1 : 0 ≤ cn l s p % ((rim l s).length : Int) := Int.emod_nonneg _ (by omega)
  have m2 : cn l s p % ((rim l s).length : Int) < (rim l s).length := Int.emod_lt_of_pos _ (by omega)
  refine ⟨(cn l s p % ((rim l s).length : Int)).toNat, by omega, List.ext_getElem? fun j => ?_⟩
  by_cases hj : j < (rim l s).length
  · rw [rot_get _ _ _ (by omega) hj]
    obtain ⟨t, t1, t2, _⟩ := tm wt hs (j : Int)
    obtain ⟨u, u1, u2, _⟩ := tm wt hs ((j : Int) + 1)
    have v := Rim.val wt hs (Rim.of wt hs) (by omega) t1 t2 u1 u2
    rw [cn_turn w w.turn hs h] at t1 u1
    rw [turn_sg h w.ne] at t2 u2
    have v2 := Rim.valZ w hs (j := (j : Int) + cn l s p) (t := (p : Int) + t) (u := (p : Int) + u) (by omega) t2 (by omega) u2
    have ix : (((j : Int) + cn l s p) % ((rim l s).length : Int)).toNat = (j + (cn l s p % ((rim l s).length : Int)).toNat) % (rim l s).length := by
      have e1 : ((j : Int) + cn l s p) % ((rim l s).length : Int) = ((j : Int) + cn l s p % ((rim l s).length : Int)) % ((rim l s).length : Int) := by rw [Int.add_emod_emod]
      generalize cn l s p % ((rim l s).length : Int) = z at *
      obtain ⟨y, rfl⟩ : ∃ y : Nat, z = y := ⟨z.toNat, by omega⟩
      rw [e1, Int.toNat_natCast, ← Int.natCast_add, ← Int.natCast_emod, Int.toNat_natCast]
    rw [ix] at v2
    have hlt : (j + (cn l s p % ((rim l s).length : Int)).toNat) % (rim l s).length < (rim l s).length := Nat.mod_lt _ (by omega)
    rw [List.getD_eq_getElem?_getD, List.getElem?_eq_getElem (by omega)] at v
    rw [List.getD_eq_getElem?_getD, List.getElem?_eq_getElem hlt] at v2
    rw [List.getElem?_eq_getElem (by omega), List.getElem?_eq_getElem hlt]
    have v : (rim (turn l p) s)[j] = 1 + u - t := v
    have v2 : (rim l s)[(j + (cn l s p % ((rim l s).length : Int)).toNat) % (rim l s).length] = 1 + ((p : Int) + u) - ((p : Int) + t) := v2
    congr 1
    omega
  · rw [List.getElem?_eq_none (by omega), List.getElem?_eq_none (by rw [rot_len _ _ (by omega)]; omega)]
/-! ### growths -/
theorem M_pos (l : List Nat) : ∀ k : Nat, 1 ≤ (M l k).a ∧ 1 ≤ (M l k).d ∧ 0 ≤ (M l k).b ∧ 0 ≤ (M l k).c ∧ (1 ≤ cn l 111 k → 1 ≤ (M l k).b) ∧ (1 ≤ cn l 105 k → 1 ≤ (M l k).c)
  | 0 => ⟨Int.le_refl 1, Int.le_refl 1, Int.le_refl 0, Int.le_refl 0, fun h => by rw [show ((0 : Nat) : Int) = 0 from rfl, cn_zero] at h; omega, fun h => by rw [show ((0 : Nat) : Int) = 0 from rfl, cn_zero] at h; omega⟩
  | k + 1 => by
    obtain ⟨h1, h2, h3, h4, h5, h6⟩ := M_pos l k
    have o1 : cn l 111 ((k : Int) + 1) = cn l 111 k + io l k := out_succ l k
    have o2 : cn l 105 ((k : Int) + 1) = cn l 105 k + (1 - io l k) := inn_succ l k
    rw [show ((k + 1 : Nat) : Int) = (k : Int) + 1 by omega, M_succ]
    rw [o1, o2]
    rcases io01 l k with e | e
    · rw [e]
      unfold step
      rw [if_neg (by decide)]
      exact ⟨h1, by show 1 ≤ (M l k).d + (M l k).b; omega, h3, by show 0 ≤ (M l k).c + (M l k).a; omega, fun h => h5 (by omega), fun _ => by show 1 ≤ (M l k).c + (M l k).a; omega⟩
    · rw [e]
      unfold step
      rw [if_pos rfl]
      exact ⟨by show 1 ≤ (M l k).a + (M l k).c; omega, h2, by show 0 ≤ (M l k).b + (M l k).d; omega, h4, fun _ => by show 1 ≤ (M l k).b + (M l k).d; omega, fun h => h6 (by omega)⟩
theorem trace_big {l : List Nat} (w : Word l) : 3 ≤ (M l l.length).a + (M l l.length).d := by
  obtain ⟨h1, h2, h3, h4, h5, h6⟩ := M_pos l l.length
  have h5 := h5 (many_pos w (.inl rfl))
  have h6 := h6 (many_pos w (.inr rfl))
  have hd := det_M l l.length
  unfold det Mt.P Mt.Q at hd
  generalize (M l l.length).a = a at *
  generalize (M l l.length).b = b at *
  generalize (M l l.length).c = c at *
  generalize (M l l.length).d = d at *
  refine Int.not_lt.mp fun hlt => ?_
  have ha : a = 1 := by omega
  have hdd : d = 1 := by omega
  have hbc : 1 * 1 ≤ b * c := Int.mul_le_mul h5 h6 (by decide) (by omega)
  subst ha hdd
  simp only at hd
  omega
theorem rim_sum {l : List Nat} (w : Word l) {s : Nat} (hs : Sign s) : (rim l s).sum - (rim l s).length = l.length := by
  have pos : ∀ {l : List Nat}, Word l → ∀ x ∈ rim l 111, 2 ≤ x := fun {l} w x hx => by
    unfold rim at hx
    obtain ⟨q, _, rfl⟩ := List.mem_map.mp hx
    omega
  rcases hs with rfl | rfl
  · have h := landOf_len (rim l 111) (pos w)
    rw [landOf_rim w, turn_len l (Nat.le_of_lt (fst_spec w.o).1)] at h
    omega
  · have e := exg_rim w (.inr rfl) (s := 105)
    have w' := exg_word w
    have h := landOf_len (rim (exg l) 111) (pos w')
    rw [landOf_rim w', turn_len _ (Nat.le_of_lt (fst_spec w'.o).1), exg_len] at h
    rw [show (216 : Nat) - 105 = 111 from rfl] at e
    rw [e] at h
    omega
end LandM

/-! LandV: runs of a land; fractions with plus. -/
namespace LandM
open DL
def wordOf : Nat → List Nat → List Nat
  | _, [] => []
  | s, n :: r => List.replicate n s ++ wordOf (216 - s) r
def alt (s n : Nat) : Nat := if n % 2 = 0 then s else 216 - s
theorem alt_sign {s : Nat} (hs : Sign s) (n : Nat) : Sign (alt s n) := by
  unfold alt
  split
  · exact hs
  · rcases hs with rfl | rfl
    · exact .inr rfl
    · exact .inl rfl
theorem alt_succ {s : Nat} (hs : Sign s) (n : Nat) : alt (216 - s) n = alt s (n + 1) := by
  unfold alt
  rcases hs with rfl | rfl <;> split <;> split <;> omega
theorem alt_next {s : Nat} (hs : Sign s) (n : Nat) : alt s (n + 1) = 216 - alt s n := by
  unfold alt
  rcases hs with rfl | rfl <;> split <;> split <;> omega
theorem wordOf_app {s : Nat} (hs : Sign s) : ∀ r1 r2 : List Nat, wordOf s (r1 ++ r2) = wordOf s r1 ++ wordOf (alt s r1.length) r2
  | [], r2 => by
    show wordOf s r2 = wordOf (alt s 0) r2
    rfl
  | n :: r, r2 => by
    have hs' : Sign (216 - s) := by rcases hs with rfl | rfl; exact .inr rfl; exact .inl rfl
    have ih := wordOf_app hs' r r2
    show List.replicate n s ++ wordOf (216 - s) (r ++ r2) = _
    rw [ih, alt_succ hs, ← List.append_assoc]
    rfl
theorem wordOf_len (s : Nat) (r : List Nat) : (wordOf s r).length = r.sum := by
  induction r generalizing s with
  | nil => rfl
  | cons n r ih =>
    show (List.replicate n s ++ wordOf (216 - s) r).length = _
    rw [List.length_append, List.length_replicate, ih, List.sum_cons]
theorem wordOf_all {s : Nat} (hs : Sign s) (r : List Nat) : ∀ x ∈ wordOf s r, x = 111 ∨ x = 105 := by
  induction r generalizing s with
  | nil => intro x hx; cases hx
  | cons n r ih =>
    intro x hx
    have hs' : Sign (216 - s) := by rcases hs with rfl | rfl; exact .inr rfl; exact .inl rfl
    rcases List.mem_append.mp hx with h | h
    · rw [List.eq_of_mem_replicate h]; exact hs
    · exact ih hs' x h
theorem sign_ne {s : Nat} (hs : Sign s) : 216 - s ≠ s := by rcases hs with rfl | rfl <;> decide
/-- the runs of a word are told by it -/
theorem runs_uniq {s : Nat} (hs : Sign s) : ∀ r r' : List Nat, (∀ x ∈ r, 1 ≤ x) → (∀ x ∈ r', 1 ≤ x) → wordOf s r = wordOf s r' → r = r'
  | [], [], _, _, _ => rfl
  | [], n :: r, _, h, e => by
    have h1 := h n List.mem_cons_self
    have := congrArg List.length e
    rw [wordOf_len, wordOf_len, List.sum_cons] at this
    simp at this
    omega
  | n :: r, [], h, _, e => by
    have h1 := h n List.mem_cons_self
    have := congrArg List.length e
    rw [wordOf_len, wordOf_len, List.sum_cons] at this
    simp at this
    omega
  | n :: r, n' :: r', h, h', e => by
    have hs' : Sign (216 - s) := by rcases hs with rfl | rfl; exact .inr rfl; exact .inl rfl
    have key : ∀ (m m' : Nat) (t t' : List Nat), (∀ x ∈ t, 1 ≤ x) → m < m' → List.replicate m s ++ wordOf (216 - s) t = List.replicate m' s ++ wordOf (216 - s) t' → False := by
      intro m m' t t' ht hlt e
      have e1 : (List.replicate m s ++ wordOf (216 - s) t)[m]? = some s := by
        rw [e, List.getElem?_append_left (by rw [List.length_replicate]; exact hlt), List.getElem?_replicate, if_pos hlt]
      rw [List.getElem?_append_right (by rw [List.length_replicate]; exact Nat.le_refl m), List.length_replicate, Nat.sub_self] at e1
      cases t with
      | nil => cases e1
      | cons k t =>
        have hk := ht k List.mem_cons_self
        have e2 : (List.replicate k (216 - s) ++ wordOf (216 - (216 - s)) t)[0]? = some s := e1
        rw [List.getElem?_append_left (by rw [List.length_replicate]; omega), List.getElem?_replicate, if_pos (by omega)] at e2
        exact sign_ne hs (Option.some.inj e2)
    have hn : n = n' := by
      rcases Nat.lt_trichotomy n n' with z | z | z
      · exact (key n n' r r' (fun x hx => h x (List.mem_cons_of_mem _ hx)) z e).elim
      · exact z
      · exact (key n' n r' r (fun x hx => h' x (List.mem_cons_of_mem _ hx)) z e.symm).elim
    subst hn
    have e' : List.replicate n s ++ wordOf (216 - s) r = List.replicate n s ++ wordOf (216 - s) r' := e
    rw [runs_uniq hs' r r' (fun x hx => h x (List.mem_cons_of_mem _ hx)) (fun x hx => h' x (List.mem_cons_of_mem _ hx)) (List.append_cancel_left e')]
/-! ### counting the runs -/
def runStep (p : List Nat × Nat) (c : Nat) : List Nat × Nat := if c = p.2 then (p.1.set (p.1.length - 1) (p.1.getD (p.1.length - 1) 0 + 1), c) else (p.1 ++ [1], c)
def runsTo (l : List Nat) : List Nat × Nat := l.foldl runStep ([], 0)
theorem runsTo_snoc (l : List Nat) (c : Nat) : runsTo (l ++ [c]) = runStep (runsTo l) c := by
  unfold runsTo
  rw [List.foldl_append]
  rfl
theorem list_snoc {α : Type} (l : List α) (h : l ≠ []) : ∃ i x, l = i ++ [x] := ⟨l.dropLast, l.getLast h, (List.dropLast_concat_getLast h).symm⟩
theorem snoc_ind {α : Type} {p : List α → Prop} (h0 : p []) (h1 : ∀ i x, p i → p (i ++ [x])) (l : List α) : p l := by
  rw [← List.reverse_reverse l]
  induction l.reverse with
  | nil => exact h0
  | cons x r ih =>
    rw [List.reverse_cons]
    exact h1 _ _ ih
theorem runs_inv {s : Nat} (hs : Sign s) (l : List Nat) : (∀ x ∈ l, x = 111 ∨ x = 105) → (l ≠ [] → l.head? = some s) → (∀ x ∈ (runsTo l).1, 1 ≤ x) ∧ wordOf s (runsTo l).1 = l ∧ (l = [] → runsTo l = ([], 0)) ∧ (l ≠ [] → (runsTo l).1 ≠ [] ∧ (runsTo l).2 = alt s ((runsTo l).1.length - 1)) := by
  induction l using snoc_ind with
  | h0 => exact fun _ _ => ⟨fun x hx => (by cases hx), rfl, fun _ => rfl, fun h => absurd rfl h⟩
  | h1 i c ih =>
    intro hl hh
    have hc := hl c (List.mem_append_right _ List.mem_cons_self)
    have hi0 : i ≠ [] → i.head? = some s := fun h => by
      have := hh (by simp)
      cases i with
      | nil => exact absurd rfl h
      | cons y t => exact this
    obtain ⟨h1, h2, h3, h4⟩ := ih (fun x hx => hl x (List.mem_append_left _ hx)) hi0
    rw [runsTo_snoc]
    revert h1 h2 h3 h4
    generalize runsTo i = p
    obtain ⟨r, b⟩ := p
    dsimp only
    intro h1 h2 h3 h4
    unfold runStep
    dsimp only
    by_cases e0 : i = []
    · subst e0
      obtain ⟨hr, hb0⟩ := Prod.mk.inj (h3 rfl)
      subst hr hb0
      have hcs : c = s := Option.some.inj (hh (by simp))
      subst hcs
      by_cases hb : c = 0
      · rcases hc with z | z <;> omega
      · rw [if_neg hb]
        refine ⟨fun x hx => ?_, ?_, fun z => by simp at z, fun _ => ⟨by simp, ?_⟩⟩
        · have := List.mem_singleton.mp hx; omega
        · show List.replicate 1 c ++ [] = [c]
          rfl
        · rfl
    · obtain ⟨h5, h6⟩ := h4 e0
      obtain ⟨q, m, rfl⟩ := list_snoc r h5
      have hm := h1 m (List.mem_append_right _ List.mem_cons_self)
      have hlen : (q ++ [m]).length - 1 = q.length := by rw [List.length_append]; simp
      rw [hlen] at h6
      have hw := wordOf_app hs q [m]
      rw [h2] at hw
      have hone : ∀ k : Nat, wordOf (alt s q.length) [k] = List.replicate k (alt s q.length) := fun k => by
        show List.replicate k _ ++ [] = _
        rw [List.append_nil]
      rw [hone] at hw
      by_cases hb : c = b
      · rw [if_pos hb]
        have eset : (q ++ [m]).set ((q ++ [m]).length - 1) ((q ++ [m]).getD ((q ++ [m]).length - 1) 0 + 1) = q ++ [m + 1] := by
          rw [hlen, List.getD_eq_getElem?_getD, List.getElem?_append_right (Nat.le_refl _), Nat.sub_self, List.set_append_right _ _ (Nat.le_refl _), Nat.sub_self]
          rfl
        rw [eset]
        refine ⟨fun x hx => ?_, ?_, fun z => by simp at z, fun _ => ⟨by simp, ?_⟩⟩
        · rcases List.mem_append.mp hx with z | z
          · exact h1 x (List.mem_append_left _ z)
          · have := List.mem_singleton.mp z; omega
        · rw [wordOf_app hs, hone, List.replicate_succ', ← List.append_assoc, ← hw, hb, h6]
        · rw [List.length_append]
          show c = alt s (q.length + 1 - 1)
          rw [hb, h6]
          rfl
      · rw [if_neg hb]
        have hcb : c = 216 - b := by
          have hsb : Sign b := by rw [h6]; exact alt_sign hs _
          rcases hc with rfl | rfl <;> rcases hsb with rfl | rfl <;> omega
        refine ⟨fun x hx => ?_, ?_, fun z => by simp at z, fun _ => ⟨by simp, ?_⟩⟩
        · rcases List.mem_append.mp hx with z | z
          · exact h1 x z
          · have := List.mem_singleton.mp z; omega
        · rw [wordOf_app hs, h2]
          show i ++ (List.replicate 1 (alt s (q ++ [m]).length) ++ []) = i ++ [c]
          rw [List.length_append]
          show i ++ ([alt s (q.length + 1)] ++ []) = i ++ [c]
          rw [alt_next hs, ← h6, hcb]
          rfl
        · rw [List.length_append]
          show c = alt s ((q ++ [m]).length + 1 - 1)
          rw [List.length_append]
          show c = alt s (q.length + 1)
          rw [alt_next hs, ← h6, hcb]
end LandM

/-! LandW: the least turning; runs of the least turning; fractions. -/
namespace LandM
open DL
theorem least_ex {l : List Nat} : ∀ n : Nat, 0 < n → n ≤ l.length → ∃ k, k < n ∧ ∀ j, j < n → ¬ turn l j < turn l k
  | 0, h, _ => absurd h (by decide)
  | 1, _, _ => ⟨0, by decide, fun j hj => by rw [show j = 0 by omega]; exact List.lt_irrefl _⟩
  | n + 2, _, h => by
    obtain ⟨k, hk, hm⟩ := least_ex (l := l) (n + 1) (by omega) (by omega)
    by_cases e : turn l (n + 1) < turn l k
    · refine ⟨n + 1, by omega, fun j hj z => ?_⟩
      by_cases hj' : j < n + 1
      · exact hm j hj' (List.lt_trans z e)
      · rw [show j = n + 1 by omega] at z
        exact List.lt_irrefl _ z
    · refine ⟨k, by omega, fun j hj => ?_⟩
      by_cases hj' : j < n + 1
      · exact hm j hj'
      · rw [show j = n + 1 by omega]
        exact e
theorem Least.ex {l : List Nat} (h : 0 < l.length) : ∃ m, Least l m := by
  obtain ⟨k, hk, hm⟩ := least_ex (l := l) l.length h (Nat.le_refl _)
  refine ⟨turn l k, ⟨k, hk, rfl⟩, ?_⟩
  rintro _ ⟨j, hj, rfl⟩
  exact hm j hj
noncomputable def minOf (l : List Nat) : List Nat := open Classical in if h : ∃ m, Least l m then h.choose else []
theorem minOf_least {l : List Nat} (h : 0 < l.length) : Least l (minOf l) := by
  have e := Least.ex h
  unfold minOf
  rw [dif_pos e]
  exact e.choose_spec
theorem minOf_eq {l m : List Nat} (h : 0 < l.length) (hm : Least l m) : m = minOf l := (Least.same h hm (minOf_least h)).mpr (.refl h)
theorem minOf_turn {l l' : List Nat} (h : 0 < l.length) (e : isTurn l l') : minOf l = minOf l' := (Least.same h (minOf_least h) (minOf_least (by rw [← e.len]; exact h))).mpr e
theorem minOf_isTurn {l : List Nat} (h : 0 < l.length) : isTurn (minOf l) l := (minOf_least h).1
theorem minOf_perm {l : List Nat} (h : 0 < l.length) : (minOf l).Perm l := by
  obtain ⟨k, _, e⟩ := minOf_isTurn h
  rw [← e]
  exact turn_perm l k
theorem minOf_word {l : List Nat} (w : Word l) : Word (minOf l) := by
  obtain ⟨k, _, e⟩ := minOf_isTurn w.ne
  rw [← e]
  exact w.turn k
theorem minOf_all {l : List Nat} (h : 0 < l.length) (ha : ∀ x ∈ l, x = 111 ∨ x = 105) : ∀ x ∈ minOf l, x = 111 ∨ x = 105 := fun x hx => ha x ((minOf_perm h).mem_iff.mp hx)
theorem minOf_len {l : List Nat} (h : 0 < l.length) : (minOf l).length = l.length := (minOf_perm h).length_eq
theorem minOf_head {l : List Nat} (w : Word l) : (minOf l).head? = some 105 := by
  have wm := minOf_word w
  have hl := minOf_least w.ne
  cases e : minOf l with
  | nil => have := wm.ne; rw [e] at this; cases this
  | cons x r =>
    rcases wm.all x (by rw [e]; exact List.mem_cons_self) with hx | hx
    · exfalso
      obtain ⟨b, hb⟩ := fst_turn wm.i
      obtain ⟨h1, _, _⟩ := fst_spec wm.i
      refine hl.2 (105 :: b) (isTurn.trans ⟨_, h1, hb⟩ hl.1) ?_
      rw [e, hx]
      exact List.cons_lt_cons_iff.mpr (.inl (by decide))
    · rw [hx]; rfl
theorem front_lt : ∀ i : List Nat, (∀ x ∈ i, x = 111 ∨ x = 105) → 111 ∈ i → 105 :: i < i ++ [105]
  | [], _, h => by cases h
  | x :: r, ha, h => by
    rcases ha x List.mem_cons_self with rfl | rfl
    · exact List.cons_lt_cons_iff.mpr (.inl (by decide))
    · refine List.cons_lt_cons_iff.mpr (.inr ⟨rfl, front_lt r (fun y hy => ha y (List.mem_cons_of_mem _ hy)) ?_⟩)
      rcases List.mem_cons.mp h with z | z
      · cases z
      · exact z
theorem turn_snoc (i : List Nat) (c : Nat) : turn (i ++ [c]) i.length = c :: i := by
  unfold turn
  rw [List.drop_left, List.take_left]
  rfl
theorem minOf_last {l : List Nat} (w : Word l) : ∃ i, minOf l = i ++ [111] := by
  have wm := minOf_word w
  have hl := minOf_least w.ne
  obtain ⟨i, c, e⟩ := list_snoc (minOf l) (by intro z; have := wm.ne; rw [z] at this; cases this)
  refine ⟨i, ?_⟩
  rcases wm.all c (by rw [e]; exact List.mem_append_right _ List.mem_cons_self) with hx | hx
  · rw [e, hx]
  · exfalso
    rw [hx] at e
    refine hl.2 (105 :: i) (isTurn.trans ⟨i.length, ?_, ?_⟩ hl.1) ?_
    · rw [e, List.length_append]
      exact Nat.lt_succ_self _
    · rw [e, turn_snoc]
    · rw [e]
      refine front_lt i (fun x hx => wm.all x (by rw [e]; exact List.mem_append_left _ hx)) ?_
      have := wm.o
      rw [e] at this
      rcases List.mem_append.mp this with z | z
      · exact z
      · cases List.mem_singleton.mp z
theorem runsTo_last (i : List Nat) (c : Nat) : (runsTo (i ++ [c])).2 = c := by
  rw [runsTo_snoc]
  unfold runStep
  split <;> rfl
/-- the runs of the least turning -/
noncomputable def runsOf (l : List Nat) : List Nat := (runsTo (minOf l)).1
structure RunsOf (l r : List Nat) : Prop where
  pos : ∀ x ∈ r, 1 ≤ x
  word : wordOf 105 r = minOf l
  even : r.length % 2 = 0
  two : 2 ≤ r.length
  sum : r.sum = l.length
theorem RunsOf.of {l : List Nat} (w : Word l) : RunsOf l (runsOf l) := by
  have wm := minOf_word w
  have hne : minOf l ≠ [] := by intro z; have := wm.ne; rw [z] at this; cases this
  obtain ⟨h1, h2, _, h4⟩ := runs_inv (s := 105) (.inr rfl) (minOf l) wm.all (fun _ => minOf_head w)
  obtain ⟨h5, h6⟩ := h4 hne
  obtain ⟨i, hi⟩ := minOf_last w
  have h7 : (runsTo (minOf l)).2 = 111 := by rw [hi]; exact runsTo_last i 111
  rw [h7] at h6
  have h8 : 0 < (runsTo (minOf l)).1.length := List.length_pos_iff.mpr h5
  have h9 : ((runsTo (minOf l)).1.length - 1) % 2 ≠ 0 := fun z => by
    unfold alt at h6
    rw [if_pos z] at h6
    cases h6
  refine ⟨h1, h2, ?_, ?_, ?_⟩
  · unfold runsOf; omega
  · unfold runsOf; omega
  · unfold runsOf
    rw [← wordOf_len 105, h2, minOf_len w.ne]
theorem alt_even {s n : Nat} (h : n % 2 = 0) : alt s n = s := if_pos h
/-- the runs turned by two give a turning -/
theorem RunsOf.two_on {l r : List Nat} (R : RunsOf l r) (w : Word l) : isTurn (wordOf 105 (r.drop 2 ++ r.take 2)) l := by
  have hs : Sign 105 := .inr rfl
  have h2 := R.two
  have he := R.even
  have e1 : wordOf 105 (r.drop 2 ++ r.take 2) = wordOf 105 (r.drop 2) ++ wordOf 105 (r.take 2) := by
    rw [wordOf_app hs, List.length_drop, alt_even (by omega)]
  have e2 : minOf l = wordOf 105 (r.take 2) ++ wordOf 105 (r.drop 2) := by
    rw [← R.word]
    conv => lhs; rw [← List.take_append_drop 2 r]
    rw [wordOf_app hs, List.length_take, alt_even (by omega)]
  have e3 : turn (minOf l) (wordOf 105 (r.take 2)).length = wordOf 105 (r.drop 2 ++ r.take 2) := by
    rw [e1, e2]
    unfold turn
    rw [List.drop_left, List.take_left]
  refine isTurn.trans (b := minOf l) ?_ (minOf_isTurn w.ne)
  by_cases hk : (wordOf 105 (r.take 2)).length < (minOf l).length
  · exact ⟨_, hk, e3⟩
  · refine ⟨0, (minOf_word w).ne, ?_⟩
    rw [turn_zero, e1]
    have e4 : (wordOf 105 (r.drop 2)).length = 0 := by
      rw [e2, List.length_append] at hk
      omega
    rw [e2, List.eq_nil_of_length_eq_zero e4, List.append_nil]
    rfl
/-! ### fractions -/
def cfS (x : Int) (p : Int × Int) : Int × Int := (x * p.1 + p.2, p.1)
def cfl (r : List Int) (v : Int × Int) : Int × Int := r.foldr cfS v
theorem cfl_app (a b : List Int) (v : Int × Int) : cfl (a ++ b) v = cfl a (cfl b v) := List.foldr_append ..
def neg1 (n : Nat) : Int := if n % 2 = 0 then 1 else -1
theorem neg1_succ (n : Nat) : neg1 (n + 1) = -neg1 n := by unfold neg1; split <;> split <;> omega
theorem cfS_det (x : Int) (u v : Int × Int) : det (cfS x u) (cfS x v) = -det u v := by
  obtain ⟨a, b⟩ := u
  obtain ⟨c, d⟩ := v
  show (x * a + b) * c - a * (x * c + d) = -(a * d - b * c)
  grind
theorem cfl_det (r : List Int) (u v : Int × Int) : det (cfl r u) (cfl r v) = neg1 r.length * det u v := by
  induction r with
  | nil => show det u v = 1 * det u v; rw [Int.one_mul]
  | cons x r ih =>
    show det (cfS x (cfl r u)) (cfS x (cfl r v)) = neg1 (r.length + 1) * det u v
    rw [cfS_det, ih, neg1_succ, Int.neg_mul]
theorem cfl_pos (r : List Int) (h : ∀ x ∈ r, 1 ≤ x ∧ x ≤ 31) : 1 ≤ (cfl r (1, 0)).1 ∧ (cfl r (1, 0)).1 ≤ 32 ^ r.length ∧ 0 ≤ (cfl r (1, 0)).2 ∧ (cfl r (1, 0)).2 ≤ 32 ^ r.length ∧ (r ≠ [] → 1 ≤ (cfl r (1, 0)).2) := by
  induction r with
  | nil => exact ⟨by decide, by decide, by decide, by decide, fun h => absurd rfl h⟩
  | cons x r ih =>
    obtain ⟨i1, i2, i3, i4, _⟩ := ih fun y hy => h y (List.mem_cons_of_mem _ hy)
    obtain ⟨x1, x2⟩ := h x List.mem_cons_self
    show 1 ≤ x * (cfl r (1, 0)).1 + (cfl r (1, 0)).2 ∧ x * (cfl r (1, 0)).1 + (cfl r (1, 0)).2 ≤ 32 ^ (r.length + 1) ∧ 0 ≤ (cfl r (1, 0)).1 ∧ (cfl r (1, 0)).1 ≤ 32 ^ (r.length + 1) ∧ (_ → 1 ≤ (cfl r (1, 0)).1)
    generalize (cfl r (1, 0)).1 = p at *
    generalize (cfl r (1, 0)).2 = q at *
    rw [Int.pow_succ]
    generalize (32 : Int) ^ r.length = P at *
    have a1 : 1 * p ≤ x * p := Int.mul_le_mul_of_nonneg_right x1 (by omega)
    have a2 : x * p ≤ 31 * p := Int.mul_le_mul_of_nonneg_right x2 (by omega)
    omega
/-- a list read round and round -/
def extL (r : List Int) (n : Nat) : List Int := (List.range n).map fun k => r.getD (k % r.length) 0
theorem extL_len (r : List Int) (n : Nat) : (extL r n).length = n := by unfold extL; rw [List.length_map, List.length_range]
theorem extL_mem {r : List Int} (h : 0 < r.length) {n : Nat} : ∀ x ∈ extL r n, x ∈ r := fun x hx => by
  obtain ⟨k, _, rfl⟩ := List.mem_map.mp hx
  have hk : k % r.length < r.length := Nat.mod_lt _ h
  rw [List.getD_eq_getElem?_getD, List.getElem?_eq_getElem hk]
  exact List.getElem_mem hk
theorem extL_on (r : List Int) (n : Nat) : r ++ extL r n = extL r (r.length + n) := by
  unfold extL
  rw [List.range_add, List.map_append, List.map_map]
  congr 1
  · refine List.ext_getElem? fun i => ?_
    rw [List.getElem?_map]
    by_cases hi : i < r.length
    · rw [List.getElem?_range hi, Option.map_some, Nat.mod_eq_of_lt hi, List.getD_eq_getElem?_getD, List.getElem?_eq_getElem hi]
      rfl
    · rw [List.getElem?_eq_none (by omega), List.getElem?_eq_none (by rw [List.length_range]; omega)]
      rfl
  · refine List.map_congr_left fun k _ => ?_
    show _ = r.getD ((r.length + k) % r.length) 0
    rw [Nat.add_mod_left]
/-- the sign of the value at a convergent -/
theorem cf_value {r : List Int} (h : ∀ x ∈ r, 1 ≤ x ∧ x ≤ 31) (h0 : r ≠ []) (n : Nat) : ∃ c : Int, 1 ≤ c ∧ c ≤ 32 ^ r.length ∧ det (cfl (extL r n) (1, 0)) (cfl r (cfl (extL r n) (1, 0))) = neg1 n * c := by
  have hl : 0 < r.length := List.length_pos_iff.mpr h0
  have e : r ++ extL r n = extL r n ++ (List.range r.length).map fun k => r.getD ((n + k) % r.length) 0 := by
    rw [extL_on, Nat.add_comm]
    unfold extL
    rw [List.range_add, List.map_append, List.map_map]
    rfl
  rw [← cfl_app, e, cfl_app, cfl_det, extL_len]
  have hm : ∀ x ∈ (List.range r.length).map (fun k => r.getD ((n + k) % r.length) 0), 1 ≤ x ∧ x ≤ 31 := fun x hx => by
    obtain ⟨k, _, rfl⟩ := List.mem_map.mp hx
    have hk : (n + k) % r.length < r.length := Nat.mod_lt _ hl
    rw [List.getD_eq_getElem?_getD, List.getElem?_eq_getElem hk]
    exact h _ (List.getElem_mem hk)
  obtain ⟨_, _, q1, q2, q3⟩ := cfl_pos _ hm
  rw [List.length_map, List.length_range] at q2
  refine ⟨_, q3 ?_, q2, ?_⟩
  · intro z
    have := congrArg List.length z
    rw [List.length_map, List.length_range, List.length_nil] at this
    omega
  · show neg1 n * (1 * _ - 0 * _) = _
    rw [Int.one_mul, Int.zero_mul, Int.sub_zero]
/-! ### the table of a word -/
structure T4 where
  p : Int
  q : Int
  r : Int
  s : Int
def T4.step (t : T4) (c : Nat) : T4 := if c = 82 then ⟨t.p, t.p + t.q, t.r, t.r + t.s⟩ else ⟨t.p + t.q, t.q, t.r + t.s, t.s⟩
def tabl (l : List Nat) : T4 := l.foldl T4.step ⟨1, 0, 0, 1⟩
def T4.act (t : T4) (v : Int × Int) : Int × Int := (t.p * v.1 + t.q * v.2, t.r * v.1 + t.s * v.2)
def lrOf (l : List Nat) : List Nat := l.map fun c => if c = 111 then 76 else 82
theorem tabl_snoc (l : List Nat) (c : Nat) : tabl (l ++ [c]) = (tabl l).step c := by unfold tabl; rw [List.foldl_append]; rfl
theorem tabl_small (l : List Nat) : 0 ≤ (tabl l).p ∧ (tabl l).p ≤ 2 ^ l.length ∧ 0 ≤ (tabl l).q ∧ (tabl l).q ≤ 2 ^ l.length ∧ 0 ≤ (tabl l).r ∧ (tabl l).r ≤ 2 ^ l.length ∧ 0 ≤ (tabl l).s ∧ (tabl l).s ≤ 2 ^ l.length := by
  induction l using snoc_ind with
  | h0 => decide
  | h1 i c ih =>
    rw [tabl_snoc, List.length_append]
    show _ ∧ _ ≤ (2 : Int) ^ (i.length + 1) ∧ _
    rw [Int.pow_succ]
    simp only [List.length_cons, List.length_nil, Nat.zero_add, Int.pow_succ]
    unfold T4.step
    split <;> dsimp only <;> omega
theorem act_rep (t : List Nat) (n : Nat) (v : Int × Int) : (tabl (t ++ List.replicate n 82)).act v = (tabl t).act (v.1 + n * v.2, v.2) ∧ (tabl (t ++ List.replicate n 76)).act v = (tabl t).act (v.1, n * v.1 + v.2) := by
  induction n generalizing v with
  | zero =>
    simp
  | succ n ih =>
    obtain ⟨a, b⟩ := v
    rw [List.replicate_succ', List.replicate_succ', ← List.append_assoc, ← List.append_assoc, tabl_snoc, tabl_snoc]
    have i1 := (ih (a + b, b)).1
    have i2 := (ih (a, a + b)).2
    unfold T4.act at i1 i2 ⊢
    have e1 : ((tabl (t ++ List.replicate n 82)).step 82) = ⟨(tabl (t ++ List.replicate n 82)).p, (tabl (t ++ List.replicate n 82)).p + (tabl (t ++ List.replicate n 82)).q, (tabl (t ++ List.replicate n 82)).r, (tabl (t ++ List.replicate n 82)).r + (tabl (t ++ List.replicate n 82)).s⟩ := rfl
    have e2 : ((tabl (t ++ List.replicate n 76)).step 76) = ⟨(tabl (t ++ List.replicate n 76)).p + (tabl (t ++ List.replicate n 76)).q, (tabl (t ++ List.replicate n 76)).q, (tabl (t ++ List.replicate n 76)).r + (tabl (t ++ List.replicate n 76)).s, (tabl (t ++ List.replicate n 76)).s⟩ := rfl
    rw [e1, e2]
    dsimp only at i1 i2 ⊢
    obtain ⟨j1, j2⟩ := Prod.mk.inj i1
    obtain ⟨j3, j4⟩ := Prod.mk.inj i2
    have hn : ((n + 1 : Nat) : Int) = n + 1 := by omega
    rw [hn, show a + ((n : Int) + 1) * b = a + b + n * b by grind, show ((n : Int) + 1) * a + b = n * a + (a + b) by grind, ← j1, ← j2, ← j3, ← j4]
    clear j1 j2 j3 j4 i1 i2 e1 e2 ih
    constructor
    · refine Prod.ext ?_ ?_ <;> dsimp only <;> grind
    · refine Prod.ext ?_ ?_ <;> dsimp only <;> grind
def sw (v : Int × Int) : Int × Int := (v.2, v.1)
/-- the table of a word moves pairs as its runs do -/
theorem act_runs (r : List Nat) : ∀ (s : Nat) (t : List Nat) (v : Int × Int), Sign s → (tabl (t ++ lrOf (wordOf s r))).act (if (alt s r.length = 105) then v else sw v) = (tabl t).act (if s = 105 then cfl (r.map fun n : Nat => (n : Int)) v else sw (cfl (r.map fun n : Nat => (n : Int)) v)) := by
  induction r with
  | nil =>
    intro s t v hs
    show (tabl (t ++ [])).act _ = _
    rw [List.append_nil]
    rcases hs with rfl | rfl <;> rfl
  | cons n r ih =>
    intro s t v hs
    have hs' : Sign (216 - s) := by rcases hs with rfl | rfl; exact .inr rfl; exact .inl rfl
    have e : lrOf (wordOf s (n :: r)) = List.replicate n (if s = 111 then 76 else 82) ++ lrOf (wordOf (216 - s) r) := by
      show lrOf (List.replicate n s ++ wordOf (216 - s) r) = _
      unfold lrOf
      rw [List.map_append, List.map_replicate]
    rw [e, ← List.append_assoc]
    have i := ih (216 - s) (t ++ List.replicate n (if s = 111 then 76 else 82)) v hs'
    rw [alt_succ hs] at i
    rw [show (n :: r).length = r.length + 1 from rfl, i]
    show _ = (tabl t).act (if s = 105 then cfS n (cfl (r.map fun n : Nat => (n : Int)) v) else sw (cfS n (cfl (r.map fun n : Nat => (n : Int)) v)))
    generalize cfl (r.map fun n : Nat => (n : Int)) v = u
    obtain ⟨a, b⟩ := u
    rcases hs with rfl | rfl
    · rw [if_pos rfl, if_pos rfl, if_neg (by decide), (act_rep t n _).2]
      rfl
    · rw [if_neg (by decide), if_neg (by decide), if_pos rfl, (act_rep t n _).1]
      show (tabl t).act (b + (n : Int) * a, a) = (tabl t).act ((n : Int) * a + b, a)
      rw [Int.add_comm]
theorem RunsOf.act {l r : List Nat} (R : RunsOf l r) (v : Int × Int) : (tabl (lrOf (minOf l))).act v = cfl (r.map fun n : Nat => (n : Int)) v := by
  have h := act_runs r 105 [] v (.inr rfl)
  rw [alt_even R.even, if_pos rfl, if_pos rfl, R.word] at h
  refine (show (tabl (lrOf (minOf l))).act v = (tabl ([] ++ lrOf (minOf l))).act v from rfl).trans (h.trans ?_)
  generalize cfl (r.map fun n : Nat => (n : Int)) v = u
  obtain ⟨a, b⟩ := u
  show (1 * a + 0 * b, 0 * a + 1 * b) = (a, b)
  simp
end LandM

/-! Minus: tables of turns; lists with minus. -/
namespace Minus
open DL
structure M4 where
  p : Int
  q : Int
  r : Int
  s : Int
def M4.go (m : M4) (n : Int) : M4 := ⟨m.p * n + m.q, -m.p, m.r * n + m.s, -m.r⟩
def M4.act (m : M4) (v : Int × Int) : Int × Int := (m.p * v.1 + m.q * v.2, m.r * v.1 + m.s * v.2)
def M4.det (m : M4) : Int := m.p * m.s - m.q * m.r
def M4.sg (m : M4) (k : Int) : M4 := ⟨k * m.p, k * m.q, k * m.r, k * m.s⟩
def tb (l : List Int) : M4 := l.foldl M4.go ⟨1, 0, 0, 1⟩
def ptS (n : Int) (v : Int × Int) : Int × Int := (n * v.1 - v.2, v.1)
def pt (l : List Int) (v : Int × Int) : Int × Int := l.foldr ptS v
theorem tb_snoc (l : List Int) (n : Int) : tb (l ++ [n]) = (tb l).go n := by unfold tb; rw [List.foldl_append]; rfl
theorem put_app (a b : List Int) (v : Int × Int) : pt (a ++ b) v = pt a (pt b v) := List.foldr_append ..
theorem fold_act : ∀ (l : List Int) (m : M4) (v : Int × Int), (l.foldl M4.go m).act v = m.act (pt l v)
  | [], _, _ => rfl
  | n :: l, m, v => by
    show (l.foldl M4.go (m.go n)).act v = m.act (ptS n (pt l v))
    rw [fold_act l (m.go n) v]
    generalize pt l v = u
    obtain ⟨a, b⟩ := u
    unfold M4.go M4.act ptS
    dsimp only
    refine Prod.ext ?_ ?_ <;> dsimp only <;> grind
theorem tb_act (l : List Int) (v : Int × Int) : (tb l).act v = pt l v := by
  unfold tb
  rw [fold_act]
  obtain ⟨a, b⟩ := pt l v
  unfold M4.act
  refine Prod.ext ?_ ?_ <;> dsimp only <;> omega
theorem tb_cols (l : List Int) : tb l = ⟨(pt l (1, 0)).1, (pt l (0, 1)).1, (pt l (1, 0)).2, (pt l (0, 1)).2⟩ := by
  rw [← tb_act, ← tb_act]
  unfold M4.act
  dsimp only
  generalize tb l = m
  obtain ⟨p, q, r, s⟩ := m
  simp
theorem go_det (m : M4) (n : Int) : (m.go n).det = m.det := by
  unfold M4.go M4.det
  dsimp only
  grind
theorem tb_det (l : List Int) : (tb l).det = 1 := by
  have : ∀ (l : List Int) (m : M4), (l.foldl M4.go m).det = m.det := by
    intro l
    induction l with
    | nil => intro m; rfl
    | cons n l ih => intro m; show (l.foldl M4.go (m.go n)).det = _; rw [ih, go_det]
  unfold tb
  rw [this]
  decide
theorem sg_det {m : M4} {k : Int} (h : k = 1 ∨ k = -1) : (m.sg k).det = m.det := by
  unfold M4.sg M4.det
  rcases h with rfl | rfl <;> grind
/-! ### rounding up -/
def up (a b : Int) : Int := -((-a) / b)
inductive ML : Int → Int → List Int → Prop
  | nil (a : Int) : ML a 0 []
  | cons {a b : Int} {l : List Int} : 0 < b → ML b (up a b * b - a) l → ML a b (up a b :: l)
theorem up_spec {a b : Int} (h : 0 < b) : 0 ≤ up a b * b - a ∧ up a b * b - a < b := by
  unfold up
  have h1 := Int.emod_nonneg (-a) (by omega : b ≠ 0)
  have h2 := Int.emod_lt_of_pos (-a) h
  have h3 := Int.emod_add_mul_ediv (-a) b
  have h4 : -((-a) / b) * b = -(b * ((-a) / b)) := by rw [Int.neg_mul, Int.mul_comm]
  omega
theorem up_uniq {a b n : Int} (h : 0 < b) (h0 : 0 ≤ n * b - a) (h1 : n * b - a < b) : up a b = n := by
  obtain ⟨u0, u1⟩ := up_spec (a := a) h
  generalize up a b = m at *
  have e1 : (m - n) * b = m * b - n * b := Int.sub_mul ..
  by_cases hlt : m < n
  · have : 1 * b ≤ (n - m) * b := Int.mul_le_mul_of_nonneg_right (by omega) (by omega)
    rw [Int.sub_mul] at this
    omega
  · by_cases hgt : n < m
    · have : 1 * b ≤ (m - n) * b := Int.mul_le_mul_of_nonneg_right (by omega) (by omega)
      omega
    · omega
theorem up_small {a b k : Int} (h : 0 < b) (hk : 1 ≤ k) (h1 : -k ≤ a) (h2 : a ≤ k) : -k ≤ up a b ∧ up a b ≤ k := by
  obtain ⟨u0, u1⟩ := up_spec (a := a) h
  generalize up a b = m at *
  constructor
  · refine Int.not_lt.mp fun z => ?_
    have : (k + 1) * 1 ≤ (-m) * b := Int.mul_le_mul (by omega) (by omega) (by decide) (by omega)
    rw [Int.neg_mul] at this
    omega
  · refine Int.not_lt.mp fun z => ?_
    by_cases hb : b = 1
    · subst hb; omega
    · have h3 : k * b ≤ (m - 1) * b := Int.mul_le_mul_of_nonneg_right (by omega) (by omega)
      have h4 : k * 2 ≤ k * b := Int.mul_le_mul_of_nonneg_left (by omega) (by omega)
      rw [Int.sub_mul] at h3
      omega
theorem ML.pos {a b : Int} {l : List Int} (h : ML a b l) : 0 ≤ b ∧ (l.length : Int) ≤ b := by
  induction h with
  | nil a => exact ⟨Int.le_refl 0, Int.le_refl 0⟩
  | @cons a b l hb _ ih =>
    have := up_spec (a := a) hb
    rw [List.length_cons]
    omega
theorem ML.small {a b : Int} {l : List Int} (h : ML a b l) : ∀ k : Int, 1 ≤ k → -k ≤ a → a ≤ k → b ≤ k → ∀ x ∈ l, -k ≤ x ∧ x ≤ k := by
  induction h with
  | nil a => intro k _ _ _ _ x hx; cases hx
  | @cons a b l hb _ ih =>
    intro k hk h1 h2 h3 x hx
    have u := up_spec (a := a) hb
    rcases List.mem_cons.mp hx with e | e
    · rw [e]; exact up_small hb hk h1 h2
    · exact ih k hk (by omega) h3 (by omega) x e
theorem ML.two {a b : Int} {l : List Int} (h : ML a b l) : b < a → ∀ x ∈ l, 2 ≤ x := by
  induction h with
  | nil a => intro _ x hx; cases hx
  | @cons a b l hb _ ih =>
    intro h x hx
    have u := up_spec (a := a) hb
    rcases List.mem_cons.mp hx with e | e
    · rw [e]
      refine Int.not_lt.mp fun z => ?_
      have : up a b * b ≤ 1 * b := Int.mul_le_mul_of_nonneg_right (by omega) (by omega)
      omega
    · exact ih (by omega) x e
theorem ML.tail {a b x : Int} {l : List Int} (h : ML a b (x :: l)) : ∀ y ∈ l, 2 ≤ y := by
  cases h with
  | cons hb h => exact h.two (up_spec hb).2
theorem ML.ne {a b : Int} {l : List Int} (h : ML a b l) (hb : 0 < b) : l ≠ [] := by
  cases h with
  | nil => omega
  | cons => exact List.cons_ne_nil _ _
theorem ML.uniq {a b : Int} {l : List Int} (h : ML a b l) : ∀ l', ML a b l' → l = l' := by
  induction h with
  | nil a =>
    intro l' h'
    cases h' with
    | nil => rfl
    | cons hb _ => exact absurd hb (by decide)
  | @cons a b l hb _ ih =>
    intro l' h'
    cases h' with
    | nil => exact absurd hb (by decide)
    | cons _ h' => rw [ih _ h']
theorem ML.col {a b : Int} {l : List Int} (h : ML a b l) : (b = 0 → 0 < a) → (∃ x y, a * x + b * y = 1) → pt l (1, 0) = (a, b) := by
  induction h with
  | nil a =>
    intro h0 ⟨x, y, e⟩
    have h0 := h0 rfl
    have e : a * x = 1 := by omega
    have ha : a = 1 := by
      have hx : 0 < x := by
        refine Int.not_le.mp fun z => ?_
        have := Int.mul_nonpos_of_nonneg_of_nonpos (Int.le_of_lt h0) z
        omega
      have h1 : 1 * x ≤ a * x := Int.mul_le_mul_of_nonneg_right (by omega) (by omega)
      have hx1 : x = 1 := by omega
      rw [hx1] at e
      omega
    rw [ha]
    rfl
  | @cons a b l hb _ ih =>
    intro _ ⟨x, y, e⟩
    have u := up_spec (a := a) hb
    have := ih (fun _ => hb) ⟨up a b * x + y, -x, by generalize up a b = m; grind⟩
    show ptS (up a b) (pt l (1, 0)) = _
    rw [this]
    unfold ptS
    refine Prod.ext ?_ rfl
    dsimp only
    omega
/-- a list is the one told -/
theorem ML.of : ∀ l : List Int, l ≠ [] → (∀ x ∈ l.drop 1, 2 ≤ x) → 0 < (pt l (1, 0)).2 ∧ ML (pt l (1, 0)).1 (pt l (1, 0)).2 l ∧ ((∀ x ∈ l, 2 ≤ x) → (pt l (1, 0)).2 < (pt l (1, 0)).1)
  | [], h, _ => absurd rfl h
  | [n], _, _ => by
    have e : pt [n] (1, 0) = (n, 1) := by
      show (n * 1 - 0, 1) = _
      refine Prod.ext ?_ rfl
      dsimp only
      omega
    rw [e]
    refine ⟨Int.one_pos, ?_, fun h => by have := h n List.mem_cons_self; show 1 < n; omega⟩
    have hu : up n 1 = n := up_uniq (by decide) (by omega) (by omega)
    have h2 : ML n 1 (up n 1 :: []) := .cons (by decide) (by rw [hu, show n * 1 - n = 0 by omega]; exact .nil 1)
    rw [hu] at h2
    exact h2
  | n :: m :: l, _, h => by
    have hm : ∀ x ∈ m :: l, 2 ≤ x := h
    obtain ⟨i1, i2, i3⟩ := ML.of (m :: l) (List.cons_ne_nil _ _) fun x hx => hm x (List.mem_cons_of_mem _ hx)
    have i3 := i3 hm
    show 0 < (ptS n (pt (m :: l) (1, 0))).2 ∧ ML (ptS n (pt (m :: l) (1, 0))).1 (ptS n (pt (m :: l) (1, 0))).2 (n :: m :: l) ∧ (_ → (ptS n (pt (m :: l) (1, 0))).2 < (ptS n (pt (m :: l) (1, 0))).1)
    generalize pt (m :: l) (1, 0) = v at *
    obtain ⟨P, R⟩ := v
    dsimp only at i1 i2 i3
    show 0 < P ∧ ML (n * P - R) P (n :: m :: l) ∧ (_ → P < n * P - R)
    have hP : 0 < P := by omega
    have hu : up (n * P - R) P = n := up_uniq hP (by omega) (by omega)
    refine ⟨hP, ?_, fun h => ?_⟩
    · have : ML (n * P - R) P (up (n * P - R) P :: m :: l) := .cons hP (by rw [hu, show n * P - (n * P - R) = R by omega]; exact i2)
      rw [hu] at this
      exact this
    · have hn := h n List.mem_cons_self
      have : 2 * P ≤ n * P := Int.mul_le_mul_of_nonneg_right hn (by omega)
      omega
/-! ### what is told of a table -/
structure Told (m : M4) (k : Int) (l : List Int) : Prop where
  sign : k = 1 ∨ k = -1
  ne : l ≠ []
  mid : ∀ x ∈ (l.drop 1).dropLast, 2 ≤ x
  eq : (tb l).sg k = m
theorem list_snoc {α : Type} (l : List α) (h : l ≠ []) : ∃ i x, l = i ++ [x] := ⟨l.dropLast, l.getLast h, (List.dropLast_concat_getLast h).symm⟩
theorem put_last (t : List Int) (c : Int) : (tb (t ++ [c])).q = -(pt t (1, 0)).1 ∧ (tb (t ++ [c])).s = -(pt t (1, 0)).2 := by
  rw [tb_snoc, tb_cols t]
  exact ⟨rfl, rfl⟩
theorem mid_init {t : List Int} {c : Int} (h : ∀ x ∈ ((t ++ [c]).drop 1).dropLast, 2 ≤ x) : ∀ x ∈ t.drop 1, 2 ≤ x := by
  intro x hx
  cases t with
  | nil => cases hx
  | cons y t =>
    refine h x ?_
    show x ∈ (t ++ [c]).dropLast
    rw [List.dropLast_concat]
    exact hx
theorem one_table (c : Int) : tb [c] = ⟨c, -1, 1, 0⟩ := by
  show (⟨1 * c + 0, -1, 0 * c + 1, -0⟩ : M4) = _
  simp
theorem Told.uniq {m : M4} {k k' : Int} {l l' : List Int} (h : Told m k l) (h' : Told m k' l') : k = k' ∧ l = l' := by
  obtain ⟨t, c, rfl⟩ := list_snoc l h.ne
  obtain ⟨t', c', rfl⟩ := list_snoc l' h'.ne
  have e := h.eq
  have e' := h'.eq
  have hk := h.sign
  have hk' := h'.sign
  have p1 := put_last t c
  have p2 := put_last t' c'
  have m1 := mid_init h.mid
  have m2 := mid_init h'.mid
  have hs : k * (tb (t ++ [c])).s = k' * (tb (t' ++ [c'])).s := by
    have := congrArg M4.s (e.trans e'.symm)
    exact this
  have hq : k * (tb (t ++ [c])).q = k' * (tb (t' ++ [c'])).q := congrArg M4.q (e.trans e'.symm)
  have hr : k * (tb (t ++ [c])).r = k' * (tb (t' ++ [c'])).r := congrArg M4.r (e.trans e'.symm)
  have hp : k * (tb (t ++ [c])).p = k' * (tb (t' ++ [c'])).p := congrArg M4.p (e.trans e'.symm)
  rw [p1.2, p2.2] at hs
  rw [p1.1, p2.1] at hq
  have z : ∀ t : List Int, t ≠ [] → (∀ x ∈ t.drop 1, 2 ≤ x) → 0 < (pt t (1, 0)).2 := fun t a b => (ML.of t a b).1
  have z0 : (pt [] (1, 0)).2 = 0 := rfl
  have hkk : k = k' ∧ t = t' := by
    by_cases ht : t = []
    · subst ht
      by_cases ht' : t' = []
      · subst ht'
        have r1 : (tb ([] ++ [c])).r = 1 := by rw [List.nil_append, one_table]
        have r2 : (tb ([] ++ [c'])).r = 1 := by rw [List.nil_append, one_table]
        rw [r1, r2] at hr
        exact ⟨by omega, rfl⟩
      · have := z t' ht' m2
        rw [z0] at hs
        rcases hk' with rfl | rfl <;> omega
    · have h1 := z t ht m1
      by_cases ht' : t' = []
      · subst ht'
        rw [z0] at hs
        rcases hk with rfl | rfl <;> omega
      · have h2 := z t' ht' m2
        have ek : k = k' := by rcases hk with rfl | rfl <;> rcases hk' with rfl | rfl <;> omega
        refine ⟨ek, ?_⟩
        subst ek
        have a1 := (ML.of t ht m1).2.1
        have a2 := (ML.of t' ht' m2).2.1
        have q1 : (pt t (1, 0)).1 = (pt t' (1, 0)).1 := by rcases hk with rfl | rfl <;> omega
        have q2 : (pt t (1, 0)).2 = (pt t' (1, 0)).2 := by rcases hk with rfl | rfl <;> omega
        rw [q1, q2] at a1
        exact a1.uniq _ a2
  obtain ⟨rfl, rfl⟩ := hkk
  refine ⟨rfl, ?_⟩
  have g : (tb t).go c = (tb t).go c' := by
    rw [← tb_snoc, ← tb_snoc]
    cases e1 : tb (t ++ [c])
    cases e2 : tb (t ++ [c'])
    have hs' := congrArg M4.s (e.trans e'.symm)
    have hq' := congrArg M4.q (e.trans e'.symm)
    rw [e1] at hp hr hs' hq'
    rw [e2] at hp hr hs' hq'
    dsimp only [M4.sg] at *
    rcases hk with rfl | rfl
    · rw [M4.mk.injEq]; omega
    · rw [M4.mk.injEq]; omega
  have hd := tb_det t
  unfold M4.det at hd
  have g1 := congrArg M4.p g
  have g2 := congrArg M4.r g
  unfold M4.go at g1 g2
  dsimp only at g1 g2
  have d1 : (tb t).p * (c - c') = 0 := by rw [Int.mul_sub]; omega
  have d2 : (tb t).r * (c - c') = 0 := by rw [Int.mul_sub]; omega
  have : c - c' = 0 := by
    have h3 : ((tb t).p * (tb t).s - (tb t).q * (tb t).r) * (c - c') = 0 := by
      have h4 : ((tb t).p * (tb t).s - (tb t).q * (tb t).r) * (c - c') = (tb t).s * ((tb t).p * (c - c')) - (tb t).q * ((tb t).r * (c - c')) := by grind
      rw [h4, d1, d2]
      simp
    rw [hd, Int.one_mul] at h3
    exact h3
  rw [show c = c' by omega]
/-- the list told of a table with a last number not nought -/
theorem Told.of {m : M4} {k : Int} {t : List Int} (hd : m.det = 1) (hk : k = 1 ∨ k = -1) (hs : 0 < -k * m.s) (h : ML (-k * m.q) (-k * m.s) t) : Told m k (t ++ [k * ((tb t).s * m.p - (tb t).q * m.r)]) := by
  unfold M4.det at hd
  have hc := h.col (fun z => by omega) ⟨k * m.r, -k * m.p, by rcases hk with rfl | rfl <;> grind⟩
  have hne := h.ne hs
  have ht := tb_det t
  have hcol := tb_cols t
  refine ⟨hk, by simp, ?_, ?_⟩
  · cases t with
    | nil => exact absurd rfl hne
    | cons x t =>
      intro y hy
      have e : ((x :: t ++ [k * ((tb (x :: t)).s * m.p - (tb (x :: t)).q * m.r)]).drop 1).dropLast = t := List.dropLast_concat
      rw [e] at hy
      exact h.tail y hy
  · rw [tb_snoc]
    have e1 : (tb t).p = -k * m.q := by rw [hcol, hc]
    have e2 : (tb t).r = -k * m.s := by rw [hcol, hc]
    unfold M4.det at ht
    generalize tb t = T at *
    obtain ⟨P, Q, R, S⟩ := T
    obtain ⟨p, q, r, s⟩ := m
    unfold M4.go M4.sg
    dsimp only at *
    subst e1 e2
    rw [M4.mk.injEq]
    rcases hk with rfl | rfl <;> refine ⟨?_, ?_, ?_, ?_⟩ <;> grind
theorem Told.zero {m : M4} (hd : m.det = 1) (hs : m.s = 0) : Told m m.r [m.r * m.p] := by
  unfold M4.det at hd
  obtain ⟨p, q, r, s⟩ := m
  dsimp only at *
  subst hs
  have h1 : q * r = -1 := by omega
  have hr : r = 1 ∨ r = -1 := by
    have h2 : r ∣ 1 := ⟨-q, by grind⟩
    rcases Int.natAbs_dvd_natAbs.mpr h2 with ⟨z, hz⟩
    have : r.natAbs = 1 := Nat.eq_one_of_mul_eq_one_right hz.symm
    omega
  refine ⟨hr, by simp, fun x hx => (by cases hx), ?_⟩
  rw [one_table]
  unfold M4.sg
  dsimp only
  rw [M4.mk.injEq]
  rcases hr with rfl | rfl <;> refine ⟨?_, ?_, ?_, ?_⟩ <;> omega
/-! ### bounds -/
def K0 : Nat := 12000
def lowV (k : Nat) (v : Int × Int) : Prop := v.1.natAbs ≤ 2 ^ k ∧ v.2.natAbs ≤ 2 ^ k
theorem put_low (k : Nat) : ∀ (t : List Int) (v : Int × Int), (∀ x ∈ t, x.natAbs < 1024) → lowV k v → lowV (k + 11 * t.length) (pt t v)
  | [], v, _, h => h
  | n :: t, v, hx, h => by
    have ih := put_low k t v (fun x hx' => hx x (List.mem_cons_of_mem _ hx')) h
    have hn := hx n List.mem_cons_self
    show lowV _ (ptS n (pt t v))
    unfold lowV ptS at *
    generalize pt t v = u at *
    obtain ⟨a, b⟩ := u
    dsimp only at *
    rw [List.length_cons, show k + 11 * (t.length + 1) = k + 11 * t.length + 11 by omega, Nat.pow_add]
    generalize 2 ^ (k + 11 * t.length) = P at *
    have h1 : (n * a).natAbs ≤ 1024 * P := by
      rw [Int.natAbs_mul]
      exact Nat.mul_le_mul (by omega) ih.1
    have h2 : (2 : Nat) ^ 11 = 2048 := by decide
    rw [h2]
    omega
structure Okl (l : List Int) : Prop where
  len : l.length ≤ 1001
  init : ∀ x ∈ l.dropLast, x.natAbs < 1024
  all : ∀ x ∈ l, x.natAbs < 2 ^ K0
theorem Okl.of {l : List Int} (h : l.length ≤ 1001) (h2 : ∀ x ∈ l, x.natAbs < 1024) : Okl l := by
  refine ⟨h, fun x hx => h2 x (List.dropLast_subset l hx), fun x hx => Nat.lt_of_lt_of_le (h2 x hx) ?_⟩
  show 2 ^ 10 ≤ 2 ^ K0
  exact Nat.pow_le_pow_right (by decide) (by decide)
theorem Okl.low {l : List Int} (h : Okl l) {v : Int × Int} (h1 : v.1.natAbs ≤ 1) (h2 : v.2.natAbs ≤ 1) : lowV 24000 (pt l v) := by
  have mono : ∀ {a b : Nat} {u : Int × Int}, a ≤ b → lowV a u → lowV b u := fun hab hu => ⟨Nat.le_trans hu.1 (Nat.pow_le_pow_right (by decide) hab), Nat.le_trans hu.2 (Nat.pow_le_pow_right (by decide) hab)⟩
  by_cases e : l = []
  · subst e
    exact mono (a := 0) (by decide) ⟨h1, h2⟩
  · obtain ⟨t, c, rfl⟩ := list_snoc l e
    rw [put_app]
    have hc := h.all c (List.mem_append_right _ List.mem_cons_self)
    have ht : ∀ x ∈ t, x.natAbs < 1024 := fun x hx => h.init x (by rw [List.dropLast_concat]; exact hx)
    have hl := h.len
    rw [List.length_append] at hl
    have hl : t.length ≤ 1000 := by simpa using hl
    have hv : lowV (K0 + 1) (pt [c] v) := by
      show lowV _ (c * v.1 - v.2, v.1)
      unfold lowV
      dsimp only
      have h3 : (c * v.1).natAbs ≤ 2 ^ K0 * 1 := by
        rw [Int.natAbs_mul]
        exact Nat.mul_le_mul (Nat.le_of_lt hc) h1
      have h4 : 1 ≤ 2 ^ K0 := Nat.one_le_two_pow
      rw [Nat.pow_succ]
      generalize 2 ^ K0 = P at *
      omega
    refine mono ?_ (put_low (K0 + 1) t _ ht hv)
    have : K0 = 12000 := rfl
    omega
theorem Okl.drop {l : List Int} (h : Okl l) (n : Nat) : Okl (l.drop n) := by
  refine ⟨by rw [List.length_drop]; have := h.len; omega, fun x hx => h.init x ?_, fun x hx => h.all x (List.mem_of_mem_drop hx)⟩
  by_cases hn : n < l.length
  · have : l.dropLast.drop n = (l.drop n).dropLast := by
      rw [List.dropLast_eq_take, List.dropLast_eq_take, List.drop_take, List.length_drop]
      congr 1
      omega
    rw [← this] at hx
    exact List.mem_of_mem_drop hx
  · rw [List.drop_of_length_le (by omega)] at hx
    cases hx
theorem Okl.take {l : List Int} (h : Okl l) (n : Nat) : Okl (l.take n) := by
  refine ⟨by rw [List.length_take]; have := h.len; omega, fun x hx => h.init x ?_, fun x hx => h.all x (List.mem_of_mem_take hx)⟩
  rw [List.dropLast_eq_take, List.take_take] at hx
  rw [List.dropLast_eq_take]
  have e : min ((l.take n).length - 1) n ≤ l.length - 1 := by rw [List.length_take]; omega
  have : l.take (min ((l.take n).length - 1) n) = (l.take (l.length - 1)).take (min ((l.take n).length - 1) n) := by rw [List.take_take, Nat.min_eq_left e]
  rw [this] at hx
  exact List.mem_of_mem_take hx
theorem low_log {k : Nat} {v : Int × Int} (h : lowV k v) : v.1.natAbs.log2 ≤ k ∧ v.2.natAbs.log2 ≤ k := by
  have key : ∀ x : Nat, x ≤ 2 ^ k → x.log2 ≤ k := fun x hx => Nat.le_of_lt_succ (lg_lt (Nat.lt_of_le_of_lt hx (Nat.pow_lt_pow_right (by decide) (Nat.lt_succ_self k))) (Nat.succ_pos k))
  exact ⟨key _ h.1, key _ h.2⟩
theorem all_log {x : Int} (h : x.natAbs < 2 ^ K0) : x.natAbs.log2 < K0 := lg_lt h (by decide)
end Minus

/-! LandX: turnings of rings; rings read backwards; the contrary ring and its table. -/
namespace LandM
open DL
def RT {α : Type} (a b : List α) : Prop := ∃ k, k < b.length ∧ rot b k = a
theorem rot_zero {α : Type} (l : List α) : rot l 0 = l := by unfold rot; simp
theorem rot_rot {α : Type} {l : List α} {k j : Nat} (hk : k < l.length) (hj : j < l.length) : rot (rot l k) j = rot l ((k + j) % l.length) := by
  have h0 : 0 < l.length := by omega
  have hm : (k + j) % l.length < l.length := Nat.mod_lt _ h0
  have l1 := rot_len l k (by omega)
  have l2 := rot_len (rot l k) j (by omega)
  have l3 := rot_len l ((k + j) % l.length) (by omega)
  refine List.ext_getElem? fun i => ?_
  by_cases hi : i < l.length
  · rw [rot_get _ _ _ (by omega) (by omega), l1, rot_get _ _ _ hk (Nat.mod_lt _ h0), rot_get _ _ _ hm hi, Nat.mod_add_mod, Nat.add_mod_mod]
    congr 2
    omega
  · rw [List.getElem?_eq_none (by omega), List.getElem?_eq_none (by omega)]
theorem RT.len {α : Type} {a b : List α} (h : RT a b) : a.length = b.length := by
  obtain ⟨k, hk, rfl⟩ := h
  exact rot_len b k (by omega)
theorem RT.refl {α : Type} {a : List α} (h : 0 < a.length) : RT a a := ⟨0, h, rot_zero a⟩
theorem RT.pos {α : Type} {a b : List α} (h : RT a b) : 0 < b.length := by obtain ⟨k, hk, _⟩ := h; omega
theorem RT.trans {α : Type} {a b c : List α} (h : RT a b) (h' : RT b c) : RT a c := by
  have h0 := h'.pos
  obtain ⟨k, hk, rfl⟩ := h
  have hl := h'.len
  obtain ⟨j, hj, rfl⟩ := h'
  exact ⟨(j + k) % c.length, Nat.mod_lt _ h0, (rot_rot hj (by omega)).symm⟩
theorem RT.symm {α : Type} {a b : List α} (h : RT a b) : RT b a := by
  have h0 := h.pos
  have hl := h.len
  obtain ⟨k, hk, rfl⟩ := h
  by_cases e : k = 0
  · subst e
    rw [rot_zero]
    exact .refl h0
  · refine ⟨b.length - k, by omega, ?_⟩
    rw [rot_rot hk (by omega), show k + (b.length - k) = b.length by omega, Nat.mod_self, rot_zero]
theorem RT.rev {α : Type} {a b : List α} (h : RT a b) : RT a.reverse b.reverse := by
  have h0 := h.pos
  obtain ⟨k, hk, rfl⟩ := h
  by_cases e : k = 0
  · subst e
    rw [rot_zero]
    exact .refl (by rw [List.length_reverse]; exact h0)
  · refine ⟨b.length - k, by rw [List.length_reverse]; omega, ?_⟩
    have e1 : b.reverse = (b.drop k).reverse ++ (b.take k).reverse := by rw [← List.reverse_append, List.take_append_drop]
    have e2 : (b.drop k).reverse.length = b.length - k := by rw [List.length_reverse, List.length_drop]
    unfold rot
    rw [e1, ← e2, List.drop_left, List.take_left, List.reverse_append]
/-! ### least turnings of rings -/
def LeastI (l m : List Int) : Prop := RT m l ∧ ∀ x, RT x l → ¬ x < m
theorem LeastI.same {a b m n : List Int} (h : LeastI a m) (h' : LeastI b n) : m = n ↔ RT a b := by
  constructor
  · rintro rfl
    exact h.1.symm.trans h'.1
  · intro e
    have h1 : ¬ m < n := h'.2 m (h.1.trans e)
    have h2 : ¬ n < m := h.2 n (h'.1.trans e.symm)
    exact List.le_antisymm h2 h1
theorem ltDs_ints : ∀ a b : List Int, ltDs (a.map D.int) (b.map D.int) = decide (a < b)
  | a, [] => by
    cases a <;> simp [ltDs]
  | [], y :: b => by simp [ltDs]
  | x :: a, y :: b => by
    rw [List.map_cons, List.map_cons, ltDs, eqD_int_int, ltDs_ints a b, ltD]
    by_cases e : x = y
    · subst e
      simp [List.cons_lt_cons_iff]
    · simp [e, List.cons_lt_cons_iff]
/-! ### rings read backwards -/
theorem landOf_cons (x : Int) (t : List Int) : landOf (x :: t) = 111 :: (List.replicate (x - 2).toNat 105 ++ landOf t) := rfl
theorem landOf_app (a b : List Int) : landOf (a ++ b) = landOf a ++ landOf b := by
  unfold landOf
  rw [List.map_append, List.flatten_append]
theorem landOf_rev : ∀ r : List Int, landOf r.reverse ++ [111] = 111 :: (landOf r).reverse
  | [] => rfl
  | x :: t => by
    have ih := landOf_rev t
    have e : landOf [x] = 111 :: List.replicate (x - 2).toNat 105 := by rw [landOf_cons]; show 111 :: (_ ++ []) = _; rw [List.append_nil]
    rw [List.reverse_cons, landOf_app, e, landOf_cons, List.append_assoc, show (111 :: List.replicate (x - 2).toNat 105) ++ [111] = [111] ++ (List.replicate (x - 2).toNat 105 ++ [111]) from rfl, ← List.append_assoc, ih]
    simp [List.reverse_append, List.reverse_replicate]
theorem landOf_rev_turn {r : List Int} (h : r ≠ []) : isTurn (landOf r.reverse) (landOf r).reverse := by
  cases r with
  | nil => exact absurd rfl h
  | cons x t =>
    have e := landOf_rev (x :: t)
    obtain ⟨b, hb⟩ : ∃ b, landOf (x :: t) = 111 :: b := ⟨_, landOf_cons x t⟩
    rw [hb] at e ⊢
    have e1 : landOf (x :: t).reverse ++ [111] = (111 :: b.reverse) ++ [111] := e.trans (by rw [List.reverse_cons]; rfl)
    have e2 : landOf (x :: t).reverse = 111 :: b.reverse := List.append_cancel_right e1
    rw [e2, List.reverse_cons]
    exact ⟨b.reverse.length, by rw [List.length_append]; exact Nat.lt_succ_self _, turn_snoc _ _⟩
theorem split_i (m : Nat) (l p : List Nat) (ps : List (List Nat)) (h : splitC 111 l = p :: ps) : splitC 111 (List.replicate m 105 ++ l) = (List.replicate m 105 ++ p) :: ps := by
  induction m with
  | zero => exact h
  | succ m ih =>
    rw [List.replicate_succ, List.cons_append, splitC, if_neg (by decide), ih]
    rfl
theorem split_landOf : ∀ r : List Int, splitC 111 (landOf r) = [] :: r.map fun x => List.replicate (x - 2).toNat 105
  | [] => rfl
  | x :: t => by
    rw [landOf_cons, splitC, if_pos rfl, split_i _ _ _ _ (split_landOf t), List.append_nil]
    rfl
theorem rim_landOf {r : List Int} (h : ∀ x ∈ r, 2 ≤ x) (h0 : r ≠ []) : rim (landOf r) 111 = r := by
  have e : fstIx 111 (landOf r) = 0 := by
    cases r with
    | nil => exact absurd rfl h0
    | cons x t => rw [landOf_cons]; rfl
  unfold rim
  rw [e, turn_zero, split_landOf, List.drop_one, List.tail_cons, List.map_map]
  refine (List.map_congr_left fun x hx => ?_).trans (List.map_id r)
  show 2 + ((List.replicate (x - 2).toNat 105).length : Int) = x
  have := h x hx
  rw [List.length_replicate]
  omega
theorem rim_pos {l : List Nat} (w : Word l) {s : Nat} (hs : Sign s) : 0 < (rim l s).length := by
  have h1 := rim_len w hs
  have h2 := many_pos w hs
  omega
theorem rim_isTurn {a b : List Nat} (w : Word b) {s : Nat} (hs : Sign s) (h : isTurn a b) : RT (rim a s) (rim b s) := by
  obtain ⟨k, hk, rfl⟩ := h
  obtain ⟨j, hj, e⟩ := rim_turn w hs (p := k) (by omega)
  exact ⟨j, hj, e.symm⟩
theorem rev_isTurn {a b : List Nat} (h : isTurn a b) : isTurn a.reverse b.reverse := RT.rev (a := a) (b := b) h
theorem Word.rev {l : List Nat} (w : Word l) : Word l.reverse := ⟨fun x hx => w.all x (List.mem_reverse.mp hx), List.mem_reverse.mpr w.o, List.mem_reverse.mpr w.i⟩
theorem rim_ge {l : List Nat} (w : Word l) {s : Nat} : ∀ x ∈ rim l s, 2 ≤ x := fun x hx => by
  obtain ⟨q, _, rfl⟩ := List.mem_map.mp hx
  omega
theorem rim_rev_o {l : List Nat} (w : Word l) : RT (rim l.reverse 111) (rim l 111).reverse := by
  have h0 := rim_pos w (.inl rfl) (s := 111)
  have hne : rim l 111 ≠ [] := List.length_pos_iff.mp h0
  have t1 : isTurn (landOf (rim l 111)) l := by
    rw [landOf_rim w]
    exact ⟨_, (fst_spec w.o).1, rfl⟩
  have t2 := landOf_rev_turn hne
  have t3 : isTurn (landOf (rim l 111).reverse) l.reverse := t2.trans (rev_isTurn t1)
  have h := rim_isTurn w.rev (.inl rfl) (s := 111) t3
  rw [rim_landOf (fun x hx => rim_ge w x (List.mem_reverse.mp hx)) (by simpa using hne)] at h
  exact h.symm
theorem rim_exg_i {l : List Nat} (w : Word l) : rim l 105 = rim (exg l) 111 := (exg_rim w (.inr rfl) (s := 105)).symm
theorem exg_rev (l : List Nat) : exg l.reverse = (exg l).reverse := List.map_reverse
theorem rim_rev_i {l : List Nat} (w : Word l) : RT (rim l.reverse 105) (rim l 105).reverse := by
  rw [rim_exg_i w.rev, rim_exg_i w, exg_rev]
  exact rim_rev_o (exg_word w)
/-- a plain ring that comes from a land -/
structure Pl (r : List Int) : Prop where
  two : ∀ x ∈ r, 2 ≤ x
  ne : r ≠ []
  pos : 0 < r.sum - 2 * r.length
theorem Pl.word {r : List Int} (h : Pl r) : Word (landOf r) := landOf_word h.two (by have := h.pos; omega)
def contrary (r : List Int) : List Int := (rim (landOf r) 105).reverse
theorem contrary_len {r : List Int} (h : Pl r) : ((contrary r).length : Int) = r.sum - 2 * r.length := by
  have w := h.word
  have h1 := rim_len w (.inr rfl) (s := 105)
  have h2 := rim_len w (.inl rfl) (s := 111)
  have h3 := many_add (landOf r)
  have h4 := landOf_len r h.two
  rw [rim_landOf h.two h.ne] at h2
  unfold contrary
  rw [List.length_reverse]
  omega
theorem contrary_sum {r : List Int} (h : Pl r) : (contrary r).sum - 2 * (contrary r).length = r.length := by
  have w := h.word
  have h1 := rim_sum w (.inr rfl) (s := 105)
  have h4 := landOf_len r h.two
  have h5 := contrary_len h
  have e : (contrary r).sum = (rim (landOf r) 105).sum := List.sum_reverse _
  unfold contrary at h5 e ⊢
  rw [List.length_reverse] at h5 ⊢
  omega
theorem contrary_pl {r : List Int} (h : Pl r) : Pl (contrary r) := by
  have hl := List.length_pos_iff.mpr h.ne
  have h5 := contrary_len h
  have h6 := contrary_sum h
  have hp := h.pos
  refine ⟨fun x hx => rim_ge h.word x (List.mem_reverse.mp hx), List.length_pos_iff.mp (by omega), by omega⟩
theorem exg_isTurn {a b : List Nat} (h : isTurn a b) : isTurn (exg a) (exg b) := by
  obtain ⟨k, hk, rfl⟩ := h
  exact ⟨k, by rw [exg_len]; exact hk, (exg_turn b k).symm⟩
theorem contrary_back {r : List Int} (h : Pl r) : RT (contrary (contrary r)) r := by
  have w := h.word
  have hi : rim (landOf r) 105 ≠ [] := List.length_pos_iff.mp (rim_pos w (.inr rfl))
  have t1 : isTurn (landOf (contrary r)) (landOf (rim (landOf r) 105)).reverse := landOf_rev_turn hi
  rw [landOf_rim_i w] at t1
  have t2 : isTurn (exg (turn (landOf r) (fstIx 105 (landOf r)))) (exg (landOf r)) := exg_isTurn ⟨_, (fst_spec w.i).1, rfl⟩
  have t3 := t1.trans (rev_isTurn t2)
  have we := (exg_word w).rev
  have h1 := rim_isTurn we (.inr rfl) (s := 105) t3
  have h2 := h1.trans (rim_rev_i (exg_word w))
  rw [show rim (exg (landOf r)) 105 = rim (landOf r) 111 from exg_rim w (.inl rfl) (s := 111), rim_landOf h.two h.ne] at h2
  have h3 := h2.rev
  rw [List.reverse_reverse] at h3
  exact h3
/-! ### tables -/
open Minus (M4 tb pt)
def mul (a b : M4) : M4 := ⟨a.p * b.p + a.q * b.r, a.p * b.q + a.q * b.s, a.r * b.p + a.s * b.r, a.r * b.q + a.s * b.s⟩
theorem mul_assoc' (a b c : M4) : mul (mul a b) c = mul a (mul b c) := by
  unfold mul
  dsimp only
  rw [M4.mk.injEq]
  refine ⟨?_, ?_, ?_, ?_⟩ <;> grind
def I4 : M4 := ⟨1, 0, 0, 1⟩
theorem mul_one' (a : M4) : mul a I4 = a := by
  unfold mul I4
  simp
theorem one_mul' (a : M4) : mul I4 a = a := by
  unfold mul I4
  simp
def Mn (n : Int) : M4 := ⟨n, -1, 1, 0⟩
def U4 : M4 := ⟨1, 1, 0, 1⟩
theorem go_mul (m : M4) (n : Int) : m.go n = mul m (Mn n) := by
  unfold M4.go mul Mn
  dsimp only
  rw [M4.mk.injEq]
  omega
theorem tb_fold (l : List Int) (m : M4) : l.foldl M4.go m = mul m (tb l) := by
  induction l generalizing m with
  | nil => exact (mul_one' m).symm
  | cons n l ih =>
    show l.foldl M4.go (m.go n) = mul m (l.foldl M4.go (M4.go ⟨1, 0, 0, 1⟩ n))
    rw [ih, ih, go_mul, go_mul, show (⟨1, 0, 0, 1⟩ : M4) = I4 from rfl, one_mul', mul_assoc']
theorem tb_cons (n : Int) (l : List Int) : tb (n :: l) = mul (Mn n) (tb l) := by
  show l.foldl M4.go (M4.go I4 n) = _
  rw [tb_fold, go_mul, one_mul']
theorem tb_snoc' (l : List Int) (n : Int) : tb (l ++ [n]) = mul (tb l) (Mn n) := by rw [Minus.tb_snoc, go_mul]
def flp (m : M4) : M4 := ⟨m.p, -m.r, -m.q, m.s⟩
theorem flp_mul (a b : M4) : flp (mul a b) = mul (flp b) (flp a) := by
  unfold flp mul
  dsimp only
  rw [M4.mk.injEq]
  refine ⟨?_, ?_, ?_, ?_⟩ <;> grind
theorem tb_rev : ∀ l : List Int, tb l.reverse = flp (tb l)
  | [] => rfl
  | n :: l => by
    rw [List.reverse_cons, tb_snoc', tb_rev l, tb_cons, flp_mul]
    rfl
/-- the table of a word: o is the turn by 2, i adds one to a number -/
def ph (l : List Nat) : M4 := l.foldr (fun c m => mul (if c = 111 then Mn 2 else U4) m) I4
theorem ph_cons (c : Nat) (l : List Nat) : ph (c :: l) = mul (if c = 111 then Mn 2 else U4) (ph l) := rfl
theorem ph_app (a b : List Nat) : ph (a ++ b) = mul (ph a) (ph b) := by
  induction a with
  | nil => exact (one_mul' _).symm
  | cons c a ih => rw [List.cons_append, ph_cons, ph_cons, ih, mul_assoc']
theorem ph_i (m : Nat) : ph (List.replicate m 105) = ⟨1, m, 0, 1⟩ := by
  induction m with
  | zero => rfl
  | succ m ih =>
    rw [List.replicate_succ, ph_cons, ih]
    unfold mul U4
    rw [if_neg (by decide)]
    dsimp only
    rw [M4.mk.injEq]
    omega
theorem ph_o (m : Nat) : ph (List.replicate m 111) = ⟨1 + m, -m, m, 1 - m⟩ := by
  induction m with
  | zero => rfl
  | succ m ih =>
    rw [List.replicate_succ, ph_cons, ih]
    unfold mul Mn
    rw [if_pos rfl]
    dsimp only
    rw [M4.mk.injEq]
    omega
theorem ph_land : ∀ r : List Int, (∀ x ∈ r, 2 ≤ x) → mul (Mn 2) (tb r) = mul (ph (landOf r)) (Mn 2)
  | [], _ => rfl
  | x :: t, h => by
    have ih := ph_land t fun y hy => h y (List.mem_cons_of_mem _ hy)
    have hx := h x List.mem_cons_self
    have e : Mn x = mul ⟨1, ((x - 2).toNat : Nat), 0, 1⟩ (Mn 2) := by
      unfold Mn mul
      dsimp only
      rw [M4.mk.injEq]
      omega
    rw [landOf_cons, ph_cons, if_pos rfl, ph_app, ph_i, tb_cons, e, mul_assoc', mul_assoc', mul_assoc', ih, ← mul_assoc' (⟨1, _, 0, 1⟩ : M4)]
def P4 : M4 := ⟨1, 0, 1, -1⟩
theorem ph_exg (l : List Nat) (h : ∀ x ∈ l, x = 111 ∨ x = 105) : ph (exg l) = mul P4 (mul (ph l) P4) := by
  induction l with
  | nil => rfl
  | cons c l ih =>
    have ih := ih fun y hy => h y (List.mem_cons_of_mem _ hy)
    show mul (if 216 - c = 111 then Mn 2 else U4) (ph (exg l)) = mul P4 (mul (mul (if c = 111 then Mn 2 else U4) (ph l)) P4)
    rw [ih]
    generalize ph l = m
    unfold mul P4 Mn U4
    rcases h c List.mem_cons_self with rfl | rfl
    · rw [if_neg (by decide), if_pos rfl]
      dsimp only
      rw [M4.mk.injEq]
      omega
    · rw [if_pos (by decide), if_neg (by decide)]
      dsimp only
      rw [M4.mk.injEq]
      omega
/-- what is in front of the first i -/
theorem front_o {l : List Nat} (w : Word l) : l = List.replicate (fstIx 105 l) 111 ++ l.drop (fstIx 105 l) := by
  obtain ⟨h1, _, h3⟩ := fst_spec w.i
  conv => lhs; rw [← List.take_append_drop (fstIx 105 l) l]
  congr 1
  refine List.eq_replicate_iff.mpr ⟨by rw [List.length_take]; omega, fun x hx => ?_⟩
  obtain ⟨i, hi⟩ := List.getElem?_of_mem hx
  have hil := (List.getElem?_eq_some_iff.mp hi).1
  rw [List.length_take] at hil
  rw [List.getElem?_take, if_pos (by omega)] at hi
  rcases w.all x (List.mem_of_getElem? hi) with e | e
  · exact e
  · rw [e] at hi
    exact absurd hi (h3 i (by omega))
theorem front_turn {l d : List Nat} {k : Nat} (h : l = List.replicate k 111 ++ d) : mul (ph (List.replicate k 111)) (ph (turn l k)) = mul (ph l) (ph (List.replicate k 111)) := by
  subst h
  unfold turn
  have hl : (List.replicate k 111 : List Nat).length = k := List.length_replicate
  rw [List.drop_left' hl, List.take_left' hl, ph_app, ph_app, mul_assoc']
def gOf (a : Nat) : M4 := ⟨-1, a + 1, -1, a⟩
def undo (m : M4) : M4 := ⟨m.s, -m.q, -m.r, m.p⟩
theorem lead_eq (a x y z w p q r s p' q' r' s' P Q R S : Int) (h1 : mul (Mn 2) ⟨p, q, r, s⟩ = mul ⟨P, Q, R, S⟩ (Mn 2)) (h2 : mul (Mn 2) ⟨p', q', r', s'⟩ = mul (mul P4 (mul ⟨x, y, z, w⟩ P4)) (Mn 2)) (h3 : mul ⟨1 + a, -a, a, 1 - a⟩ ⟨x, y, z, w⟩ = mul ⟨P, Q, R, S⟩ ⟨1 + a, -a, a, 1 - a⟩) : mul ⟨-1, a + 1, -1, a⟩ (flp ⟨p', q', r', s'⟩) = mul (undo ⟨p, q, r, s⟩) ⟨-1, a + 1, -1, a⟩ := by
  unfold mul Mn P4 flp undo at *
  dsimp only at *
  rw [M4.mk.injEq] at *
  obtain ⟨a1, a2, a3, a4⟩ := h1
  obtain ⟨b1, b2, b3, b4⟩ := h2
  obtain ⟨c1, c2, c3, c4⟩ := h3
  refine ⟨?_, ?_, ?_, ?_⟩ <;> grind
theorem lead_ok {r : List Int} (h : Pl r) : mul (gOf (fstIx 105 (landOf r))) (tb (contrary r)) = mul (undo (tb r)) (gOf (fstIx 105 (landOf r))) := by
  have w := h.word
  have e1 := ph_land r h.two
  have e2 := ph_land (rim (landOf r) 105) (rim_ge w)
  rw [landOf_rim_i w, ph_exg _ (w.turn _).all] at e2
  have e3 := front_turn (front_o w)
  rw [ph_o] at e3
  unfold contrary gOf
  rw [tb_rev]
  generalize tb (rim (landOf r) 105) = A at *
  generalize tb r = B at *
  generalize ph (turn (landOf r) (fstIx 105 (landOf r))) = C at *
  generalize ph (landOf r) = E at *
  obtain ⟨p', q', r', s'⟩ := A
  obtain ⟨p, q, r, s⟩ := B
  obtain ⟨x, y, z, t⟩ := C
  obtain ⟨P, Q, R, S⟩ := E
  exact lead_eq _ x y z t p q r s p' q' r' s' P Q R S e1 e2 e3
theorem trace_ok {r : List Int} (h : Pl r) : (tb (contrary r)).p + (tb (contrary r)).s = (tb r).p + (tb r).s := by
  have e := lead_ok h
  have d := Minus.tb_det r
  have d' := Minus.tb_det (contrary r)
  generalize ((fstIx 105 (landOf r) : Nat) : Int) = a at *
  unfold gOf mul undo at e
  unfold M4.det at d d'
  dsimp only at e
  rw [M4.mk.injEq] at e
  obtain ⟨c1, c2, c3, c4⟩ := e
  generalize tb r = A at *
  generalize tb (contrary r) = B at *
  generalize ((fstIx 105 (landOf r) : Nat) : Int) = a at *
  grind
end LandM

/-! Cmp2: comprehensions with a condition; with two fors. -/
namespace DL
theorem compL_flt {own : List Nat} {g : Gt} {t : T} {e : M} {Q : List D → S → Prop} {s : S} (ds acc0 : List D) (p : D → Bool) (f : D → D) (J : S → Prop) (hJ : J s) (hl : acc0.length + ds.length ≤ LINE)
    (h : ∀ d s, d ∈ ds → J s → ∀ (C : Prop) (K1 : D → S → Prop) (K2 : S → Prop), C → (p d = true → ∀ s', J s' → K1 (f d) s') → (p d = false → ∀ s', J s' → K2 s') → g d { s with v := puts s.v own .gone } fun s1 => t s1 fun c s2 => if c = true then e s2 fun x s3 => frz x fun y => C ∧ K1 y s3 else K2 s2)
    (he : ∀ s', J s' → Q (acc0 ++ (ds.filter p).map f) s') : compL own g t e ds acc0 s Q := by
  refine compL_ix ds acc0 s (fun k acc s => acc = acc0 ++ ((ds.take k).filter p).map f ∧ J s) ⟨by simp, hJ⟩ ?_ ?_
  · rintro k d acc s hd ⟨rfl, hj⟩ K hK
    obtain ⟨hk, hde⟩ := List.getElem?_eq_some_iff.mp hd
    have e1 : (ds.take (k + 1)).filter p = (ds.take k).filter p ++ [d].filter p := by
      rw [List.take_add_one, hd, List.filter_append]
      rfl
    have hf := List.length_filter_le p (ds.take k)
    rw [List.length_take] at hf
    refine h d s (List.mem_of_getElem? hd) hj ((acc0 ++ ((ds.take k).filter p).map f).length < LINE) (fun y s3 => K (acc0 ++ ((ds.take k).filter p).map f ++ [y]) s3) (fun s3 => K (acc0 ++ ((ds.take k).filter p).map f) s3) (by rw [List.length_append, List.length_map]; omega) (fun c s' hj' => hK _ _ ⟨?_, hj'⟩) fun c s' hj' => hK _ _ ⟨?_, hj'⟩
    · rw [e1, List.filter_cons, if_pos c, List.map_append, List.append_assoc]
      rfl
    · rw [e1, List.filter_cons, if_neg (by rw [c]; decide), List.filter_nil, List.append_nil]
  · rintro acc s' ⟨rfl, hj⟩
    rw [List.take_length]
    exact he s' hj
theorem compL2_all {own own1 : List Nat} {g g1 : Gt} {t t1 : T} {src1 : Src} {e : M} (row : D → List D) (B : Nat) (J : S → Prop) : ∀ (ds acc0 : List D) {Q : List D → S → Prop} {s : S}, J s → acc0.length + ds.length * B ≤ LINE → (∀ d, d ∈ ds → (row d).length ≤ B) →
    (∀ d s acc, d ∈ ds → J s → acc.length + B ≤ LINE → ∀ K : List D → S → Prop, (∀ s', J s' → K (acc ++ row d) s') → g d { s with v := puts s.v own .gone } fun s1 => t s1 fun c s2 => if c = true then src1 s2 fun es s3 => compL own1 g1 t1 e es acc s3 K else K acc s2) →
    (∀ s', J s' → Q (acc0 ++ ds.flatMap row) s') → compL2 own own1 g t src1 g1 t1 e ds acc0 s Q
  | [], acc0, Q, s, hJ, _, _, _, he => by
    have := he s hJ
    rw [List.flatMap_nil, List.append_nil] at this
    exact this
  | d :: r, acc0, Q, s, hJ, hl, hr, h, he => by
    rw [List.length_cons, Nat.succ_mul] at hl
    have hd := hr d List.mem_cons_self
    refine h d s acc0 List.mem_cons_self hJ (by omega) (fun acc s4 => compL2 own own1 g t src1 g1 t1 e r acc s4 Q) fun s' hj => ?_
    refine compL2_all row B J r (acc0 ++ row d) hj (by rw [List.length_append]; omega) (fun d hd => hr d (List.mem_cons_of_mem _ hd)) (fun d s acc hd => h d s acc (List.mem_cons_of_mem _ hd)) fun s' hj' => ?_
    have := he s' hj'
    rw [List.flatMap_cons, ← List.append_assoc] at this
    exact this
end DL

/-! Mir: words of two signs in order; those that are their own mirrors. -/
namespace LandM
theorem lt_app : ∀ {a b : List Nat} (x y : List Nat), a.length = b.length → a < b → a ++ x < b ++ y
  | [], [], _, _, _, h => absurd h (List.lt_irrefl _)
  | [], _ :: _, _, _, h, _ => by cases h
  | _ :: _, [], _, _, h, _ => by cases h
  | a :: as, b :: bs, x, y, hl, h => by
    rw [List.cons_lt_cons_iff] at h
    rw [List.cons_append, List.cons_append, List.cons_lt_cons_iff]
    rcases h with h | ⟨h1, h2⟩
    · exact .inl h
    · exact .inr ⟨h1, lt_app x y (by simpa using hl) h2⟩
theorem app_lt (a : List Nat) {x y : Nat} (h : x < y) : a ++ [x] < a ++ [y] := by
  induction a with
  | nil =>
    rw [List.nil_append, List.nil_append, List.cons_lt_cons_iff]
    exact .inl h
  | cons z a ih =>
    rw [List.cons_append, List.cons_append, List.cons_lt_cons_iff]
    exact .inr ⟨rfl, ih⟩
def stW (n m : Nat) (w : List Nat) : List (List Nat) := (if w.count 105 < m then [w ++ [105]] else []) ++ (if w.count 111 < n then [w ++ [111]] else [])
def stV (n m : Nat) (w : List Nat) : List (List Nat) := (if w.count 111 < n then [w ++ [111]] else []) ++ (if w.count 105 < m then [w ++ [105]] else [])
def WL (n m : Nat) : Nat → List (List Nat)
  | 0 => [[]]
  | k + 1 => (WL n m k).flatMap (stW n m)
def VL (n m : Nat) : Nat → List (List Nat)
  | 0 => [[]]
  | k + 1 => (VL n m k).flatMap (stV n m)
theorem stV_rev (n m : Nat) (w : List Nat) : stV n m w = (stW n m w).reverse := by
  unfold stV stW
  rw [List.reverse_append]
  split <;> split <;> rfl
theorem VL_rev (n m : Nat) : ∀ k, VL n m k = (WL n m k).reverse
  | 0 => rfl
  | k + 1 => by
    rw [VL, WL, VL_rev n m k]
    generalize WL n m k = l
    induction l with
    | nil => rfl
    | cons x l ih => rw [List.reverse_cons, List.flatMap_append, ih, List.flatMap_cons, List.flatMap_nil, List.append_nil, stV_rev, List.flatMap_cons, List.reverse_append]
theorem stW_mem {n m : Nat} {w v : List Nat} (h : v ∈ stW n m w) : v.length = w.length + 1 ∧ ∃ c, (c = 111 ∨ c = 105) ∧ v = w ++ [c] := by
  unfold stW at h
  rcases List.mem_append.mp h with h | h
  · split at h
    · rw [List.mem_singleton.mp h]
      exact ⟨by simp, 105, .inr rfl, rfl⟩
    · cases h
  · split at h
    · rw [List.mem_singleton.mp h]
      exact ⟨by simp, 111, .inl rfl, rfl⟩
    · cases h
theorem WL_mem {n m : Nat} : ∀ {k : Nat} {w : List Nat}, w ∈ WL n m k → w.length = k ∧ ∀ x ∈ w, x = 111 ∨ x = 105
  | 0, w, h => by
    rw [List.mem_singleton.mp h]
    exact ⟨rfl, fun x hx => by cases hx⟩
  | k + 1, w, h => by
    obtain ⟨v, hv, hw⟩ := List.mem_flatMap.mp h
    obtain ⟨l, a⟩ := WL_mem hv
    obtain ⟨l2, c, hc, rfl⟩ := stW_mem hw
    refine ⟨by omega, fun x hx => ?_⟩
    rcases List.mem_append.mp hx with z | z
    · exact a x z
    · rw [List.mem_singleton.mp z]; exact hc
theorem stW_len (n m : Nat) (w : List Nat) : (stW n m w).length ≤ 2 := by
  unfold stW
  split <;> split <;> simp
theorem WL_len (n m : Nat) : ∀ k, (WL n m k).length ≤ 2 ^ k
  | 0 => Nat.le_refl 1
  | k + 1 => by
    have h := WL_len n m k
    rw [WL, Nat.pow_succ]
    generalize WL n m k = l at h
    have : (l.flatMap (stW n m)).length ≤ l.length * 2 := by
      clear h
      induction l with
      | nil => exact Nat.le_refl 0
      | cons x l ih =>
        rw [List.flatMap_cons, List.length_append, List.length_cons]
        have := stW_len n m x
        omega
    omega
theorem VL_mem {n m : Nat} {k : Nat} {w : List Nat} (h : w ∈ VL n m k) : w.length = k ∧ ∀ x ∈ w, x = 111 ∨ x = 105 := WL_mem (by rw [VL_rev] at h; exact List.mem_reverse.mp h)
theorem VL_len (n m : Nat) (k : Nat) : (VL n m k).length ≤ 2 ^ k := by
  rw [VL_rev, List.length_reverse]
  exact WL_len n m k
theorem stV_len (n m : Nat) (w : List Nat) : (stV n m w).length ≤ 2 := by
  rw [stV_rev, List.length_reverse]
  exact stW_len n m w
theorem WL_pw (n m : Nat) : ∀ k, (WL n m k).Pairwise (· < ·)
  | 0 => List.pairwise_singleton ..
  | k + 1 => by
    have hm : ∀ w ∈ WL n m k, w.length = k := fun w h => (WL_mem h).1
    have h := WL_pw n m k
    rw [WL]
    generalize WL n m k = l at h hm
    induction l with
    | nil => exact .nil
    | cons x l ih =>
      rw [List.flatMap_cons, List.pairwise_append]
      obtain ⟨h1, h2⟩ := List.pairwise_cons.mp h
      refine ⟨?_, ih h2 fun w hw => hm w (List.mem_cons_of_mem _ hw), fun a ha b hb => ?_⟩
      · unfold stW
        split <;> split
        · refine .cons (fun b hb => ?_) (List.pairwise_singleton ..)
          rw [List.mem_singleton.mp hb]
          exact app_lt x (by decide)
        · exact List.pairwise_singleton ..
        · exact List.pairwise_singleton ..
        · exact .nil
      · obtain ⟨v, hv, hb'⟩ := List.mem_flatMap.mp hb
        obtain ⟨_, c, _, rfl⟩ := stW_mem ha
        obtain ⟨_, d, _, rfl⟩ := stW_mem hb'
        exact lt_app _ _ (by rw [hm x List.mem_cons_self, hm v (List.mem_cons_of_mem _ hv)]) (h1 v hv)
theorem sorted_uniq : ∀ {a b : List (List Nat)}, a.Perm b → a.Pairwise (fun x y => ¬ y < x) → b.Pairwise (· < ·) → a = b
  | [], b, h, _, _ => h.nil_eq
  | x :: a, [], h, _, _ => by have := h.length_eq; cases this
  | x :: a, y :: b, h, h1, h2 => by
    obtain ⟨p1, p2⟩ := List.pairwise_cons.mp h1
    obtain ⟨q1, q2⟩ := List.pairwise_cons.mp h2
    have hx : x ∈ y :: b := h.mem_iff.mp List.mem_cons_self
    have hy : y ∈ x :: a := h.mem_iff.mpr List.mem_cons_self
    have e : x = y := by
      rcases List.mem_cons.mp hx with z | z
      · exact z
      · rcases List.mem_cons.mp hy with w | w
        · exact w.symm
        · exact absurd (q1 x z) (p1 y w)
    subst e
    rw [sorted_uniq h.cons_inv p2 q2]
/-! ### own mirrors -/
def ltB : List Nat → List Nat → Bool
  | _, [] => false
  | [], _ :: _ => true
  | a :: as, b :: bs => Nat.blt a b || (Nat.beq a b && ltB as bs)
theorem ltB_eq : ∀ a b : List Nat, ltB a b = decide (a < b)
  | [], [] => rfl
  | _ :: _, [] => by
    show false = _
    symm
    exact decide_eq_false (List.not_lt_nil _)
  | [], _ :: _ => by
    show true = _
    symm
    exact decide_eq_true (List.nil_lt_cons ..)
  | a :: as, b :: bs => by
    show (Nat.blt a b || (Nat.beq a b && ltB as bs)) = _
    rw [ltB_eq as bs, Bool.eq_iff_iff]
    simp only [Bool.or_eq_true, Bool.and_eq_true, decide_eq_true_eq, List.cons_lt_cons_iff]
    rw [Nat.blt_eq, show (Nat.beq a b = true) = (a = b) from propext ⟨Nat.eq_of_beq_eq_true, fun e => by rw [e]; exact Nat.beq_refl b⟩]
def leastC (l : List Nat) : Bool := (List.range l.length).all fun k => !ltB (turn l k) l
def turnC (a b : List Nat) : Bool := (List.range b.length).any fun k => turn b k == a
theorem turnC_eq (a b : List Nat) : turnC a b = true ↔ isTurn a b := by
  unfold turnC isTurn
  rw [List.any_eq_true]
  constructor
  · rintro ⟨k, hk, e⟩
    exact ⟨k, List.mem_range.mp hk, by simpa using e⟩
  · rintro ⟨k, hk, e⟩
    exact ⟨k, List.mem_range.mpr hk, by simpa using e⟩
theorem leastC_eq {l : List Nat} (h : 0 < l.length) : leastC l = true ↔ minOf l = l := by
  unfold leastC
  rw [List.all_eq_true]
  constructor
  · intro hk
    refine (minOf_eq h ⟨⟨0, h, turn_zero l⟩, ?_⟩).symm
    rintro _ ⟨k, hk', rfl⟩ hlt
    have := hk k (List.mem_range.mpr hk')
    rw [ltB_eq, decide_eq_true hlt] at this
    cases this
  · intro e k hk
    have := (minOf_least h).2 (turn l k) ⟨k, List.mem_range.mp hk, rfl⟩
    rw [e] at this
    rw [ltB_eq, decide_eq_false this]
    rfl
def mirL (n m : Nat) : List (List Nat) := (WL n m (n + m)).filter fun w => leastC w && turnC w.reverse w
theorem mirL_pw (n m : Nat) : (mirL n m).Pairwise (· < ·) := (WL_pw n m (n + m)).filter _
theorem mirL_few : ∀ n m : Fin 7, (mirL n.val m.val).length < 64 := by decide +kernel
theorem mirL_rev (n m : Nat) : (VL n m (n + m)).filter (fun w => leastC w && turnC w.reverse w) = (mirL n m).reverse := by
  rw [VL_rev, List.filter_reverse]
  rfl
end LandM

/-! Mir2: numbers of a rim counted sign by sign; the number of lands is small. -/
namespace LandM
open DL
theorem split_ne (s : Nat) : ∀ l : List Nat, splitC s l ≠ []
  | [] => by simp [splitC]
  | x :: r => by
    have := split_ne s r
    rw [splitC]
    split
    · simp
    · split <;> simp
theorem split_snoc (s c : Nat) : ∀ l : List Nat, ∃ A p, splitC s l = A ++ [p] ∧ splitC s (l ++ [c]) = if c = s then A ++ [p] ++ [[]] else A ++ [p ++ [c]]
  | [] => by
    refine ⟨[], [], rfl, ?_⟩
    rw [List.nil_append, splitC]
    split <;> rfl
  | x :: r => by
    obtain ⟨A, p, h1, h2⟩ := split_snoc s c r
    rw [List.cons_append, splitC, splitC]
    by_cases hx : x = s
    · rw [if_pos hx, if_pos hx, h1, h2]
      refine ⟨[] :: A, p, rfl, ?_⟩
      split <;> rfl
    · rw [if_neg hx, if_neg hx, h1, h2]
      cases A with
      | nil =>
        refine ⟨[], x :: p, rfl, ?_⟩
        by_cases e : c = s
        · rw [if_pos e, if_pos e]; rfl
        · rw [if_neg e, if_neg e]; rfl
      | cons a A =>
        refine ⟨(x :: a) :: A, p, rfl, ?_⟩
        by_cases e : c = s
        · rw [if_pos e, if_pos e]; rfl
        · rw [if_neg e, if_neg e]; rfl
def rimP (s : Nat) (l : List Nat) : List Int := ((splitC s l).drop 1).map fun q => 2 + (q.length : Int)
theorem rim_rimP (l : List Nat) (s : Nat) : rim l s = rimP s (turn l (fstIx s l)) := rfl
theorem rimP_same (s : Nat) (l : List Nat) : rimP s (l ++ [s]) = rimP s l ++ [2] := by
  obtain ⟨A, p, h1, h2⟩ := split_snoc s s l
  rw [if_pos rfl] at h2
  unfold rimP
  rw [h1, h2]
  cases A <;> simp
theorem rimP_other {s c : Nat} {l : List Nat} (h : c ≠ s) (hs : s ∈ l) : ∃ q z, rimP s l = q ++ [z] ∧ rimP s (l ++ [c]) = q ++ [z + 1] := by
  obtain ⟨A, p, h1, h2⟩ := split_snoc s c l
  rw [if_neg h] at h2
  obtain ⟨p', ps, e1, e2, _⟩ := split_spec s l
  have hc : 0 < l.count s := List.count_pos_iff.mpr hs
  have hl : (splitC s l).length = l.count s + 1 := by rw [e1, List.length_cons, e2]
  rw [h1, List.length_append] at hl
  unfold rimP
  rw [h1, h2]
  cases A with
  | nil => simp at hl; omega
  | cons a A =>
    refine ⟨A.map fun q => 2 + (q.length : Int), 2 + (p.length : Int), by simp, ?_⟩
    simp
    omega
theorem rimP_len (s : Nat) (l : List Nat) : (rimP s l).length = l.count s := by
  obtain ⟨p', ps, e1, e2, _⟩ := split_spec s l
  unfold rimP
  rw [e1, List.length_map, List.length_drop, List.length_cons, e2]
  rfl
def fixF (n m k : Nat) : Nat := if 0 < n * Nat.gcd k (n + m) % (n + m) then 0 else cmb (Nat.gcd k (n + m)) (n * Nat.gcd k (n + m) / (n + m))
def cntF (n m : Nat) : Nat := ((List.range (n + m)).map (fixF n m)).sum / (n + m)
theorem cntF_few : ∀ n m : Fin 7, cntF n.val m.val ≤ 300 := by decide +kernel
theorem mirL_few' {n m : Nat} (hn : n ≤ 6) (hm : m ≤ 6) : (mirL n m).length < 64 := mirL_few ⟨n, by omega⟩ ⟨m, by omega⟩
theorem cntF_few' {n m : Nat} (hn : n ≤ 6) (hm : m ≤ 6) : cntF n m ≤ 300 := cntF_few ⟨n, by omega⟩ ⟨m, by omega⟩
theorem mirL_11 : mirL 1 1 = [[105, 111]] := by decide +kernel
theorem mirL_mem {n m : Nat} {w : List Nat} (h : w ∈ mirL n m) : w.length = n + m ∧ ∀ x ∈ w, x = 111 ∨ x = 105 := WL_mem (List.mem_filter.mp h).1
end LandM

/-! The meanings of the defs, printed by the generator. -/
namespace K89
open DL

abbrev c_MOST_TOLD : D := .int 300
abbrev c_EXCHANGED : List (List Nat × D) := [([111], .str [105]), ([105], .str [111])]
def b__law_words : MS :=
  (sSeq (sSet 2 (mList (msC (mC (.str [])) msN)))
  (sSeq (sFor (srcR1 (mBin dAdd (mVar 0) (mVar 1))) (gV 3)
  (sSeq (sSet 4 (mList msN))
  (sSeq (sFor (srcV (mFzV 2)) (gV 5)
  (sSeq (sIf (tB (mBin dLt (mMS dCount (mVar 5) (mC (.str [111]))) (mVar 0)))
  (sApp 4 (mBin dAdd (mVar 5) (mC (.str [111]))))
  sNil)
  (sIf (tB (mBin dLt (mMS dCount (mVar 5) (mC (.str [105]))) (mVar 1)))
  (sApp 4 (mBin dAdd (mVar 5) (mC (.str [105]))))
  sNil)))
  (sSet 2 (mFzV 4)))))
  (sRet (mVar 2))))
def b__law_turnings : MS :=
  (sRet (mComp [1] (srcR1 (mUn dLen (mVar 0))) (gV 1) tYes (mBin dAdd (mSl (mVar 0) (oS (mVar 1)) oN) (mSl (mVar 0) oN (oS (mVar 1))))))
def b__law_mirrored (g__law_words : Sem) (g__law_turnings : Sem) : MS :=
  (sSeq (sSet 2 (mList msN))
  (sSeq (sFor (srcV (mCall g__law_words (msC (mFzV 0) (msC (mFzV 1) msN)))) (gV 3)
  (sSeq (sSet 4 (mCall g__law_turnings (msC (mFzV 3) msN)))
  (sIf (tAnd (tB (mBin dEq (mVar 3) (mUn dMinG (mVar 4)))) (tB (mBin (dIn false) (mRev (mVar 3)) (mVar 4))))
  (sApp 2 (mFzV 3))
  sNil)))
  (sRet (mUn dSortS (mVar 2)))))
def b_fixed_by : MS :=
  (sSeq (sSet 3 (mBin dGcd (mVar 2) (mBin dAdd (mVar 0) (mVar 1))))
  (sSeq (sIf (tB (mBin dGt (mBin dMod (mBin dMul (mVar 0) (mVar 3)) (mBin dAdd (mVar 0) (mVar 1))) (mC (.int 0))))
  (sRet (mC (.int 0)))
  sNil)
  (sRet (mBin dComb (mVar 3) (mBin dDiv (mBin dMul (mVar 0) (mVar 3)) (mBin dAdd (mVar 0) (mVar 1)))))))
def b_count_lands (g_fixed_by : Sem) : MS :=
  (sRet (mBin dDiv (mUn dSum (mComp [2] (srcR1 (mBin dAdd (mVar 0) (mVar 1))) (gV 2) tYes (mCall g_fixed_by (msC (mFzV 0) (msC (mFzV 1) (msC (mFzV 2) msN)))))) (mBin dAdd (mVar 0) (mVar 1))))
def b_all_words : MS :=
  (sSeq (sSet 2 (mList (msC (mC (.str [])) msN)))
  (sSeq (sFor (srcR1 (mBin dAdd (mVar 0) (mVar 1))) (gV 3)
  (sSeq (sSet 4 (mList msN))
  (sSeq (sFor (srcV (mFzV 2)) (gV 5)
  (sSeq (sIf (tB (mBin dLt (mMS dCount (mVar 5) (mC (.str [105]))) (mVar 1)))
  (sApp 4 (mBin dAdd (mVar 5) (mC (.str [105]))))
  sNil)
  (sIf (tB (mBin dLt (mMS dCount (mVar 5) (mC (.str [111]))) (mVar 0)))
  (sApp 4 (mBin dAdd (mVar 5) (mC (.str [111]))))
  sNil)))
  (sSet 2 (mFzV 4)))))
  (sRet (mVar 2))))
def b_begun_at : MS :=
  (sRet (mBin dAdd (mSl (mVar 0) (oS (mVar 1)) oN) (mSl (mVar 0) oN (oS (mVar 1)))))
def b_least_land (g_begun_at : Sem) : MS :=
  (sRet (mUn dMinG (mComp [1] (srcR1 (mUn dLen (mVar 0))) (gV 1) tYes (mCall g_begun_at (msC (mFzV 0) (msC (mFzV 1) msN))))))
def b_all_lands (g_count_lands : Sem) (g_all_words : Sem) (g_least_land : Sem) : MS :=
  (sSeq (sIf (tB (mBin dGt (mCall g_count_lands (msC (mFzV 0) (msC (mFzV 1) msN))) (mC c_MOST_TOLD)))
  sNever
  sNil)
  (sRet (mComp [2] (srcV (mCall g_all_words (msC (mFzV 0) (msC (mFzV 1) msN)))) (gV 2) (tB (mBin dEq (mCall g_least_land (msC (mFzV 2) msN)) (mVar 2))) (mFzV 2))))
def b_are_turnings (g_least_land : Sem) : MS :=
  (sRet (mBin dEq (mCall g_least_land (msC (mFzV 0) msN)) (mCall g_least_land (msC (mFzV 1) msN))))
def b_is_mirrored (g_are_turnings : Sem) : MS :=
  (sRet (mCall g_are_turnings (msC (mFzV 0) (msC (mRev (mVar 0)) msN))))
def b_all_mirrored (g_all_lands : Sem) (g_is_mirrored : Sem) : MS :=
  (sRet (mComp [2] (srcV (mCall g_all_lands (msC (mFzV 0) (msC (mFzV 1) msN)))) (gV 2) (tV (mCall g_is_mirrored (msC (mFzV 2) msN))) (mFzV 2)))
def b__law_same (g__law_same : Sem) : MS :=
  (sSeq (sIf (tOr (tV (mIsI (mVar 1) .list)) (tV (mIsI (mVar 1) .tuple)))
  (sSeq (sIf (tOr (tB (mBin dNe (mIsI (mVar 0) .list) (mIsI (mVar 1) .list))) (tB (mBin dNe (mIsI (mVar 0) .tuple) (mIsI (mVar 1) .tuple))))
  (sRet (mC (.bool false)))
  sNil)
  (sRet (mAnd (mBin dEq (mUn dLen (mVar 0)) (mUn dLen (mVar 1))) (mUn dAll (mComp [2] (srcR1 (mUn dLen (mVar 1))) (gV 2) tYes (mCall g__law_same (msC (mBin dIx (mVar 0) (mVar 2)) (msC (mBin dIx (mVar 1) (mVar 2)) msN))))))))
  sNil)
  (sSeq (sIf (tOr (tB (mUn dIsN (mVar 1))) (tV (mIsI (mVar 1) .bool)))
  (sRet (mIf (tB (mUn dIsN (mVar 1))) (mUn dIsN (mVar 0)) (mAnd (mIsI (mVar 0) .bool) (mBin dEq (mVar 0) (mVar 1)))))
  sNil)
  (sSeq (sIf (tV (mIsI (mVar 1) .str))
  (sRet (mAnd (mIsI (mVar 0) .str) (mBin dEq (mVar 0) (mVar 1))))
  sNil)
  (sRet (mAnd (mIsI (mVar 0) .int) (mAnd (mNot (mIsI (mVar 0) .bool)) (mBin dEq (mVar 0) (mVar 1))))))))
def b__law_draw : MS :=
  (sSeq (sIf (tAnd (tB (mBin dEq (mFeed 0 2) (mC (.int 0)))) (tB (mBin dLt (mFeed 0 1) (mUn dLen (mFeed 0 0)))))
  (sSeq (sSet 2 (mUn dAbs (mUn dInt (mBin dIx (mFeed 0 0) (mFeed 0 1)))))
  (sSeq (sFeedA 0 1 1)
  (sIf (tB (mBin dGe (mVar 2) (mBin dPow (mC (.int 10)) (mC (.int 18)))))
  (sFeed 0 2 (mFzV 2))
  (sFeed 0 3 (mBin dMod (mUn dInt (mBin dAdd (mBin dAdd (mBin dMul (mFeed 0 3) (mC (.int 48271))) (mBin dMul (mVar 2) (mC (.int 69621)))) (mFeed 0 1))) (mC (.int 2147483647)))))))
  sNil)
  (sSeq (sIf (tB (mBin dGt (mFeed 0 2) (mC (.int 0))))
  (sSeq (sSet 3 (mBin dMod (mUn dInt (mFeed 0 2)) (mVar 1)))
  (sSeq (sFeed 0 2 (mBin dDiv (mFeed 0 2) (mVar 1)))
  (sRet (mVar 3))))
  sNil)
  (sSeq (sFeed 0 3 (mBin dMod (mUn dInt (mBin dAdd (mBin dMul (mFeed 0 3) (mC (.int 16807))) (mC (.int 12345)))) (mC (.int 2147483647))))
  (sSeq (sSet 4 (mBin dMod (mUn dInt (mBin dAdd (mBin dMul (mFeed 0 3) (mFeed 0 3)) (mFeed 0 3))) (mC (.int 2147483629))))
  (sRet (mBin dMod (mBin dDiv (mVar 4) (mC (.int 11))) (mVar 1)))))))
def b__law_land (g__law_draw : Sem) : MS :=
  (sSeq (sSet 1 (mBin dIx (mList (msC (mC (.int 4)) (msC (mC (.int 12)) msN))) (mCallF g__law_draw 0 (msC (mC (.int 2)) msN))))
  (sSeq (sSet 2 (mBin dAdd (mC (.int 1)) (mCallF g__law_draw 0 (msC (mFzV 1) msN))))
  (sSeq (sSet 3 (mBin dAdd (mC (.int 1)) (mCallF g__law_draw 0 (msC (mFzV 1) msN))))
  (sSeq (sSet 4 (mC (.str [])))
  (sSeq (sFor (srcR1 (mBin dAdd (mVar 2) (mVar 3))) (gV 5)
  (sIf (tB (mBin dLt (mCallF g__law_draw 0 (msC (mBin dAdd (mVar 2) (mVar 3)) msN)) (mVar 2)))
  (sSeq (sSet 4 (mBin dAdd (mVar 4) (mC (.str [111]))))
  (sAug 2 (fun i j => i - j) (mC (.int 1))))
  (sSeq (sSet 4 (mBin dAdd (mVar 4) (mC (.str [105]))))
  (sAug 3 (fun i j => i - j) (mC (.int 1))))))
  (sRet (mVar 4)))))))
def b__law_exchanged : MS :=
  (sSeq (sSet 1 (mC (.str [])))
  (sSeq (sFor (srcV (mFzV 0)) (gV 2)
  (sSet 1 (mBin dAdd (mVar 1) (mBin dIx (mList (msC (mC (.str [111])) (msC (mC (.str [105])) msN))) (mUn dInt (mBin dEq (mVar 2) (mC (.str [111]))))))))
  (sRet (mVar 1))))
def b__law_some (g__law_land : Sem) (g__law_exchanged : Sem) (g__law_draw : Sem) : MS :=
  (sSeq (sSet 2 (mSl (mCallF g__law_land 0 msN) oN (oS (mC (.int 6)))))
  (sSeq (sIf (tB (mBin dEq (mVar 1) (mC (.int 0))))
  (sSet 3 (mBin dAdd (mVar 2) (mRev (mVar 2))))
  (sIf (tB (mBin dEq (mVar 1) (mC (.int 1))))
  (sSet 3 (mBin dAdd (mVar 2) (mCall g__law_exchanged (msC (mFzV 2) msN))))
  (sSet 3 (mBin dAdd (mVar 2) (mRev (mCall g__law_exchanged (msC (mFzV 2) msN)))))))
  (sSeq (sIf (tB (mBin (dIn true) (mC (.str [111])) (mVar 3)))
  (sSet 3 (mBin dAdd (mVar 3) (mC (.str [111]))))
  sNil)
  (sSeq (sIf (tB (mBin (dIn true) (mC (.str [105])) (mVar 3)))
  (sSet 3 (mBin dAdd (mVar 3) (mC (.str [105]))))
  sNil)
  (sSeq (sSet 4 (mCallF g__law_draw 0 (msC (mUn dLen (mVar 3)) msN)))
  (sRet (mBin dAdd (mSl (mVar 3) (oS (mVar 4)) oN) (mSl (mVar 3) oN (oS (mVar 4))))))))))
def b__law_rim : MS :=
  (sSeq (sSet 2 (mMS dIndexS (mVar 0) (mVar 1)))
  (sSeq (sSet 3 (mBin dAdd (mSl (mVar 0) (oS (mVar 2)) oN) (mSl (mVar 0) oN (oS (mVar 2)))))
  (sSeq (sSet 4 (mList msN))
  (sSeq (sFor (srcV (mFzV 3)) (gV 5)
  (sIf (tB (mBin dEq (mVar 5) (mVar 1)))
  (sApp 4 (mC (.int 2)))
  (sAugI 4 (fun i j => i + j) (mUn dNeg (mC (.int 1))) (mC (.int 1)))))
  (sRet (mVar 4))))))
def b_exchanged_rims : MS :=
  (sRet (mMS dJoin (mC (.str [])) (mComp [1] (srcV (mFzV 0)) (gV 1) tYes (mUn (dTab c_EXCHANGED) (mVar 1)))))
def b_has_like_rims (g_are_turnings : Sem) (g_exchanged_rims : Sem) : MS :=
  (sRet (mCall g_are_turnings (msC (mFzV 0) (msC (mCall g_exchanged_rims (msC (mFzV 0) msN)) msN))))
def b_has_turned_rims (g_are_turnings : Sem) (g_exchanged_rims : Sem) : MS :=
  (sRet (mCall g_are_turnings (msC (mFzV 0) (msC (mRev (mCall g_exchanged_rims (msC (mFzV 0) msN))) msN))))
def b__law_right (g__law_turnings : Sem) (g__law_exchanged : Sem) (g__law_same : Sem) (g_is_mirrored : Sem) (g_has_like_rims : Sem) (g_has_turned_rims : Sem) (g_exchanged_rims : Sem) (g__law_rim : Sem) : MS :=
  (sSeq (sSet 1 (mCall g__law_turnings (msC (mFzV 0) msN)))
  (sSeq (sSet 2 (mCall g__law_exchanged (msC (mFzV 0) msN)))
  (sSeq (sSet 3 (mList (msC (mBin (dIn false) (mRev (mVar 0)) (mVar 1)) (msC (mBin (dIn false) (mVar 2) (mVar 1)) (msC (mBin (dIn false) (mRev (mVar 2)) (mVar 1)) msN)))))
  (sSeq (sIf (tNot (tV (mCallB g__law_same [.ex (mList (msC (mCall g_is_mirrored (msC (mFzV 0) msN)) (msC (mCall g_has_like_rims (msC (mFzV 0) msN)) (msC (mCall g_has_turned_rims (msC (mFzV 0) msN)) msN)))), .nm 3])))
  (sRet (mC (.bool false)))
  sNil)
  (sSeq (sIf (tOr (tNot (tV (mCallB g__law_same [.ex (mCall g_exchanged_rims (msC (mFzV 0) msN)), .nm 2]))) (tNot (tV (mCallB g__law_same [.ex (mCall g_exchanged_rims (msC (mFzV 2) msN)), .nm 0]))))
  (sRet (mC (.bool false)))
  sNil)
  (sSeq (sIf (tV (mBin dIx (mVar 3) (mC (.int 0))))
  (sFor (srcV (mList (msC (mC (.str [111])) (msC (mC (.str [105])) msN)))) (gV 4)
  (sSeq (sSet 5 (mCall g__law_rim (msC (mFzV 0) (msC (mFzV 4) msN))))
  (sIf (tB (mBin (dIn true) (mRev (mVar 5)) (mCall g__law_turnings (msC (mFzV 5) msN))))
  (sRet (mC (.bool false)))
  sNil)))
  sNil)
  (sRet (mC (.bool true)))))))))
def b_law (g__law_right : Sem) (g__law_land : Sem) (g__law_some : Sem) (g__law_exchanged : Sem) (g__law_draw : Sem) (g__law_mirrored : Sem) (g_all_mirrored : Sem) (g__law_same : Sem) (g_is_mirrored : Sem) (g_has_like_rims : Sem) (g_has_turned_rims : Sem) : MS :=
  (sSeq (sFor (srcR1 (mC (.int 4))) (gV 2)
  (sIf (tNot (tV (mCall g__law_right (msC (mCallF g__law_land 1 msN) msN))))
  (sRet (mC (.bool false)))
  sNil))
  (sSeq (sFor (srcR1 (mC (.int 3))) (gV 3)
  (sSeq (sSet 4 (mCallF g__law_some 1 (msC (mFzV 3) msN)))
  (sIf (tOr (tNot (tV (mCall g__law_right (msC (mFzV 4) msN)))) (tNot (tV (mCall g__law_right (msC (mCall g__law_exchanged (msC (mFzV 4) msN)) msN)))))
  (sRet (mC (.bool false)))
  sNil)))
  (sSeq (sSet 5 (mBin dAdd (mC (.int 1)) (mCallF g__law_draw 1 (msC (mBin dIx (mList (msC (mC (.int 4)) (msC (mC (.int 6)) msN))) (mCallF g__law_draw 1 (msC (mC (.int 2)) msN))) msN))))
  (sSeq (sSet 6 (mBin dAdd (mC (.int 1)) (mCallF g__law_draw 1 (msC (mBin dIx (mList (msC (mC (.int 4)) (msC (mC (.int 6)) msN))) (mCallF g__law_draw 1 (msC (mC (.int 2)) msN))) msN))))
  (sSeq (sSet 7 (mCall g__law_mirrored (msC (mFzV 5) (msC (mFzV 6) msN))))
  (sSeq (sSet 8 (mCall g_all_mirrored (msC (mFzV 5) (msC (mFzV 6) msN))))
  (sSeq (sIf (tNot (tV (mCallB g__law_same [.nm 8, .nm 7])))
  (sRet (mC (.bool false)))
  sNil)
  (sSeq (sApp 8 (mC (.str [111, 105])))
  (sSeq (sIf (tOr (tNot (tV (mCallB g__law_same [.ex (mCall g_all_mirrored (msC (mFzV 5) (msC (mFzV 6) msN))), .nm 7]))) (tNot (tV (mCall g__law_same (msC (mCall g_all_mirrored (msC (mC (.int 1)) (msC (mC (.int 1)) msN))) (msC (mList (msC (mC (.str [105, 111])) msN)) msN))))))
  (sRet (mC (.bool false)))
  sNil)
  (sSeq (sIf (tOr (tNot (tV (mCall g__law_right (msC (mC (.str [111, 105])) msN)))) (tOr (tNot (tV (mCall g__law_right (msC (mC (.str [111, 105, 111, 105, 105])) msN)))) (tNot (tV (mCall g__law_right (msC (mC (.str [111, 105, 111, 105, 105, 105, 111, 111, 105])) msN))))))
  (sRet (mC (.bool false)))
  sNil)
  (sRet (mCall g__law_same (msC (mList (msC (mCall g_is_mirrored (msC (mC (.str [111, 111, 105, 111, 105, 105])) msN)) (msC (mCall g_has_like_rims (msC (mC (.str [111, 111, 105, 111, 105, 105])) msN)) (msC (mCall g_has_turned_rims (msC (mC (.str [111, 111, 105, 111, 105, 105])) msN)) msN)))) (msC (mList (msC (mC (.bool false)) (msC (mC (.bool false)) (msC (mC (.bool true)) msN)))) msN))))))))))))))
end K89

namespace K89
open DL LandM
def spec__law_draw : Sem := fun ds w Q => ∃ (many : Int), ds = [.int many] ∧ 0 < many ∧ many ≤ 1000000 ∧ Wok w ∧ ∀ r w', 0 ≤ r → r < many → Wok w' → Q (.val (.int r)) w'
theorem ar__law_draw (many : Int) (w : W) (Q : R → W → Prop) : ar 1 spec__law_draw [.int many] w Q = (0 < many ∧ many ≤ 1000000 ∧ Wok w ∧ ∀ r w', 0 ≤ r → r < many → Wok w' → Q (.val (.int r)) w') := by
  apply propext
  constructor
  · rintro ⟨_, many', e, h⟩
    simp only [List.cons.injEq, D.str.injEq, D.int.injEq, D.bool.injEq, D.tup.injEq, D.list.injEq, mapInt_inj, Int.natCast_inj, and_true, and_assoc] at e
    first | (obtain rfl := e; exact h) | (obtain ⟨rfl, _⟩ := e; exact h)
  · intro h
    exact ⟨rfl, many, rfl, h⟩
theorem vc__law_draw : ∀ ds w Q, spec__law_draw ds w Q → runF 5 (b__law_draw) ds w Q := by
  rintro ds w Q ⟨many, rfl, h⟩
  unfold b__law_draw
  obtain ⟨h0, h1, hw, h⟩ := h
  have gm : many.natAbs.log2 < 9000 := div62 (by omega) (by omega)
  obtain ⟨sc, ix, big, seed⟩ := w
  obtain ⟨wl, wi0, wi1, wb, ws0, ws1⟩ := hw
  dsimp only at wl wi0 wi1 wb ws0 ws1
  simp only [run, runF, DL.get, DL.put, puts, back, mC, mVar, mFzV, mFeed, frz, msN, msC, mBin, mUn, dAdd, dSub, dMul, dDiv, dMod, dPow, dNeg, dCmp, dLt, dLe, dGt, dGe, dEq, dNe, dIn, dIsN, dIsNotN, isN, dIs, dIsNot, dTab, flatD, okT, truth, tV, tB, tAnd, tOr, tNot, mAnd, mOr, mNot, mIf, mChain, mList, mTup, dIx, mSl, oN, oS, mRev, mRevTo, mCall, mCallF, dLen, dAbs, dInt, dMin2, dMax2, dList, dTup, dSum, dMin, dMax, dMinG, dMaxG, dAll, isTy, mIsI, gV, gSkip, gsN, gsC, gT, srcV, srcR1, srcR2, srcEnum, srcRev, mComp, tYes, isS, isL, mMS, mML, dIndexS, dIndexL, dIndexFrom, mMS2, dCount, dSplit, dJoin, sNil, sSeq, sSet, sAsg, sPar, sRet, retK, sRetN, sIf, sPass, sBrk, sCont, sNever, sExpr, sAug, ownAt, feedAt, intD, sApp, sExt, sSetI, sAugI, sFeed, sFeedA, popD, sPop, sAddPop, sFor, DL.W.set, DL.W.at, DL.R.d, okD, eqD_none_none, eqD_none_bool, eqD_none_int, eqD_none_str, eqD_none_list, eqD_none_tup, eqD_bool_none, eqD_bool_bool, eqD_bool_int, eqD_bool_str, eqD_bool_list, eqD_bool_tup, eqD_int_none, eqD_int_bool, eqD_int_int, eqD_int_str, eqD_int_list, eqD_int_tup, eqD_str_none, eqD_str_bool, eqD_str_int, eqD_str_str, eqD_str_list, eqD_str_tup, eqD_list_none, eqD_list_bool, eqD_list_int, eqD_list_str, eqD_list_list, eqD_list_tup, eqD_tup_none, eqD_tup_bool, eqD_tup_int, eqD_tup_str, eqD_tup_list, eqD_tup_tup, eqDs_nn, eqDs_cc, eqDs_nc, eqDs_cn, List.map_cons, List.map_nil, List.map, List.cons_append, List.nil_append, List.replicate, List.length_cons, List.length_nil, Nat.reduceAdd, Nat.reduceSub, List.all_cons, List.all_nil, Bool.and_true, Bool.true_and, true_and, and_true, atI_map, ex_map, ex_some, List.length_map, beq_int, decide_eq_true_eq, if_true, if_false, Bool.false_eq_true, if_pos, reduceIte, at0, at1, at2, at3, dP, mCallX, mCallB, peekA, evA, evAs, eq_self, sRaise0, sRaise1, sTry, caught, unslot, unheld, mXArg, mXIs, runX, List.contains_cons, List.contains_nil, Slot.isExn, String.reduceBEq, ex_arg, ex_valB, Bool.or_false, Bool.false_or, Bool.or_true, Bool.true_or, Bool.not_false, Bool.not_true, mComp2, dGcd, dComb, dSortS]
  have m1 : ∀ a b : Int, 0 ≤ a → 0 < b → 0 ≤ a % b ∧ a % b < b := fun a b _ hb => ⟨Int.emod_nonneg _ (by omega), Int.emod_lt_of_pos _ hb⟩
  have e18 : (10 : Int) ^ Int.toNat 18 = 1000000000000000000 := by decide
  rw [e18]
  -- the later draws of a seed
  have tail : ∀ (ix' seed' : Int), 0 ≤ ix' → ix' ≤ sc.length → ∀ big', 0 ≤ big' → 0 ≤ seed' → seed' < 2147483648 →
    (1 ≤ 3 ∧ 3 ≤ 3) ∧ seed'.natAbs.log2 + (Int.natAbs 16807).log2 < 1000000 ∧ (0 : Int) < 2147483647 ∧ ((seed' * 16807 + 12345) % 2147483647).natAbs.log2 + ((seed' * 16807 + 12345) % 2147483647).natAbs.log2 < 1000000 ∧ (0 : Int) < 2147483629 ∧
      (0 : Int) < 11 ∧ (Int.natAbs 11).log2 < 9000 ∧ 0 < many ∧ Q (R.val (D.int (((seed' * 16807 + 12345) % 2147483647 * ((seed' * 16807 + 12345) % 2147483647) + (seed' * 16807 + 12345) % 2147483647) % 2147483629 / 11 % many))) { sc := sc, ix := ix', big := big', seed := (seed' * 16807 + 12345) % 2147483647 } := by
    intro ix' seed' i0 i1 big' b0 s0 s1
    have hs := m1 (seed' * 16807 + 12345) 2147483647 (by omega) (by decide)
    refine ⟨by decide, mul62 (by omega) (by omega) (by decide) (by decide), by decide, mul62 (by omega) (by omega) (by omega) (by omega), by decide, by decide, by decide, h0, ?_⟩
    exact h _ _ (Int.emod_nonneg _ (by omega)) (Int.emod_lt_of_pos _ h0) ⟨wl, i0, i1, b0, hs.1, by show (seed' * 16807 + 12345) % 2147483647 < 2147483648; omega⟩
  have take : ∀ (ix' big' seed' : Int), 0 ≤ ix' → ix' ≤ sc.length → 0 < big' → 0 ≤ seed' → seed' < 2147483648 → Q (R.val (D.int (big' % many))) { sc := sc, ix := ix', big := big' / many, seed := seed' } := by
    intro ix' big' seed' i0 i1 b0 s0 s1
    exact h _ _ (Int.emod_nonneg _ (by omega)) (Int.emod_lt_of_pos _ h0) ⟨wl, i0, i1, Int.ediv_nonneg (by omega) (by omega), s0, s1⟩
  have last : ∀ (ix' big' seed' : Int), 0 ≤ ix' → ix' ≤ sc.length → 0 ≤ big' → 0 ≤ seed' → seed' < 2147483648 →
    if 0 < big' then 0 < many ∧ (1 ≤ 2 ∧ 2 ≤ 3) ∧ 0 < many ∧ many.natAbs.log2 < 9000 ∧ Q (R.val (D.int (big' % many))) { sc := sc, ix := ix', big := big' / many, seed := seed' }
    else (1 ≤ 3 ∧ 3 ≤ 3) ∧ seed'.natAbs.log2 + (Int.natAbs 16807).log2 < 1000000 ∧ (0 : Int) < 2147483647 ∧ ((seed' * 16807 + 12345) % 2147483647).natAbs.log2 + ((seed' * 16807 + 12345) % 2147483647).natAbs.log2 < 1000000 ∧ (0 : Int) < 2147483629 ∧
      (0 : Int) < 11 ∧ (Int.natAbs 11).log2 < 9000 ∧ 0 < many ∧ Q (R.val (D.int (((seed' * 16807 + 12345) % 2147483647 * ((seed' * 16807 + 12345) % 2147483647) + (seed' * 16807 + 12345) % 2147483647) % 2147483629 / 11 % many))) { sc := sc, ix := ix', big := big', seed := (seed' * 16807 + 12345) % 2147483647 } := by
    intro ix' big' seed' i0 i1 b0 s0 s1
    split
    · exact ⟨h0, by decide, h0, gm, take _ _ _ i0 i1 (by omega) s0 s1⟩
    · exact tail _ _ i0 i1 _ b0 s0 s1
  split
  · split
    · rename_i hb hi
      refine ⟨_, atI_of wi0 hi, by decide, by decide, ?_⟩
      generalize sc[ix.toNat]'(by omega) = x
      have hx : 0 ≤ if x < 0 then -x else x := by split <;> omega
      generalize (if x < 0 then -x else x) = y at hx
      split
      · exact ⟨by decide, last (ix + 1) y seed (by omega) (by omega) hx ws0 ws1⟩
      · refine ⟨by decide, mul62 (by omega) (by omega) (by decide) (by decide), mul62 (by omega) (by omega) (by decide) (by decide), by decide, ?_⟩
        have hs := m1 (seed * 48271 + y * 69621 + (ix + 1)) 2147483647 (by omega) (by decide)
        exact last (ix + 1) big _ (by omega) (by omega) wb hs.1 (by omega)
    · exact last ix big seed wi0 wi1 wb ws0 ws1
  · exact last ix big seed wi0 wi1 wb ws0 ws1

def spec_begun_at : Sem := fun ds w Q => ∃ (l : List Nat) (p : Nat), ds = [.str l, .int p] ∧ p ≤ l.length ∧ l.length ≤ LINE ∧ Q (.val (.str (turn l p))) w
theorem ar_begun_at (l : List Nat) (p : Nat) (w : W) (Q : R → W → Prop) : ar 2 spec_begun_at [.str l, .int p] w Q = (p ≤ l.length ∧ l.length ≤ LINE ∧ Q (.val (.str (turn l p))) w) := by
  apply propext
  constructor
  · rintro ⟨_, l', p', e, h⟩
    simp only [List.cons.injEq, D.str.injEq, D.int.injEq, D.bool.injEq, D.tup.injEq, D.list.injEq, mapInt_inj, Int.natCast_inj, and_true, and_assoc] at e
    first | (obtain ⟨rfl, rfl⟩ := e; exact h) | (obtain ⟨rfl, rfl, _⟩ := e; exact h)
  · intro h
    exact ⟨rfl, l, p, rfl, h⟩
theorem vc_begun_at : ∀ ds w Q, spec_begun_at ds w Q → run 2 (b_begun_at) ds w Q := by
  rintro ds w Q ⟨l, p, rfl, h⟩
  unfold b_begun_at
  simp only [run, runF, DL.get, DL.put, puts, back, mC, mVar, mFzV, mFeed, frz, msN, msC, mBin, mUn, dAdd, dSub, dMul, dDiv, dMod, dPow, dNeg, dCmp, dLt, dLe, dGt, dGe, dEq, dNe, dIn, dIsN, dIsNotN, isN, dIs, dIsNot, dTab, flatD, okT, truth, tV, tB, tAnd, tOr, tNot, mAnd, mOr, mNot, mIf, mChain, mList, mTup, dIx, mSl, oN, oS, mRev, mRevTo, mCall, mCallF, dLen, dAbs, dInt, dMin2, dMax2, dList, dTup, dSum, dMin, dMax, dMinG, dMaxG, dAll, isTy, mIsI, gV, gSkip, gsN, gsC, gT, srcV, srcR1, srcR2, srcEnum, srcRev, mComp, tYes, isS, isL, mMS, mML, dIndexS, dIndexL, dIndexFrom, mMS2, dCount, dSplit, dJoin, sNil, sSeq, sSet, sAsg, sPar, sRet, retK, sRetN, sIf, sPass, sBrk, sCont, sNever, sExpr, sAug, ownAt, feedAt, intD, sApp, sExt, sSetI, sAugI, sFeed, sFeedA, popD, sPop, sAddPop, sFor, DL.W.set, DL.W.at, DL.R.d, okD, eqD_none_none, eqD_none_bool, eqD_none_int, eqD_none_str, eqD_none_list, eqD_none_tup, eqD_bool_none, eqD_bool_bool, eqD_bool_int, eqD_bool_str, eqD_bool_list, eqD_bool_tup, eqD_int_none, eqD_int_bool, eqD_int_int, eqD_int_str, eqD_int_list, eqD_int_tup, eqD_str_none, eqD_str_bool, eqD_str_int, eqD_str_str, eqD_str_list, eqD_str_tup, eqD_list_none, eqD_list_bool, eqD_list_int, eqD_list_str, eqD_list_list, eqD_list_tup, eqD_tup_none, eqD_tup_bool, eqD_tup_int, eqD_tup_str, eqD_tup_list, eqD_tup_tup, eqDs_nn, eqDs_cc, eqDs_nc, eqDs_cn, List.map_cons, List.map_nil, List.map, List.cons_append, List.nil_append, List.replicate, List.length_cons, List.length_nil, Nat.reduceAdd, Nat.reduceSub, List.all_cons, List.all_nil, Bool.and_true, Bool.true_and, true_and, and_true, atI_map, ex_map, ex_some, List.length_map, beq_int, decide_eq_true_eq, if_true, if_false, Bool.false_eq_true, if_pos, reduceIte, at0, at1, at2, at3, dP, mCallX, mCallB, peekA, evA, evAs, eq_self, sRaise0, sRaise1, sTry, caught, unslot, unheld, mXArg, mXIs, runX, List.contains_cons, List.contains_nil, Slot.isExn, String.reduceBEq, ex_arg, ex_valB, Bool.or_false, Bool.false_or, Bool.or_true, Bool.true_or, Bool.not_false, Bool.not_true, mComp2, dGcd, dComb, dSortS]
  obtain ⟨hp, hl, q⟩ := h
  rw [cut_from, cut_to]
  refine ⟨hl, hl, ?_, q⟩
  rw [← List.length_append]
  exact Nat.le_trans (Nat.le_of_eq (turn_len l hp)) hl

def exch (l : List Nat) (i : Nat) : List Nat := l.take i ++ [l.getD (i + 1) 0] ++ [l.getD i 0] ++ l.drop (i + 2)
theorem exch_at (A B : List Nat) (c d : Nat) : exch (A ++ c :: d :: B) A.length = A ++ d :: c :: B := by
  unfold exch
  simp
theorem atN {l : List Nat} {i : Nat} (h : i < l.length) : atI l (i : Int) = some (l.getD i 0) := by
  rw [atI_of (by omega) (by omega), List.getD_eq_getElem?_getD]
  simp [h]
theorem split_count (c : Nat) (l : List Nat) : (splitC c l).length - 1 = l.count c := by
  obtain ⟨p, ps, e, h, _⟩ := split_spec c l
  rw [e, List.length_cons, h]
  rfl
theorem first_sign {s : Nat} (hs : Sign s) : ∀ r : List Nat, (∀ x ∈ r, x = 111 ∨ x = 105) → s ∈ r → ∃ d t, r = List.replicate d (216 - s) ++ s :: t
  | [], _, h => by cases h
  | x :: r, hr, h => by
    by_cases e : x = s
    · exact ⟨0, r, by rw [e]; rfl⟩
    · obtain ⟨d, t, ih⟩ := first_sign hs r (fun y hy => hr y (List.mem_cons_of_mem _ hy)) (by
        rcases List.mem_cons.mp h with q | q
        · exact absurd q.symm e
        · exact q)
      refine ⟨d + 1, t, ?_⟩
      have hx : x = 216 - s := by
        rcases hr x List.mem_cons_self with q | q <;> rcases hs with z | z <;> omega
      rw [ih, hx, List.replicate_succ]
      rfl
theorem count_both : ∀ l : List Nat, (∀ x ∈ l, x = 111 ∨ x = 105) → l.count 111 + l.count 105 = l.length
  | [], _ => rfl
  | x :: r, h => by
    have ih := count_both r fun y hy => h y (List.mem_cons_of_mem _ hy)
    rcases h x List.mem_cons_self with rfl | rfl
    · rw [List.count_cons_self, List.count_cons_of_ne (by decide), List.length_cons]; omega
    · rw [List.count_cons_self, List.count_cons_of_ne (by decide), List.length_cons]; omega
def spec_least_land : Sem := fun ds w Q => ∃ (l : List Nat), ds = [.str l] ∧ 0 < l.length ∧ l.length ≤ 1000 ∧ (∀ x ∈ l, x = 111 ∨ x = 105) ∧ ∀ m, Least l m → Q (.val (.str m)) w
theorem ar_least_land (l : List Nat) (w : W) (Q : R → W → Prop) : ar 1 spec_least_land [.str l] w Q = (0 < l.length ∧ l.length ≤ 1000 ∧ (∀ x ∈ l, x = 111 ∨ x = 105) ∧ ∀ m, Least l m → Q (.val (.str m)) w) := by
  apply propext
  constructor
  · rintro ⟨_, l', e, h⟩
    simp only [List.cons.injEq, D.str.injEq, D.int.injEq, D.bool.injEq, D.tup.injEq, D.list.injEq, mapInt_inj, Int.natCast_inj, and_true, and_assoc] at e
    first | (obtain rfl := e; exact h) | (obtain ⟨rfl, _⟩ := e; exact h)
  · intro h
    exact ⟨rfl, l, rfl, h⟩
theorem vc_least_land : ∀ ds w Q, spec_least_land ds w Q → run 2 (b_least_land (ar 2 spec_begun_at)) ds w Q := by
  rintro ds w Q ⟨l, rfl, h⟩
  unfold b_least_land
  simp only [run, runF, DL.get, DL.put, puts, back, mC, mVar, mFzV, mFeed, frz, msN, msC, mBin, mUn, dAdd, dSub, dMul, dDiv, dMod, dPow, dNeg, dCmp, dLt, dLe, dGt, dGe, dEq, dNe, dIn, dIsN, dIsNotN, isN, dIs, dIsNot, dTab, flatD, okT, truth, tV, tB, tAnd, tOr, tNot, mAnd, mOr, mNot, mIf, mChain, mList, mTup, dIx, mSl, oN, oS, mRev, mRevTo, mCall, mCallF, dLen, dAbs, dInt, dMin2, dMax2, dList, dTup, dSum, dMin, dMax, dMinG, dMaxG, dAll, isTy, mIsI, gV, gSkip, gsN, gsC, gT, srcV, srcR1, srcR2, srcEnum, srcRev, mComp, tYes, isS, isL, mMS, mML, dIndexS, dIndexL, dIndexFrom, mMS2, dCount, dSplit, dJoin, sNil, sSeq, sSet, sAsg, sPar, sRet, retK, sRetN, sIf, sPass, sBrk, sCont, sNever, sExpr, sAug, ownAt, feedAt, intD, sApp, sExt, sSetI, sAugI, sFeed, sFeedA, popD, sPop, sAddPop, sFor, DL.W.set, DL.W.at, DL.R.d, okD, eqD_none_none, eqD_none_bool, eqD_none_int, eqD_none_str, eqD_none_list, eqD_none_tup, eqD_bool_none, eqD_bool_bool, eqD_bool_int, eqD_bool_str, eqD_bool_list, eqD_bool_tup, eqD_int_none, eqD_int_bool, eqD_int_int, eqD_int_str, eqD_int_list, eqD_int_tup, eqD_str_none, eqD_str_bool, eqD_str_int, eqD_str_str, eqD_str_list, eqD_str_tup, eqD_list_none, eqD_list_bool, eqD_list_int, eqD_list_str, eqD_list_list, eqD_list_tup, eqD_tup_none, eqD_tup_bool, eqD_tup_int, eqD_tup_str, eqD_tup_list, eqD_tup_tup, eqDs_nn, eqDs_cc, eqDs_nc, eqDs_cn, List.map_cons, List.map_nil, List.map, List.cons_append, List.nil_append, List.replicate, List.length_cons, List.length_nil, Nat.reduceAdd, Nat.reduceSub, List.all_cons, List.all_nil, Bool.and_true, Bool.true_and, true_and, and_true, atI_map, ex_map, ex_some, List.length_map, beq_int, decide_eq_true_eq, if_true, if_false, Bool.false_eq_true, if_pos, reduceIte, at0, at1, at2, at3, dP, mCallX, mCallB, peekA, evA, evAs, eq_self, sRaise0, sRaise1, sTry, caught, unslot, unheld, mXArg, mXIs, runX, List.contains_cons, List.contains_nil, Slot.isExn, String.reduceBEq, ex_arg, ex_valB, Bool.or_false, Bool.false_or, Bool.or_true, Bool.true_or, Bool.not_false, Bool.not_true, mComp2, dGcd, dComb, dSortS, ar_begun_at]
  obtain ⟨h0, h2, hl, q⟩ := h
  have hz : (2000 : Nat) ≤ LINE := by decide
  refine ⟨by omega, by omega, ?_⟩
  refine compL_f _ (fun d => match d with | .int i => .str (turn l i.toNat) | _ => .none) (fun st => ∃ x, st = ⟨[.val (.str l), x], w⟩) ⟨_, rfl⟩ ?_ ?_ ?_
  · rw [ran_len]; omega
  · rintro d _ hd ⟨x, rfl⟩ C K hC hK
    obtain ⟨k, hk, rfl⟩ : ∃ k : Nat, k < l.length ∧ d = .int k := by
      obtain ⟨i, hi⟩ := List.getElem?_of_mem hd
      obtain ⟨h1, h2⟩ := ran_get hi
      exact ⟨i, by omega, by rw [h2, Int.zero_add]⟩
    simp only [run, runF, DL.get, DL.put, puts, back, mC, mVar, mFzV, mFeed, frz, msN, msC, mBin, mUn, dAdd, dSub, dMul, dDiv, dMod, dPow, dNeg, dCmp, dLt, dLe, dGt, dGe, dEq, dNe, dIn, dIsN, dIsNotN, isN, dIs, dIsNot, dTab, flatD, okT, truth, tV, tB, tAnd, tOr, tNot, mAnd, mOr, mNot, mIf, mChain, mList, mTup, dIx, mSl, oN, oS, mRev, mRevTo, mCall, mCallF, dLen, dAbs, dInt, dMin2, dMax2, dList, dTup, dSum, dMin, dMax, dMinG, dMaxG, dAll, isTy, mIsI, gV, gSkip, gsN, gsC, gT, srcV, srcR1, srcR2, srcEnum, srcRev, mComp, tYes, isS, isL, mMS, mML, dIndexS, dIndexL, dIndexFrom, mMS2, dCount, dSplit, dJoin, sNil, sSeq, sSet, sAsg, sPar, sRet, retK, sRetN, sIf, sPass, sBrk, sCont, sNever, sExpr, sAug, ownAt, feedAt, intD, sApp, sExt, sSetI, sAugI, sFeed, sFeedA, popD, sPop, sAddPop, sFor, DL.W.set, DL.W.at, DL.R.d, okD, eqD_none_none, eqD_none_bool, eqD_none_int, eqD_none_str, eqD_none_list, eqD_none_tup, eqD_bool_none, eqD_bool_bool, eqD_bool_int, eqD_bool_str, eqD_bool_list, eqD_bool_tup, eqD_int_none, eqD_int_bool, eqD_int_int, eqD_int_str, eqD_int_list, eqD_int_tup, eqD_str_none, eqD_str_bool, eqD_str_int, eqD_str_str, eqD_str_list, eqD_str_tup, eqD_list_none, eqD_list_bool, eqD_list_int, eqD_list_str, eqD_list_list, eqD_list_tup, eqD_tup_none, eqD_tup_bool, eqD_tup_int, eqD_tup_str, eqD_tup_list, eqD_tup_tup, eqDs_nn, eqDs_cc, eqDs_nc, eqDs_cn, List.map_cons, List.map_nil, List.map, List.cons_append, List.nil_append, List.replicate, List.length_cons, List.length_nil, Nat.reduceAdd, Nat.reduceSub, List.all_cons, List.all_nil, Bool.and_true, Bool.true_and, true_and, and_true, atI_map, ex_map, ex_some, List.length_map, beq_int, decide_eq_true_eq, if_true, if_false, Bool.false_eq_true, if_pos, reduceIte, at0, at1, at2, at3, dP, mCallX, mCallB, peekA, evA, evAs, eq_self, sRaise0, sRaise1, sTry, caught, unslot, unheld, mXArg, mXIs, runX, List.contains_cons, List.contains_nil, Slot.isExn, String.reduceBEq, ex_arg, ex_valB, Bool.or_false, Bool.false_or, Bool.or_true, Bool.true_or, Bool.not_false, Bool.not_true, mComp2, dGcd, dComb, dSortS, ar_begun_at]
    exact ⟨by omega, by omega, hC, hK _ ⟨_, rfl⟩⟩
  · rintro _ ⟨x, rfl⟩
    have e : (ran 0 (l.length : Int).toNat).map (fun d => match d with | .int i => D.str (turn l i.toNat) | _ => .none) = (List.range l.length).map fun k => D.str (turn l k) := by
      unfold ran
      rw [List.map_map, Int.toNat_natCast]
      refine List.map_congr_left fun k _ => ?_
      show D.str (turn l (0 + (k : Int)).toNat) = _
      rw [show (0 + (k : Int)).toNat = k by omega]
    rw [e]
    have hm : ∀ d, d ∈ (List.range l.length).map (fun k => D.str (turn l k)) → ∃ k, k < l.length ∧ d = .str (turn l k) := fun d hd => by
      obtain ⟨k, hk, rfl⟩ := List.mem_map.mp hd
      exact ⟨k, List.mem_range.mp hk, rfl⟩
    refine ⟨fun a ha b hb => ?_, ?_, by rw [List.length_map, List.length_range]; exact h0, fun m hmm hle => ?_⟩
    · obtain ⟨i, _, rfl⟩ := hm a ha
      obtain ⟨j, _, rfl⟩ := hm b hb
      simp only [likeD]
    · refine List.all_eq_true.mpr fun d hd => ?_
      obtain ⟨k, _, rfl⟩ := hm d hd
      unfold okD
      refine List.all_eq_true.mpr fun c hc => ?_
      have hc : c ∈ l := by
        rcases List.mem_append.mp hc with z | z
        · exact List.mem_of_mem_drop z
        · exact List.mem_of_mem_take z
      rcases hl c hc with z | z <;> rw [z] <;> decide
    · obtain ⟨k, hk, rfl⟩ := hm m hmm
      refine q _ ⟨⟨k, hk, rfl⟩, fun x hx => ?_⟩
      obtain ⟨j, hj, rfl⟩ := hx
      have := hle (.str (turn l j)) (List.mem_map.mpr ⟨j, List.mem_range.mpr hj, rfl⟩)
      simp only [ltD, decide_eq_false_iff_not] at this
      exact this
/-- the least number of flips to a turning -/
def tw (a b : List Nat) (k : Nat) : Nat := dist (sp 0 a) (sp 0 (turn b k))
def LeastD (a b : List Nat) (m : Int) : Prop := (∃ k, k < b.length ∧ m = tw a b k) ∧ ∀ k, k < b.length → m ≤ tw a b k

theorem okInts (r : List Int) (k : Nat) : (r.map D.int).all (okD k) = true := List.all_eq_true.mpr fun d hd => by
  obtain ⟨x, _, rfl⟩ := List.mem_map.mp hd
  cases k <;> rfl
/-- a cut at a condition -/
theorem cond_cut {t : T} {a b : MS} {s : S} {O : Outs} (c : Bool) (h : ∀ K : Bool → S → Prop, K c s → t s K) (h1 : c = true → a s O) (h2 : c = false → b s O) : sIf t a b s O := by
  refine h _ ?_
  show if c = true then a s O else b s O
  cases c with
  | true => exact h1 rfl
  | false => exact h2 rfl
theorem atZ {l : List Int} {i : Nat} (h : i < l.length) : atI l (i : Int) = some (l.getD i 0) := by
  rw [atI_of (by omega) (by omega)]
  simp [List.getD_eq_getElem?_getD, List.getElem?_eq_getElem h]
noncomputable def rtB (a b : List Int) : Bool := @decide (RT a b) (Classical.propDecidable _)
theorem rtB_of {a b : List Int} {c : Bool} (h : c = true ↔ RT a b) : c = rtB a b := by
  unfold rtB
  rw [Bool.eq_iff_iff, h]
  simp
theorem like_ints : ∀ a b : List Int, likeDs (a.map D.int) (b.map D.int) = true
  | [], _ => by simp [likeDs]
  | _ :: _, [] => by simp [likeDs]
  | x :: a, y :: b => by rw [List.map_cons, List.map_cons, likeDs, likeD, like_ints a b]; rfl

theorem joinS_nil : ∀ ls : List (List Nat), joinS [] ls = ls.flatten
  | [] => rfl
  | [p] => by simp [joinS]
  | p :: q :: r => by rw [joinS, joinS_nil (q :: r)]; simp
theorem okSigns {l : List Nat} (h : ∀ x ∈ l, x = 111 ∨ x = 105) : ∀ c ∈ l, c < 1114112 := fun c hc => by rcases h c hc with z | z <;> rw [z] <;> decide
theorem okS {l : List Nat} (h : ∀ x ∈ l, x = 111 ∨ x = 105) : (l.all fun c => decide (c < 1114112)) = true := List.all_eq_true.mpr fun c hc => decide_eq_true (okSigns h c hc)
def leafS (d : D) : Prop := (∃ i : Int, d = .int i) ∨ (∃ b : Bool, d = .bool b) ∨ ∃ s : List Nat, d = .str s ∧ (s.all fun c => decide (c < 1114112)) = true
def shp : Nat → D → Prop
  | 0, d => leafS d
  | n + 1, d => leafS d ∨ ∃ es : List D, (d = .list es ∨ d = .tup es) ∧ es.length ≤ 4000 ∧ ∀ e ∈ es, shp n e
theorem shp_leaf {d : D} (h : leafS d) (n : Nat) : shp n d := by
  cases n with
  | zero => exact h
  | succ n => exact .inl h
def spec__law_same : Nat → Sem
  | 0 => fun _ _ _ => False
  | k + 1 => fun ds w Q => ∃ d : D, ds = [d, d] ∧ shp k d ∧ Q (.val (.bool true)) w
theorem ar__law_same (d e : D) (w : W) (Q : R → W → Prop) : ar 2 (spec__law_same 6) [d, e] w Q = (e = d ∧ shp 5 d ∧ Q (.val (.bool true)) w) := by
  apply propext
  constructor
  · rintro ⟨_, d', e, h1, h2⟩
    simp only [List.cons.injEq, and_true] at e
    obtain ⟨rfl, rfl⟩ := e
    exact ⟨rfl, h1, h2⟩
  · rintro ⟨rfl, h1, h2⟩
    exact ⟨rfl, _, rfl, h1, h2⟩
theorem same_next (k : Nat) (d : D) (w : W) (Q : R → W → Prop) (h : shp k d) (q : Q (.val (.bool true)) w) : ar 2 (spec__law_same (k + 1)) [d, d] w Q := ⟨rfl, d, rfl, h, q⟩
theorem vc__law_same : ∀ j ds w Q, spec__law_same (j + 1) ds w Q → run 3 (b__law_same (ar 2 (spec__law_same j))) ds w Q := by
  rintro j ds w Q ⟨d, rfl, h, q⟩
  unfold b__law_same
  have hz : (2000000 : Nat) ≤ LINE := by decide
  have hleaf : leafS d → run 3 (b__law_same (ar 2 (spec__law_same j))) [d, d] w Q := fun h => by
    unfold b__law_same
    rcases h with ⟨i, rfl⟩ | ⟨b, rfl⟩ | ⟨s, rfl, hs⟩
    · simp only [run, runF, DL.get, DL.put, puts, back, mC, mVar, mFzV, mFeed, frz, msN, msC, mBin, mUn, dAdd, dSub, dMul, dDiv, dMod, dPow, dNeg, dCmp, dLt, dLe, dGt, dGe, dEq, dNe, dIn, dIsN, dIsNotN, isN, dIs, dIsNot, dTab, flatD, okT, truth, tV, tB, tAnd, tOr, tNot, mAnd, mOr, mNot, mIf, mChain, mList, mTup, dIx, mSl, oN, oS, mRev, mRevTo, mCall, mCallF, dLen, dAbs, dInt, dMin2, dMax2, dList, dTup, dSum, dMin, dMax, dMinG, dMaxG, dAll, isTy, mIsI, gV, gSkip, gsN, gsC, gT, srcV, srcR1, srcR2, srcEnum, srcRev, mComp, tYes, isS, isL, mMS, mML, dIndexS, dIndexL, dIndexFrom, mMS2, dCount, dSplit, dJoin, sNil, sSeq, sSet, sAsg, sPar, sRet, retK, sRetN, sIf, sPass, sBrk, sCont, sNever, sExpr, sAug, ownAt, feedAt, intD, sApp, sExt, sSetI, sAugI, sFeed, sFeedA, popD, sPop, sAddPop, sFor, DL.W.set, DL.W.at, DL.R.d, okD, eqD_none_none, eqD_none_bool, eqD_none_int, eqD_none_str, eqD_none_list, eqD_none_tup, eqD_bool_none, eqD_bool_bool, eqD_bool_int, eqD_bool_str, eqD_bool_list, eqD_bool_tup, eqD_int_none, eqD_int_bool, eqD_int_int, eqD_int_str, eqD_int_list, eqD_int_tup, eqD_str_none, eqD_str_bool, eqD_str_int, eqD_str_str, eqD_str_list, eqD_str_tup, eqD_list_none, eqD_list_bool, eqD_list_int, eqD_list_str, eqD_list_list, eqD_list_tup, eqD_tup_none, eqD_tup_bool, eqD_tup_int, eqD_tup_str, eqD_tup_list, eqD_tup_tup, eqDs_nn, eqDs_cc, eqDs_nc, eqDs_cn, List.map_cons, List.map_nil, List.map, List.cons_append, List.nil_append, List.replicate, List.length_cons, List.length_nil, Nat.reduceAdd, Nat.reduceSub, List.all_cons, List.all_nil, Bool.and_true, Bool.true_and, true_and, and_true, atI_map, ex_map, ex_some, List.length_map, beq_int, decide_eq_true_eq, if_true, if_false, Bool.false_eq_true, if_pos, reduceIte, at0, at1, at2, at3, dP, mCallX, mCallB, peekA, evA, evAs, eq_self, sRaise0, sRaise1, sTry, caught, unslot, unheld, mXArg, mXIs, runX, List.contains_cons, List.contains_nil, Slot.isExn, String.reduceBEq, ex_arg, ex_valB, Bool.or_false, Bool.false_or, Bool.or_true, Bool.true_or, Bool.not_false, Bool.not_true, mComp2, dGcd, dComb, dSortS]
      exact q
    · simp only [run, runF, DL.get, DL.put, puts, back, mC, mVar, mFzV, mFeed, frz, msN, msC, mBin, mUn, dAdd, dSub, dMul, dDiv, dMod, dPow, dNeg, dCmp, dLt, dLe, dGt, dGe, dEq, dNe, dIn, dIsN, dIsNotN, isN, dIs, dIsNot, dTab, flatD, okT, truth, tV, tB, tAnd, tOr, tNot, mAnd, mOr, mNot, mIf, mChain, mList, mTup, dIx, mSl, oN, oS, mRev, mRevTo, mCall, mCallF, dLen, dAbs, dInt, dMin2, dMax2, dList, dTup, dSum, dMin, dMax, dMinG, dMaxG, dAll, isTy, mIsI, gV, gSkip, gsN, gsC, gT, srcV, srcR1, srcR2, srcEnum, srcRev, mComp, tYes, isS, isL, mMS, mML, dIndexS, dIndexL, dIndexFrom, mMS2, dCount, dSplit, dJoin, sNil, sSeq, sSet, sAsg, sPar, sRet, retK, sRetN, sIf, sPass, sBrk, sCont, sNever, sExpr, sAug, ownAt, feedAt, intD, sApp, sExt, sSetI, sAugI, sFeed, sFeedA, popD, sPop, sAddPop, sFor, DL.W.set, DL.W.at, DL.R.d, okD, eqD_none_none, eqD_none_bool, eqD_none_int, eqD_none_str, eqD_none_list, eqD_none_tup, eqD_bool_none, eqD_bool_bool, eqD_bool_int, eqD_bool_str, eqD_bool_list, eqD_bool_tup, eqD_int_none, eqD_int_bool, eqD_int_int, eqD_int_str, eqD_int_list, eqD_int_tup, eqD_str_none, eqD_str_bool, eqD_str_int, eqD_str_str, eqD_str_list, eqD_str_tup, eqD_list_none, eqD_list_bool, eqD_list_int, eqD_list_str, eqD_list_list, eqD_list_tup, eqD_tup_none, eqD_tup_bool, eqD_tup_int, eqD_tup_str, eqD_tup_list, eqD_tup_tup, eqDs_nn, eqDs_cc, eqDs_nc, eqDs_cn, List.map_cons, List.map_nil, List.map, List.cons_append, List.nil_append, List.replicate, List.length_cons, List.length_nil, Nat.reduceAdd, Nat.reduceSub, List.all_cons, List.all_nil, Bool.and_true, Bool.true_and, true_and, and_true, atI_map, ex_map, ex_some, List.length_map, beq_int, decide_eq_true_eq, if_true, if_false, Bool.false_eq_true, if_pos, reduceIte, at0, at1, at2, at3, dP, mCallX, mCallB, peekA, evA, evAs, eq_self, sRaise0, sRaise1, sTry, caught, unslot, unheld, mXArg, mXIs, runX, List.contains_cons, List.contains_nil, Slot.isExn, String.reduceBEq, ex_arg, ex_valB, Bool.or_false, Bool.false_or, Bool.or_true, Bool.true_or, Bool.not_false, Bool.not_true, mComp2, dGcd, dComb, dSortS]
      rw [beq_self_eq_true]
      exact q
    · simp only [run, runF, DL.get, DL.put, puts, back, mC, mVar, mFzV, mFeed, frz, msN, msC, mBin, mUn, dAdd, dSub, dMul, dDiv, dMod, dPow, dNeg, dCmp, dLt, dLe, dGt, dGe, dEq, dNe, dIn, dIsN, dIsNotN, isN, dIs, dIsNot, dTab, flatD, okT, truth, tV, tB, tAnd, tOr, tNot, mAnd, mOr, mNot, mIf, mChain, mList, mTup, dIx, mSl, oN, oS, mRev, mRevTo, mCall, mCallF, dLen, dAbs, dInt, dMin2, dMax2, dList, dTup, dSum, dMin, dMax, dMinG, dMaxG, dAll, isTy, mIsI, gV, gSkip, gsN, gsC, gT, srcV, srcR1, srcR2, srcEnum, srcRev, mComp, tYes, isS, isL, mMS, mML, dIndexS, dIndexL, dIndexFrom, mMS2, dCount, dSplit, dJoin, sNil, sSeq, sSet, sAsg, sPar, sRet, retK, sRetN, sIf, sPass, sBrk, sCont, sNever, sExpr, sAug, ownAt, feedAt, intD, sApp, sExt, sSetI, sAugI, sFeed, sFeedA, popD, sPop, sAddPop, sFor, DL.W.set, DL.W.at, DL.R.d, okD, eqD_none_none, eqD_none_bool, eqD_none_int, eqD_none_str, eqD_none_list, eqD_none_tup, eqD_bool_none, eqD_bool_bool, eqD_bool_int, eqD_bool_str, eqD_bool_list, eqD_bool_tup, eqD_int_none, eqD_int_bool, eqD_int_int, eqD_int_str, eqD_int_list, eqD_int_tup, eqD_str_none, eqD_str_bool, eqD_str_int, eqD_str_str, eqD_str_list, eqD_str_tup, eqD_list_none, eqD_list_bool, eqD_list_int, eqD_list_str, eqD_list_list, eqD_list_tup, eqD_tup_none, eqD_tup_bool, eqD_tup_int, eqD_tup_str, eqD_tup_list, eqD_tup_tup, eqDs_nn, eqDs_cc, eqDs_nc, eqDs_cn, List.map_cons, List.map_nil, List.map, List.cons_append, List.nil_append, List.replicate, List.length_cons, List.length_nil, Nat.reduceAdd, Nat.reduceSub, List.all_cons, List.all_nil, Bool.and_true, Bool.true_and, true_and, and_true, atI_map, ex_map, ex_some, List.length_map, beq_int, decide_eq_true_eq, if_true, if_false, Bool.false_eq_true, if_pos, reduceIte, at0, at1, at2, at3, dP, mCallX, mCallB, peekA, evA, evAs, eq_self, sRaise0, sRaise1, sTry, caught, unslot, unheld, mXArg, mXIs, runX, List.contains_cons, List.contains_nil, Slot.isExn, String.reduceBEq, ex_arg, ex_valB, Bool.or_false, Bool.false_or, Bool.or_true, Bool.true_or, Bool.not_false, Bool.not_true, mComp2, dGcd, dComb, dSortS]
      rw [beq_self_eq_true]
      exact ⟨hs, hs, q⟩
  cases j with
  | zero =>
    have := hleaf h
    unfold b__law_same at this
    exact this
  | succ n =>
    rcases h with h | ⟨es, rfl | rfl, hl, hes⟩
    · have := hleaf h
      unfold b__law_same at this
      exact this
    · simp only [run, runF, DL.get, DL.put, puts, back, mC, mVar, mFzV, mFeed, frz, msN, msC, mBin, mUn, dAdd, dSub, dMul, dDiv, dMod, dPow, dNeg, dCmp, dLt, dLe, dGt, dGe, dEq, dNe, dIn, dIsN, dIsNotN, isN, dIs, dIsNot, dTab, flatD, okT, truth, tV, tB, tAnd, tOr, tNot, mAnd, mOr, mNot, mIf, mChain, mList, mTup, dIx, mSl, oN, oS, mRev, mRevTo, mCall, mCallF, dLen, dAbs, dInt, dMin2, dMax2, dList, dTup, dSum, dMin, dMax, dMinG, dMaxG, dAll, isTy, mIsI, gV, gSkip, gsN, gsC, gT, srcV, srcR1, srcR2, srcEnum, srcRev, mComp, tYes, isS, isL, mMS, mML, dIndexS, dIndexL, dIndexFrom, mMS2, dCount, dSplit, dJoin, sNil, sSeq, sSet, sAsg, sPar, sRet, retK, sRetN, sIf, sPass, sBrk, sCont, sNever, sExpr, sAug, ownAt, feedAt, intD, sApp, sExt, sSetI, sAugI, sFeed, sFeedA, popD, sPop, sAddPop, sFor, DL.W.set, DL.W.at, DL.R.d, okD, eqD_none_none, eqD_none_bool, eqD_none_int, eqD_none_str, eqD_none_list, eqD_none_tup, eqD_bool_none, eqD_bool_bool, eqD_bool_int, eqD_bool_str, eqD_bool_list, eqD_bool_tup, eqD_int_none, eqD_int_bool, eqD_int_int, eqD_int_str, eqD_int_list, eqD_int_tup, eqD_str_none, eqD_str_bool, eqD_str_int, eqD_str_str, eqD_str_list, eqD_str_tup, eqD_list_none, eqD_list_bool, eqD_list_int, eqD_list_str, eqD_list_list, eqD_list_tup, eqD_tup_none, eqD_tup_bool, eqD_tup_int, eqD_tup_str, eqD_tup_list, eqD_tup_tup, eqDs_nn, eqDs_cc, eqDs_nc, eqDs_cn, List.map_cons, List.map_nil, List.map, List.cons_append, List.nil_append, List.replicate, List.length_cons, List.length_nil, Nat.reduceAdd, Nat.reduceSub, List.all_cons, List.all_nil, Bool.and_true, Bool.true_and, true_and, and_true, atI_map, ex_map, ex_some, List.length_map, beq_int, decide_eq_true_eq, if_true, if_false, Bool.false_eq_true, if_pos, reduceIte, at0, at1, at2, at3, dP, mCallX, mCallB, peekA, evA, evAs, eq_self, sRaise0, sRaise1, sTry, caught, unslot, unheld, mXArg, mXIs, runX, List.contains_cons, List.contains_nil, Slot.isExn, String.reduceBEq, ex_arg, ex_valB, Bool.or_false, Bool.false_or, Bool.or_true, Bool.true_or, Bool.not_false, Bool.not_true, mComp2, dGcd, dComb, dSortS]
      rw [if_neg (by decide), if_neg (by decide)]
      refine ⟨by omega, ?_⟩
      rw [Int.toNat_natCast]
      refine compL_f _ (fun _ => .bool true) (fun st => ∃ x, st = ⟨[.val (.list es), .val (.list es), x], w⟩) ⟨_, rfl⟩ (by rw [ran_len]; omega) ?_ ?_
      · rintro d _ hd ⟨x, rfl⟩ C K hC hK
        obtain ⟨i, hi⟩ := List.getElem?_of_mem hd
        obtain ⟨hi', rfl⟩ := ran_get hi
        rw [Int.zero_add]
        have hg : atI es (i : Int) = some (es[i]'hi') := by rw [atI_at (by omega) (by rw [Int.toNat_natCast]; exact List.getElem?_eq_getElem hi')]
        simp only [run, runF, DL.get, DL.put, puts, back, mC, mVar, mFzV, mFeed, frz, msN, msC, mBin, mUn, dAdd, dSub, dMul, dDiv, dMod, dPow, dNeg, dCmp, dLt, dLe, dGt, dGe, dEq, dNe, dIn, dIsN, dIsNotN, isN, dIs, dIsNot, dTab, flatD, okT, truth, tV, tB, tAnd, tOr, tNot, mAnd, mOr, mNot, mIf, mChain, mList, mTup, dIx, mSl, oN, oS, mRev, mRevTo, mCall, mCallF, dLen, dAbs, dInt, dMin2, dMax2, dList, dTup, dSum, dMin, dMax, dMinG, dMaxG, dAll, isTy, mIsI, gV, gSkip, gsN, gsC, gT, srcV, srcR1, srcR2, srcEnum, srcRev, mComp, tYes, isS, isL, mMS, mML, dIndexS, dIndexL, dIndexFrom, mMS2, dCount, dSplit, dJoin, sNil, sSeq, sSet, sAsg, sPar, sRet, retK, sRetN, sIf, sPass, sBrk, sCont, sNever, sExpr, sAug, ownAt, feedAt, intD, sApp, sExt, sSetI, sAugI, sFeed, sFeedA, popD, sPop, sAddPop, sFor, DL.W.set, DL.W.at, DL.R.d, okD, eqD_none_none, eqD_none_bool, eqD_none_int, eqD_none_str, eqD_none_list, eqD_none_tup, eqD_bool_none, eqD_bool_bool, eqD_bool_int, eqD_bool_str, eqD_bool_list, eqD_bool_tup, eqD_int_none, eqD_int_bool, eqD_int_int, eqD_int_str, eqD_int_list, eqD_int_tup, eqD_str_none, eqD_str_bool, eqD_str_int, eqD_str_str, eqD_str_list, eqD_str_tup, eqD_list_none, eqD_list_bool, eqD_list_int, eqD_list_str, eqD_list_list, eqD_list_tup, eqD_tup_none, eqD_tup_bool, eqD_tup_int, eqD_tup_str, eqD_tup_list, eqD_tup_tup, eqDs_nn, eqDs_cc, eqDs_nc, eqDs_cn, List.map_cons, List.map_nil, List.map, List.cons_append, List.nil_append, List.replicate, List.length_cons, List.length_nil, Nat.reduceAdd, Nat.reduceSub, List.all_cons, List.all_nil, Bool.and_true, Bool.true_and, true_and, and_true, atI_map, ex_map, ex_some, List.length_map, beq_int, decide_eq_true_eq, if_true, if_false, Bool.false_eq_true, if_pos, reduceIte, at0, at1, at2, at3, dP, mCallX, mCallB, peekA, evA, evAs, eq_self, sRaise0, sRaise1, sTry, caught, unslot, unheld, mXArg, mXIs, runX, List.contains_cons, List.contains_nil, Slot.isExn, String.reduceBEq, ex_arg, ex_valB, Bool.or_false, Bool.false_or, Bool.or_true, Bool.true_or, Bool.not_false, Bool.not_true, mComp2, dGcd, dComb, dSortS]
        refine ⟨_, hg, _, hg, ?_⟩
        exact same_next n _ _ _ (hes _ (List.getElem_mem hi')) ⟨hC, hK _ ⟨_, rfl⟩⟩
      · rintro _ ⟨x, rfl⟩
        refine ⟨List.replicate es.length true, ?_, ?_⟩
        · rw [List.map_replicate, List.map_const', ran_len]
        · rw [List.all_replicate]
          simpa using q
    · simp only [run, runF, DL.get, DL.put, puts, back, mC, mVar, mFzV, mFeed, frz, msN, msC, mBin, mUn, dAdd, dSub, dMul, dDiv, dMod, dPow, dNeg, dCmp, dLt, dLe, dGt, dGe, dEq, dNe, dIn, dIsN, dIsNotN, isN, dIs, dIsNot, dTab, flatD, okT, truth, tV, tB, tAnd, tOr, tNot, mAnd, mOr, mNot, mIf, mChain, mList, mTup, dIx, mSl, oN, oS, mRev, mRevTo, mCall, mCallF, dLen, dAbs, dInt, dMin2, dMax2, dList, dTup, dSum, dMin, dMax, dMinG, dMaxG, dAll, isTy, mIsI, gV, gSkip, gsN, gsC, gT, srcV, srcR1, srcR2, srcEnum, srcRev, mComp, tYes, isS, isL, mMS, mML, dIndexS, dIndexL, dIndexFrom, mMS2, dCount, dSplit, dJoin, sNil, sSeq, sSet, sAsg, sPar, sRet, retK, sRetN, sIf, sPass, sBrk, sCont, sNever, sExpr, sAug, ownAt, feedAt, intD, sApp, sExt, sSetI, sAugI, sFeed, sFeedA, popD, sPop, sAddPop, sFor, DL.W.set, DL.W.at, DL.R.d, okD, eqD_none_none, eqD_none_bool, eqD_none_int, eqD_none_str, eqD_none_list, eqD_none_tup, eqD_bool_none, eqD_bool_bool, eqD_bool_int, eqD_bool_str, eqD_bool_list, eqD_bool_tup, eqD_int_none, eqD_int_bool, eqD_int_int, eqD_int_str, eqD_int_list, eqD_int_tup, eqD_str_none, eqD_str_bool, eqD_str_int, eqD_str_str, eqD_str_list, eqD_str_tup, eqD_list_none, eqD_list_bool, eqD_list_int, eqD_list_str, eqD_list_list, eqD_list_tup, eqD_tup_none, eqD_tup_bool, eqD_tup_int, eqD_tup_str, eqD_tup_list, eqD_tup_tup, eqDs_nn, eqDs_cc, eqDs_nc, eqDs_cn, List.map_cons, List.map_nil, List.map, List.cons_append, List.nil_append, List.replicate, List.length_cons, List.length_nil, Nat.reduceAdd, Nat.reduceSub, List.all_cons, List.all_nil, Bool.and_true, Bool.true_and, true_and, and_true, atI_map, ex_map, ex_some, List.length_map, beq_int, decide_eq_true_eq, if_true, if_false, Bool.false_eq_true, if_pos, reduceIte, at0, at1, at2, at3, dP, mCallX, mCallB, peekA, evA, evAs, eq_self, sRaise0, sRaise1, sTry, caught, unslot, unheld, mXArg, mXIs, runX, List.contains_cons, List.contains_nil, Slot.isExn, String.reduceBEq, ex_arg, ex_valB, Bool.or_false, Bool.false_or, Bool.or_true, Bool.true_or, Bool.not_false, Bool.not_true, mComp2, dGcd, dComb, dSortS]
      rw [if_neg (by decide), if_neg (by decide)]
      refine ⟨by omega, ?_⟩
      rw [Int.toNat_natCast]
      refine compL_f _ (fun _ => .bool true) (fun st => ∃ x, st = ⟨[.val (.tup es), .val (.tup es), x], w⟩) ⟨_, rfl⟩ (by rw [ran_len]; omega) ?_ ?_
      · rintro d _ hd ⟨x, rfl⟩ C K hC hK
        obtain ⟨i, hi⟩ := List.getElem?_of_mem hd
        obtain ⟨hi', rfl⟩ := ran_get hi
        rw [Int.zero_add]
        have hg : atI es (i : Int) = some (es[i]'hi') := by rw [atI_at (by omega) (by rw [Int.toNat_natCast]; exact List.getElem?_eq_getElem hi')]
        simp only [run, runF, DL.get, DL.put, puts, back, mC, mVar, mFzV, mFeed, frz, msN, msC, mBin, mUn, dAdd, dSub, dMul, dDiv, dMod, dPow, dNeg, dCmp, dLt, dLe, dGt, dGe, dEq, dNe, dIn, dIsN, dIsNotN, isN, dIs, dIsNot, dTab, flatD, okT, truth, tV, tB, tAnd, tOr, tNot, mAnd, mOr, mNot, mIf, mChain, mList, mTup, dIx, mSl, oN, oS, mRev, mRevTo, mCall, mCallF, dLen, dAbs, dInt, dMin2, dMax2, dList, dTup, dSum, dMin, dMax, dMinG, dMaxG, dAll, isTy, mIsI, gV, gSkip, gsN, gsC, gT, srcV, srcR1, srcR2, srcEnum, srcRev, mComp, tYes, isS, isL, mMS, mML, dIndexS, dIndexL, dIndexFrom, mMS2, dCount, dSplit, dJoin, sNil, sSeq, sSet, sAsg, sPar, sRet, retK, sRetN, sIf, sPass, sBrk, sCont, sNever, sExpr, sAug, ownAt, feedAt, intD, sApp, sExt, sSetI, sAugI, sFeed, sFeedA, popD, sPop, sAddPop, sFor, DL.W.set, DL.W.at, DL.R.d, okD, eqD_none_none, eqD_none_bool, eqD_none_int, eqD_none_str, eqD_none_list, eqD_none_tup, eqD_bool_none, eqD_bool_bool, eqD_bool_int, eqD_bool_str, eqD_bool_list, eqD_bool_tup, eqD_int_none, eqD_int_bool, eqD_int_int, eqD_int_str, eqD_int_list, eqD_int_tup, eqD_str_none, eqD_str_bool, eqD_str_int, eqD_str_str, eqD_str_list, eqD_str_tup, eqD_list_none, eqD_list_bool, eqD_list_int, eqD_list_str, eqD_list_list, eqD_list_tup, eqD_tup_none, eqD_tup_bool, eqD_tup_int, eqD_tup_str, eqD_tup_list, eqD_tup_tup, eqDs_nn, eqDs_cc, eqDs_nc, eqDs_cn, List.map_cons, List.map_nil, List.map, List.cons_append, List.nil_append, List.replicate, List.length_cons, List.length_nil, Nat.reduceAdd, Nat.reduceSub, List.all_cons, List.all_nil, Bool.and_true, Bool.true_and, true_and, and_true, atI_map, ex_map, ex_some, List.length_map, beq_int, decide_eq_true_eq, if_true, if_false, Bool.false_eq_true, if_pos, reduceIte, at0, at1, at2, at3, dP, mCallX, mCallB, peekA, evA, evAs, eq_self, sRaise0, sRaise1, sTry, caught, unslot, unheld, mXArg, mXIs, runX, List.contains_cons, List.contains_nil, Slot.isExn, String.reduceBEq, ex_arg, ex_valB, Bool.or_false, Bool.false_or, Bool.or_true, Bool.true_or, Bool.not_false, Bool.not_true, mComp2, dGcd, dComb, dSortS]
        refine ⟨_, hg, _, hg, ?_⟩
        exact same_next n _ _ _ (hes _ (List.getElem_mem hi')) ⟨hC, hK _ ⟨_, rfl⟩⟩
      · rintro _ ⟨x, rfl⟩
        refine ⟨List.replicate es.length true, ?_, ?_⟩
        · rw [List.map_replicate, List.map_const', ran_len]
        · rw [List.all_replicate]
          simpa using q
/-- turnings of a text, or of a list -/
def spec__law_turnings : Sem := fun ds w Q => (∃ l : List Nat, ds = [.str l] ∧ l.length ≤ 1000 ∧ Q (.own ((List.range l.length).map fun k => D.str (turn l k))) w) ∨ ∃ r : List Int, ds = [.list (r.map D.int)] ∧ r.length ≤ 1000 ∧ Q (.own ((List.range r.length).map fun k => D.list ((rot r k).map D.int))) w
theorem ar__law_turnings (l : List Nat) (w : W) (Q : R → W → Prop) : ar 1 spec__law_turnings [.str l] w Q = (l.length ≤ 1000 ∧ Q (.own ((List.range l.length).map fun k => D.str (turn l k))) w) := by
  apply propext
  constructor
  · rintro ⟨_, ⟨l', e, h⟩ | ⟨r, e, h⟩⟩
    · simp only [List.cons.injEq, D.str.injEq, and_true] at e
      subst e
      exact h
    · simp only [List.cons.injEq, and_true] at e
      cases e
  · intro h
    exact ⟨rfl, .inl ⟨_, rfl, h⟩⟩
theorem turnings_l (r : List Int) (w : W) (Q : R → W → Prop) (h : r.length ≤ 1000) (q : Q (.own ((List.range r.length).map fun k => D.list ((rot r k).map D.int))) w) : ar 1 spec__law_turnings [.list (r.map D.int)] w Q := ⟨rfl, .inr ⟨r, rfl, h, q⟩⟩
theorem vc__law_turnings : ∀ ds w Q, spec__law_turnings ds w Q → run 2 b__law_turnings ds w Q := by
  rintro ds w Q (⟨l, rfl, hl, q⟩ | ⟨r, rfl, hl, q⟩)
  · have hz : (2000 : Nat) ≤ LINE := by decide
    unfold b__law_turnings
    simp only [run, runF, DL.get, DL.put, puts, back, mC, mVar, mFzV, mFeed, frz, msN, msC, mBin, mUn, dAdd, dSub, dMul, dDiv, dMod, dPow, dNeg, dCmp, dLt, dLe, dGt, dGe, dEq, dNe, dIn, dIsN, dIsNotN, isN, dIs, dIsNot, dTab, flatD, okT, truth, tV, tB, tAnd, tOr, tNot, mAnd, mOr, mNot, mIf, mChain, mList, mTup, dIx, mSl, oN, oS, mRev, mRevTo, mCall, mCallF, dLen, dAbs, dInt, dMin2, dMax2, dList, dTup, dSum, dMin, dMax, dMinG, dMaxG, dAll, isTy, mIsI, gV, gSkip, gsN, gsC, gT, srcV, srcR1, srcR2, srcEnum, srcRev, mComp, tYes, isS, isL, mMS, mML, dIndexS, dIndexL, dIndexFrom, mMS2, dCount, dSplit, dJoin, sNil, sSeq, sSet, sAsg, sPar, sRet, retK, sRetN, sIf, sPass, sBrk, sCont, sNever, sExpr, sAug, ownAt, feedAt, intD, sApp, sExt, sSetI, sAugI, sFeed, sFeedA, popD, sPop, sAddPop, sFor, DL.W.set, DL.W.at, DL.R.d, okD, eqD_none_none, eqD_none_bool, eqD_none_int, eqD_none_str, eqD_none_list, eqD_none_tup, eqD_bool_none, eqD_bool_bool, eqD_bool_int, eqD_bool_str, eqD_bool_list, eqD_bool_tup, eqD_int_none, eqD_int_bool, eqD_int_int, eqD_int_str, eqD_int_list, eqD_int_tup, eqD_str_none, eqD_str_bool, eqD_str_int, eqD_str_str, eqD_str_list, eqD_str_tup, eqD_list_none, eqD_list_bool, eqD_list_int, eqD_list_str, eqD_list_list, eqD_list_tup, eqD_tup_none, eqD_tup_bool, eqD_tup_int, eqD_tup_str, eqD_tup_list, eqD_tup_tup, eqDs_nn, eqDs_cc, eqDs_nc, eqDs_cn, List.map_cons, List.map_nil, List.map, List.cons_append, List.nil_append, List.replicate, List.length_cons, List.length_nil, Nat.reduceAdd, Nat.reduceSub, List.all_cons, List.all_nil, Bool.and_true, Bool.true_and, true_and, and_true, atI_map, ex_map, ex_some, List.length_map, beq_int, decide_eq_true_eq, if_true, if_false, Bool.false_eq_true, if_pos, reduceIte, at0, at1, at2, at3, dP, mCallX, mCallB, peekA, evA, evAs, eq_self, sRaise0, sRaise1, sTry, caught, unslot, unheld, mXArg, mXIs, runX, List.contains_cons, List.contains_nil, Slot.isExn, String.reduceBEq, ex_arg, ex_valB, Bool.or_false, Bool.false_or, Bool.or_true, Bool.true_or, Bool.not_false, Bool.not_true, mComp2, dGcd, dComb, dSortS]
    refine ⟨by omega, by omega, ?_⟩
    rw [Int.toNat_natCast]
    refine compL_f _ (fun d => match d with | .int i => .str (turn l i.toNat) | _ => .none) (fun st => ∃ x, st = ⟨[.val (.str l), x], w⟩) ⟨_, rfl⟩ (by rw [ran_len]; omega) ?_ ?_
    · rintro d _ hd ⟨x, rfl⟩ C K hC hK
      obtain ⟨i, hi⟩ := List.getElem?_of_mem hd
      obtain ⟨hi, rfl⟩ := ran_get hi
      rw [Int.zero_add] at *
      have tl := turn_len l (p := i) (by omega)
      simp only [run, runF, DL.get, DL.put, puts, back, mC, mVar, mFzV, mFeed, frz, msN, msC, mBin, mUn, dAdd, dSub, dMul, dDiv, dMod, dPow, dNeg, dCmp, dLt, dLe, dGt, dGe, dEq, dNe, dIn, dIsN, dIsNotN, isN, dIs, dIsNot, dTab, flatD, okT, truth, tV, tB, tAnd, tOr, tNot, mAnd, mOr, mNot, mIf, mChain, mList, mTup, dIx, mSl, oN, oS, mRev, mRevTo, mCall, mCallF, dLen, dAbs, dInt, dMin2, dMax2, dList, dTup, dSum, dMin, dMax, dMinG, dMaxG, dAll, isTy, mIsI, gV, gSkip, gsN, gsC, gT, srcV, srcR1, srcR2, srcEnum, srcRev, mComp, tYes, isS, isL, mMS, mML, dIndexS, dIndexL, dIndexFrom, mMS2, dCount, dSplit, dJoin, sNil, sSeq, sSet, sAsg, sPar, sRet, retK, sRetN, sIf, sPass, sBrk, sCont, sNever, sExpr, sAug, ownAt, feedAt, intD, sApp, sExt, sSetI, sAugI, sFeed, sFeedA, popD, sPop, sAddPop, sFor, DL.W.set, DL.W.at, DL.R.d, okD, eqD_none_none, eqD_none_bool, eqD_none_int, eqD_none_str, eqD_none_list, eqD_none_tup, eqD_bool_none, eqD_bool_bool, eqD_bool_int, eqD_bool_str, eqD_bool_list, eqD_bool_tup, eqD_int_none, eqD_int_bool, eqD_int_int, eqD_int_str, eqD_int_list, eqD_int_tup, eqD_str_none, eqD_str_bool, eqD_str_int, eqD_str_str, eqD_str_list, eqD_str_tup, eqD_list_none, eqD_list_bool, eqD_list_int, eqD_list_str, eqD_list_list, eqD_list_tup, eqD_tup_none, eqD_tup_bool, eqD_tup_int, eqD_tup_str, eqD_tup_list, eqD_tup_tup, eqDs_nn, eqDs_cc, eqDs_nc, eqDs_cn, List.map_cons, List.map_nil, List.map, List.cons_append, List.nil_append, List.replicate, List.length_cons, List.length_nil, Nat.reduceAdd, Nat.reduceSub, List.all_cons, List.all_nil, Bool.and_true, Bool.true_and, true_and, and_true, atI_map, ex_map, ex_some, List.length_map, beq_int, decide_eq_true_eq, if_true, if_false, Bool.false_eq_true, if_pos, reduceIte, at0, at1, at2, at3, dP, mCallX, mCallB, peekA, evA, evAs, eq_self, sRaise0, sRaise1, sTry, caught, unslot, unheld, mXArg, mXIs, runX, List.contains_cons, List.contains_nil, Slot.isExn, String.reduceBEq, ex_arg, ex_valB, Bool.or_false, Bool.false_or, Bool.or_true, Bool.true_or, Bool.not_false, Bool.not_true, mComp2, dGcd, dComb, dSortS]
      rw [cut_from, cut_to]
      refine ⟨by omega, by omega, ?_, hC, hK _ ⟨_, rfl⟩⟩
      have : (l.drop i ++ l.take i).length = l.length := tl
      rw [List.length_append] at this
      omega
    · rintro _ ⟨x, rfl⟩
      have e : (ran 0 l.length).map (fun d => match d with | .int i => D.str (turn l i.toNat) | _ => .none) = (List.range l.length).map fun k => D.str (turn l k) := by
        unfold ran
        rw [List.map_map]
        refine List.map_congr_left fun k _ => ?_
        show D.str (turn l (0 + (k : Int)).toNat) = _
        rw [show (0 + (k : Int)).toNat = k by omega]
      rw [e]
      exact q
  · have hz : (2000 : Nat) ≤ LINE := by decide
    unfold b__law_turnings
    simp only [run, runF, DL.get, DL.put, puts, back, mC, mVar, mFzV, mFeed, frz, msN, msC, mBin, mUn, dAdd, dSub, dMul, dDiv, dMod, dPow, dNeg, dCmp, dLt, dLe, dGt, dGe, dEq, dNe, dIn, dIsN, dIsNotN, isN, dIs, dIsNot, dTab, flatD, okT, truth, tV, tB, tAnd, tOr, tNot, mAnd, mOr, mNot, mIf, mChain, mList, mTup, dIx, mSl, oN, oS, mRev, mRevTo, mCall, mCallF, dLen, dAbs, dInt, dMin2, dMax2, dList, dTup, dSum, dMin, dMax, dMinG, dMaxG, dAll, isTy, mIsI, gV, gSkip, gsN, gsC, gT, srcV, srcR1, srcR2, srcEnum, srcRev, mComp, tYes, isS, isL, mMS, mML, dIndexS, dIndexL, dIndexFrom, mMS2, dCount, dSplit, dJoin, sNil, sSeq, sSet, sAsg, sPar, sRet, retK, sRetN, sIf, sPass, sBrk, sCont, sNever, sExpr, sAug, ownAt, feedAt, intD, sApp, sExt, sSetI, sAugI, sFeed, sFeedA, popD, sPop, sAddPop, sFor, DL.W.set, DL.W.at, DL.R.d, okD, eqD_none_none, eqD_none_bool, eqD_none_int, eqD_none_str, eqD_none_list, eqD_none_tup, eqD_bool_none, eqD_bool_bool, eqD_bool_int, eqD_bool_str, eqD_bool_list, eqD_bool_tup, eqD_int_none, eqD_int_bool, eqD_int_int, eqD_int_str, eqD_int_list, eqD_int_tup, eqD_str_none, eqD_str_bool, eqD_str_int, eqD_str_str, eqD_str_list, eqD_str_tup, eqD_list_none, eqD_list_bool, eqD_list_int, eqD_list_str, eqD_list_list, eqD_list_tup, eqD_tup_none, eqD_tup_bool, eqD_tup_int, eqD_tup_str, eqD_tup_list, eqD_tup_tup, eqDs_nn, eqDs_cc, eqDs_nc, eqDs_cn, List.map_cons, List.map_nil, List.map, List.cons_append, List.nil_append, List.replicate, List.length_cons, List.length_nil, Nat.reduceAdd, Nat.reduceSub, List.all_cons, List.all_nil, Bool.and_true, Bool.true_and, true_and, and_true, atI_map, ex_map, ex_some, List.length_map, beq_int, decide_eq_true_eq, if_true, if_false, Bool.false_eq_true, if_pos, reduceIte, at0, at1, at2, at3, dP, mCallX, mCallB, peekA, evA, evAs, eq_self, sRaise0, sRaise1, sTry, caught, unslot, unheld, mXArg, mXIs, runX, List.contains_cons, List.contains_nil, Slot.isExn, String.reduceBEq, ex_arg, ex_valB, Bool.or_false, Bool.false_or, Bool.or_true, Bool.true_or, Bool.not_false, Bool.not_true, mComp2, dGcd, dComb, dSortS]
    refine ⟨by omega, ?_⟩
    rw [Int.toNat_natCast]
    refine compL_f _ (fun d => match d with | .int i => .list ((rot r i.toNat).map D.int) | _ => .none) (fun st => ∃ x, st = ⟨[.val (.list (r.map D.int)), x], w⟩) ⟨_, rfl⟩ (by rw [ran_len]; omega) ?_ ?_
    · rintro d _ hd ⟨x, rfl⟩ C K hC hK
      obtain ⟨i, hi⟩ := List.getElem?_of_mem hd
      obtain ⟨hi, rfl⟩ := ran_get hi
      rw [Int.zero_add] at *
      have tl := rot_len r i (by omega)
      simp only [run, runF, DL.get, DL.put, puts, back, mC, mVar, mFzV, mFeed, frz, msN, msC, mBin, mUn, dAdd, dSub, dMul, dDiv, dMod, dPow, dNeg, dCmp, dLt, dLe, dGt, dGe, dEq, dNe, dIn, dIsN, dIsNotN, isN, dIs, dIsNot, dTab, flatD, okT, truth, tV, tB, tAnd, tOr, tNot, mAnd, mOr, mNot, mIf, mChain, mList, mTup, dIx, mSl, oN, oS, mRev, mRevTo, mCall, mCallF, dLen, dAbs, dInt, dMin2, dMax2, dList, dTup, dSum, dMin, dMax, dMinG, dMaxG, dAll, isTy, mIsI, gV, gSkip, gsN, gsC, gT, srcV, srcR1, srcR2, srcEnum, srcRev, mComp, tYes, isS, isL, mMS, mML, dIndexS, dIndexL, dIndexFrom, mMS2, dCount, dSplit, dJoin, sNil, sSeq, sSet, sAsg, sPar, sRet, retK, sRetN, sIf, sPass, sBrk, sCont, sNever, sExpr, sAug, ownAt, feedAt, intD, sApp, sExt, sSetI, sAugI, sFeed, sFeedA, popD, sPop, sAddPop, sFor, DL.W.set, DL.W.at, DL.R.d, okD, eqD_none_none, eqD_none_bool, eqD_none_int, eqD_none_str, eqD_none_list, eqD_none_tup, eqD_bool_none, eqD_bool_bool, eqD_bool_int, eqD_bool_str, eqD_bool_list, eqD_bool_tup, eqD_int_none, eqD_int_bool, eqD_int_int, eqD_int_str, eqD_int_list, eqD_int_tup, eqD_str_none, eqD_str_bool, eqD_str_int, eqD_str_str, eqD_str_list, eqD_str_tup, eqD_list_none, eqD_list_bool, eqD_list_int, eqD_list_str, eqD_list_list, eqD_list_tup, eqD_tup_none, eqD_tup_bool, eqD_tup_int, eqD_tup_str, eqD_tup_list, eqD_tup_tup, eqDs_nn, eqDs_cc, eqDs_nc, eqDs_cn, List.map_cons, List.map_nil, List.map, List.cons_append, List.nil_append, List.replicate, List.length_cons, List.length_nil, Nat.reduceAdd, Nat.reduceSub, List.all_cons, List.all_nil, Bool.and_true, Bool.true_and, true_and, and_true, atI_map, ex_map, ex_some, List.length_map, beq_int, decide_eq_true_eq, if_true, if_false, Bool.false_eq_true, if_pos, reduceIte, at0, at1, at2, at3, dP, mCallX, mCallB, peekA, evA, evAs, eq_self, sRaise0, sRaise1, sTry, caught, unslot, unheld, mXArg, mXIs, runX, List.contains_cons, List.contains_nil, Slot.isExn, String.reduceBEq, ex_arg, ex_valB, Bool.or_false, Bool.false_or, Bool.or_true, Bool.true_or, Bool.not_false, Bool.not_true, mComp2, dGcd, dComb, dSortS]
      rw [cut_from, cut_to, ← List.map_drop, ← List.map_take, ← List.map_append]
      refine ⟨?_, hC, hK _ ⟨_, rfl⟩⟩
      have : (r.drop i ++ r.take i).length = r.length := tl
      rw [List.length_append] at this
      rw [List.length_map, List.length_map]
      omega
    · rintro _ ⟨x, rfl⟩
      have e : (ran 0 r.length).map (fun d => match d with | .int i => D.list ((rot r i.toNat).map D.int) | _ => .none) = (List.range r.length).map fun k => D.list ((rot r k).map D.int) := by
        unfold ran
        rw [List.map_map]
        refine List.map_congr_left fun k _ => ?_
        show D.list ((rot r (0 + (k : Int)).toNat).map D.int) = _
        rw [show (0 + (k : Int)).toNat = k by omega]
      rw [e]
      exact q
def spec__law_exchanged : Sem := fun ds w Q => ∃ (l : List Nat), ds = [.str l] ∧ (∀ x ∈ l, x = 111 ∨ x = 105) ∧ l.length ≤ 1000 ∧ Q (.val (.str (exg l))) w
theorem ar__law_exchanged (l : List Nat) (w : W) (Q : R → W → Prop) : ar 1 spec__law_exchanged [.str l] w Q = ((∀ x ∈ l, x = 111 ∨ x = 105) ∧ l.length ≤ 1000 ∧ Q (.val (.str (exg l))) w) := by
  apply propext
  constructor
  · rintro ⟨_, l', e, h⟩
    simp only [List.cons.injEq, D.str.injEq, D.int.injEq, D.bool.injEq, D.tup.injEq, D.list.injEq, mapInt_inj, Int.natCast_inj, and_true, and_assoc] at e
    first | (obtain rfl := e; exact h) | (obtain ⟨rfl, _⟩ := e; exact h)
  · intro h
    exact ⟨rfl, l, rfl, h⟩
theorem vc__law_exchanged : ∀ ds w Q, spec__law_exchanged ds w Q → run 3 (b__law_exchanged) ds w Q := by
  rintro ds w Q ⟨l, rfl, h⟩
  unfold b__law_exchanged
  simp only [run, runF, DL.get, DL.put, puts, back, mC, mVar, mFzV, mFeed, frz, msN, msC, mBin, mUn, dAdd, dSub, dMul, dDiv, dMod, dPow, dNeg, dCmp, dLt, dLe, dGt, dGe, dEq, dNe, dIn, dIsN, dIsNotN, isN, dIs, dIsNot, dTab, flatD, okT, truth, tV, tB, tAnd, tOr, tNot, mAnd, mOr, mNot, mIf, mChain, mList, mTup, dIx, mSl, oN, oS, mRev, mRevTo, mCall, mCallF, dLen, dAbs, dInt, dMin2, dMax2, dList, dTup, dSum, dMin, dMax, dMinG, dMaxG, dAll, isTy, mIsI, gV, gSkip, gsN, gsC, gT, srcV, srcR1, srcR2, srcEnum, srcRev, mComp, tYes, isS, isL, mMS, mML, dIndexS, dIndexL, dIndexFrom, mMS2, dCount, dSplit, dJoin, sNil, sSeq, sSet, sAsg, sPar, sRet, retK, sRetN, sIf, sPass, sBrk, sCont, sNever, sExpr, sAug, ownAt, feedAt, intD, sApp, sExt, sSetI, sAugI, sFeed, sFeedA, popD, sPop, sAddPop, sFor, DL.W.set, DL.W.at, DL.R.d, okD, eqD_none_none, eqD_none_bool, eqD_none_int, eqD_none_str, eqD_none_list, eqD_none_tup, eqD_bool_none, eqD_bool_bool, eqD_bool_int, eqD_bool_str, eqD_bool_list, eqD_bool_tup, eqD_int_none, eqD_int_bool, eqD_int_int, eqD_int_str, eqD_int_list, eqD_int_tup, eqD_str_none, eqD_str_bool, eqD_str_int, eqD_str_str, eqD_str_list, eqD_str_tup, eqD_list_none, eqD_list_bool, eqD_list_int, eqD_list_str, eqD_list_list, eqD_list_tup, eqD_tup_none, eqD_tup_bool, eqD_tup_int, eqD_tup_str, eqD_tup_list, eqD_tup_tup, eqDs_nn, eqDs_cc, eqDs_nc, eqDs_cn, List.map_cons, List.map_nil, List.map, List.cons_append, List.nil_append, List.replicate, List.length_cons, List.length_nil, Nat.reduceAdd, Nat.reduceSub, List.all_cons, List.all_nil, Bool.and_true, Bool.true_and, true_and, and_true, atI_map, ex_map, ex_some, List.length_map, beq_int, decide_eq_true_eq, if_true, if_false, Bool.false_eq_true, if_pos, reduceIte, at0, at1, at2, at3, dP, mCallX, mCallB, peekA, evA, evAs, eq_self, sRaise0, sRaise1, sTry, caught, unslot, unheld, mXArg, mXIs, runX, List.contains_cons, List.contains_nil, Slot.isExn, String.reduceBEq, ex_arg, ex_valB, Bool.or_false, Bool.false_or, Bool.or_true, Bool.true_or, Bool.not_false, Bool.not_true, mComp2, dGcd, dComb, dSortS]
  obtain ⟨ha, hl, q⟩ := h
  have hz : (2000 : Nat) ≤ LINE := by decide
  refine forL_ix _ (fun k st => ∃ x, st = ⟨[.val (.str l), .val (.str (exg (l.take k))), x], w⟩) ?_ ?_ _ ⟨_, rfl⟩
  · rintro k d _ hd ⟨x, rfl⟩ K hK
    rw [List.getElem?_map] at hd
    cases e : l[k]? with
    | none => rw [e] at hd; cases hd
    | some c =>
      rw [e] at hd
      cases hd
      obtain ⟨hk, hk'⟩ := List.getElem?_eq_some_iff.mp e
      have e1 : exg (l.take (k + 1)) = exg (l.take k) ++ [216 - c] := by
        unfold exg
        rw [List.take_add_one, e, List.map_append]
        rfl
      rw [e1] at hK
      have el : (exg (l.take k)).length ≤ 1000 := by rw [exg_len, List.length_take]; omega
      simp only [run, runF, DL.get, DL.put, puts, back, mC, mVar, mFzV, mFeed, frz, msN, msC, mBin, mUn, dAdd, dSub, dMul, dDiv, dMod, dPow, dNeg, dCmp, dLt, dLe, dGt, dGe, dEq, dNe, dIn, dIsN, dIsNotN, isN, dIs, dIsNot, dTab, flatD, okT, truth, tV, tB, tAnd, tOr, tNot, mAnd, mOr, mNot, mIf, mChain, mList, mTup, dIx, mSl, oN, oS, mRev, mRevTo, mCall, mCallF, dLen, dAbs, dInt, dMin2, dMax2, dList, dTup, dSum, dMin, dMax, dMinG, dMaxG, dAll, isTy, mIsI, gV, gSkip, gsN, gsC, gT, srcV, srcR1, srcR2, srcEnum, srcRev, mComp, tYes, isS, isL, mMS, mML, dIndexS, dIndexL, dIndexFrom, mMS2, dCount, dSplit, dJoin, sNil, sSeq, sSet, sAsg, sPar, sRet, retK, sRetN, sIf, sPass, sBrk, sCont, sNever, sExpr, sAug, ownAt, feedAt, intD, sApp, sExt, sSetI, sAugI, sFeed, sFeedA, popD, sPop, sAddPop, sFor, DL.W.set, DL.W.at, DL.R.d, okD, eqD_none_none, eqD_none_bool, eqD_none_int, eqD_none_str, eqD_none_list, eqD_none_tup, eqD_bool_none, eqD_bool_bool, eqD_bool_int, eqD_bool_str, eqD_bool_list, eqD_bool_tup, eqD_int_none, eqD_int_bool, eqD_int_int, eqD_int_str, eqD_int_list, eqD_int_tup, eqD_str_none, eqD_str_bool, eqD_str_int, eqD_str_str, eqD_str_list, eqD_str_tup, eqD_list_none, eqD_list_bool, eqD_list_int, eqD_list_str, eqD_list_list, eqD_list_tup, eqD_tup_none, eqD_tup_bool, eqD_tup_int, eqD_tup_str, eqD_tup_list, eqD_tup_tup, eqDs_nn, eqDs_cc, eqDs_nc, eqDs_cn, List.map_cons, List.map_nil, List.map, List.cons_append, List.nil_append, List.replicate, List.length_cons, List.length_nil, Nat.reduceAdd, Nat.reduceSub, List.all_cons, List.all_nil, Bool.and_true, Bool.true_and, true_and, and_true, atI_map, ex_map, ex_some, List.length_map, beq_int, decide_eq_true_eq, if_true, if_false, Bool.false_eq_true, if_pos, reduceIte, at0, at1, at2, at3, dP, mCallX, mCallB, peekA, evA, evAs, eq_self, sRaise0, sRaise1, sTry, caught, unslot, unheld, mXArg, mXIs, runX, List.contains_cons, List.contains_nil, Slot.isExn, String.reduceBEq, ex_arg, ex_valB, Bool.or_false, Bool.false_or, Bool.or_true, Bool.true_or, Bool.not_false, Bool.not_true, mComp2, dGcd, dComb, dSortS]
      rcases ha c (List.mem_of_getElem? e) with rfl | rfl
      · refine ⟨by omega, by decide, by decide, .str [105], rfl, ?_⟩
        exact ⟨by simp only [List.length_cons, List.length_nil]; omega, hK _ ⟨_, rfl⟩⟩
      · refine ⟨by omega, by decide, by decide, .str [111], rfl, ?_⟩
        exact ⟨by simp only [List.length_cons, List.length_nil]; omega, hK _ ⟨_, rfl⟩⟩
  · rintro _ ⟨x, rfl⟩
    simp only [run, runF, DL.get, DL.put, puts, back, mC, mVar, mFzV, mFeed, frz, msN, msC, mBin, mUn, dAdd, dSub, dMul, dDiv, dMod, dPow, dNeg, dCmp, dLt, dLe, dGt, dGe, dEq, dNe, dIn, dIsN, dIsNotN, isN, dIs, dIsNot, dTab, flatD, okT, truth, tV, tB, tAnd, tOr, tNot, mAnd, mOr, mNot, mIf, mChain, mList, mTup, dIx, mSl, oN, oS, mRev, mRevTo, mCall, mCallF, dLen, dAbs, dInt, dMin2, dMax2, dList, dTup, dSum, dMin, dMax, dMinG, dMaxG, dAll, isTy, mIsI, gV, gSkip, gsN, gsC, gT, srcV, srcR1, srcR2, srcEnum, srcRev, mComp, tYes, isS, isL, mMS, mML, dIndexS, dIndexL, dIndexFrom, mMS2, dCount, dSplit, dJoin, sNil, sSeq, sSet, sAsg, sPar, sRet, retK, sRetN, sIf, sPass, sBrk, sCont, sNever, sExpr, sAug, ownAt, feedAt, intD, sApp, sExt, sSetI, sAugI, sFeed, sFeedA, popD, sPop, sAddPop, sFor, DL.W.set, DL.W.at, DL.R.d, okD, eqD_none_none, eqD_none_bool, eqD_none_int, eqD_none_str, eqD_none_list, eqD_none_tup, eqD_bool_none, eqD_bool_bool, eqD_bool_int, eqD_bool_str, eqD_bool_list, eqD_bool_tup, eqD_int_none, eqD_int_bool, eqD_int_int, eqD_int_str, eqD_int_list, eqD_int_tup, eqD_str_none, eqD_str_bool, eqD_str_int, eqD_str_str, eqD_str_list, eqD_str_tup, eqD_list_none, eqD_list_bool, eqD_list_int, eqD_list_str, eqD_list_list, eqD_list_tup, eqD_tup_none, eqD_tup_bool, eqD_tup_int, eqD_tup_str, eqD_tup_list, eqD_tup_tup, eqDs_nn, eqDs_cc, eqDs_nc, eqDs_cn, List.map_cons, List.map_nil, List.map, List.cons_append, List.nil_append, List.replicate, List.length_cons, List.length_nil, Nat.reduceAdd, Nat.reduceSub, List.all_cons, List.all_nil, Bool.and_true, Bool.true_and, true_and, and_true, atI_map, ex_map, ex_some, List.length_map, beq_int, decide_eq_true_eq, if_true, if_false, Bool.false_eq_true, if_pos, reduceIte, at0, at1, at2, at3, dP, mCallX, mCallB, peekA, evA, evAs, eq_self, sRaise0, sRaise1, sTry, caught, unslot, unheld, mXArg, mXIs, runX, List.contains_cons, List.contains_nil, Slot.isExn, String.reduceBEq, ex_arg, ex_valB, Bool.or_false, Bool.false_or, Bool.or_true, Bool.true_or, Bool.not_false, Bool.not_true, mComp2, dGcd, dComb, dSortS]
    rw [List.take_length]
    exact q
theorem flat_one (l : List Nat) (f : Nat → Nat) : (l.map fun c => [f c]).flatten = l.map f := by
  induction l with
  | nil => rfl
  | cons x l ih => rw [List.map_cons, List.flatten_cons, ih]; rfl
def spec_exchanged_rims : Sem := fun ds w Q => ∃ (l : List Nat), ds = [.str l] ∧ (∀ x ∈ l, x = 111 ∨ x = 105) ∧ l.length ≤ 1000 ∧ Q (.val (.str (exg l))) w
theorem ar_exchanged_rims (l : List Nat) (w : W) (Q : R → W → Prop) : ar 1 spec_exchanged_rims [.str l] w Q = ((∀ x ∈ l, x = 111 ∨ x = 105) ∧ l.length ≤ 1000 ∧ Q (.val (.str (exg l))) w) := by
  apply propext
  constructor
  · rintro ⟨_, l', e, h⟩
    simp only [List.cons.injEq, D.str.injEq, D.int.injEq, D.bool.injEq, D.tup.injEq, D.list.injEq, mapInt_inj, Int.natCast_inj, and_true, and_assoc] at e
    first | (obtain rfl := e; exact h) | (obtain ⟨rfl, _⟩ := e; exact h)
  · intro h
    exact ⟨rfl, l, rfl, h⟩
theorem vc_exchanged_rims : ∀ ds w Q, spec_exchanged_rims ds w Q → run 2 (b_exchanged_rims) ds w Q := by
  rintro ds w Q ⟨l, rfl, h⟩
  unfold b_exchanged_rims
  simp only [run, runF, DL.get, DL.put, puts, back, mC, mVar, mFzV, mFeed, frz, msN, msC, mBin, mUn, dAdd, dSub, dMul, dDiv, dMod, dPow, dNeg, dCmp, dLt, dLe, dGt, dGe, dEq, dNe, dIn, dIsN, dIsNotN, isN, dIs, dIsNot, dTab, flatD, okT, truth, tV, tB, tAnd, tOr, tNot, mAnd, mOr, mNot, mIf, mChain, mList, mTup, dIx, mSl, oN, oS, mRev, mRevTo, mCall, mCallF, dLen, dAbs, dInt, dMin2, dMax2, dList, dTup, dSum, dMin, dMax, dMinG, dMaxG, dAll, isTy, mIsI, gV, gSkip, gsN, gsC, gT, srcV, srcR1, srcR2, srcEnum, srcRev, mComp, tYes, isS, isL, mMS, mML, dIndexS, dIndexL, dIndexFrom, mMS2, dCount, dSplit, dJoin, sNil, sSeq, sSet, sAsg, sPar, sRet, retK, sRetN, sIf, sPass, sBrk, sCont, sNever, sExpr, sAug, ownAt, feedAt, intD, sApp, sExt, sSetI, sAugI, sFeed, sFeedA, popD, sPop, sAddPop, sFor, DL.W.set, DL.W.at, DL.R.d, okD, eqD_none_none, eqD_none_bool, eqD_none_int, eqD_none_str, eqD_none_list, eqD_none_tup, eqD_bool_none, eqD_bool_bool, eqD_bool_int, eqD_bool_str, eqD_bool_list, eqD_bool_tup, eqD_int_none, eqD_int_bool, eqD_int_int, eqD_int_str, eqD_int_list, eqD_int_tup, eqD_str_none, eqD_str_bool, eqD_str_int, eqD_str_str, eqD_str_list, eqD_str_tup, eqD_list_none, eqD_list_bool, eqD_list_int, eqD_list_str, eqD_list_list, eqD_list_tup, eqD_tup_none, eqD_tup_bool, eqD_tup_int, eqD_tup_str, eqD_tup_list, eqD_tup_tup, eqDs_nn, eqDs_cc, eqDs_nc, eqDs_cn, List.map_cons, List.map_nil, List.map, List.cons_append, List.nil_append, List.replicate, List.length_cons, List.length_nil, Nat.reduceAdd, Nat.reduceSub, List.all_cons, List.all_nil, Bool.and_true, Bool.true_and, true_and, and_true, atI_map, ex_map, ex_some, List.length_map, beq_int, decide_eq_true_eq, if_true, if_false, Bool.false_eq_true, if_pos, reduceIte, at0, at1, at2, at3, dP, mCallX, mCallB, peekA, evA, evAs, eq_self, sRaise0, sRaise1, sTry, caught, unslot, unheld, mXArg, mXIs, runX, List.contains_cons, List.contains_nil, Slot.isExn, String.reduceBEq, ex_arg, ex_valB, Bool.or_false, Bool.false_or, Bool.or_true, Bool.true_or, Bool.not_false, Bool.not_true, mComp2, dGcd, dComb, dSortS]
  obtain ⟨ha, hl, q⟩ := h
  have hz : (2000 : Nat) ≤ LINE := by decide
  refine compL_f _ (fun d => match d with | .str s => .str (exg s) | d => d) (fun st => ∃ x, st = ⟨[.val (.str l), x], w⟩) ⟨_, rfl⟩ (by rw [List.length_map]; omega) ?_ ?_
  · rintro d _ hd ⟨x, rfl⟩ C K hC hK
    obtain ⟨c, hc, rfl⟩ := List.mem_map.mp hd
    simp only [run, runF, DL.get, DL.put, puts, back, mC, mVar, mFzV, mFeed, frz, msN, msC, mBin, mUn, dAdd, dSub, dMul, dDiv, dMod, dPow, dNeg, dCmp, dLt, dLe, dGt, dGe, dEq, dNe, dIn, dIsN, dIsNotN, isN, dIs, dIsNot, dTab, flatD, okT, truth, tV, tB, tAnd, tOr, tNot, mAnd, mOr, mNot, mIf, mChain, mList, mTup, dIx, mSl, oN, oS, mRev, mRevTo, mCall, mCallF, dLen, dAbs, dInt, dMin2, dMax2, dList, dTup, dSum, dMin, dMax, dMinG, dMaxG, dAll, isTy, mIsI, gV, gSkip, gsN, gsC, gT, srcV, srcR1, srcR2, srcEnum, srcRev, mComp, tYes, isS, isL, mMS, mML, dIndexS, dIndexL, dIndexFrom, mMS2, dCount, dSplit, dJoin, sNil, sSeq, sSet, sAsg, sPar, sRet, retK, sRetN, sIf, sPass, sBrk, sCont, sNever, sExpr, sAug, ownAt, feedAt, intD, sApp, sExt, sSetI, sAugI, sFeed, sFeedA, popD, sPop, sAddPop, sFor, DL.W.set, DL.W.at, DL.R.d, okD, eqD_none_none, eqD_none_bool, eqD_none_int, eqD_none_str, eqD_none_list, eqD_none_tup, eqD_bool_none, eqD_bool_bool, eqD_bool_int, eqD_bool_str, eqD_bool_list, eqD_bool_tup, eqD_int_none, eqD_int_bool, eqD_int_int, eqD_int_str, eqD_int_list, eqD_int_tup, eqD_str_none, eqD_str_bool, eqD_str_int, eqD_str_str, eqD_str_list, eqD_str_tup, eqD_list_none, eqD_list_bool, eqD_list_int, eqD_list_str, eqD_list_list, eqD_list_tup, eqD_tup_none, eqD_tup_bool, eqD_tup_int, eqD_tup_str, eqD_tup_list, eqD_tup_tup, eqDs_nn, eqDs_cc, eqDs_nc, eqDs_cn, List.map_cons, List.map_nil, List.map, List.cons_append, List.nil_append, List.replicate, List.length_cons, List.length_nil, Nat.reduceAdd, Nat.reduceSub, List.all_cons, List.all_nil, Bool.and_true, Bool.true_and, true_and, and_true, atI_map, ex_map, ex_some, List.length_map, beq_int, decide_eq_true_eq, if_true, if_false, Bool.false_eq_true, if_pos, reduceIte, at0, at1, at2, at3, dP, mCallX, mCallB, peekA, evA, evAs, eq_self, sRaise0, sRaise1, sTry, caught, unslot, unheld, mXArg, mXIs, runX, List.contains_cons, List.contains_nil, Slot.isExn, String.reduceBEq, ex_arg, ex_valB, Bool.or_false, Bool.false_or, Bool.or_true, Bool.true_or, Bool.not_false, Bool.not_true, mComp2, dGcd, dComb, dSortS]
    rcases ha c hc with rfl | rfl
    · exact ⟨.str [105], rfl, hC, hK _ ⟨_, rfl⟩⟩
    · exact ⟨.str [111], rfl, hC, hK _ ⟨_, rfl⟩⟩
  · rintro _ ⟨x, rfl⟩
    refine ⟨l.map fun c => [216 - c], ?_, ?_, ?_⟩
    · rw [List.map_map, List.map_map]
      rfl
    · rw [List.map_map, List.length_map, show (List.length ∘ fun c => [216 - c]) = fun _ => 1 from rfl]
      simp only [List.map_const', List.sum_replicate_nat]
      omega
    · rw [joinS_nil, flat_one]
      exact q
def spec_are_turnings : Sem := fun ds w Q => ∃ (a : List Nat) (b : List Nat), ds = [.str a, .str b] ∧ 0 < a.length ∧ a.length ≤ 1000 ∧ b.length = a.length ∧ (∀ x ∈ a, x = 111 ∨ x = 105) ∧ (∀ x ∈ b, x = 111 ∨ x = 105) ∧ Q (.val (.bool (turnC b a))) w
theorem ar_are_turnings (a : List Nat) (b : List Nat) (w : W) (Q : R → W → Prop) : ar 2 spec_are_turnings [.str a, .str b] w Q = (0 < a.length ∧ a.length ≤ 1000 ∧ b.length = a.length ∧ (∀ x ∈ a, x = 111 ∨ x = 105) ∧ (∀ x ∈ b, x = 111 ∨ x = 105) ∧ Q (.val (.bool (turnC b a))) w) := by
  apply propext
  constructor
  · rintro ⟨_, a', b', e, h⟩
    simp only [List.cons.injEq, D.str.injEq, D.int.injEq, D.bool.injEq, D.tup.injEq, D.list.injEq, mapInt_inj, Int.natCast_inj, and_true, and_assoc] at e
    first | (obtain ⟨rfl, rfl⟩ := e; exact h) | (obtain ⟨rfl, rfl, _⟩ := e; exact h)
  · intro h
    exact ⟨rfl, a, b, rfl, h⟩
theorem vc_are_turnings : ∀ ds w Q, spec_are_turnings ds w Q → run 2 (b_are_turnings (ar 1 spec_least_land)) ds w Q := by
  rintro ds w Q ⟨a, b, rfl, h⟩
  unfold b_are_turnings
  simp only [run, runF, DL.get, DL.put, puts, back, mC, mVar, mFzV, mFeed, frz, msN, msC, mBin, mUn, dAdd, dSub, dMul, dDiv, dMod, dPow, dNeg, dCmp, dLt, dLe, dGt, dGe, dEq, dNe, dIn, dIsN, dIsNotN, isN, dIs, dIsNot, dTab, flatD, okT, truth, tV, tB, tAnd, tOr, tNot, mAnd, mOr, mNot, mIf, mChain, mList, mTup, dIx, mSl, oN, oS, mRev, mRevTo, mCall, mCallF, dLen, dAbs, dInt, dMin2, dMax2, dList, dTup, dSum, dMin, dMax, dMinG, dMaxG, dAll, isTy, mIsI, gV, gSkip, gsN, gsC, gT, srcV, srcR1, srcR2, srcEnum, srcRev, mComp, tYes, isS, isL, mMS, mML, dIndexS, dIndexL, dIndexFrom, mMS2, dCount, dSplit, dJoin, sNil, sSeq, sSet, sAsg, sPar, sRet, retK, sRetN, sIf, sPass, sBrk, sCont, sNever, sExpr, sAug, ownAt, feedAt, intD, sApp, sExt, sSetI, sAugI, sFeed, sFeedA, popD, sPop, sAddPop, sFor, DL.W.set, DL.W.at, DL.R.d, okD, eqD_none_none, eqD_none_bool, eqD_none_int, eqD_none_str, eqD_none_list, eqD_none_tup, eqD_bool_none, eqD_bool_bool, eqD_bool_int, eqD_bool_str, eqD_bool_list, eqD_bool_tup, eqD_int_none, eqD_int_bool, eqD_int_int, eqD_int_str, eqD_int_list, eqD_int_tup, eqD_str_none, eqD_str_bool, eqD_str_int, eqD_str_str, eqD_str_list, eqD_str_tup, eqD_list_none, eqD_list_bool, eqD_list_int, eqD_list_str, eqD_list_list, eqD_list_tup, eqD_tup_none, eqD_tup_bool, eqD_tup_int, eqD_tup_str, eqD_tup_list, eqD_tup_tup, eqDs_nn, eqDs_cc, eqDs_nc, eqDs_cn, List.map_cons, List.map_nil, List.map, List.cons_append, List.nil_append, List.replicate, List.length_cons, List.length_nil, Nat.reduceAdd, Nat.reduceSub, List.all_cons, List.all_nil, Bool.and_true, Bool.true_and, true_and, and_true, atI_map, ex_map, ex_some, List.length_map, beq_int, decide_eq_true_eq, if_true, if_false, Bool.false_eq_true, if_pos, reduceIte, at0, at1, at2, at3, dP, mCallX, mCallB, peekA, evA, evAs, eq_self, sRaise0, sRaise1, sTry, caught, unslot, unheld, mXArg, mXIs, runX, List.contains_cons, List.contains_nil, Slot.isExn, String.reduceBEq, ex_arg, ex_valB, Bool.or_false, Bool.false_or, Bool.or_true, Bool.true_or, Bool.not_false, Bool.not_true, mComp2, dGcd, dComb, dSortS, ar_least_land]
  obtain ⟨h0, hl, hb, ha, hb', q⟩ := h
  refine ⟨h0, hl, ha, fun m hm => ⟨by omega, by omega, hb', fun m' hm' => ?_⟩⟩
  have e : (m == m') = turnC b a := by
    rw [Bool.eq_iff_iff, beq_iff_eq, turnC_eq, Least.same h0 hm hm']
    exact ⟨fun z => z.symm, fun z => z.symm⟩
  rw [e]
  have am : ∀ {l m : List Nat}, Least l m → (∀ x ∈ l, x = 111 ∨ x = 105) → (m.all fun c => decide (c < 1114112)) = true := fun {l m} h hl => okS fun x hx => by
    obtain ⟨k, _, rfl⟩ := h.1
    exact hl x ((turn_perm l k).mem_iff.mp hx)
  exact ⟨am hm ha, am hm' hb', q⟩
theorem exg_all {l : List Nat} (h : ∀ x ∈ l, x = 111 ∨ x = 105) : ∀ x ∈ exg l, x = 111 ∨ x = 105 := fun x hx => by
  obtain ⟨y, hy, rfl⟩ := List.mem_map.mp hx
  rcases h y hy with rfl | rfl
  · exact .inr rfl
  · exact .inl rfl
def spec_is_mirrored : Sem := fun ds w Q => ∃ (a : List Nat), ds = [.str a] ∧ 0 < a.length ∧ a.length ≤ 1000 ∧ (∀ x ∈ a, x = 111 ∨ x = 105) ∧ Q (.val (.bool (turnC a.reverse a))) w
theorem ar_is_mirrored (a : List Nat) (w : W) (Q : R → W → Prop) : ar 1 spec_is_mirrored [.str a] w Q = (0 < a.length ∧ a.length ≤ 1000 ∧ (∀ x ∈ a, x = 111 ∨ x = 105) ∧ Q (.val (.bool (turnC a.reverse a))) w) := by
  apply propext
  constructor
  · rintro ⟨_, a', e, h⟩
    simp only [List.cons.injEq, D.str.injEq, D.int.injEq, D.bool.injEq, D.tup.injEq, D.list.injEq, mapInt_inj, Int.natCast_inj, and_true, and_assoc] at e
    first | (obtain rfl := e; exact h) | (obtain ⟨rfl, _⟩ := e; exact h)
  · intro h
    exact ⟨rfl, a, rfl, h⟩
theorem vc_is_mirrored : ∀ ds w Q, spec_is_mirrored ds w Q → run 1 (b_is_mirrored (ar 2 spec_are_turnings)) ds w Q := by
  rintro ds w Q ⟨a, rfl, h⟩
  unfold b_is_mirrored
  simp only [run, runF, DL.get, DL.put, puts, back, mC, mVar, mFzV, mFeed, frz, msN, msC, mBin, mUn, dAdd, dSub, dMul, dDiv, dMod, dPow, dNeg, dCmp, dLt, dLe, dGt, dGe, dEq, dNe, dIn, dIsN, dIsNotN, isN, dIs, dIsNot, dTab, flatD, okT, truth, tV, tB, tAnd, tOr, tNot, mAnd, mOr, mNot, mIf, mChain, mList, mTup, dIx, mSl, oN, oS, mRev, mRevTo, mCall, mCallF, dLen, dAbs, dInt, dMin2, dMax2, dList, dTup, dSum, dMin, dMax, dMinG, dMaxG, dAll, isTy, mIsI, gV, gSkip, gsN, gsC, gT, srcV, srcR1, srcR2, srcEnum, srcRev, mComp, tYes, isS, isL, mMS, mML, dIndexS, dIndexL, dIndexFrom, mMS2, dCount, dSplit, dJoin, sNil, sSeq, sSet, sAsg, sPar, sRet, retK, sRetN, sIf, sPass, sBrk, sCont, sNever, sExpr, sAug, ownAt, feedAt, intD, sApp, sExt, sSetI, sAugI, sFeed, sFeedA, popD, sPop, sAddPop, sFor, DL.W.set, DL.W.at, DL.R.d, okD, eqD_none_none, eqD_none_bool, eqD_none_int, eqD_none_str, eqD_none_list, eqD_none_tup, eqD_bool_none, eqD_bool_bool, eqD_bool_int, eqD_bool_str, eqD_bool_list, eqD_bool_tup, eqD_int_none, eqD_int_bool, eqD_int_int, eqD_int_str, eqD_int_list, eqD_int_tup, eqD_str_none, eqD_str_bool, eqD_str_int, eqD_str_str, eqD_str_list, eqD_str_tup, eqD_list_none, eqD_list_bool, eqD_list_int, eqD_list_str, eqD_list_list, eqD_list_tup, eqD_tup_none, eqD_tup_bool, eqD_tup_int, eqD_tup_str, eqD_tup_list, eqD_tup_tup, eqDs_nn, eqDs_cc, eqDs_nc, eqDs_cn, List.map_cons, List.map_nil, List.map, List.cons_append, List.nil_append, List.replicate, List.length_cons, List.length_nil, Nat.reduceAdd, Nat.reduceSub, List.all_cons, List.all_nil, Bool.and_true, Bool.true_and, true_and, and_true, atI_map, ex_map, ex_some, List.length_map, beq_int, decide_eq_true_eq, if_true, if_false, Bool.false_eq_true, if_pos, reduceIte, at0, at1, at2, at3, dP, mCallX, mCallB, peekA, evA, evAs, eq_self, sRaise0, sRaise1, sTry, caught, unslot, unheld, mXArg, mXIs, runX, List.contains_cons, List.contains_nil, Slot.isExn, String.reduceBEq, ex_arg, ex_valB, Bool.or_false, Bool.false_or, Bool.or_true, Bool.true_or, Bool.not_false, Bool.not_true, mComp2, dGcd, dComb, dSortS, ar_are_turnings]
  obtain ⟨h0, hl, ha, q⟩ := h
  have hz : (2000 : Nat) ≤ LINE := by decide
  exact ⟨by omega, h0, hl, List.length_reverse, ha, fun x hx => ha x (List.mem_reverse.mp hx), q⟩
def spec_has_like_rims : Sem := fun ds w Q => ∃ (a : List Nat), ds = [.str a] ∧ 0 < a.length ∧ a.length ≤ 1000 ∧ (∀ x ∈ a, x = 111 ∨ x = 105) ∧ Q (.val (.bool (turnC (exg a) a))) w
theorem ar_has_like_rims (a : List Nat) (w : W) (Q : R → W → Prop) : ar 1 spec_has_like_rims [.str a] w Q = (0 < a.length ∧ a.length ≤ 1000 ∧ (∀ x ∈ a, x = 111 ∨ x = 105) ∧ Q (.val (.bool (turnC (exg a) a))) w) := by
  apply propext
  constructor
  · rintro ⟨_, a', e, h⟩
    simp only [List.cons.injEq, D.str.injEq, D.int.injEq, D.bool.injEq, D.tup.injEq, D.list.injEq, mapInt_inj, Int.natCast_inj, and_true, and_assoc] at e
    first | (obtain rfl := e; exact h) | (obtain ⟨rfl, _⟩ := e; exact h)
  · intro h
    exact ⟨rfl, a, rfl, h⟩
theorem vc_has_like_rims : ∀ ds w Q, spec_has_like_rims ds w Q → run 1 (b_has_like_rims (ar 2 spec_are_turnings) (ar 1 spec_exchanged_rims)) ds w Q := by
  rintro ds w Q ⟨a, rfl, h⟩
  unfold b_has_like_rims
  simp only [run, runF, DL.get, DL.put, puts, back, mC, mVar, mFzV, mFeed, frz, msN, msC, mBin, mUn, dAdd, dSub, dMul, dDiv, dMod, dPow, dNeg, dCmp, dLt, dLe, dGt, dGe, dEq, dNe, dIn, dIsN, dIsNotN, isN, dIs, dIsNot, dTab, flatD, okT, truth, tV, tB, tAnd, tOr, tNot, mAnd, mOr, mNot, mIf, mChain, mList, mTup, dIx, mSl, oN, oS, mRev, mRevTo, mCall, mCallF, dLen, dAbs, dInt, dMin2, dMax2, dList, dTup, dSum, dMin, dMax, dMinG, dMaxG, dAll, isTy, mIsI, gV, gSkip, gsN, gsC, gT, srcV, srcR1, srcR2, srcEnum, srcRev, mComp, tYes, isS, isL, mMS, mML, dIndexS, dIndexL, dIndexFrom, mMS2, dCount, dSplit, dJoin, sNil, sSeq, sSet, sAsg, sPar, sRet, retK, sRetN, sIf, sPass, sBrk, sCont, sNever, sExpr, sAug, ownAt, feedAt, intD, sApp, sExt, sSetI, sAugI, sFeed, sFeedA, popD, sPop, sAddPop, sFor, DL.W.set, DL.W.at, DL.R.d, okD, eqD_none_none, eqD_none_bool, eqD_none_int, eqD_none_str, eqD_none_list, eqD_none_tup, eqD_bool_none, eqD_bool_bool, eqD_bool_int, eqD_bool_str, eqD_bool_list, eqD_bool_tup, eqD_int_none, eqD_int_bool, eqD_int_int, eqD_int_str, eqD_int_list, eqD_int_tup, eqD_str_none, eqD_str_bool, eqD_str_int, eqD_str_str, eqD_str_list, eqD_str_tup, eqD_list_none, eqD_list_bool, eqD_list_int, eqD_list_str, eqD_list_list, eqD_list_tup, eqD_tup_none, eqD_tup_bool, eqD_tup_int, eqD_tup_str, eqD_tup_list, eqD_tup_tup, eqDs_nn, eqDs_cc, eqDs_nc, eqDs_cn, List.map_cons, List.map_nil, List.map, List.cons_append, List.nil_append, List.replicate, List.length_cons, List.length_nil, Nat.reduceAdd, Nat.reduceSub, List.all_cons, List.all_nil, Bool.and_true, Bool.true_and, true_and, and_true, atI_map, ex_map, ex_some, List.length_map, beq_int, decide_eq_true_eq, if_true, if_false, Bool.false_eq_true, if_pos, reduceIte, at0, at1, at2, at3, dP, mCallX, mCallB, peekA, evA, evAs, eq_self, sRaise0, sRaise1, sTry, caught, unslot, unheld, mXArg, mXIs, runX, List.contains_cons, List.contains_nil, Slot.isExn, String.reduceBEq, ex_arg, ex_valB, Bool.or_false, Bool.false_or, Bool.or_true, Bool.true_or, Bool.not_false, Bool.not_true, mComp2, dGcd, dComb, dSortS, ar_are_turnings, ar_exchanged_rims]
  obtain ⟨h0, hl, ha, q⟩ := h
  exact ⟨ha, hl, h0, hl, exg_len a, ha, exg_all ha, q⟩
def spec_has_turned_rims : Sem := fun ds w Q => ∃ (a : List Nat), ds = [.str a] ∧ 0 < a.length ∧ a.length ≤ 1000 ∧ (∀ x ∈ a, x = 111 ∨ x = 105) ∧ Q (.val (.bool (turnC (exg a).reverse a))) w
theorem ar_has_turned_rims (a : List Nat) (w : W) (Q : R → W → Prop) : ar 1 spec_has_turned_rims [.str a] w Q = (0 < a.length ∧ a.length ≤ 1000 ∧ (∀ x ∈ a, x = 111 ∨ x = 105) ∧ Q (.val (.bool (turnC (exg a).reverse a))) w) := by
  apply propext
  constructor
  · rintro ⟨_, a', e, h⟩
    simp only [List.cons.injEq, D.str.injEq, D.int.injEq, D.bool.injEq, D.tup.injEq, D.list.injEq, mapInt_inj, Int.natCast_inj, and_true, and_assoc] at e
    first | (obtain rfl := e; exact h) | (obtain ⟨rfl, _⟩ := e; exact h)
  · intro h
    exact ⟨rfl, a, rfl, h⟩
theorem vc_has_turned_rims : ∀ ds w Q, spec_has_turned_rims ds w Q → run 1 (b_has_turned_rims (ar 2 spec_are_turnings) (ar 1 spec_exchanged_rims)) ds w Q := by
  rintro ds w Q ⟨a, rfl, h⟩
  unfold b_has_turned_rims
  simp only [run, runF, DL.get, DL.put, puts, back, mC, mVar, mFzV, mFeed, frz, msN, msC, mBin, mUn, dAdd, dSub, dMul, dDiv, dMod, dPow, dNeg, dCmp, dLt, dLe, dGt, dGe, dEq, dNe, dIn, dIsN, dIsNotN, isN, dIs, dIsNot, dTab, flatD, okT, truth, tV, tB, tAnd, tOr, tNot, mAnd, mOr, mNot, mIf, mChain, mList, mTup, dIx, mSl, oN, oS, mRev, mRevTo, mCall, mCallF, dLen, dAbs, dInt, dMin2, dMax2, dList, dTup, dSum, dMin, dMax, dMinG, dMaxG, dAll, isTy, mIsI, gV, gSkip, gsN, gsC, gT, srcV, srcR1, srcR2, srcEnum, srcRev, mComp, tYes, isS, isL, mMS, mML, dIndexS, dIndexL, dIndexFrom, mMS2, dCount, dSplit, dJoin, sNil, sSeq, sSet, sAsg, sPar, sRet, retK, sRetN, sIf, sPass, sBrk, sCont, sNever, sExpr, sAug, ownAt, feedAt, intD, sApp, sExt, sSetI, sAugI, sFeed, sFeedA, popD, sPop, sAddPop, sFor, DL.W.set, DL.W.at, DL.R.d, okD, eqD_none_none, eqD_none_bool, eqD_none_int, eqD_none_str, eqD_none_list, eqD_none_tup, eqD_bool_none, eqD_bool_bool, eqD_bool_int, eqD_bool_str, eqD_bool_list, eqD_bool_tup, eqD_int_none, eqD_int_bool, eqD_int_int, eqD_int_str, eqD_int_list, eqD_int_tup, eqD_str_none, eqD_str_bool, eqD_str_int, eqD_str_str, eqD_str_list, eqD_str_tup, eqD_list_none, eqD_list_bool, eqD_list_int, eqD_list_str, eqD_list_list, eqD_list_tup, eqD_tup_none, eqD_tup_bool, eqD_tup_int, eqD_tup_str, eqD_tup_list, eqD_tup_tup, eqDs_nn, eqDs_cc, eqDs_nc, eqDs_cn, List.map_cons, List.map_nil, List.map, List.cons_append, List.nil_append, List.replicate, List.length_cons, List.length_nil, Nat.reduceAdd, Nat.reduceSub, List.all_cons, List.all_nil, Bool.and_true, Bool.true_and, true_and, and_true, atI_map, ex_map, ex_some, List.length_map, beq_int, decide_eq_true_eq, if_true, if_false, Bool.false_eq_true, if_pos, reduceIte, at0, at1, at2, at3, dP, mCallX, mCallB, peekA, evA, evAs, eq_self, sRaise0, sRaise1, sTry, caught, unslot, unheld, mXArg, mXIs, runX, List.contains_cons, List.contains_nil, Slot.isExn, String.reduceBEq, ex_arg, ex_valB, Bool.or_false, Bool.false_or, Bool.or_true, Bool.true_or, Bool.not_false, Bool.not_true, mComp2, dGcd, dComb, dSortS, ar_are_turnings, ar_exchanged_rims]
  obtain ⟨h0, hl, ha, q⟩ := h
  have hz : (2000 : Nat) ≤ LINE := by decide
  have el := exg_len a
  exact ⟨ha, hl, by omega, h0, hl, by rw [List.length_reverse]; exact el, ha, fun x hx => exg_all ha x (List.mem_reverse.mp hx), q⟩
def spec_all_words : Sem := fun ds w Q => ∃ (n : Nat) (m : Nat), ds = [.int n, .int m] ∧ 1 ≤ n ∧ n ≤ 6 ∧ 1 ≤ m ∧ m ≤ 6 ∧ Q (.val (.list ((WL n m (n + m)).map D.str))) w
theorem ar_all_words (n : Nat) (m : Nat) (w : W) (Q : R → W → Prop) : ar 2 spec_all_words [.int n, .int m] w Q = (1 ≤ n ∧ n ≤ 6 ∧ 1 ≤ m ∧ m ≤ 6 ∧ Q (.val (.list ((WL n m (n + m)).map D.str))) w) := by
  apply propext
  constructor
  · rintro ⟨_, n', m', e, h⟩
    simp only [List.cons.injEq, D.str.injEq, D.int.injEq, D.bool.injEq, D.tup.injEq, D.list.injEq, mapInt_inj, Int.natCast_inj, and_true, and_assoc] at e
    first | (obtain ⟨rfl, rfl⟩ := e; exact h) | (obtain ⟨rfl, rfl, _⟩ := e; exact h)
  · intro h
    exact ⟨rfl, n, m, rfl, h⟩
theorem vc_all_words : ∀ ds w Q, spec_all_words ds w Q → run 6 (b_all_words) ds w Q := by
  rintro ds w Q ⟨n, m, rfl, h⟩
  unfold b_all_words
  obtain ⟨n1, hn, m1, hm, q⟩ := h
  have hz : (20000 : Nat) ≤ LINE := by decide
  simp only [run, runF, DL.get, DL.put, puts, back, mC, mVar, mFzV, mFeed, frz, msN, msC, mBin, mUn, dAdd, dSub, dMul, dDiv, dMod, dPow, dNeg, dCmp, dLt, dLe, dGt, dGe, dEq, dNe, dIn, dIsN, dIsNotN, isN, dIs, dIsNot, dTab, flatD, okT, truth, tV, tB, tAnd, tOr, tNot, mAnd, mOr, mNot, mIf, mChain, mList, mTup, dIx, mSl, oN, oS, mRev, mRevTo, mCall, mCallF, dLen, dAbs, dInt, dMin2, dMax2, dList, dTup, dSum, dMin, dMax, dMinG, dMaxG, dAll, isTy, mIsI, gV, gSkip, gsN, gsC, gT, srcV, srcR1, srcR2, srcEnum, srcRev, mComp, tYes, isS, isL, mMS, mML, dIndexS, dIndexL, dIndexFrom, mMS2, dCount, dSplit, dJoin, sNil, sSeq, sSet, sAsg, sPar, sRet, retK, sRetN, sIf, sPass, sBrk, sCont, sNever, sExpr, sAug, ownAt, feedAt, intD, sApp, sExt, sSetI, sAugI, sFeed, sFeedA, popD, sPop, sAddPop, sFor, DL.W.set, DL.W.at, DL.R.d, okD, eqD_none_none, eqD_none_bool, eqD_none_int, eqD_none_str, eqD_none_list, eqD_none_tup, eqD_bool_none, eqD_bool_bool, eqD_bool_int, eqD_bool_str, eqD_bool_list, eqD_bool_tup, eqD_int_none, eqD_int_bool, eqD_int_int, eqD_int_str, eqD_int_list, eqD_int_tup, eqD_str_none, eqD_str_bool, eqD_str_int, eqD_str_str, eqD_str_list, eqD_str_tup, eqD_list_none, eqD_list_bool, eqD_list_int, eqD_list_str, eqD_list_list, eqD_list_tup, eqD_tup_none, eqD_tup_bool, eqD_tup_int, eqD_tup_str, eqD_tup_list, eqD_tup_tup, eqDs_nn, eqDs_cc, eqDs_nc, eqDs_cn, List.map_cons, List.map_nil, List.map, List.cons_append, List.nil_append, List.replicate, List.length_cons, List.length_nil, Nat.reduceAdd, Nat.reduceSub, List.all_cons, List.all_nil, Bool.and_true, Bool.true_and, true_and, and_true, atI_map, ex_map, ex_some, List.length_map, beq_int, decide_eq_true_eq, if_true, if_false, Bool.false_eq_true, if_pos, reduceIte, at0, at1, at2, at3, dP, mCallX, mCallB, peekA, evA, evAs, eq_self, sRaise0, sRaise1, sTry, caught, unslot, unheld, mXArg, mXIs, runX, List.contains_cons, List.contains_nil, Slot.isExn, String.reduceBEq, ex_arg, ex_valB, Bool.or_false, Bool.false_or, Bool.or_true, Bool.true_or, Bool.not_false, Bool.not_true, mComp2, dGcd, dComb, dSortS]
  refine ⟨by omega, by omega, ?_⟩
  rw [show ((n : Int) + (m : Int)).toNat = n + m by omega]
  refine forL_ran (fun k st => ∃ (A x y z : Slot), (A = .val (.list ((WL n m k).map D.str)) ∨ (k = 0 ∧ A = .own ((WL n m k).map D.str))) ∧ st = ⟨[.val (.int n), .val (.int m), A, x, y, z], w⟩) _ ⟨_, _, _, _, .inr ⟨rfl, rfl⟩, rfl⟩ ?_ ?_
  · rintro k _ hk ⟨A, x, y, z, hA, rfl⟩ K hK
    have pk : (2 : Nat) ^ k ≤ 2 ^ 12 := Nat.pow_le_pow_right (by decide) (by omega)
    have wl := WL_len n m k
    have wl1 := WL_len n m (k + 1)
    have pk1 : (2 : Nat) ^ (k + 1) ≤ 2 ^ 12 := Nat.pow_le_pow_right (by decide) (by omega)
    show sSeq _ _ ⟨[.val (.int n), .val (.int m), A, .val (.int (0 + (k : Int))), y, z], w⟩ _
    refine seq_cut (fun s' => s' = ⟨[.val (.int n), .val (.int m), A, .val (.int (0 + (k : Int))), .own [], z], w⟩) ?_ ?_
    · intro K hK
      simp only [run, runF, DL.get, DL.put, puts, back, mC, mVar, mFzV, mFeed, frz, msN, msC, mBin, mUn, dAdd, dSub, dMul, dDiv, dMod, dPow, dNeg, dCmp, dLt, dLe, dGt, dGe, dEq, dNe, dIn, dIsN, dIsNotN, isN, dIs, dIsNot, dTab, flatD, okT, truth, tV, tB, tAnd, tOr, tNot, mAnd, mOr, mNot, mIf, mChain, mList, mTup, dIx, mSl, oN, oS, mRev, mRevTo, mCall, mCallF, dLen, dAbs, dInt, dMin2, dMax2, dList, dTup, dSum, dMin, dMax, dMinG, dMaxG, dAll, isTy, mIsI, gV, gSkip, gsN, gsC, gT, srcV, srcR1, srcR2, srcEnum, srcRev, mComp, tYes, isS, isL, mMS, mML, dIndexS, dIndexL, dIndexFrom, mMS2, dCount, dSplit, dJoin, sNil, sSeq, sSet, sAsg, sPar, sRet, retK, sRetN, sIf, sPass, sBrk, sCont, sNever, sExpr, sAug, ownAt, feedAt, intD, sApp, sExt, sSetI, sAugI, sFeed, sFeedA, popD, sPop, sAddPop, sFor, DL.W.set, DL.W.at, DL.R.d, okD, eqD_none_none, eqD_none_bool, eqD_none_int, eqD_none_str, eqD_none_list, eqD_none_tup, eqD_bool_none, eqD_bool_bool, eqD_bool_int, eqD_bool_str, eqD_bool_list, eqD_bool_tup, eqD_int_none, eqD_int_bool, eqD_int_int, eqD_int_str, eqD_int_list, eqD_int_tup, eqD_str_none, eqD_str_bool, eqD_str_int, eqD_str_str, eqD_str_list, eqD_str_tup, eqD_list_none, eqD_list_bool, eqD_list_int, eqD_list_str, eqD_list_list, eqD_list_tup, eqD_tup_none, eqD_tup_bool, eqD_tup_int, eqD_tup_str, eqD_tup_list, eqD_tup_tup, eqDs_nn, eqDs_cc, eqDs_nc, eqDs_cn, List.map_cons, List.map_nil, List.map, List.cons_append, List.nil_append, List.replicate, List.length_cons, List.length_nil, Nat.reduceAdd, Nat.reduceSub, List.all_cons, List.all_nil, Bool.and_true, Bool.true_and, true_and, and_true, atI_map, ex_map, ex_some, List.length_map, beq_int, decide_eq_true_eq, if_true, if_false, Bool.false_eq_true, if_pos, reduceIte, at0, at1, at2, at3, dP, mCallX, mCallB, peekA, evA, evAs, eq_self, sRaise0, sRaise1, sTry, caught, unslot, unheld, mXArg, mXIs, runX, List.contains_cons, List.contains_nil, Slot.isExn, String.reduceBEq, ex_arg, ex_valB, Bool.or_false, Bool.false_or, Bool.or_true, Bool.true_or, Bool.not_false, Bool.not_true, mComp2, dGcd, dComb, dSortS]
      exact ⟨by omega, hK _ rfl⟩
    rintro _ rfl
    refine seq_cut (fun s' => ∃ z, s' = ⟨[.val (.int n), .val (.int m), .val (.list ((WL n m k).map D.str)), .val (.int (0 + (k : Int))), .own ((WL n m (k + 1)).map D.str), z], w⟩) ?_ ?_
    · intro K hK
      refine for_cut (fun ds s' => ds = (WL n m k).map D.str ∧ s' = ⟨[.val (.int n), .val (.int m), .val (.list ((WL n m k).map D.str)), .val (.int (0 + (k : Int))), .own [], z], w⟩) ?_ ?_
      · intro K hK
        rcases hA with rfl | ⟨_, rfl⟩
        · simp only [run, runF, DL.get, DL.put, puts, back, mC, mVar, mFzV, mFeed, frz, msN, msC, mBin, mUn, dAdd, dSub, dMul, dDiv, dMod, dPow, dNeg, dCmp, dLt, dLe, dGt, dGe, dEq, dNe, dIn, dIsN, dIsNotN, isN, dIs, dIsNot, dTab, flatD, okT, truth, tV, tB, tAnd, tOr, tNot, mAnd, mOr, mNot, mIf, mChain, mList, mTup, dIx, mSl, oN, oS, mRev, mRevTo, mCall, mCallF, dLen, dAbs, dInt, dMin2, dMax2, dList, dTup, dSum, dMin, dMax, dMinG, dMaxG, dAll, isTy, mIsI, gV, gSkip, gsN, gsC, gT, srcV, srcR1, srcR2, srcEnum, srcRev, mComp, tYes, isS, isL, mMS, mML, dIndexS, dIndexL, dIndexFrom, mMS2, dCount, dSplit, dJoin, sNil, sSeq, sSet, sAsg, sPar, sRet, retK, sRetN, sIf, sPass, sBrk, sCont, sNever, sExpr, sAug, ownAt, feedAt, intD, sApp, sExt, sSetI, sAugI, sFeed, sFeedA, popD, sPop, sAddPop, sFor, DL.W.set, DL.W.at, DL.R.d, okD, eqD_none_none, eqD_none_bool, eqD_none_int, eqD_none_str, eqD_none_list, eqD_none_tup, eqD_bool_none, eqD_bool_bool, eqD_bool_int, eqD_bool_str, eqD_bool_list, eqD_bool_tup, eqD_int_none, eqD_int_bool, eqD_int_int, eqD_int_str, eqD_int_list, eqD_int_tup, eqD_str_none, eqD_str_bool, eqD_str_int, eqD_str_str, eqD_str_list, eqD_str_tup, eqD_list_none, eqD_list_bool, eqD_list_int, eqD_list_str, eqD_list_list, eqD_list_tup, eqD_tup_none, eqD_tup_bool, eqD_tup_int, eqD_tup_str, eqD_tup_list, eqD_tup_tup, eqDs_nn, eqDs_cc, eqDs_nc, eqDs_cn, List.map_cons, List.map_nil, List.map, List.cons_append, List.nil_append, List.replicate, List.length_cons, List.length_nil, Nat.reduceAdd, Nat.reduceSub, List.all_cons, List.all_nil, Bool.and_true, Bool.true_and, true_and, and_true, atI_map, ex_map, ex_some, List.length_map, beq_int, decide_eq_true_eq, if_true, if_false, Bool.false_eq_true, if_pos, reduceIte, at0, at1, at2, at3, dP, mCallX, mCallB, peekA, evA, evAs, eq_self, sRaise0, sRaise1, sTry, caught, unslot, unheld, mXArg, mXIs, runX, List.contains_cons, List.contains_nil, Slot.isExn, String.reduceBEq, ex_arg, ex_valB, Bool.or_false, Bool.false_or, Bool.or_true, Bool.true_or, Bool.not_false, Bool.not_true, mComp2, dGcd, dComb, dSortS]
          exact hK _ _ ⟨rfl, rfl⟩
        · simp only [run, runF, DL.get, DL.put, puts, back, mC, mVar, mFzV, mFeed, frz, msN, msC, mBin, mUn, dAdd, dSub, dMul, dDiv, dMod, dPow, dNeg, dCmp, dLt, dLe, dGt, dGe, dEq, dNe, dIn, dIsN, dIsNotN, isN, dIs, dIsNot, dTab, flatD, okT, truth, tV, tB, tAnd, tOr, tNot, mAnd, mOr, mNot, mIf, mChain, mList, mTup, dIx, mSl, oN, oS, mRev, mRevTo, mCall, mCallF, dLen, dAbs, dInt, dMin2, dMax2, dList, dTup, dSum, dMin, dMax, dMinG, dMaxG, dAll, isTy, mIsI, gV, gSkip, gsN, gsC, gT, srcV, srcR1, srcR2, srcEnum, srcRev, mComp, tYes, isS, isL, mMS, mML, dIndexS, dIndexL, dIndexFrom, mMS2, dCount, dSplit, dJoin, sNil, sSeq, sSet, sAsg, sPar, sRet, retK, sRetN, sIf, sPass, sBrk, sCont, sNever, sExpr, sAug, ownAt, feedAt, intD, sApp, sExt, sSetI, sAugI, sFeed, sFeedA, popD, sPop, sAddPop, sFor, DL.W.set, DL.W.at, DL.R.d, okD, eqD_none_none, eqD_none_bool, eqD_none_int, eqD_none_str, eqD_none_list, eqD_none_tup, eqD_bool_none, eqD_bool_bool, eqD_bool_int, eqD_bool_str, eqD_bool_list, eqD_bool_tup, eqD_int_none, eqD_int_bool, eqD_int_int, eqD_int_str, eqD_int_list, eqD_int_tup, eqD_str_none, eqD_str_bool, eqD_str_int, eqD_str_str, eqD_str_list, eqD_str_tup, eqD_list_none, eqD_list_bool, eqD_list_int, eqD_list_str, eqD_list_list, eqD_list_tup, eqD_tup_none, eqD_tup_bool, eqD_tup_int, eqD_tup_str, eqD_tup_list, eqD_tup_tup, eqDs_nn, eqDs_cc, eqDs_nc, eqDs_cn, List.map_cons, List.map_nil, List.map, List.cons_append, List.nil_append, List.replicate, List.length_cons, List.length_nil, Nat.reduceAdd, Nat.reduceSub, List.all_cons, List.all_nil, Bool.and_true, Bool.true_and, true_and, and_true, atI_map, ex_map, ex_some, List.length_map, beq_int, decide_eq_true_eq, if_true, if_false, Bool.false_eq_true, if_pos, reduceIte, at0, at1, at2, at3, dP, mCallX, mCallB, peekA, evA, evAs, eq_self, sRaise0, sRaise1, sTry, caught, unslot, unheld, mXArg, mXIs, runX, List.contains_cons, List.contains_nil, Slot.isExn, String.reduceBEq, ex_arg, ex_valB, Bool.or_false, Bool.false_or, Bool.or_true, Bool.true_or, Bool.not_false, Bool.not_true, mComp2, dGcd, dComb, dSortS]
          exact hK _ _ ⟨rfl, rfl⟩
      rintro _ _ ⟨rfl, rfl⟩
      have hmem := fun w => @WL_mem n m k w
      have hst : WL n m (k + 1) = (WL n m k).flatMap (stW n m) := rfl
      rw [hst] at hK wl1
      generalize WL n m k = W at *
      refine forL_ix _ (fun j st => ∃ z, st = ⟨[.val (.int n), .val (.int m), .val (.list (W.map D.str)), .val (.int (0 + (k : Int))), .own (((W.take j).flatMap (stW n m)).map D.str), z], w⟩) ?_ ?_ _ ⟨_, rfl⟩
      · rintro j d _ hd ⟨z, rfl⟩ K hK
        rw [List.getElem?_map] at hd
        cases e : W[j]? with
        | none => rw [e] at hd; cases hd
        | some v =>
          rw [e] at hd
          cases hd
          obtain ⟨vl, va⟩ := hmem v (List.mem_of_getElem? e)
          have e1 : (W.take (j + 1)).flatMap (stW n m) = (W.take j).flatMap (stW n m) ++ stW n m v := by
            rw [List.take_add_one, e, List.flatMap_append]
            simp
          have l1 : ((W.take j).flatMap (stW n m)).length ≤ 8192 := by
            have h2 : ((W.take j).flatMap (stW n m)).length ≤ (W.take j).length * 2 := by
              generalize W.take j = l
              induction l with
              | nil => exact Nat.le_refl 0
              | cons x l ih =>
                rw [List.flatMap_cons, List.length_append, List.length_cons]
                have := stW_len n m x
                omega
            rw [List.length_take] at h2
            omega
          rw [e1, List.map_append] at hK
          generalize (W.take j).flatMap (stW n m) = acc at *
          show sSeq _ _ ⟨[.val (.int n), .val (.int m), .val (.list (W.map D.str)), .val (.int (0 + (k : Int))), .own (acc.map D.str), .val (.str v)], w⟩ _
          unfold stW at hK
          refine seq_cut (fun s' => s' = ⟨[.val (.int n), .val (.int m), .val (.list (W.map D.str)), .val (.int (0 + (k : Int))), .own (acc.map D.str ++ (if v.count 105 < m then [v ++ [105]] else []).map D.str), .val (.str v)], w⟩) ?_ ?_
          · intro K hK
            simp only [run, runF, DL.get, DL.put, puts, back, mC, mVar, mFzV, mFeed, frz, msN, msC, mBin, mUn, dAdd, dSub, dMul, dDiv, dMod, dPow, dNeg, dCmp, dLt, dLe, dGt, dGe, dEq, dNe, dIn, dIsN, dIsNotN, isN, dIs, dIsNot, dTab, flatD, okT, truth, tV, tB, tAnd, tOr, tNot, mAnd, mOr, mNot, mIf, mChain, mList, mTup, dIx, mSl, oN, oS, mRev, mRevTo, mCall, mCallF, dLen, dAbs, dInt, dMin2, dMax2, dList, dTup, dSum, dMin, dMax, dMinG, dMaxG, dAll, isTy, mIsI, gV, gSkip, gsN, gsC, gT, srcV, srcR1, srcR2, srcEnum, srcRev, mComp, tYes, isS, isL, mMS, mML, dIndexS, dIndexL, dIndexFrom, mMS2, dCount, dSplit, dJoin, sNil, sSeq, sSet, sAsg, sPar, sRet, retK, sRetN, sIf, sPass, sBrk, sCont, sNever, sExpr, sAug, ownAt, feedAt, intD, sApp, sExt, sSetI, sAugI, sFeed, sFeedA, popD, sPop, sAddPop, sFor, DL.W.set, DL.W.at, DL.R.d, okD, eqD_none_none, eqD_none_bool, eqD_none_int, eqD_none_str, eqD_none_list, eqD_none_tup, eqD_bool_none, eqD_bool_bool, eqD_bool_int, eqD_bool_str, eqD_bool_list, eqD_bool_tup, eqD_int_none, eqD_int_bool, eqD_int_int, eqD_int_str, eqD_int_list, eqD_int_tup, eqD_str_none, eqD_str_bool, eqD_str_int, eqD_str_str, eqD_str_list, eqD_str_tup, eqD_list_none, eqD_list_bool, eqD_list_int, eqD_list_str, eqD_list_list, eqD_list_tup, eqD_tup_none, eqD_tup_bool, eqD_tup_int, eqD_tup_str, eqD_tup_list, eqD_tup_tup, eqDs_nn, eqDs_cc, eqDs_nc, eqDs_cn, List.map_cons, List.map_nil, List.map, List.cons_append, List.nil_append, List.replicate, List.length_cons, List.length_nil, Nat.reduceAdd, Nat.reduceSub, List.all_cons, List.all_nil, Bool.and_true, Bool.true_and, true_and, and_true, atI_map, ex_map, ex_some, List.length_map, beq_int, decide_eq_true_eq, if_true, if_false, Bool.false_eq_true, if_pos, reduceIte, at0, at1, at2, at3, dP, mCallX, mCallB, peekA, evA, evAs, eq_self, sRaise0, sRaise1, sTry, caught, unslot, unheld, mXArg, mXIs, runX, List.contains_cons, List.contains_nil, Slot.isExn, String.reduceBEq, ex_arg, ex_valB, Bool.or_false, Bool.false_or, Bool.or_true, Bool.true_or, Bool.not_false, Bool.not_true, mComp2, dGcd, dComb, dSortS]
            rw [split_count]
            by_cases c : v.count 105 < m
            · rw [if_pos c] at hK
              rw [if_pos (by omega)]
              exact ⟨by omega, by decide, by omega, by omega, hK _ rfl⟩
            · rw [if_neg c, List.map_nil, List.append_nil] at hK
              rw [if_neg (by omega)]
              exact ⟨by omega, by decide, hK _ rfl⟩
          rintro _ rfl
          have bl : (acc.map D.str ++ (if v.count 105 < m then [v ++ [105]] else []).map D.str).length ≤ 8193 := by
            rw [List.length_append, List.length_map]
            split <;> simp <;> omega
          rw [List.map_append, ← List.append_assoc] at hK
          generalize acc.map D.str ++ (if v.count 105 < m then [v ++ [105]] else []).map D.str = acc2 at *
          simp only [run, runF, DL.get, DL.put, puts, back, mC, mVar, mFzV, mFeed, frz, msN, msC, mBin, mUn, dAdd, dSub, dMul, dDiv, dMod, dPow, dNeg, dCmp, dLt, dLe, dGt, dGe, dEq, dNe, dIn, dIsN, dIsNotN, isN, dIs, dIsNot, dTab, flatD, okT, truth, tV, tB, tAnd, tOr, tNot, mAnd, mOr, mNot, mIf, mChain, mList, mTup, dIx, mSl, oN, oS, mRev, mRevTo, mCall, mCallF, dLen, dAbs, dInt, dMin2, dMax2, dList, dTup, dSum, dMin, dMax, dMinG, dMaxG, dAll, isTy, mIsI, gV, gSkip, gsN, gsC, gT, srcV, srcR1, srcR2, srcEnum, srcRev, mComp, tYes, isS, isL, mMS, mML, dIndexS, dIndexL, dIndexFrom, mMS2, dCount, dSplit, dJoin, sNil, sSeq, sSet, sAsg, sPar, sRet, retK, sRetN, sIf, sPass, sBrk, sCont, sNever, sExpr, sAug, ownAt, feedAt, intD, sApp, sExt, sSetI, sAugI, sFeed, sFeedA, popD, sPop, sAddPop, sFor, DL.W.set, DL.W.at, DL.R.d, okD, eqD_none_none, eqD_none_bool, eqD_none_int, eqD_none_str, eqD_none_list, eqD_none_tup, eqD_bool_none, eqD_bool_bool, eqD_bool_int, eqD_bool_str, eqD_bool_list, eqD_bool_tup, eqD_int_none, eqD_int_bool, eqD_int_int, eqD_int_str, eqD_int_list, eqD_int_tup, eqD_str_none, eqD_str_bool, eqD_str_int, eqD_str_str, eqD_str_list, eqD_str_tup, eqD_list_none, eqD_list_bool, eqD_list_int, eqD_list_str, eqD_list_list, eqD_list_tup, eqD_tup_none, eqD_tup_bool, eqD_tup_int, eqD_tup_str, eqD_tup_list, eqD_tup_tup, eqDs_nn, eqDs_cc, eqDs_nc, eqDs_cn, List.map_cons, List.map_nil, List.map, List.cons_append, List.nil_append, List.replicate, List.length_cons, List.length_nil, Nat.reduceAdd, Nat.reduceSub, List.all_cons, List.all_nil, Bool.and_true, Bool.true_and, true_and, and_true, atI_map, ex_map, ex_some, List.length_map, beq_int, decide_eq_true_eq, if_true, if_false, Bool.false_eq_true, if_pos, reduceIte, at0, at1, at2, at3, dP, mCallX, mCallB, peekA, evA, evAs, eq_self, sRaise0, sRaise1, sTry, caught, unslot, unheld, mXArg, mXIs, runX, List.contains_cons, List.contains_nil, Slot.isExn, String.reduceBEq, ex_arg, ex_valB, Bool.or_false, Bool.false_or, Bool.or_true, Bool.true_or, Bool.not_false, Bool.not_true, mComp2, dGcd, dComb, dSortS]
          rw [split_count]
          by_cases c : v.count 111 < n
          · rw [if_pos c] at hK
            rw [if_pos (by omega)]
            exact ⟨by omega, by decide, by omega, by omega, hK _ ⟨_, rfl⟩⟩
          · rw [if_neg c, List.map_nil, List.append_nil] at hK
            rw [if_neg (by omega)]
            exact ⟨by omega, by decide, hK _ ⟨_, rfl⟩⟩
      · rintro _ ⟨z, rfl⟩
        rw [List.length_map, List.take_length]
        exact hK _ ⟨_, rfl⟩
    rintro _ ⟨z, rfl⟩
    simp only [run, runF, DL.get, DL.put, puts, back, mC, mVar, mFzV, mFeed, frz, msN, msC, mBin, mUn, dAdd, dSub, dMul, dDiv, dMod, dPow, dNeg, dCmp, dLt, dLe, dGt, dGe, dEq, dNe, dIn, dIsN, dIsNotN, isN, dIs, dIsNot, dTab, flatD, okT, truth, tV, tB, tAnd, tOr, tNot, mAnd, mOr, mNot, mIf, mChain, mList, mTup, dIx, mSl, oN, oS, mRev, mRevTo, mCall, mCallF, dLen, dAbs, dInt, dMin2, dMax2, dList, dTup, dSum, dMin, dMax, dMinG, dMaxG, dAll, isTy, mIsI, gV, gSkip, gsN, gsC, gT, srcV, srcR1, srcR2, srcEnum, srcRev, mComp, tYes, isS, isL, mMS, mML, dIndexS, dIndexL, dIndexFrom, mMS2, dCount, dSplit, dJoin, sNil, sSeq, sSet, sAsg, sPar, sRet, retK, sRetN, sIf, sPass, sBrk, sCont, sNever, sExpr, sAug, ownAt, feedAt, intD, sApp, sExt, sSetI, sAugI, sFeed, sFeedA, popD, sPop, sAddPop, sFor, DL.W.set, DL.W.at, DL.R.d, okD, eqD_none_none, eqD_none_bool, eqD_none_int, eqD_none_str, eqD_none_list, eqD_none_tup, eqD_bool_none, eqD_bool_bool, eqD_bool_int, eqD_bool_str, eqD_bool_list, eqD_bool_tup, eqD_int_none, eqD_int_bool, eqD_int_int, eqD_int_str, eqD_int_list, eqD_int_tup, eqD_str_none, eqD_str_bool, eqD_str_int, eqD_str_str, eqD_str_list, eqD_str_tup, eqD_list_none, eqD_list_bool, eqD_list_int, eqD_list_str, eqD_list_list, eqD_list_tup, eqD_tup_none, eqD_tup_bool, eqD_tup_int, eqD_tup_str, eqD_tup_list, eqD_tup_tup, eqDs_nn, eqDs_cc, eqDs_nc, eqDs_cn, List.map_cons, List.map_nil, List.map, List.cons_append, List.nil_append, List.replicate, List.length_cons, List.length_nil, Nat.reduceAdd, Nat.reduceSub, List.all_cons, List.all_nil, Bool.and_true, Bool.true_and, true_and, and_true, atI_map, ex_map, ex_some, List.length_map, beq_int, decide_eq_true_eq, if_true, if_false, Bool.false_eq_true, if_pos, reduceIte, at0, at1, at2, at3, dP, mCallX, mCallB, peekA, evA, evAs, eq_self, sRaise0, sRaise1, sTry, caught, unslot, unheld, mXArg, mXIs, runX, List.contains_cons, List.contains_nil, Slot.isExn, String.reduceBEq, ex_arg, ex_valB, Bool.or_false, Bool.false_or, Bool.or_true, Bool.true_or, Bool.not_false, Bool.not_true, mComp2, dGcd, dComb, dSortS]
    exact hK _ ⟨_, _, _, _, .inl rfl, rfl⟩
  · rintro _ ⟨A, x, y, z, rfl | ⟨h0, _⟩, rfl⟩
    · simp only [run, runF, DL.get, DL.put, puts, back, mC, mVar, mFzV, mFeed, frz, msN, msC, mBin, mUn, dAdd, dSub, dMul, dDiv, dMod, dPow, dNeg, dCmp, dLt, dLe, dGt, dGe, dEq, dNe, dIn, dIsN, dIsNotN, isN, dIs, dIsNot, dTab, flatD, okT, truth, tV, tB, tAnd, tOr, tNot, mAnd, mOr, mNot, mIf, mChain, mList, mTup, dIx, mSl, oN, oS, mRev, mRevTo, mCall, mCallF, dLen, dAbs, dInt, dMin2, dMax2, dList, dTup, dSum, dMin, dMax, dMinG, dMaxG, dAll, isTy, mIsI, gV, gSkip, gsN, gsC, gT, srcV, srcR1, srcR2, srcEnum, srcRev, mComp, tYes, isS, isL, mMS, mML, dIndexS, dIndexL, dIndexFrom, mMS2, dCount, dSplit, dJoin, sNil, sSeq, sSet, sAsg, sPar, sRet, retK, sRetN, sIf, sPass, sBrk, sCont, sNever, sExpr, sAug, ownAt, feedAt, intD, sApp, sExt, sSetI, sAugI, sFeed, sFeedA, popD, sPop, sAddPop, sFor, DL.W.set, DL.W.at, DL.R.d, okD, eqD_none_none, eqD_none_bool, eqD_none_int, eqD_none_str, eqD_none_list, eqD_none_tup, eqD_bool_none, eqD_bool_bool, eqD_bool_int, eqD_bool_str, eqD_bool_list, eqD_bool_tup, eqD_int_none, eqD_int_bool, eqD_int_int, eqD_int_str, eqD_int_list, eqD_int_tup, eqD_str_none, eqD_str_bool, eqD_str_int, eqD_str_str, eqD_str_list, eqD_str_tup, eqD_list_none, eqD_list_bool, eqD_list_int, eqD_list_str, eqD_list_list, eqD_list_tup, eqD_tup_none, eqD_tup_bool, eqD_tup_int, eqD_tup_str, eqD_tup_list, eqD_tup_tup, eqDs_nn, eqDs_cc, eqDs_nc, eqDs_cn, List.map_cons, List.map_nil, List.map, List.cons_append, List.nil_append, List.replicate, List.length_cons, List.length_nil, Nat.reduceAdd, Nat.reduceSub, List.all_cons, List.all_nil, Bool.and_true, Bool.true_and, true_and, and_true, atI_map, ex_map, ex_some, List.length_map, beq_int, decide_eq_true_eq, if_true, if_false, Bool.false_eq_true, if_pos, reduceIte, at0, at1, at2, at3, dP, mCallX, mCallB, peekA, evA, evAs, eq_self, sRaise0, sRaise1, sTry, caught, unslot, unheld, mXArg, mXIs, runX, List.contains_cons, List.contains_nil, Slot.isExn, String.reduceBEq, ex_arg, ex_valB, Bool.or_false, Bool.false_or, Bool.or_true, Bool.true_or, Bool.not_false, Bool.not_true, mComp2, dGcd, dComb, dSortS]
      exact q
    · omega
def spec__law_words : Sem := fun ds w Q => ∃ (n : Nat) (m : Nat), ds = [.int n, .int m] ∧ 1 ≤ n ∧ n ≤ 6 ∧ 1 ≤ m ∧ m ≤ 6 ∧ Q (.val (.list ((VL n m (n + m)).map D.str))) w
theorem ar__law_words (n : Nat) (m : Nat) (w : W) (Q : R → W → Prop) : ar 2 spec__law_words [.int n, .int m] w Q = (1 ≤ n ∧ n ≤ 6 ∧ 1 ≤ m ∧ m ≤ 6 ∧ Q (.val (.list ((VL n m (n + m)).map D.str))) w) := by
  apply propext
  constructor
  · rintro ⟨_, n', m', e, h⟩
    simp only [List.cons.injEq, D.str.injEq, D.int.injEq, D.bool.injEq, D.tup.injEq, D.list.injEq, mapInt_inj, Int.natCast_inj, and_true, and_assoc] at e
    first | (obtain ⟨rfl, rfl⟩ := e; exact h) | (obtain ⟨rfl, rfl, _⟩ := e; exact h)
  · intro h
    exact ⟨rfl, n, m, rfl, h⟩
theorem vc__law_words : ∀ ds w Q, spec__law_words ds w Q → run 6 (b__law_words) ds w Q := by
  rintro ds w Q ⟨n, m, rfl, h⟩
  unfold b__law_words
  obtain ⟨n1, hn, m1, hm, q⟩ := h
  have hz : (20000 : Nat) ≤ LINE := by decide
  simp only [run, runF, DL.get, DL.put, puts, back, mC, mVar, mFzV, mFeed, frz, msN, msC, mBin, mUn, dAdd, dSub, dMul, dDiv, dMod, dPow, dNeg, dCmp, dLt, dLe, dGt, dGe, dEq, dNe, dIn, dIsN, dIsNotN, isN, dIs, dIsNot, dTab, flatD, okT, truth, tV, tB, tAnd, tOr, tNot, mAnd, mOr, mNot, mIf, mChain, mList, mTup, dIx, mSl, oN, oS, mRev, mRevTo, mCall, mCallF, dLen, dAbs, dInt, dMin2, dMax2, dList, dTup, dSum, dMin, dMax, dMinG, dMaxG, dAll, isTy, mIsI, gV, gSkip, gsN, gsC, gT, srcV, srcR1, srcR2, srcEnum, srcRev, mComp, tYes, isS, isL, mMS, mML, dIndexS, dIndexL, dIndexFrom, mMS2, dCount, dSplit, dJoin, sNil, sSeq, sSet, sAsg, sPar, sRet, retK, sRetN, sIf, sPass, sBrk, sCont, sNever, sExpr, sAug, ownAt, feedAt, intD, sApp, sExt, sSetI, sAugI, sFeed, sFeedA, popD, sPop, sAddPop, sFor, DL.W.set, DL.W.at, DL.R.d, okD, eqD_none_none, eqD_none_bool, eqD_none_int, eqD_none_str, eqD_none_list, eqD_none_tup, eqD_bool_none, eqD_bool_bool, eqD_bool_int, eqD_bool_str, eqD_bool_list, eqD_bool_tup, eqD_int_none, eqD_int_bool, eqD_int_int, eqD_int_str, eqD_int_list, eqD_int_tup, eqD_str_none, eqD_str_bool, eqD_str_int, eqD_str_str, eqD_str_list, eqD_str_tup, eqD_list_none, eqD_list_bool, eqD_list_int, eqD_list_str, eqD_list_list, eqD_list_tup, eqD_tup_none, eqD_tup_bool, eqD_tup_int, eqD_tup_str, eqD_tup_list, eqD_tup_tup, eqDs_nn, eqDs_cc, eqDs_nc, eqDs_cn, List.map_cons, List.map_nil, List.map, List.cons_append, List.nil_append, List.replicate, List.length_cons, List.length_nil, Nat.reduceAdd, Nat.reduceSub, List.all_cons, List.all_nil, Bool.and_true, Bool.true_and, true_and, and_true, atI_map, ex_map, ex_some, List.length_map, beq_int, decide_eq_true_eq, if_true, if_false, Bool.false_eq_true, if_pos, reduceIte, at0, at1, at2, at3, dP, mCallX, mCallB, peekA, evA, evAs, eq_self, sRaise0, sRaise1, sTry, caught, unslot, unheld, mXArg, mXIs, runX, List.contains_cons, List.contains_nil, Slot.isExn, String.reduceBEq, ex_arg, ex_valB, Bool.or_false, Bool.false_or, Bool.or_true, Bool.true_or, Bool.not_false, Bool.not_true, mComp2, dGcd, dComb, dSortS]
  refine ⟨by omega, by omega, ?_⟩
  rw [show ((n : Int) + (m : Int)).toNat = n + m by omega]
  refine forL_ran (fun k st => ∃ (A x y z : Slot), (A = .val (.list ((VL n m k).map D.str)) ∨ (k = 0 ∧ A = .own ((VL n m k).map D.str))) ∧ st = ⟨[.val (.int n), .val (.int m), A, x, y, z], w⟩) _ ⟨_, _, _, _, .inr ⟨rfl, rfl⟩, rfl⟩ ?_ ?_
  · rintro k _ hk ⟨A, x, y, z, hA, rfl⟩ K hK
    have pk : (2 : Nat) ^ k ≤ 2 ^ 12 := Nat.pow_le_pow_right (by decide) (by omega)
    have wl := VL_len n m k
    have wl1 := VL_len n m (k + 1)
    have pk1 : (2 : Nat) ^ (k + 1) ≤ 2 ^ 12 := Nat.pow_le_pow_right (by decide) (by omega)
    show sSeq _ _ ⟨[.val (.int n), .val (.int m), A, .val (.int (0 + (k : Int))), y, z], w⟩ _
    refine seq_cut (fun s' => s' = ⟨[.val (.int n), .val (.int m), A, .val (.int (0 + (k : Int))), .own [], z], w⟩) ?_ ?_
    · intro K hK
      simp only [run, runF, DL.get, DL.put, puts, back, mC, mVar, mFzV, mFeed, frz, msN, msC, mBin, mUn, dAdd, dSub, dMul, dDiv, dMod, dPow, dNeg, dCmp, dLt, dLe, dGt, dGe, dEq, dNe, dIn, dIsN, dIsNotN, isN, dIs, dIsNot, dTab, flatD, okT, truth, tV, tB, tAnd, tOr, tNot, mAnd, mOr, mNot, mIf, mChain, mList, mTup, dIx, mSl, oN, oS, mRev, mRevTo, mCall, mCallF, dLen, dAbs, dInt, dMin2, dMax2, dList, dTup, dSum, dMin, dMax, dMinG, dMaxG, dAll, isTy, mIsI, gV, gSkip, gsN, gsC, gT, srcV, srcR1, srcR2, srcEnum, srcRev, mComp, tYes, isS, isL, mMS, mML, dIndexS, dIndexL, dIndexFrom, mMS2, dCount, dSplit, dJoin, sNil, sSeq, sSet, sAsg, sPar, sRet, retK, sRetN, sIf, sPass, sBrk, sCont, sNever, sExpr, sAug, ownAt, feedAt, intD, sApp, sExt, sSetI, sAugI, sFeed, sFeedA, popD, sPop, sAddPop, sFor, DL.W.set, DL.W.at, DL.R.d, okD, eqD_none_none, eqD_none_bool, eqD_none_int, eqD_none_str, eqD_none_list, eqD_none_tup, eqD_bool_none, eqD_bool_bool, eqD_bool_int, eqD_bool_str, eqD_bool_list, eqD_bool_tup, eqD_int_none, eqD_int_bool, eqD_int_int, eqD_int_str, eqD_int_list, eqD_int_tup, eqD_str_none, eqD_str_bool, eqD_str_int, eqD_str_str, eqD_str_list, eqD_str_tup, eqD_list_none, eqD_list_bool, eqD_list_int, eqD_list_str, eqD_list_list, eqD_list_tup, eqD_tup_none, eqD_tup_bool, eqD_tup_int, eqD_tup_str, eqD_tup_list, eqD_tup_tup, eqDs_nn, eqDs_cc, eqDs_nc, eqDs_cn, List.map_cons, List.map_nil, List.map, List.cons_append, List.nil_append, List.replicate, List.length_cons, List.length_nil, Nat.reduceAdd, Nat.reduceSub, List.all_cons, List.all_nil, Bool.and_true, Bool.true_and, true_and, and_true, atI_map, ex_map, ex_some, List.length_map, beq_int, decide_eq_true_eq, if_true, if_false, Bool.false_eq_true, if_pos, reduceIte, at0, at1, at2, at3, dP, mCallX, mCallB, peekA, evA, evAs, eq_self, sRaise0, sRaise1, sTry, caught, unslot, unheld, mXArg, mXIs, runX, List.contains_cons, List.contains_nil, Slot.isExn, String.reduceBEq, ex_arg, ex_valB, Bool.or_false, Bool.false_or, Bool.or_true, Bool.true_or, Bool.not_false, Bool.not_true, mComp2, dGcd, dComb, dSortS]
      exact ⟨by omega, hK _ rfl⟩
    rintro _ rfl
    refine seq_cut (fun s' => ∃ z, s' = ⟨[.val (.int n), .val (.int m), .val (.list ((VL n m k).map D.str)), .val (.int (0 + (k : Int))), .own ((VL n m (k + 1)).map D.str), z], w⟩) ?_ ?_
    · intro K hK
      refine for_cut (fun ds s' => ds = (VL n m k).map D.str ∧ s' = ⟨[.val (.int n), .val (.int m), .val (.list ((VL n m k).map D.str)), .val (.int (0 + (k : Int))), .own [], z], w⟩) ?_ ?_
      · intro K hK
        rcases hA with rfl | ⟨_, rfl⟩
        · simp only [run, runF, DL.get, DL.put, puts, back, mC, mVar, mFzV, mFeed, frz, msN, msC, mBin, mUn, dAdd, dSub, dMul, dDiv, dMod, dPow, dNeg, dCmp, dLt, dLe, dGt, dGe, dEq, dNe, dIn, dIsN, dIsNotN, isN, dIs, dIsNot, dTab, flatD, okT, truth, tV, tB, tAnd, tOr, tNot, mAnd, mOr, mNot, mIf, mChain, mList, mTup, dIx, mSl, oN, oS, mRev, mRevTo, mCall, mCallF, dLen, dAbs, dInt, dMin2, dMax2, dList, dTup, dSum, dMin, dMax, dMinG, dMaxG, dAll, isTy, mIsI, gV, gSkip, gsN, gsC, gT, srcV, srcR1, srcR2, srcEnum, srcRev, mComp, tYes, isS, isL, mMS, mML, dIndexS, dIndexL, dIndexFrom, mMS2, dCount, dSplit, dJoin, sNil, sSeq, sSet, sAsg, sPar, sRet, retK, sRetN, sIf, sPass, sBrk, sCont, sNever, sExpr, sAug, ownAt, feedAt, intD, sApp, sExt, sSetI, sAugI, sFeed, sFeedA, popD, sPop, sAddPop, sFor, DL.W.set, DL.W.at, DL.R.d, okD, eqD_none_none, eqD_none_bool, eqD_none_int, eqD_none_str, eqD_none_list, eqD_none_tup, eqD_bool_none, eqD_bool_bool, eqD_bool_int, eqD_bool_str, eqD_bool_list, eqD_bool_tup, eqD_int_none, eqD_int_bool, eqD_int_int, eqD_int_str, eqD_int_list, eqD_int_tup, eqD_str_none, eqD_str_bool, eqD_str_int, eqD_str_str, eqD_str_list, eqD_str_tup, eqD_list_none, eqD_list_bool, eqD_list_int, eqD_list_str, eqD_list_list, eqD_list_tup, eqD_tup_none, eqD_tup_bool, eqD_tup_int, eqD_tup_str, eqD_tup_list, eqD_tup_tup, eqDs_nn, eqDs_cc, eqDs_nc, eqDs_cn, List.map_cons, List.map_nil, List.map, List.cons_append, List.nil_append, List.replicate, List.length_cons, List.length_nil, Nat.reduceAdd, Nat.reduceSub, List.all_cons, List.all_nil, Bool.and_true, Bool.true_and, true_and, and_true, atI_map, ex_map, ex_some, List.length_map, beq_int, decide_eq_true_eq, if_true, if_false, Bool.false_eq_true, if_pos, reduceIte, at0, at1, at2, at3, dP, mCallX, mCallB, peekA, evA, evAs, eq_self, sRaise0, sRaise1, sTry, caught, unslot, unheld, mXArg, mXIs, runX, List.contains_cons, List.contains_nil, Slot.isExn, String.reduceBEq, ex_arg, ex_valB, Bool.or_false, Bool.false_or, Bool.or_true, Bool.true_or, Bool.not_false, Bool.not_true, mComp2, dGcd, dComb, dSortS]
          exact hK _ _ ⟨rfl, rfl⟩
        · simp only [run, runF, DL.get, DL.put, puts, back, mC, mVar, mFzV, mFeed, frz, msN, msC, mBin, mUn, dAdd, dSub, dMul, dDiv, dMod, dPow, dNeg, dCmp, dLt, dLe, dGt, dGe, dEq, dNe, dIn, dIsN, dIsNotN, isN, dIs, dIsNot, dTab, flatD, okT, truth, tV, tB, tAnd, tOr, tNot, mAnd, mOr, mNot, mIf, mChain, mList, mTup, dIx, mSl, oN, oS, mRev, mRevTo, mCall, mCallF, dLen, dAbs, dInt, dMin2, dMax2, dList, dTup, dSum, dMin, dMax, dMinG, dMaxG, dAll, isTy, mIsI, gV, gSkip, gsN, gsC, gT, srcV, srcR1, srcR2, srcEnum, srcRev, mComp, tYes, isS, isL, mMS, mML, dIndexS, dIndexL, dIndexFrom, mMS2, dCount, dSplit, dJoin, sNil, sSeq, sSet, sAsg, sPar, sRet, retK, sRetN, sIf, sPass, sBrk, sCont, sNever, sExpr, sAug, ownAt, feedAt, intD, sApp, sExt, sSetI, sAugI, sFeed, sFeedA, popD, sPop, sAddPop, sFor, DL.W.set, DL.W.at, DL.R.d, okD, eqD_none_none, eqD_none_bool, eqD_none_int, eqD_none_str, eqD_none_list, eqD_none_tup, eqD_bool_none, eqD_bool_bool, eqD_bool_int, eqD_bool_str, eqD_bool_list, eqD_bool_tup, eqD_int_none, eqD_int_bool, eqD_int_int, eqD_int_str, eqD_int_list, eqD_int_tup, eqD_str_none, eqD_str_bool, eqD_str_int, eqD_str_str, eqD_str_list, eqD_str_tup, eqD_list_none, eqD_list_bool, eqD_list_int, eqD_list_str, eqD_list_list, eqD_list_tup, eqD_tup_none, eqD_tup_bool, eqD_tup_int, eqD_tup_str, eqD_tup_list, eqD_tup_tup, eqDs_nn, eqDs_cc, eqDs_nc, eqDs_cn, List.map_cons, List.map_nil, List.map, List.cons_append, List.nil_append, List.replicate, List.length_cons, List.length_nil, Nat.reduceAdd, Nat.reduceSub, List.all_cons, List.all_nil, Bool.and_true, Bool.true_and, true_and, and_true, atI_map, ex_map, ex_some, List.length_map, beq_int, decide_eq_true_eq, if_true, if_false, Bool.false_eq_true, if_pos, reduceIte, at0, at1, at2, at3, dP, mCallX, mCallB, peekA, evA, evAs, eq_self, sRaise0, sRaise1, sTry, caught, unslot, unheld, mXArg, mXIs, runX, List.contains_cons, List.contains_nil, Slot.isExn, String.reduceBEq, ex_arg, ex_valB, Bool.or_false, Bool.false_or, Bool.or_true, Bool.true_or, Bool.not_false, Bool.not_true, mComp2, dGcd, dComb, dSortS]
          exact hK _ _ ⟨rfl, rfl⟩
      rintro _ _ ⟨rfl, rfl⟩
      have hmem := fun w => @VL_mem n m k w
      have hst : VL n m (k + 1) = (VL n m k).flatMap (stV n m) := rfl
      rw [hst] at hK wl1
      generalize VL n m k = W at *
      refine forL_ix _ (fun j st => ∃ z, st = ⟨[.val (.int n), .val (.int m), .val (.list (W.map D.str)), .val (.int (0 + (k : Int))), .own (((W.take j).flatMap (stV n m)).map D.str), z], w⟩) ?_ ?_ _ ⟨_, rfl⟩
      · rintro j d _ hd ⟨z, rfl⟩ K hK
        rw [List.getElem?_map] at hd
        cases e : W[j]? with
        | none => rw [e] at hd; cases hd
        | some v =>
          rw [e] at hd
          cases hd
          obtain ⟨vl, va⟩ := hmem v (List.mem_of_getElem? e)
          have e1 : (W.take (j + 1)).flatMap (stV n m) = (W.take j).flatMap (stV n m) ++ stV n m v := by
            rw [List.take_add_one, e, List.flatMap_append]
            simp
          have l1 : ((W.take j).flatMap (stV n m)).length ≤ 8192 := by
            have h2 : ((W.take j).flatMap (stV n m)).length ≤ (W.take j).length * 2 := by
              generalize W.take j = l
              induction l with
              | nil => exact Nat.le_refl 0
              | cons x l ih =>
                rw [List.flatMap_cons, List.length_append, List.length_cons]
                have := stV_len n m x
                omega
            rw [List.length_take] at h2
            omega
          rw [e1, List.map_append] at hK
          generalize (W.take j).flatMap (stV n m) = acc at *
          show sSeq _ _ ⟨[.val (.int n), .val (.int m), .val (.list (W.map D.str)), .val (.int (0 + (k : Int))), .own (acc.map D.str), .val (.str v)], w⟩ _
          unfold stV at hK
          refine seq_cut (fun s' => s' = ⟨[.val (.int n), .val (.int m), .val (.list (W.map D.str)), .val (.int (0 + (k : Int))), .own (acc.map D.str ++ (if v.count 111 < n then [v ++ [111]] else []).map D.str), .val (.str v)], w⟩) ?_ ?_
          · intro K hK
            simp only [run, runF, DL.get, DL.put, puts, back, mC, mVar, mFzV, mFeed, frz, msN, msC, mBin, mUn, dAdd, dSub, dMul, dDiv, dMod, dPow, dNeg, dCmp, dLt, dLe, dGt, dGe, dEq, dNe, dIn, dIsN, dIsNotN, isN, dIs, dIsNot, dTab, flatD, okT, truth, tV, tB, tAnd, tOr, tNot, mAnd, mOr, mNot, mIf, mChain, mList, mTup, dIx, mSl, oN, oS, mRev, mRevTo, mCall, mCallF, dLen, dAbs, dInt, dMin2, dMax2, dList, dTup, dSum, dMin, dMax, dMinG, dMaxG, dAll, isTy, mIsI, gV, gSkip, gsN, gsC, gT, srcV, srcR1, srcR2, srcEnum, srcRev, mComp, tYes, isS, isL, mMS, mML, dIndexS, dIndexL, dIndexFrom, mMS2, dCount, dSplit, dJoin, sNil, sSeq, sSet, sAsg, sPar, sRet, retK, sRetN, sIf, sPass, sBrk, sCont, sNever, sExpr, sAug, ownAt, feedAt, intD, sApp, sExt, sSetI, sAugI, sFeed, sFeedA, popD, sPop, sAddPop, sFor, DL.W.set, DL.W.at, DL.R.d, okD, eqD_none_none, eqD_none_bool, eqD_none_int, eqD_none_str, eqD_none_list, eqD_none_tup, eqD_bool_none, eqD_bool_bool, eqD_bool_int, eqD_bool_str, eqD_bool_list, eqD_bool_tup, eqD_int_none, eqD_int_bool, eqD_int_int, eqD_int_str, eqD_int_list, eqD_int_tup, eqD_str_none, eqD_str_bool, eqD_str_int, eqD_str_str, eqD_str_list, eqD_str_tup, eqD_list_none, eqD_list_bool, eqD_list_int, eqD_list_str, eqD_list_list, eqD_list_tup, eqD_tup_none, eqD_tup_bool, eqD_tup_int, eqD_tup_str, eqD_tup_list, eqD_tup_tup, eqDs_nn, eqDs_cc, eqDs_nc, eqDs_cn, List.map_cons, List.map_nil, List.map, List.cons_append, List.nil_append, List.replicate, List.length_cons, List.length_nil, Nat.reduceAdd, Nat.reduceSub, List.all_cons, List.all_nil, Bool.and_true, Bool.true_and, true_and, and_true, atI_map, ex_map, ex_some, List.length_map, beq_int, decide_eq_true_eq, if_true, if_false, Bool.false_eq_true, if_pos, reduceIte, at0, at1, at2, at3, dP, mCallX, mCallB, peekA, evA, evAs, eq_self, sRaise0, sRaise1, sTry, caught, unslot, unheld, mXArg, mXIs, runX, List.contains_cons, List.contains_nil, Slot.isExn, String.reduceBEq, ex_arg, ex_valB, Bool.or_false, Bool.false_or, Bool.or_true, Bool.true_or, Bool.not_false, Bool.not_true, mComp2, dGcd, dComb, dSortS]
            rw [split_count]
            by_cases c : v.count 111 < n
            · rw [if_pos c] at hK
              rw [if_pos (by omega)]
              exact ⟨by omega, by decide, by omega, by omega, hK _ rfl⟩
            · rw [if_neg c, List.map_nil, List.append_nil] at hK
              rw [if_neg (by omega)]
              exact ⟨by omega, by decide, hK _ rfl⟩
          rintro _ rfl
          have bl : (acc.map D.str ++ (if v.count 111 < n then [v ++ [111]] else []).map D.str).length ≤ 8193 := by
            rw [List.length_append, List.length_map]
            split <;> simp <;> omega
          rw [List.map_append, ← List.append_assoc] at hK
          generalize acc.map D.str ++ (if v.count 111 < n then [v ++ [111]] else []).map D.str = acc2 at *
          simp only [run, runF, DL.get, DL.put, puts, back, mC, mVar, mFzV, mFeed, frz, msN, msC, mBin, mUn, dAdd, dSub, dMul, dDiv, dMod, dPow, dNeg, dCmp, dLt, dLe, dGt, dGe, dEq, dNe, dIn, dIsN, dIsNotN, isN, dIs, dIsNot, dTab, flatD, okT, truth, tV, tB, tAnd, tOr, tNot, mAnd, mOr, mNot, mIf, mChain, mList, mTup, dIx, mSl, oN, oS, mRev, mRevTo, mCall, mCallF, dLen, dAbs, dInt, dMin2, dMax2, dList, dTup, dSum, dMin, dMax, dMinG, dMaxG, dAll, isTy, mIsI, gV, gSkip, gsN, gsC, gT, srcV, srcR1, srcR2, srcEnum, srcRev, mComp, tYes, isS, isL, mMS, mML, dIndexS, dIndexL, dIndexFrom, mMS2, dCount, dSplit, dJoin, sNil, sSeq, sSet, sAsg, sPar, sRet, retK, sRetN, sIf, sPass, sBrk, sCont, sNever, sExpr, sAug, ownAt, feedAt, intD, sApp, sExt, sSetI, sAugI, sFeed, sFeedA, popD, sPop, sAddPop, sFor, DL.W.set, DL.W.at, DL.R.d, okD, eqD_none_none, eqD_none_bool, eqD_none_int, eqD_none_str, eqD_none_list, eqD_none_tup, eqD_bool_none, eqD_bool_bool, eqD_bool_int, eqD_bool_str, eqD_bool_list, eqD_bool_tup, eqD_int_none, eqD_int_bool, eqD_int_int, eqD_int_str, eqD_int_list, eqD_int_tup, eqD_str_none, eqD_str_bool, eqD_str_int, eqD_str_str, eqD_str_list, eqD_str_tup, eqD_list_none, eqD_list_bool, eqD_list_int, eqD_list_str, eqD_list_list, eqD_list_tup, eqD_tup_none, eqD_tup_bool, eqD_tup_int, eqD_tup_str, eqD_tup_list, eqD_tup_tup, eqDs_nn, eqDs_cc, eqDs_nc, eqDs_cn, List.map_cons, List.map_nil, List.map, List.cons_append, List.nil_append, List.replicate, List.length_cons, List.length_nil, Nat.reduceAdd, Nat.reduceSub, List.all_cons, List.all_nil, Bool.and_true, Bool.true_and, true_and, and_true, atI_map, ex_map, ex_some, List.length_map, beq_int, decide_eq_true_eq, if_true, if_false, Bool.false_eq_true, if_pos, reduceIte, at0, at1, at2, at3, dP, mCallX, mCallB, peekA, evA, evAs, eq_self, sRaise0, sRaise1, sTry, caught, unslot, unheld, mXArg, mXIs, runX, List.contains_cons, List.contains_nil, Slot.isExn, String.reduceBEq, ex_arg, ex_valB, Bool.or_false, Bool.false_or, Bool.or_true, Bool.true_or, Bool.not_false, Bool.not_true, mComp2, dGcd, dComb, dSortS]
          rw [split_count]
          by_cases c : v.count 105 < m
          · rw [if_pos c] at hK
            rw [if_pos (by omega)]
            exact ⟨by omega, by decide, by omega, by omega, hK _ ⟨_, rfl⟩⟩
          · rw [if_neg c, List.map_nil, List.append_nil] at hK
            rw [if_neg (by omega)]
            exact ⟨by omega, by decide, hK _ ⟨_, rfl⟩⟩
      · rintro _ ⟨z, rfl⟩
        rw [List.length_map, List.take_length]
        exact hK _ ⟨_, rfl⟩
    rintro _ ⟨z, rfl⟩
    simp only [run, runF, DL.get, DL.put, puts, back, mC, mVar, mFzV, mFeed, frz, msN, msC, mBin, mUn, dAdd, dSub, dMul, dDiv, dMod, dPow, dNeg, dCmp, dLt, dLe, dGt, dGe, dEq, dNe, dIn, dIsN, dIsNotN, isN, dIs, dIsNot, dTab, flatD, okT, truth, tV, tB, tAnd, tOr, tNot, mAnd, mOr, mNot, mIf, mChain, mList, mTup, dIx, mSl, oN, oS, mRev, mRevTo, mCall, mCallF, dLen, dAbs, dInt, dMin2, dMax2, dList, dTup, dSum, dMin, dMax, dMinG, dMaxG, dAll, isTy, mIsI, gV, gSkip, gsN, gsC, gT, srcV, srcR1, srcR2, srcEnum, srcRev, mComp, tYes, isS, isL, mMS, mML, dIndexS, dIndexL, dIndexFrom, mMS2, dCount, dSplit, dJoin, sNil, sSeq, sSet, sAsg, sPar, sRet, retK, sRetN, sIf, sPass, sBrk, sCont, sNever, sExpr, sAug, ownAt, feedAt, intD, sApp, sExt, sSetI, sAugI, sFeed, sFeedA, popD, sPop, sAddPop, sFor, DL.W.set, DL.W.at, DL.R.d, okD, eqD_none_none, eqD_none_bool, eqD_none_int, eqD_none_str, eqD_none_list, eqD_none_tup, eqD_bool_none, eqD_bool_bool, eqD_bool_int, eqD_bool_str, eqD_bool_list, eqD_bool_tup, eqD_int_none, eqD_int_bool, eqD_int_int, eqD_int_str, eqD_int_list, eqD_int_tup, eqD_str_none, eqD_str_bool, eqD_str_int, eqD_str_str, eqD_str_list, eqD_str_tup, eqD_list_none, eqD_list_bool, eqD_list_int, eqD_list_str, eqD_list_list, eqD_list_tup, eqD_tup_none, eqD_tup_bool, eqD_tup_int, eqD_tup_str, eqD_tup_list, eqD_tup_tup, eqDs_nn, eqDs_cc, eqDs_nc, eqDs_cn, List.map_cons, List.map_nil, List.map, List.cons_append, List.nil_append, List.replicate, List.length_cons, List.length_nil, Nat.reduceAdd, Nat.reduceSub, List.all_cons, List.all_nil, Bool.and_true, Bool.true_and, true_and, and_true, atI_map, ex_map, ex_some, List.length_map, beq_int, decide_eq_true_eq, if_true, if_false, Bool.false_eq_true, if_pos, reduceIte, at0, at1, at2, at3, dP, mCallX, mCallB, peekA, evA, evAs, eq_self, sRaise0, sRaise1, sTry, caught, unslot, unheld, mXArg, mXIs, runX, List.contains_cons, List.contains_nil, Slot.isExn, String.reduceBEq, ex_arg, ex_valB, Bool.or_false, Bool.false_or, Bool.or_true, Bool.true_or, Bool.not_false, Bool.not_true, mComp2, dGcd, dComb, dSortS]
    exact hK _ ⟨_, _, _, _, .inl rfl, rfl⟩
  · rintro _ ⟨A, x, y, z, rfl | ⟨h0, _⟩, rfl⟩
    · simp only [run, runF, DL.get, DL.put, puts, back, mC, mVar, mFzV, mFeed, frz, msN, msC, mBin, mUn, dAdd, dSub, dMul, dDiv, dMod, dPow, dNeg, dCmp, dLt, dLe, dGt, dGe, dEq, dNe, dIn, dIsN, dIsNotN, isN, dIs, dIsNot, dTab, flatD, okT, truth, tV, tB, tAnd, tOr, tNot, mAnd, mOr, mNot, mIf, mChain, mList, mTup, dIx, mSl, oN, oS, mRev, mRevTo, mCall, mCallF, dLen, dAbs, dInt, dMin2, dMax2, dList, dTup, dSum, dMin, dMax, dMinG, dMaxG, dAll, isTy, mIsI, gV, gSkip, gsN, gsC, gT, srcV, srcR1, srcR2, srcEnum, srcRev, mComp, tYes, isS, isL, mMS, mML, dIndexS, dIndexL, dIndexFrom, mMS2, dCount, dSplit, dJoin, sNil, sSeq, sSet, sAsg, sPar, sRet, retK, sRetN, sIf, sPass, sBrk, sCont, sNever, sExpr, sAug, ownAt, feedAt, intD, sApp, sExt, sSetI, sAugI, sFeed, sFeedA, popD, sPop, sAddPop, sFor, DL.W.set, DL.W.at, DL.R.d, okD, eqD_none_none, eqD_none_bool, eqD_none_int, eqD_none_str, eqD_none_list, eqD_none_tup, eqD_bool_none, eqD_bool_bool, eqD_bool_int, eqD_bool_str, eqD_bool_list, eqD_bool_tup, eqD_int_none, eqD_int_bool, eqD_int_int, eqD_int_str, eqD_int_list, eqD_int_tup, eqD_str_none, eqD_str_bool, eqD_str_int, eqD_str_str, eqD_str_list, eqD_str_tup, eqD_list_none, eqD_list_bool, eqD_list_int, eqD_list_str, eqD_list_list, eqD_list_tup, eqD_tup_none, eqD_tup_bool, eqD_tup_int, eqD_tup_str, eqD_tup_list, eqD_tup_tup, eqDs_nn, eqDs_cc, eqDs_nc, eqDs_cn, List.map_cons, List.map_nil, List.map, List.cons_append, List.nil_append, List.replicate, List.length_cons, List.length_nil, Nat.reduceAdd, Nat.reduceSub, List.all_cons, List.all_nil, Bool.and_true, Bool.true_and, true_and, and_true, atI_map, ex_map, ex_some, List.length_map, beq_int, decide_eq_true_eq, if_true, if_false, Bool.false_eq_true, if_pos, reduceIte, at0, at1, at2, at3, dP, mCallX, mCallB, peekA, evA, evAs, eq_self, sRaise0, sRaise1, sTry, caught, unslot, unheld, mXArg, mXIs, runX, List.contains_cons, List.contains_nil, Slot.isExn, String.reduceBEq, ex_arg, ex_valB, Bool.or_false, Bool.false_or, Bool.or_true, Bool.true_or, Bool.not_false, Bool.not_true, mComp2, dGcd, dComb, dSortS]
      exact q
    · omega

theorem okSs {L : List (List Nat)} (h : ∀ l ∈ L, ∀ x ∈ l, x = 111 ∨ x = 105) (k : Nat) : (L.map D.str).all (okD k) = true := List.all_eq_true.mpr fun d hd => by
  obtain ⟨l, hl, rfl⟩ := List.mem_map.mp hd
  have := okS (h l hl)
  cases k <;> exact this
theorem like_strs (L : List (List Nat)) : ∀ x, x ∈ L.map D.str → ∀ y, y ∈ L.map D.str → likeD x y = true := fun x hx y hy => by
  obtain ⟨a, _, rfl⟩ := List.mem_map.mp hx
  obtain ⟨b, _, rfl⟩ := List.mem_map.mp hy
  rfl
theorem turns_strs (l : List Nat) : ((List.range l.length).map fun k => D.str (turn l k)) = ((List.range l.length).map (turn l)).map D.str := by rw [List.map_map]; rfl
theorem turns_all {l : List Nat} (h : ∀ x ∈ l, x = 111 ∨ x = 105) : ∀ t ∈ (List.range l.length).map (turn l), ∀ x ∈ t, x = 111 ∨ x = 105 := fun t ht x hx => by
  obtain ⟨k, _, rfl⟩ := List.mem_map.mp ht
  exact h x ((turn_perm l k).mem_iff.mp hx)
theorem turns_any (l m : List Nat) : (((List.range l.length).map fun k => D.str (turn l k)).any fun d => eqD d (.str m)) = turnC m l := by
  unfold turnC
  rw [List.any_map]
  congr 1
def spec_fixed_by : Sem := fun ds w Q => ∃ (n : Nat) (m : Nat) (k : Nat), ds = [.int n, .int m, .int k] ∧ 1 ≤ n ∧ n ≤ 6 ∧ 1 ≤ m ∧ m ≤ 6 ∧ k < n + m ∧ Q (.val (.int (fixF n m k : Nat))) w
theorem ar_fixed_by (n : Nat) (m : Nat) (k : Nat) (w : W) (Q : R → W → Prop) : ar 3 spec_fixed_by [.int n, .int m, .int k] w Q = (1 ≤ n ∧ n ≤ 6 ∧ 1 ≤ m ∧ m ≤ 6 ∧ k < n + m ∧ Q (.val (.int (fixF n m k : Nat))) w) := by
  apply propext
  constructor
  · rintro ⟨_, n', m', k', e, h⟩
    simp only [List.cons.injEq, D.str.injEq, D.int.injEq, D.bool.injEq, D.tup.injEq, D.list.injEq, mapInt_inj, Int.natCast_inj, and_true, and_assoc] at e
    first | (obtain ⟨rfl, rfl, rfl⟩ := e; exact h) | (obtain ⟨rfl, rfl, rfl, _⟩ := e; exact h)
  · intro h
    exact ⟨rfl, n, m, k, rfl, h⟩
theorem vc_fixed_by : ∀ ds w Q, spec_fixed_by ds w Q → run 4 (b_fixed_by) ds w Q := by
  rintro ds w Q ⟨n, m, k, rfl, h⟩
  unfold b_fixed_by
  obtain ⟨n1, hn, m1, hm, hk, q⟩ := h
  simp only [run, runF, DL.get, DL.put, puts, back, mC, mVar, mFzV, mFeed, frz, msN, msC, mBin, mUn, dAdd, dSub, dMul, dDiv, dMod, dPow, dNeg, dCmp, dLt, dLe, dGt, dGe, dEq, dNe, dIn, dIsN, dIsNotN, isN, dIs, dIsNot, dTab, flatD, okT, truth, tV, tB, tAnd, tOr, tNot, mAnd, mOr, mNot, mIf, mChain, mList, mTup, dIx, mSl, oN, oS, mRev, mRevTo, mCall, mCallF, dLen, dAbs, dInt, dMin2, dMax2, dList, dTup, dSum, dMin, dMax, dMinG, dMaxG, dAll, isTy, mIsI, gV, gSkip, gsN, gsC, gT, srcV, srcR1, srcR2, srcEnum, srcRev, mComp, tYes, isS, isL, mMS, mML, dIndexS, dIndexL, dIndexFrom, mMS2, dCount, dSplit, dJoin, sNil, sSeq, sSet, sAsg, sPar, sRet, retK, sRetN, sIf, sPass, sBrk, sCont, sNever, sExpr, sAug, ownAt, feedAt, intD, sApp, sExt, sSetI, sAugI, sFeed, sFeedA, popD, sPop, sAddPop, sFor, DL.W.set, DL.W.at, DL.R.d, okD, eqD_none_none, eqD_none_bool, eqD_none_int, eqD_none_str, eqD_none_list, eqD_none_tup, eqD_bool_none, eqD_bool_bool, eqD_bool_int, eqD_bool_str, eqD_bool_list, eqD_bool_tup, eqD_int_none, eqD_int_bool, eqD_int_int, eqD_int_str, eqD_int_list, eqD_int_tup, eqD_str_none, eqD_str_bool, eqD_str_int, eqD_str_str, eqD_str_list, eqD_str_tup, eqD_list_none, eqD_list_bool, eqD_list_int, eqD_list_str, eqD_list_list, eqD_list_tup, eqD_tup_none, eqD_tup_bool, eqD_tup_int, eqD_tup_str, eqD_tup_list, eqD_tup_tup, eqDs_nn, eqDs_cc, eqDs_nc, eqDs_cn, List.map_cons, List.map_nil, List.map, List.cons_append, List.nil_append, List.replicate, List.length_cons, List.length_nil, Nat.reduceAdd, Nat.reduceSub, List.all_cons, List.all_nil, Bool.and_true, Bool.true_and, true_and, and_true, atI_map, ex_map, ex_some, List.length_map, beq_int, decide_eq_true_eq, if_true, if_false, Bool.false_eq_true, if_pos, reduceIte, at0, at1, at2, at3, dP, mCallX, mCallB, peekA, evA, evAs, eq_self, sRaise0, sRaise1, sTry, caught, unslot, unheld, mXArg, mXIs, runX, List.contains_cons, List.contains_nil, Slot.isExn, String.reduceBEq, ex_arg, ex_valB, Bool.or_false, Bool.false_or, Bool.or_true, Bool.true_or, Bool.not_false, Bool.not_true, mComp2, dGcd, dComb, dSortS]
  rw [show ((n : Int) + (m : Int)).natAbs = n + m by omega]
  simp only [Int.natAbs_natCast]
  have hg : Nat.gcd k (n + m) ≤ n + m := Nat.le_of_dvd (by omega) (Nat.gcd_dvd_right ..)
  unfold fixF at q
  generalize Nat.gcd k (n + m) = g at *
  have h0 : n + m ≠ 0 := by omega
  have e1 : (n : Int) * (g : Int) % ((n : Int) + (m : Int)) = ((n * g % (n + m) : Nat) : Int) := by rw [← Int.natCast_mul, ← Int.natCast_add, ← Int.natCast_emod]
  have e2 : (n : Int) * (g : Int) / ((n : Int) + (m : Int)) = ((n * g / (n + m) : Nat) : Int) := by rw [← Int.natCast_mul, ← Int.natCast_add, ← Int.natCast_ediv]
  have b1 : n * g ≤ 6 * 12 := Nat.mul_le_mul hn (by omega)
  have b2 : n * g / (n + m) ≤ n := by
    refine Nat.div_le_of_le_mul ?_
    rw [Nat.mul_comm (n + m)]
    exact Nat.mul_le_mul_left _ hg
  rw [e1, e2]
  generalize hE : n * g % (n + m) = E at *
  generalize hD : n * g / (n + m) = F at *
  have l1 := Nat.log2_le_self n
  have l2 := Nat.log2_le_self g
  have l3 := Nat.log2_le_self (n + m)
  refine ⟨by omega, by omega, ?_⟩
  split
  · rename_i h
    rw [if_pos (by omega)] at q
    exact q
  · rename_i h
    rw [if_neg (by omega)] at q
    rw [Int.toNat_natCast, Int.toNat_natCast]
    exact ⟨by omega, by omega, by omega, by omega, by omega, by omega, by omega, q⟩
def spec_count_lands : Sem := fun ds w Q => ∃ (n : Nat) (m : Nat), ds = [.int n, .int m] ∧ 1 ≤ n ∧ n ≤ 6 ∧ 1 ≤ m ∧ m ≤ 6 ∧ Q (.val (.int (cntF n m : Nat))) w
theorem ar_count_lands (n : Nat) (m : Nat) (w : W) (Q : R → W → Prop) : ar 2 spec_count_lands [.int n, .int m] w Q = (1 ≤ n ∧ n ≤ 6 ∧ 1 ≤ m ∧ m ≤ 6 ∧ Q (.val (.int (cntF n m : Nat))) w) := by
  apply propext
  constructor
  · rintro ⟨_, n', m', e, h⟩
    simp only [List.cons.injEq, D.str.injEq, D.int.injEq, D.bool.injEq, D.tup.injEq, D.list.injEq, mapInt_inj, Int.natCast_inj, and_true, and_assoc] at e
    first | (obtain ⟨rfl, rfl⟩ := e; exact h) | (obtain ⟨rfl, rfl, _⟩ := e; exact h)
  · intro h
    exact ⟨rfl, n, m, rfl, h⟩
theorem vc_count_lands : ∀ ds w Q, spec_count_lands ds w Q → run 3 (b_count_lands (ar 3 spec_fixed_by)) ds w Q := by
  rintro ds w Q ⟨n, m, rfl, h⟩
  unfold b_count_lands
  simp only [run, runF, DL.get, DL.put, puts, back, mC, mVar, mFzV, mFeed, frz, msN, msC, mBin, mUn, dAdd, dSub, dMul, dDiv, dMod, dPow, dNeg, dCmp, dLt, dLe, dGt, dGe, dEq, dNe, dIn, dIsN, dIsNotN, isN, dIs, dIsNot, dTab, flatD, okT, truth, tV, tB, tAnd, tOr, tNot, mAnd, mOr, mNot, mIf, mChain, mList, mTup, dIx, mSl, oN, oS, mRev, mRevTo, mCall, mCallF, dLen, dAbs, dInt, dMin2, dMax2, dList, dTup, dSum, dMin, dMax, dMinG, dMaxG, dAll, isTy, mIsI, gV, gSkip, gsN, gsC, gT, srcV, srcR1, srcR2, srcEnum, srcRev, mComp, tYes, isS, isL, mMS, mML, dIndexS, dIndexL, dIndexFrom, mMS2, dCount, dSplit, dJoin, sNil, sSeq, sSet, sAsg, sPar, sRet, retK, sRetN, sIf, sPass, sBrk, sCont, sNever, sExpr, sAug, ownAt, feedAt, intD, sApp, sExt, sSetI, sAugI, sFeed, sFeedA, popD, sPop, sAddPop, sFor, DL.W.set, DL.W.at, DL.R.d, okD, eqD_none_none, eqD_none_bool, eqD_none_int, eqD_none_str, eqD_none_list, eqD_none_tup, eqD_bool_none, eqD_bool_bool, eqD_bool_int, eqD_bool_str, eqD_bool_list, eqD_bool_tup, eqD_int_none, eqD_int_bool, eqD_int_int, eqD_int_str, eqD_int_list, eqD_int_tup, eqD_str_none, eqD_str_bool, eqD_str_int, eqD_str_str, eqD_str_list, eqD_str_tup, eqD_list_none, eqD_list_bool, eqD_list_int, eqD_list_str, eqD_list_list, eqD_list_tup, eqD_tup_none, eqD_tup_bool, eqD_tup_int, eqD_tup_str, eqD_tup_list, eqD_tup_tup, eqDs_nn, eqDs_cc, eqDs_nc, eqDs_cn, List.map_cons, List.map_nil, List.map, List.cons_append, List.nil_append, List.replicate, List.length_cons, List.length_nil, Nat.reduceAdd, Nat.reduceSub, List.all_cons, List.all_nil, Bool.and_true, Bool.true_and, true_and, and_true, atI_map, ex_map, ex_some, List.length_map, beq_int, decide_eq_true_eq, if_true, if_false, Bool.false_eq_true, if_pos, reduceIte, at0, at1, at2, at3, dP, mCallX, mCallB, peekA, evA, evAs, eq_self, sRaise0, sRaise1, sTry, caught, unslot, unheld, mXArg, mXIs, runX, List.contains_cons, List.contains_nil, Slot.isExn, String.reduceBEq, ex_arg, ex_valB, Bool.or_false, Bool.false_or, Bool.or_true, Bool.true_or, Bool.not_false, Bool.not_true, mComp2, dGcd, dComb, dSortS, ar_fixed_by]
  obtain ⟨n1, hn, m1, hm, q⟩ := h
  have hz : (2000 : Nat) ≤ LINE := by decide
  refine ⟨by omega, ?_⟩
  rw [show ((n : Int) + (m : Int)).toNat = n + m by omega]
  refine compL_f _ (fun d => match d with | .int i => .int (fixF n m i.toNat : Nat) | _ => .none) (fun st => ∃ x, st = ⟨[.val (.int n), .val (.int m), x], w⟩) ⟨_, rfl⟩ (by rw [ran_len]; omega) ?_ ?_
  · rintro d _ hd ⟨x, rfl⟩ C K hC hK
    obtain ⟨i, hi⟩ := List.getElem?_of_mem hd
    obtain ⟨hi, rfl⟩ := ran_get hi
    rw [Int.zero_add] at hK ⊢
    simp only [run, runF, DL.get, DL.put, puts, back, mC, mVar, mFzV, mFeed, frz, msN, msC, mBin, mUn, dAdd, dSub, dMul, dDiv, dMod, dPow, dNeg, dCmp, dLt, dLe, dGt, dGe, dEq, dNe, dIn, dIsN, dIsNotN, isN, dIs, dIsNot, dTab, flatD, okT, truth, tV, tB, tAnd, tOr, tNot, mAnd, mOr, mNot, mIf, mChain, mList, mTup, dIx, mSl, oN, oS, mRev, mRevTo, mCall, mCallF, dLen, dAbs, dInt, dMin2, dMax2, dList, dTup, dSum, dMin, dMax, dMinG, dMaxG, dAll, isTy, mIsI, gV, gSkip, gsN, gsC, gT, srcV, srcR1, srcR2, srcEnum, srcRev, mComp, tYes, isS, isL, mMS, mML, dIndexS, dIndexL, dIndexFrom, mMS2, dCount, dSplit, dJoin, sNil, sSeq, sSet, sAsg, sPar, sRet, retK, sRetN, sIf, sPass, sBrk, sCont, sNever, sExpr, sAug, ownAt, feedAt, intD, sApp, sExt, sSetI, sAugI, sFeed, sFeedA, popD, sPop, sAddPop, sFor, DL.W.set, DL.W.at, DL.R.d, okD, eqD_none_none, eqD_none_bool, eqD_none_int, eqD_none_str, eqD_none_list, eqD_none_tup, eqD_bool_none, eqD_bool_bool, eqD_bool_int, eqD_bool_str, eqD_bool_list, eqD_bool_tup, eqD_int_none, eqD_int_bool, eqD_int_int, eqD_int_str, eqD_int_list, eqD_int_tup, eqD_str_none, eqD_str_bool, eqD_str_int, eqD_str_str, eqD_str_list, eqD_str_tup, eqD_list_none, eqD_list_bool, eqD_list_int, eqD_list_str, eqD_list_list, eqD_list_tup, eqD_tup_none, eqD_tup_bool, eqD_tup_int, eqD_tup_str, eqD_tup_list, eqD_tup_tup, eqDs_nn, eqDs_cc, eqDs_nc, eqDs_cn, List.map_cons, List.map_nil, List.map, List.cons_append, List.nil_append, List.replicate, List.length_cons, List.length_nil, Nat.reduceAdd, Nat.reduceSub, List.all_cons, List.all_nil, Bool.and_true, Bool.true_and, true_and, and_true, atI_map, ex_map, ex_some, List.length_map, beq_int, decide_eq_true_eq, if_true, if_false, Bool.false_eq_true, if_pos, reduceIte, at0, at1, at2, at3, dP, mCallX, mCallB, peekA, evA, evAs, eq_self, sRaise0, sRaise1, sTry, caught, unslot, unheld, mXArg, mXIs, runX, List.contains_cons, List.contains_nil, Slot.isExn, String.reduceBEq, ex_arg, ex_valB, Bool.or_false, Bool.false_or, Bool.or_true, Bool.true_or, Bool.not_false, Bool.not_true, mComp2, dGcd, dComb, dSortS, ar_fixed_by]
    exact ⟨n1, hn, m1, hm, by omega, hC, hK _ ⟨_, rfl⟩⟩
  · rintro _ ⟨x, rfl⟩
    have e : (ran 0 (n + m)).map (fun d => match d with | .int i => D.int (fixF n m i.toNat : Nat) | _ => .none) = (((List.range (n + m)).map (fixF n m)).map fun k : Nat => (k : Int)).map D.int := by
      unfold ran
      rw [List.map_map, List.map_map, List.map_map]
      refine List.map_congr_left fun k _ => ?_
      show D.int (fixF n m (0 + (k : Int)).toNat : Nat) = _
      rw [show (0 + (k : Int)).toNat = k by omega]
      rfl
    rw [e]
    have es : ∀ l : List Nat, (l.map fun k : Nat => (k : Int)).sum = (l.sum : Nat) := fun l => by
      induction l with
      | nil => rfl
      | cons x l ih => rw [List.map_cons, List.sum_cons, List.sum_cons, ih, Int.natCast_add]
    refine ⟨_, rfl, by omega, ?_⟩
    rw [es]
    have ec : (((List.range (n + m)).map (fixF n m)).sum : Int) / ((n : Int) + (m : Int)) = (cntF n m : Nat) := by
      unfold cntF
      rw [Int.natCast_ediv, Int.natCast_add]
    rw [ec]
    have l3 := Nat.log2_le_self ((n : Int) + (m : Int)).natAbs
    exact ⟨by omega, q⟩
def spec_all_lands : Sem := fun ds w Q => ∃ (n : Nat) (m : Nat), ds = [.int n, .int m] ∧ 1 ≤ n ∧ n ≤ 6 ∧ 1 ≤ m ∧ m ≤ 6 ∧ Q (.own (((WL n m (n + m)).filter leastC).map D.str)) w
theorem ar_all_lands (n : Nat) (m : Nat) (w : W) (Q : R → W → Prop) : ar 2 spec_all_lands [.int n, .int m] w Q = (1 ≤ n ∧ n ≤ 6 ∧ 1 ≤ m ∧ m ≤ 6 ∧ Q (.own (((WL n m (n + m)).filter leastC).map D.str)) w) := by
  apply propext
  constructor
  · rintro ⟨_, n', m', e, h⟩
    simp only [List.cons.injEq, D.str.injEq, D.int.injEq, D.bool.injEq, D.tup.injEq, D.list.injEq, mapInt_inj, Int.natCast_inj, and_true, and_assoc] at e
    first | (obtain ⟨rfl, rfl⟩ := e; exact h) | (obtain ⟨rfl, rfl, _⟩ := e; exact h)
  · intro h
    exact ⟨rfl, n, m, rfl, h⟩
theorem vc_all_lands : ∀ ds w Q, spec_all_lands ds w Q → run 3 (b_all_lands (ar 2 spec_count_lands) (ar 2 spec_all_words) (ar 1 spec_least_land)) ds w Q := by
  rintro ds w Q ⟨n, m, rfl, h⟩
  unfold b_all_lands
  simp only [run, runF, DL.get, DL.put, puts, back, mC, mVar, mFzV, mFeed, frz, msN, msC, mBin, mUn, dAdd, dSub, dMul, dDiv, dMod, dPow, dNeg, dCmp, dLt, dLe, dGt, dGe, dEq, dNe, dIn, dIsN, dIsNotN, isN, dIs, dIsNot, dTab, flatD, okT, truth, tV, tB, tAnd, tOr, tNot, mAnd, mOr, mNot, mIf, mChain, mList, mTup, dIx, mSl, oN, oS, mRev, mRevTo, mCall, mCallF, dLen, dAbs, dInt, dMin2, dMax2, dList, dTup, dSum, dMin, dMax, dMinG, dMaxG, dAll, isTy, mIsI, gV, gSkip, gsN, gsC, gT, srcV, srcR1, srcR2, srcEnum, srcRev, mComp, tYes, isS, isL, mMS, mML, dIndexS, dIndexL, dIndexFrom, mMS2, dCount, dSplit, dJoin, sNil, sSeq, sSet, sAsg, sPar, sRet, retK, sRetN, sIf, sPass, sBrk, sCont, sNever, sExpr, sAug, ownAt, feedAt, intD, sApp, sExt, sSetI, sAugI, sFeed, sFeedA, popD, sPop, sAddPop, sFor, DL.W.set, DL.W.at, DL.R.d, okD, eqD_none_none, eqD_none_bool, eqD_none_int, eqD_none_str, eqD_none_list, eqD_none_tup, eqD_bool_none, eqD_bool_bool, eqD_bool_int, eqD_bool_str, eqD_bool_list, eqD_bool_tup, eqD_int_none, eqD_int_bool, eqD_int_int, eqD_int_str, eqD_int_list, eqD_int_tup, eqD_str_none, eqD_str_bool, eqD_str_int, eqD_str_str, eqD_str_list, eqD_str_tup, eqD_list_none, eqD_list_bool, eqD_list_int, eqD_list_str, eqD_list_list, eqD_list_tup, eqD_tup_none, eqD_tup_bool, eqD_tup_int, eqD_tup_str, eqD_tup_list, eqD_tup_tup, eqDs_nn, eqDs_cc, eqDs_nc, eqDs_cn, List.map_cons, List.map_nil, List.map, List.cons_append, List.nil_append, List.replicate, List.length_cons, List.length_nil, Nat.reduceAdd, Nat.reduceSub, List.all_cons, List.all_nil, Bool.and_true, Bool.true_and, true_and, and_true, atI_map, ex_map, ex_some, List.length_map, beq_int, decide_eq_true_eq, if_true, if_false, Bool.false_eq_true, if_pos, reduceIte, at0, at1, at2, at3, dP, mCallX, mCallB, peekA, evA, evAs, eq_self, sRaise0, sRaise1, sTry, caught, unslot, unheld, mXArg, mXIs, runX, List.contains_cons, List.contains_nil, Slot.isExn, String.reduceBEq, ex_arg, ex_valB, Bool.or_false, Bool.false_or, Bool.or_true, Bool.true_or, Bool.not_false, Bool.not_true, mComp2, dGcd, dComb, dSortS, ar_count_lands, ar_all_words, ar_least_land]
  obtain ⟨n1, hn, m1, hm, q⟩ := h
  have hz : (20000 : Nat) ≤ LINE := by decide
  have hc := cntF_few' hn hm
  have wl := WL_len n m (n + m)
  have pk : (2 : Nat) ^ (n + m) ≤ 2 ^ 12 := Nat.pow_le_pow_right (by decide) (by omega)
  refine ⟨n1, hn, m1, hm, ?_⟩
  rw [if_neg (by omega)]
  refine ⟨n1, hn, m1, hm, ?_⟩
  have hmem := fun w => @WL_mem n m (n + m) w
  generalize WL n m (n + m) = W at *
  refine compL_flt _ _ (fun d => match d with | .str v => leastC v | _ => false) (fun d => d) (fun st => ∃ x, st = ⟨[.val (.int n), .val (.int m), x], w⟩) ⟨_, rfl⟩ (by rw [List.length_map]; show 0 + _ ≤ _; omega) ?_ ?_
  · rintro d _ hd ⟨x, rfl⟩ C K1 K2 hC hK1 hK2
    obtain ⟨v, hv, rfl⟩ := List.mem_map.mp hd
    obtain ⟨vl, va⟩ := hmem v hv
    simp only [run, runF, DL.get, DL.put, puts, back, mC, mVar, mFzV, mFeed, frz, msN, msC, mBin, mUn, dAdd, dSub, dMul, dDiv, dMod, dPow, dNeg, dCmp, dLt, dLe, dGt, dGe, dEq, dNe, dIn, dIsN, dIsNotN, isN, dIs, dIsNot, dTab, flatD, okT, truth, tV, tB, tAnd, tOr, tNot, mAnd, mOr, mNot, mIf, mChain, mList, mTup, dIx, mSl, oN, oS, mRev, mRevTo, mCall, mCallF, dLen, dAbs, dInt, dMin2, dMax2, dList, dTup, dSum, dMin, dMax, dMinG, dMaxG, dAll, isTy, mIsI, gV, gSkip, gsN, gsC, gT, srcV, srcR1, srcR2, srcEnum, srcRev, mComp, tYes, isS, isL, mMS, mML, dIndexS, dIndexL, dIndexFrom, mMS2, dCount, dSplit, dJoin, sNil, sSeq, sSet, sAsg, sPar, sRet, retK, sRetN, sIf, sPass, sBrk, sCont, sNever, sExpr, sAug, ownAt, feedAt, intD, sApp, sExt, sSetI, sAugI, sFeed, sFeedA, popD, sPop, sAddPop, sFor, DL.W.set, DL.W.at, DL.R.d, okD, eqD_none_none, eqD_none_bool, eqD_none_int, eqD_none_str, eqD_none_list, eqD_none_tup, eqD_bool_none, eqD_bool_bool, eqD_bool_int, eqD_bool_str, eqD_bool_list, eqD_bool_tup, eqD_int_none, eqD_int_bool, eqD_int_int, eqD_int_str, eqD_int_list, eqD_int_tup, eqD_str_none, eqD_str_bool, eqD_str_int, eqD_str_str, eqD_str_list, eqD_str_tup, eqD_list_none, eqD_list_bool, eqD_list_int, eqD_list_str, eqD_list_list, eqD_list_tup, eqD_tup_none, eqD_tup_bool, eqD_tup_int, eqD_tup_str, eqD_tup_list, eqD_tup_tup, eqDs_nn, eqDs_cc, eqDs_nc, eqDs_cn, List.map_cons, List.map_nil, List.map, List.cons_append, List.nil_append, List.replicate, List.length_cons, List.length_nil, Nat.reduceAdd, Nat.reduceSub, List.all_cons, List.all_nil, Bool.and_true, Bool.true_and, true_and, and_true, atI_map, ex_map, ex_some, List.length_map, beq_int, decide_eq_true_eq, if_true, if_false, Bool.false_eq_true, if_pos, reduceIte, at0, at1, at2, at3, dP, mCallX, mCallB, peekA, evA, evAs, eq_self, sRaise0, sRaise1, sTry, caught, unslot, unheld, mXArg, mXIs, runX, List.contains_cons, List.contains_nil, Slot.isExn, String.reduceBEq, ex_arg, ex_valB, Bool.or_false, Bool.false_or, Bool.or_true, Bool.true_or, Bool.not_false, Bool.not_true, mComp2, dGcd, dComb, dSortS, ar_count_lands, ar_all_words, ar_least_land]
    refine ⟨by omega, by omega, va, fun k hk => ?_⟩
    have h0 : 0 < v.length := by omega
    have hk := minOf_eq h0 hk
    have hb : (k == v) = leastC v := by
      rw [Bool.eq_iff_iff, leastC_eq h0, beq_iff_eq, hk]
    rw [hb]
    have am := okS (minOf_all h0 va)
    rw [← hk] at am
    refine ⟨am, okS va, ?_⟩
    cases c : leastC v with
    | true => exact ⟨hC, hK1 c _ ⟨_, rfl⟩⟩
    | false => exact hK2 c _ ⟨_, rfl⟩
  · rintro _ ⟨x, rfl⟩
    refine Eq.mp (congrArg (fun ds => Q (.own ds) w) ?_) q
    rw [List.nil_append, List.filter_map, List.map_id']
    rfl
def spec_all_mirrored : Sem := fun ds w Q => ∃ (n : Nat) (m : Nat), ds = [.int n, .int m] ∧ 1 ≤ n ∧ n ≤ 6 ∧ 1 ≤ m ∧ m ≤ 6 ∧ Q (.own ((mirL n m).map D.str)) w
theorem ar_all_mirrored (n : Nat) (m : Nat) (w : W) (Q : R → W → Prop) : ar 2 spec_all_mirrored [.int n, .int m] w Q = (1 ≤ n ∧ n ≤ 6 ∧ 1 ≤ m ∧ m ≤ 6 ∧ Q (.own ((mirL n m).map D.str)) w) := by
  apply propext
  constructor
  · rintro ⟨_, n', m', e, h⟩
    simp only [List.cons.injEq, D.str.injEq, D.int.injEq, D.bool.injEq, D.tup.injEq, D.list.injEq, mapInt_inj, Int.natCast_inj, and_true, and_assoc] at e
    first | (obtain ⟨rfl, rfl⟩ := e; exact h) | (obtain ⟨rfl, rfl, _⟩ := e; exact h)
  · intro h
    exact ⟨rfl, n, m, rfl, h⟩
theorem vc_all_mirrored : ∀ ds w Q, spec_all_mirrored ds w Q → run 3 (b_all_mirrored (ar 2 spec_all_lands) (ar 1 spec_is_mirrored)) ds w Q := by
  rintro ds w Q ⟨n, m, rfl, h⟩
  unfold b_all_mirrored
  simp only [run, runF, DL.get, DL.put, puts, back, mC, mVar, mFzV, mFeed, frz, msN, msC, mBin, mUn, dAdd, dSub, dMul, dDiv, dMod, dPow, dNeg, dCmp, dLt, dLe, dGt, dGe, dEq, dNe, dIn, dIsN, dIsNotN, isN, dIs, dIsNot, dTab, flatD, okT, truth, tV, tB, tAnd, tOr, tNot, mAnd, mOr, mNot, mIf, mChain, mList, mTup, dIx, mSl, oN, oS, mRev, mRevTo, mCall, mCallF, dLen, dAbs, dInt, dMin2, dMax2, dList, dTup, dSum, dMin, dMax, dMinG, dMaxG, dAll, isTy, mIsI, gV, gSkip, gsN, gsC, gT, srcV, srcR1, srcR2, srcEnum, srcRev, mComp, tYes, isS, isL, mMS, mML, dIndexS, dIndexL, dIndexFrom, mMS2, dCount, dSplit, dJoin, sNil, sSeq, sSet, sAsg, sPar, sRet, retK, sRetN, sIf, sPass, sBrk, sCont, sNever, sExpr, sAug, ownAt, feedAt, intD, sApp, sExt, sSetI, sAugI, sFeed, sFeedA, popD, sPop, sAddPop, sFor, DL.W.set, DL.W.at, DL.R.d, okD, eqD_none_none, eqD_none_bool, eqD_none_int, eqD_none_str, eqD_none_list, eqD_none_tup, eqD_bool_none, eqD_bool_bool, eqD_bool_int, eqD_bool_str, eqD_bool_list, eqD_bool_tup, eqD_int_none, eqD_int_bool, eqD_int_int, eqD_int_str, eqD_int_list, eqD_int_tup, eqD_str_none, eqD_str_bool, eqD_str_int, eqD_str_str, eqD_str_list, eqD_str_tup, eqD_list_none, eqD_list_bool, eqD_list_int, eqD_list_str, eqD_list_list, eqD_list_tup, eqD_tup_none, eqD_tup_bool, eqD_tup_int, eqD_tup_str, eqD_tup_list, eqD_tup_tup, eqDs_nn, eqDs_cc, eqDs_nc, eqDs_cn, List.map_cons, List.map_nil, List.map, List.cons_append, List.nil_append, List.replicate, List.length_cons, List.length_nil, Nat.reduceAdd, Nat.reduceSub, List.all_cons, List.all_nil, Bool.and_true, Bool.true_and, true_and, and_true, atI_map, ex_map, ex_some, List.length_map, beq_int, decide_eq_true_eq, if_true, if_false, Bool.false_eq_true, if_pos, reduceIte, at0, at1, at2, at3, dP, mCallX, mCallB, peekA, evA, evAs, eq_self, sRaise0, sRaise1, sTry, caught, unslot, unheld, mXArg, mXIs, runX, List.contains_cons, List.contains_nil, Slot.isExn, String.reduceBEq, ex_arg, ex_valB, Bool.or_false, Bool.false_or, Bool.or_true, Bool.true_or, Bool.not_false, Bool.not_true, mComp2, dGcd, dComb, dSortS, ar_all_lands, ar_is_mirrored]
  obtain ⟨n1, hn, m1, hm, q⟩ := h
  have hz : (20000 : Nat) ≤ LINE := by decide
  have wl := WL_len n m (n + m)
  have pk : (2 : Nat) ^ (n + m) ≤ 2 ^ 12 := Nat.pow_le_pow_right (by decide) (by omega)
  refine ⟨n1, hn, m1, hm, ?_⟩
  have hmem := fun w => @WL_mem n m (n + m) w
  unfold mirL at q
  generalize WL n m (n + m) = W at *
  have fl := List.length_filter_le leastC W
  refine compL_flt _ _ (fun d => match d with | .str v => turnC v.reverse v | _ => false) (fun d => d) (fun st => ∃ x, st = ⟨[.val (.int n), .val (.int m), x], w⟩) ⟨_, rfl⟩ (by rw [List.length_map]; show 0 + _ ≤ _; omega) ?_ ?_
  · rintro d _ hd ⟨x, rfl⟩ C K1 K2 hC hK1 hK2
    obtain ⟨v, hv, rfl⟩ := List.mem_map.mp hd
    obtain ⟨vl, va⟩ := hmem v (List.mem_filter.mp hv).1
    simp only [run, runF, DL.get, DL.put, puts, back, mC, mVar, mFzV, mFeed, frz, msN, msC, mBin, mUn, dAdd, dSub, dMul, dDiv, dMod, dPow, dNeg, dCmp, dLt, dLe, dGt, dGe, dEq, dNe, dIn, dIsN, dIsNotN, isN, dIs, dIsNot, dTab, flatD, okT, truth, tV, tB, tAnd, tOr, tNot, mAnd, mOr, mNot, mIf, mChain, mList, mTup, dIx, mSl, oN, oS, mRev, mRevTo, mCall, mCallF, dLen, dAbs, dInt, dMin2, dMax2, dList, dTup, dSum, dMin, dMax, dMinG, dMaxG, dAll, isTy, mIsI, gV, gSkip, gsN, gsC, gT, srcV, srcR1, srcR2, srcEnum, srcRev, mComp, tYes, isS, isL, mMS, mML, dIndexS, dIndexL, dIndexFrom, mMS2, dCount, dSplit, dJoin, sNil, sSeq, sSet, sAsg, sPar, sRet, retK, sRetN, sIf, sPass, sBrk, sCont, sNever, sExpr, sAug, ownAt, feedAt, intD, sApp, sExt, sSetI, sAugI, sFeed, sFeedA, popD, sPop, sAddPop, sFor, DL.W.set, DL.W.at, DL.R.d, okD, eqD_none_none, eqD_none_bool, eqD_none_int, eqD_none_str, eqD_none_list, eqD_none_tup, eqD_bool_none, eqD_bool_bool, eqD_bool_int, eqD_bool_str, eqD_bool_list, eqD_bool_tup, eqD_int_none, eqD_int_bool, eqD_int_int, eqD_int_str, eqD_int_list, eqD_int_tup, eqD_str_none, eqD_str_bool, eqD_str_int, eqD_str_str, eqD_str_list, eqD_str_tup, eqD_list_none, eqD_list_bool, eqD_list_int, eqD_list_str, eqD_list_list, eqD_list_tup, eqD_tup_none, eqD_tup_bool, eqD_tup_int, eqD_tup_str, eqD_tup_list, eqD_tup_tup, eqDs_nn, eqDs_cc, eqDs_nc, eqDs_cn, List.map_cons, List.map_nil, List.map, List.cons_append, List.nil_append, List.replicate, List.length_cons, List.length_nil, Nat.reduceAdd, Nat.reduceSub, List.all_cons, List.all_nil, Bool.and_true, Bool.true_and, true_and, and_true, atI_map, ex_map, ex_some, List.length_map, beq_int, decide_eq_true_eq, if_true, if_false, Bool.false_eq_true, if_pos, reduceIte, at0, at1, at2, at3, dP, mCallX, mCallB, peekA, evA, evAs, eq_self, sRaise0, sRaise1, sTry, caught, unslot, unheld, mXArg, mXIs, runX, List.contains_cons, List.contains_nil, Slot.isExn, String.reduceBEq, ex_arg, ex_valB, Bool.or_false, Bool.false_or, Bool.or_true, Bool.true_or, Bool.not_false, Bool.not_true, mComp2, dGcd, dComb, dSortS, ar_all_lands, ar_is_mirrored]
    refine ⟨by omega, by omega, va, ?_⟩
    cases c : turnC v.reverse v with
    | true => exact ⟨hC, hK1 c _ ⟨_, rfl⟩⟩
    | false => exact hK2 c _ ⟨_, rfl⟩
  · rintro _ ⟨x, rfl⟩
    refine Eq.mp (congrArg (fun ds => Q (.own ds) w) ?_) q
    rw [List.nil_append, List.filter_map, List.map_id', List.filter_filter]
    congr 2
    funext v
    exact Bool.and_comm ..
def spec__law_mirrored : Sem := fun ds w Q => ∃ (n : Nat) (m : Nat), ds = [.int n, .int m] ∧ 1 ≤ n ∧ n ≤ 6 ∧ 1 ≤ m ∧ m ≤ 6 ∧ Q (.own ((mirL n m).map D.str)) w
theorem ar__law_mirrored (n : Nat) (m : Nat) (w : W) (Q : R → W → Prop) : ar 2 spec__law_mirrored [.int n, .int m] w Q = (1 ≤ n ∧ n ≤ 6 ∧ 1 ≤ m ∧ m ≤ 6 ∧ Q (.own ((mirL n m).map D.str)) w) := by
  apply propext
  constructor
  · rintro ⟨_, n', m', e, h⟩
    simp only [List.cons.injEq, D.str.injEq, D.int.injEq, D.bool.injEq, D.tup.injEq, D.list.injEq, mapInt_inj, Int.natCast_inj, and_true, and_assoc] at e
    first | (obtain ⟨rfl, rfl⟩ := e; exact h) | (obtain ⟨rfl, rfl, _⟩ := e; exact h)
  · intro h
    exact ⟨rfl, n, m, rfl, h⟩
theorem vc__law_mirrored : ∀ ds w Q, spec__law_mirrored ds w Q → run 5 (b__law_mirrored (ar 2 spec__law_words) (ar 1 spec__law_turnings)) ds w Q := by
  rintro ds w Q ⟨n, m, rfl, h⟩
  unfold b__law_mirrored
  simp only [run, runF, DL.get, DL.put, puts, back, mC, mVar, mFzV, mFeed, frz, msN, msC, mBin, mUn, dAdd, dSub, dMul, dDiv, dMod, dPow, dNeg, dCmp, dLt, dLe, dGt, dGe, dEq, dNe, dIn, dIsN, dIsNotN, isN, dIs, dIsNot, dTab, flatD, okT, truth, tV, tB, tAnd, tOr, tNot, mAnd, mOr, mNot, mIf, mChain, mList, mTup, dIx, mSl, oN, oS, mRev, mRevTo, mCall, mCallF, dLen, dAbs, dInt, dMin2, dMax2, dList, dTup, dSum, dMin, dMax, dMinG, dMaxG, dAll, isTy, mIsI, gV, gSkip, gsN, gsC, gT, srcV, srcR1, srcR2, srcEnum, srcRev, mComp, tYes, isS, isL, mMS, mML, dIndexS, dIndexL, dIndexFrom, mMS2, dCount, dSplit, dJoin, sNil, sSeq, sSet, sAsg, sPar, sRet, retK, sRetN, sIf, sPass, sBrk, sCont, sNever, sExpr, sAug, ownAt, feedAt, intD, sApp, sExt, sSetI, sAugI, sFeed, sFeedA, popD, sPop, sAddPop, sFor, DL.W.set, DL.W.at, DL.R.d, okD, eqD_none_none, eqD_none_bool, eqD_none_int, eqD_none_str, eqD_none_list, eqD_none_tup, eqD_bool_none, eqD_bool_bool, eqD_bool_int, eqD_bool_str, eqD_bool_list, eqD_bool_tup, eqD_int_none, eqD_int_bool, eqD_int_int, eqD_int_str, eqD_int_list, eqD_int_tup, eqD_str_none, eqD_str_bool, eqD_str_int, eqD_str_str, eqD_str_list, eqD_str_tup, eqD_list_none, eqD_list_bool, eqD_list_int, eqD_list_str, eqD_list_list, eqD_list_tup, eqD_tup_none, eqD_tup_bool, eqD_tup_int, eqD_tup_str, eqD_tup_list, eqD_tup_tup, eqDs_nn, eqDs_cc, eqDs_nc, eqDs_cn, List.map_cons, List.map_nil, List.map, List.cons_append, List.nil_append, List.replicate, List.length_cons, List.length_nil, Nat.reduceAdd, Nat.reduceSub, List.all_cons, List.all_nil, Bool.and_true, Bool.true_and, true_and, and_true, atI_map, ex_map, ex_some, List.length_map, beq_int, decide_eq_true_eq, if_true, if_false, Bool.false_eq_true, if_pos, reduceIte, at0, at1, at2, at3, dP, mCallX, mCallB, peekA, evA, evAs, eq_self, sRaise0, sRaise1, sTry, caught, unslot, unheld, mXArg, mXIs, runX, List.contains_cons, List.contains_nil, Slot.isExn, String.reduceBEq, ex_arg, ex_valB, Bool.or_false, Bool.false_or, Bool.or_true, Bool.true_or, Bool.not_false, Bool.not_true, mComp2, dGcd, dComb, dSortS, ar__law_words, ar__law_turnings]
  obtain ⟨n1, hn, m1, hm, q⟩ := h
  have hz : (20000 : Nat) ≤ LINE := by decide
  have wl := VL_len n m (n + m)
  have pk : (2 : Nat) ^ (n + m) ≤ 2 ^ 12 := Nat.pow_le_pow_right (by decide) (by omega)
  have hrev := mirL_rev n m
  have hfew := mirL_few' hn hm
  refine ⟨by omega, n1, hn, m1, hm, ?_⟩
  have hmem := fun w => @VL_mem n m (n + m) w
  generalize VL n m (n + m) = W at *
  refine forL_ix _ (fun k st => ∃ x y, st = ⟨[.val (.int n), .val (.int m), .own (((W.take k).filter fun w => leastC w && turnC w.reverse w).map D.str), x, y], w⟩) ?_ ?_ _ ⟨_, _, rfl⟩
  · rintro k d _ hd ⟨x, y, rfl⟩ K hK
    rw [List.getElem?_map] at hd
    cases e : W[k]? with
    | none => rw [e] at hd; cases hd
    | some v =>
      rw [e] at hd
      cases hd
      obtain ⟨vl, va⟩ := hmem v (List.mem_of_getElem? e)
      have e1 : (W.take (k + 1)).filter (fun w => leastC w && turnC w.reverse w) = (W.take k).filter (fun w => leastC w && turnC w.reverse w) ++ if (leastC v && turnC v.reverse v) = true then [v] else [] := by
        rw [List.take_add_one, e, List.filter_append]
        congr 1
        show List.filter _ [v] = _
        rw [List.filter_cons, List.filter_nil]
      have fl := List.length_filter_le (fun w => leastC w && turnC w.reverse w) (W.take k)
      rw [List.length_take] at fl
      rw [e1, List.map_append] at hK
      generalize (W.take k).filter (fun w => leastC w && turnC w.reverse w) = acc at *
      simp only [run, runF, DL.get, DL.put, puts, back, mC, mVar, mFzV, mFeed, frz, msN, msC, mBin, mUn, dAdd, dSub, dMul, dDiv, dMod, dPow, dNeg, dCmp, dLt, dLe, dGt, dGe, dEq, dNe, dIn, dIsN, dIsNotN, isN, dIs, dIsNot, dTab, flatD, okT, truth, tV, tB, tAnd, tOr, tNot, mAnd, mOr, mNot, mIf, mChain, mList, mTup, dIx, mSl, oN, oS, mRev, mRevTo, mCall, mCallF, dLen, dAbs, dInt, dMin2, dMax2, dList, dTup, dSum, dMin, dMax, dMinG, dMaxG, dAll, isTy, mIsI, gV, gSkip, gsN, gsC, gT, srcV, srcR1, srcR2, srcEnum, srcRev, mComp, tYes, isS, isL, mMS, mML, dIndexS, dIndexL, dIndexFrom, mMS2, dCount, dSplit, dJoin, sNil, sSeq, sSet, sAsg, sPar, sRet, retK, sRetN, sIf, sPass, sBrk, sCont, sNever, sExpr, sAug, ownAt, feedAt, intD, sApp, sExt, sSetI, sAugI, sFeed, sFeedA, popD, sPop, sAddPop, sFor, DL.W.set, DL.W.at, DL.R.d, okD, eqD_none_none, eqD_none_bool, eqD_none_int, eqD_none_str, eqD_none_list, eqD_none_tup, eqD_bool_none, eqD_bool_bool, eqD_bool_int, eqD_bool_str, eqD_bool_list, eqD_bool_tup, eqD_int_none, eqD_int_bool, eqD_int_int, eqD_int_str, eqD_int_list, eqD_int_tup, eqD_str_none, eqD_str_bool, eqD_str_int, eqD_str_str, eqD_str_list, eqD_str_tup, eqD_list_none, eqD_list_bool, eqD_list_int, eqD_list_str, eqD_list_list, eqD_list_tup, eqD_tup_none, eqD_tup_bool, eqD_tup_int, eqD_tup_str, eqD_tup_list, eqD_tup_tup, eqDs_nn, eqDs_cc, eqDs_nc, eqDs_cn, List.map_cons, List.map_nil, List.map, List.cons_append, List.nil_append, List.replicate, List.length_cons, List.length_nil, Nat.reduceAdd, Nat.reduceSub, List.all_cons, List.all_nil, Bool.and_true, Bool.true_and, true_and, and_true, atI_map, ex_map, ex_some, List.length_map, beq_int, decide_eq_true_eq, if_true, if_false, Bool.false_eq_true, if_pos, reduceIte, at0, at1, at2, at3, dP, mCallX, mCallB, peekA, evA, evAs, eq_self, sRaise0, sRaise1, sTry, caught, unslot, unheld, mXArg, mXIs, runX, List.contains_cons, List.contains_nil, Slot.isExn, String.reduceBEq, ex_arg, ex_valB, Bool.or_false, Bool.false_or, Bool.or_true, Bool.true_or, Bool.not_false, Bool.not_true, mComp2, dGcd, dComb, dSortS, ar__law_words, ar__law_turnings]
      have h0 : 0 < v.length := by omega
      rw [turns_any, Bool.false_xor]
      have ok7 : (v.all fun c => decide (c < 1114112)) = true := okS va
      have okr : (v.reverse.all fun c => decide (c < 1114112)) = true := okS fun x hx => va x (List.mem_reverse.mp hx)
      have oks : (List.map (fun k => D.str (turn v k)) (List.range v.length)).all (okD 8) = true := by rw [turns_strs]; exact okSs (turns_all va) 8
      refine ⟨by omega, by rw [turns_strs]; exact like_strs _, oks, by rw [List.length_range]; exact h0, fun d hd hle => ?_⟩
      obtain ⟨p, hp, rfl⟩ := List.mem_map.mp hd
      have hp := List.mem_range.mp hp
      have hmin : turn v p = minOf v := minOf_eq h0 ⟨⟨p, hp, rfl⟩, fun z hz => by
        obtain ⟨j, hj, rfl⟩ := hz
        have := hle (.str (turn v j)) (List.mem_map.mpr ⟨j, List.mem_range.mpr hj, rfl⟩)
        exact of_decide_eq_false this⟩
      have hb : eqD (.str v) (.str (turn v p)) = leastC v := by
        rw [eqD_str_str, Bool.eq_iff_iff, leastC_eq h0, beq_iff_eq, hmin]
        exact ⟨fun z => z.symm, fun z => z.symm⟩
      rw [hb]
      refine ⟨ok7, List.all_eq_true.mp oks _ hd, ?_⟩
      cases c : leastC v with
      | false =>
        rw [if_neg (by decide)]
        rw [c, Bool.false_and, if_neg (by decide), List.map_nil, List.append_nil] at hK
        exact hK _ ⟨_, _, rfl⟩
      | true =>
        rw [if_pos rfl]
        refine ⟨by omega, okr, oks, ?_⟩
        rw [c, Bool.true_and] at hK
        cases c2 : turnC v.reverse v with
        | false =>
          rw [if_neg (by decide)]
          rw [c2, if_neg (by decide), List.map_nil, List.append_nil] at hK
          exact hK _ ⟨_, _, rfl⟩
        | true =>
          rw [if_pos rfl]
          rw [c2, if_pos rfl] at hK
          exact ⟨by omega, hK _ ⟨_, _, rfl⟩⟩
  · rintro _ ⟨x, y, rfl⟩
    rw [List.length_map, List.take_length, hrev]
    simp only [run, runF, DL.get, DL.put, puts, back, mC, mVar, mFzV, mFeed, frz, msN, msC, mBin, mUn, dAdd, dSub, dMul, dDiv, dMod, dPow, dNeg, dCmp, dLt, dLe, dGt, dGe, dEq, dNe, dIn, dIsN, dIsNotN, isN, dIs, dIsNot, dTab, flatD, okT, truth, tV, tB, tAnd, tOr, tNot, mAnd, mOr, mNot, mIf, mChain, mList, mTup, dIx, mSl, oN, oS, mRev, mRevTo, mCall, mCallF, dLen, dAbs, dInt, dMin2, dMax2, dList, dTup, dSum, dMin, dMax, dMinG, dMaxG, dAll, isTy, mIsI, gV, gSkip, gsN, gsC, gT, srcV, srcR1, srcR2, srcEnum, srcRev, mComp, tYes, isS, isL, mMS, mML, dIndexS, dIndexL, dIndexFrom, mMS2, dCount, dSplit, dJoin, sNil, sSeq, sSet, sAsg, sPar, sRet, retK, sRetN, sIf, sPass, sBrk, sCont, sNever, sExpr, sAug, ownAt, feedAt, intD, sApp, sExt, sSetI, sAugI, sFeed, sFeedA, popD, sPop, sAddPop, sFor, DL.W.set, DL.W.at, DL.R.d, okD, eqD_none_none, eqD_none_bool, eqD_none_int, eqD_none_str, eqD_none_list, eqD_none_tup, eqD_bool_none, eqD_bool_bool, eqD_bool_int, eqD_bool_str, eqD_bool_list, eqD_bool_tup, eqD_int_none, eqD_int_bool, eqD_int_int, eqD_int_str, eqD_int_list, eqD_int_tup, eqD_str_none, eqD_str_bool, eqD_str_int, eqD_str_str, eqD_str_list, eqD_str_tup, eqD_list_none, eqD_list_bool, eqD_list_int, eqD_list_str, eqD_list_list, eqD_list_tup, eqD_tup_none, eqD_tup_bool, eqD_tup_int, eqD_tup_str, eqD_tup_list, eqD_tup_tup, eqDs_nn, eqDs_cc, eqDs_nc, eqDs_cn, List.map_cons, List.map_nil, List.map, List.cons_append, List.nil_append, List.replicate, List.length_cons, List.length_nil, Nat.reduceAdd, Nat.reduceSub, List.all_cons, List.all_nil, Bool.and_true, Bool.true_and, true_and, and_true, atI_map, ex_map, ex_some, List.length_map, beq_int, decide_eq_true_eq, if_true, if_false, Bool.false_eq_true, if_pos, reduceIte, at0, at1, at2, at3, dP, mCallX, mCallB, peekA, evA, evAs, eq_self, sRaise0, sRaise1, sTry, caught, unslot, unheld, mXArg, mXIs, runX, List.contains_cons, List.contains_nil, Slot.isExn, String.reduceBEq, ex_arg, ex_valB, Bool.or_false, Bool.false_or, Bool.or_true, Bool.true_or, Bool.not_false, Bool.not_true, mComp2, dGcd, dComb, dSortS, ar__law_words, ar__law_turnings]
    refine ⟨_, rfl, by rw [List.length_reverse]; exact hfew, fun qs hp hq => ?_⟩
    rw [sorted_uniq (hp.trans (List.reverse_perm _)) hq (mirL_pw n m)]
    exact q
def spec__law_rim : Sem := fun ds w Q => ∃ (l : List Nat) (s : Nat), ds = [.str l, .str [s]] ∧ Word l ∧ l.length ≤ 1000 ∧ Sign s ∧ Q (.own ((rim l s).map D.int)) w
theorem ar__law_rim (l : List Nat) (s : Nat) (w : W) (Q : R → W → Prop) : ar 2 spec__law_rim [.str l, .str [s]] w Q = (Word l ∧ l.length ≤ 1000 ∧ Sign s ∧ Q (.own ((rim l s).map D.int)) w) := by
  apply propext
  constructor
  · rintro ⟨_, l', s', e, h⟩
    simp only [List.cons.injEq, D.str.injEq, D.int.injEq, D.bool.injEq, D.tup.injEq, D.list.injEq, mapInt_inj, Int.natCast_inj, and_true, and_assoc] at e
    first | (obtain ⟨rfl, rfl⟩ := e; exact h) | (obtain ⟨rfl, rfl, _⟩ := e; exact h)
  · intro h
    exact ⟨rfl, l, s, rfl, h⟩
theorem vc__law_rim : ∀ ds w Q, spec__law_rim ds w Q → run 6 (b__law_rim) ds w Q := by
  rintro ds w Q ⟨l, s, rfl, h⟩
  unfold b__law_rim
  simp only [run, runF, DL.get, DL.put, puts, back, mC, mVar, mFzV, mFeed, frz, msN, msC, mBin, mUn, dAdd, dSub, dMul, dDiv, dMod, dPow, dNeg, dCmp, dLt, dLe, dGt, dGe, dEq, dNe, dIn, dIsN, dIsNotN, isN, dIs, dIsNot, dTab, flatD, okT, truth, tV, tB, tAnd, tOr, tNot, mAnd, mOr, mNot, mIf, mChain, mList, mTup, dIx, mSl, oN, oS, mRev, mRevTo, mCall, mCallF, dLen, dAbs, dInt, dMin2, dMax2, dList, dTup, dSum, dMin, dMax, dMinG, dMaxG, dAll, isTy, mIsI, gV, gSkip, gsN, gsC, gT, srcV, srcR1, srcR2, srcEnum, srcRev, mComp, tYes, isS, isL, mMS, mML, dIndexS, dIndexL, dIndexFrom, mMS2, dCount, dSplit, dJoin, sNil, sSeq, sSet, sAsg, sPar, sRet, retK, sRetN, sIf, sPass, sBrk, sCont, sNever, sExpr, sAug, ownAt, feedAt, intD, sApp, sExt, sSetI, sAugI, sFeed, sFeedA, popD, sPop, sAddPop, sFor, DL.W.set, DL.W.at, DL.R.d, okD, eqD_none_none, eqD_none_bool, eqD_none_int, eqD_none_str, eqD_none_list, eqD_none_tup, eqD_bool_none, eqD_bool_bool, eqD_bool_int, eqD_bool_str, eqD_bool_list, eqD_bool_tup, eqD_int_none, eqD_int_bool, eqD_int_int, eqD_int_str, eqD_int_list, eqD_int_tup, eqD_str_none, eqD_str_bool, eqD_str_int, eqD_str_str, eqD_str_list, eqD_str_tup, eqD_list_none, eqD_list_bool, eqD_list_int, eqD_list_str, eqD_list_list, eqD_list_tup, eqD_tup_none, eqD_tup_bool, eqD_tup_int, eqD_tup_str, eqD_tup_list, eqD_tup_tup, eqDs_nn, eqDs_cc, eqDs_nc, eqDs_cn, List.map_cons, List.map_nil, List.map, List.cons_append, List.nil_append, List.replicate, List.length_cons, List.length_nil, Nat.reduceAdd, Nat.reduceSub, List.all_cons, List.all_nil, Bool.and_true, Bool.true_and, true_and, and_true, atI_map, ex_map, ex_some, List.length_map, beq_int, decide_eq_true_eq, if_true, if_false, Bool.false_eq_true, if_pos, reduceIte, at0, at1, at2, at3, dP, mCallX, mCallB, peekA, evA, evAs, eq_self, sRaise0, sRaise1, sTry, caught, unslot, unheld, mXArg, mXIs, runX, List.contains_cons, List.contains_nil, Slot.isExn, String.reduceBEq, ex_arg, ex_valB, Bool.or_false, Bool.false_or, Bool.or_true, Bool.true_or, Bool.not_false, Bool.not_true, mComp2, dGcd, dComb, dSortS]
  obtain ⟨hw, hl, hs, q⟩ := h
  have hz : (20000 : Nat) ≤ LINE := by decide
  have hm := hw.mem hs
  have f1 := (fst_spec hm).1
  have f2 := (fst_spec hm).2.1
  have tl := turn_len l (Nat.le_of_lt f1)
  rw [rim_rimP] at q
  have ht : ∃ b, turn l (fstIx s l) = s :: b := by
    obtain ⟨hk, e⟩ := List.getElem?_eq_some_iff.mp f2
    refine ⟨l.drop (fstIx s l + 1) ++ l.take (fstIx s l), ?_⟩
    unfold turn
    rw [List.drop_eq_getElem_cons hk, e]
    rfl
  obtain ⟨b, hb⟩ := ht
  rw [cut_from, cut_to, ← List.length_append, show l.drop (fstIx s l) ++ l.take (fstIx s l) = turn l (fstIx s l) from rfl]
  refine ⟨hm, by omega, by omega, by omega, by omega, ?_⟩
  have tm : ∀ x ∈ turn l (fstIx s l), x = 111 ∨ x = 105 := fun x hx => hw.all x ((turn_perm l _).mem_iff.mp hx)
  generalize turn l (fstIx s l) = t at *
  refine forL_ix _ (fun k st => ∃ x, st = ⟨[.val (.str l), .val (.str [s]), .val (.int (fstIx s l)), .val (.str t), .own ((rimP s (t.take k)).map D.int), x], w⟩) ?_ ?_ _ ⟨_, rfl⟩
  · rintro k d _ hd ⟨x, rfl⟩ K hK
    rw [List.getElem?_map] at hd
    cases e : t[k]? with
    | none => rw [e] at hd; cases hd
    | some c =>
      rw [e] at hd
      cases hd
      obtain ⟨hk, _⟩ := List.getElem?_eq_some_iff.mp e
      have et : t.take (k + 1) = t.take k ++ [c] := by rw [List.take_add_one, e]; rfl
      rw [et] at hK
      have rl := rimP_len s (t.take k)
      have cl := List.count_le_length (a := s) (l := t.take k)
      rw [List.length_take] at cl
      simp only [run, runF, DL.get, DL.put, puts, back, mC, mVar, mFzV, mFeed, frz, msN, msC, mBin, mUn, dAdd, dSub, dMul, dDiv, dMod, dPow, dNeg, dCmp, dLt, dLe, dGt, dGe, dEq, dNe, dIn, dIsN, dIsNotN, isN, dIs, dIsNot, dTab, flatD, okT, truth, tV, tB, tAnd, tOr, tNot, mAnd, mOr, mNot, mIf, mChain, mList, mTup, dIx, mSl, oN, oS, mRev, mRevTo, mCall, mCallF, dLen, dAbs, dInt, dMin2, dMax2, dList, dTup, dSum, dMin, dMax, dMinG, dMaxG, dAll, isTy, mIsI, gV, gSkip, gsN, gsC, gT, srcV, srcR1, srcR2, srcEnum, srcRev, mComp, tYes, isS, isL, mMS, mML, dIndexS, dIndexL, dIndexFrom, mMS2, dCount, dSplit, dJoin, sNil, sSeq, sSet, sAsg, sPar, sRet, retK, sRetN, sIf, sPass, sBrk, sCont, sNever, sExpr, sAug, ownAt, feedAt, intD, sApp, sExt, sSetI, sAugI, sFeed, sFeedA, popD, sPop, sAddPop, sFor, DL.W.set, DL.W.at, DL.R.d, okD, eqD_none_none, eqD_none_bool, eqD_none_int, eqD_none_str, eqD_none_list, eqD_none_tup, eqD_bool_none, eqD_bool_bool, eqD_bool_int, eqD_bool_str, eqD_bool_list, eqD_bool_tup, eqD_int_none, eqD_int_bool, eqD_int_int, eqD_int_str, eqD_int_list, eqD_int_tup, eqD_str_none, eqD_str_bool, eqD_str_int, eqD_str_str, eqD_str_list, eqD_str_tup, eqD_list_none, eqD_list_bool, eqD_list_int, eqD_list_str, eqD_list_list, eqD_list_tup, eqD_tup_none, eqD_tup_bool, eqD_tup_int, eqD_tup_str, eqD_tup_list, eqD_tup_tup, eqDs_nn, eqDs_cc, eqDs_nc, eqDs_cn, List.map_cons, List.map_nil, List.map, List.cons_append, List.nil_append, List.replicate, List.length_cons, List.length_nil, Nat.reduceAdd, Nat.reduceSub, List.all_cons, List.all_nil, Bool.and_true, Bool.true_and, true_and, and_true, atI_map, ex_map, ex_some, List.length_map, beq_int, decide_eq_true_eq, if_true, if_false, Bool.false_eq_true, if_pos, reduceIte, at0, at1, at2, at3, dP, mCallX, mCallB, peekA, evA, evAs, eq_self, sRaise0, sRaise1, sTry, caught, unslot, unheld, mXArg, mXIs, runX, List.contains_cons, List.contains_nil, Slot.isExn, String.reduceBEq, ex_arg, ex_valB, Bool.or_false, Bool.false_or, Bool.or_true, Bool.true_or, Bool.not_false, Bool.not_true, mComp2, dGcd, dComb, dSortS]
      refine ⟨by rcases tm c (List.mem_of_getElem? e) with rfl | rfl <;> decide, by rcases hs with rfl | rfl <;> decide, ?_⟩
      by_cases hc : c = s
      · subst hc
        rw [if_pos (by simp)]
        rw [rimP_same, List.map_append] at hK
        exact ⟨by omega, hK _ ⟨_, rfl⟩⟩
      · rw [if_neg (by simpa using hc)]
        have hsm : s ∈ t.take k := by
          rw [hb]
          cases k with
          | zero =>
            rw [hb] at e
            simp at e
            exact absurd e.symm hc
          | succ k => rw [List.take_succ_cons]; exact List.mem_cons_self
        obtain ⟨q', z, r1, r2⟩ := rimP_other hc hsm
        rw [r2] at hK
        rw [r1]
        refine ⟨q'.length, z, ?_, ?_, ?_⟩
        · unfold ixN
          rw [List.length_append, if_neg (by decide), if_pos (by simp only [List.length_cons, List.length_nil]; omega)]
          simp only [List.length_cons, List.length_nil]
          congr 1
          omega
        · rw [List.map_append, List.getElem?_append_right (by rw [List.length_map]; exact Nat.le_refl _), List.length_map, Nat.sub_self]
          rfl
        · rw [List.map_append, List.set_append_right _ _ (by rw [List.length_map]; exact Nat.le_refl _), List.length_map, Nat.sub_self]
          refine hK _ ⟨.val (.str [c]), ?_⟩
          rw [List.map_append]
          rfl
  · rintro _ ⟨x, rfl⟩
    rw [List.length_map, List.take_length]
    exact q
theorem len2 (l : List Nat) : (∀ x ∈ l, x = 111 ∨ x = 105) → l.length = l.count 111 + l.count 105 := fun h => (count_both l h).symm
theorem at412 {r : Int} (h0 : 0 ≤ r) (h1 : r < 2) : ∃ d : Int, atI [D.int 4, D.int 12] r = some (.int d) ∧ (d = 4 ∨ d = 12) := by
  rcases (by omega : r = 0 ∨ r = 1) with rfl | rfl
  · exact ⟨4, rfl, .inl rfl⟩
  · exact ⟨12, rfl, .inr rfl⟩
abbrev ldt (a b c d e : Slot) (w : W) : S := ⟨[.feed, a, b, c, d, e], w⟩
def spec__law_land : Sem := fun ds w Q => ds = [] ∧ Wok w ∧ ∀ l w', Word l → l.count 111 ≤ 12 → l.count 105 ≤ 12 → Wok w' → Q (.val (.str l)) w'
theorem ar__law_land (w : W) (Q : R → W → Prop) : ar 0 spec__law_land [] w Q = (Wok w ∧ ∀ l w', Word l → l.count 111 ≤ 12 → l.count 105 ≤ 12 → Wok w' → Q (.val (.str l)) w') := by
  apply propext
  constructor
  · rintro ⟨_, _, h⟩
    exact h
  · intro h
    exact ⟨rfl, rfl, h⟩
theorem vc__law_land : ∀ ds w Q, spec__law_land ds w Q → runF 6 (b__law_land (ar 1 spec__law_draw)) ds w Q := by
  rintro ds w Q ⟨rfl, h⟩
  unfold b__law_land
  obtain ⟨hw, q⟩ := h
  have hz : (2000 : Nat) ≤ LINE := by decide
  show sSeq _ _ (ldt .gone .gone .gone .gone .gone w) _
  refine seq_cut (fun s' => ∃ (t : Int) (w' : W), (t = 4 ∨ t = 12) ∧ Wok w' ∧ s' = ldt (.val (.int t)) .gone .gone .gone .gone w') ?_ ?_
  · intro K hK
    simp only [run, runF, DL.get, DL.put, puts, back, mC, mVar, mFzV, mFeed, frz, msN, msC, mBin, mUn, dAdd, dSub, dMul, dDiv, dMod, dPow, dNeg, dCmp, dLt, dLe, dGt, dGe, dEq, dNe, dIn, dIsN, dIsNotN, isN, dIs, dIsNot, dTab, flatD, okT, truth, tV, tB, tAnd, tOr, tNot, mAnd, mOr, mNot, mIf, mChain, mList, mTup, dIx, mSl, oN, oS, mRev, mRevTo, mCall, mCallF, dLen, dAbs, dInt, dMin2, dMax2, dList, dTup, dSum, dMin, dMax, dMinG, dMaxG, dAll, isTy, mIsI, gV, gSkip, gsN, gsC, gT, srcV, srcR1, srcR2, srcEnum, srcRev, mComp, tYes, isS, isL, mMS, mML, dIndexS, dIndexL, dIndexFrom, mMS2, dCount, dSplit, dJoin, sNil, sSeq, sSet, sAsg, sPar, sRet, retK, sRetN, sIf, sPass, sBrk, sCont, sNever, sExpr, sAug, ownAt, feedAt, intD, sApp, sExt, sSetI, sAugI, sFeed, sFeedA, popD, sPop, sAddPop, sFor, DL.W.set, DL.W.at, DL.R.d, okD, eqD_none_none, eqD_none_bool, eqD_none_int, eqD_none_str, eqD_none_list, eqD_none_tup, eqD_bool_none, eqD_bool_bool, eqD_bool_int, eqD_bool_str, eqD_bool_list, eqD_bool_tup, eqD_int_none, eqD_int_bool, eqD_int_int, eqD_int_str, eqD_int_list, eqD_int_tup, eqD_str_none, eqD_str_bool, eqD_str_int, eqD_str_str, eqD_str_list, eqD_str_tup, eqD_list_none, eqD_list_bool, eqD_list_int, eqD_list_str, eqD_list_list, eqD_list_tup, eqD_tup_none, eqD_tup_bool, eqD_tup_int, eqD_tup_str, eqD_tup_list, eqD_tup_tup, eqDs_nn, eqDs_cc, eqDs_nc, eqDs_cn, List.map_cons, List.map_nil, List.map, List.cons_append, List.nil_append, List.replicate, List.length_cons, List.length_nil, Nat.reduceAdd, Nat.reduceSub, List.all_cons, List.all_nil, Bool.and_true, Bool.true_and, true_and, and_true, atI_map, ex_map, ex_some, List.length_map, beq_int, decide_eq_true_eq, if_true, if_false, Bool.false_eq_true, if_pos, reduceIte, at0, at1, at2, at3, dP, mCallX, mCallB, peekA, evA, evAs, eq_self, sRaise0, sRaise1, sTry, caught, unslot, unheld, mXArg, mXIs, runX, List.contains_cons, List.contains_nil, Slot.isExn, String.reduceBEq, ex_arg, ex_valB, Bool.or_false, Bool.false_or, Bool.or_true, Bool.true_or, Bool.not_false, Bool.not_true, mComp2, dGcd, dComb, dSortS, ar__law_draw]
    refine ⟨by omega, by decide, by decide, hw, fun r w' r0 r1 hw' => ?_⟩
    obtain ⟨d, hd, hd2⟩ := at412 r0 r1
    exact ⟨_, hd, hK _ ⟨_, _, hd2, hw', rfl⟩⟩
  rintro _ ⟨t, w1, ht, hw1, rfl⟩
  refine seq_cut (fun s' => ∃ (a : Int) (w' : W), (1 ≤ a ∧ a ≤ 12) ∧ Wok w' ∧ s' = ldt (.val (.int t)) (.val (.int a)) .gone .gone .gone w') ?_ ?_
  · intro K hK
    simp only [run, runF, DL.get, DL.put, puts, back, mC, mVar, mFzV, mFeed, frz, msN, msC, mBin, mUn, dAdd, dSub, dMul, dDiv, dMod, dPow, dNeg, dCmp, dLt, dLe, dGt, dGe, dEq, dNe, dIn, dIsN, dIsNotN, isN, dIs, dIsNot, dTab, flatD, okT, truth, tV, tB, tAnd, tOr, tNot, mAnd, mOr, mNot, mIf, mChain, mList, mTup, dIx, mSl, oN, oS, mRev, mRevTo, mCall, mCallF, dLen, dAbs, dInt, dMin2, dMax2, dList, dTup, dSum, dMin, dMax, dMinG, dMaxG, dAll, isTy, mIsI, gV, gSkip, gsN, gsC, gT, srcV, srcR1, srcR2, srcEnum, srcRev, mComp, tYes, isS, isL, mMS, mML, dIndexS, dIndexL, dIndexFrom, mMS2, dCount, dSplit, dJoin, sNil, sSeq, sSet, sAsg, sPar, sRet, retK, sRetN, sIf, sPass, sBrk, sCont, sNever, sExpr, sAug, ownAt, feedAt, intD, sApp, sExt, sSetI, sAugI, sFeed, sFeedA, popD, sPop, sAddPop, sFor, DL.W.set, DL.W.at, DL.R.d, okD, eqD_none_none, eqD_none_bool, eqD_none_int, eqD_none_str, eqD_none_list, eqD_none_tup, eqD_bool_none, eqD_bool_bool, eqD_bool_int, eqD_bool_str, eqD_bool_list, eqD_bool_tup, eqD_int_none, eqD_int_bool, eqD_int_int, eqD_int_str, eqD_int_list, eqD_int_tup, eqD_str_none, eqD_str_bool, eqD_str_int, eqD_str_str, eqD_str_list, eqD_str_tup, eqD_list_none, eqD_list_bool, eqD_list_int, eqD_list_str, eqD_list_list, eqD_list_tup, eqD_tup_none, eqD_tup_bool, eqD_tup_int, eqD_tup_str, eqD_tup_list, eqD_tup_tup, eqDs_nn, eqDs_cc, eqDs_nc, eqDs_cn, List.map_cons, List.map_nil, List.map, List.cons_append, List.nil_append, List.replicate, List.length_cons, List.length_nil, Nat.reduceAdd, Nat.reduceSub, List.all_cons, List.all_nil, Bool.and_true, Bool.true_and, true_and, and_true, atI_map, ex_map, ex_some, List.length_map, beq_int, decide_eq_true_eq, if_true, if_false, Bool.false_eq_true, if_pos, reduceIte, at0, at1, at2, at3, dP, mCallX, mCallB, peekA, evA, evAs, eq_self, sRaise0, sRaise1, sTry, caught, unslot, unheld, mXArg, mXIs, runX, List.contains_cons, List.contains_nil, Slot.isExn, String.reduceBEq, ex_arg, ex_valB, Bool.or_false, Bool.false_or, Bool.or_true, Bool.true_or, Bool.not_false, Bool.not_true, mComp2, dGcd, dComb, dSortS, ar__law_draw]
    exact ⟨by omega, by omega, hw1, fun r w' r0 r1 hw' => hK _ ⟨_, _, by omega, hw', rfl⟩⟩
  rintro _ ⟨a, w2, ha, hw2, rfl⟩
  refine seq_cut (fun s' => ∃ (b : Int) (w' : W), (1 ≤ b ∧ b ≤ 12) ∧ Wok w' ∧ s' = ldt (.val (.int t)) (.val (.int a)) (.val (.int b)) .gone .gone w') ?_ ?_
  · intro K hK
    simp only [run, runF, DL.get, DL.put, puts, back, mC, mVar, mFzV, mFeed, frz, msN, msC, mBin, mUn, dAdd, dSub, dMul, dDiv, dMod, dPow, dNeg, dCmp, dLt, dLe, dGt, dGe, dEq, dNe, dIn, dIsN, dIsNotN, isN, dIs, dIsNot, dTab, flatD, okT, truth, tV, tB, tAnd, tOr, tNot, mAnd, mOr, mNot, mIf, mChain, mList, mTup, dIx, mSl, oN, oS, mRev, mRevTo, mCall, mCallF, dLen, dAbs, dInt, dMin2, dMax2, dList, dTup, dSum, dMin, dMax, dMinG, dMaxG, dAll, isTy, mIsI, gV, gSkip, gsN, gsC, gT, srcV, srcR1, srcR2, srcEnum, srcRev, mComp, tYes, isS, isL, mMS, mML, dIndexS, dIndexL, dIndexFrom, mMS2, dCount, dSplit, dJoin, sNil, sSeq, sSet, sAsg, sPar, sRet, retK, sRetN, sIf, sPass, sBrk, sCont, sNever, sExpr, sAug, ownAt, feedAt, intD, sApp, sExt, sSetI, sAugI, sFeed, sFeedA, popD, sPop, sAddPop, sFor, DL.W.set, DL.W.at, DL.R.d, okD, eqD_none_none, eqD_none_bool, eqD_none_int, eqD_none_str, eqD_none_list, eqD_none_tup, eqD_bool_none, eqD_bool_bool, eqD_bool_int, eqD_bool_str, eqD_bool_list, eqD_bool_tup, eqD_int_none, eqD_int_bool, eqD_int_int, eqD_int_str, eqD_int_list, eqD_int_tup, eqD_str_none, eqD_str_bool, eqD_str_int, eqD_str_str, eqD_str_list, eqD_str_tup, eqD_list_none, eqD_list_bool, eqD_list_int, eqD_list_str, eqD_list_list, eqD_list_tup, eqD_tup_none, eqD_tup_bool, eqD_tup_int, eqD_tup_str, eqD_tup_list, eqD_tup_tup, eqDs_nn, eqDs_cc, eqDs_nc, eqDs_cn, List.map_cons, List.map_nil, List.map, List.cons_append, List.nil_append, List.replicate, List.length_cons, List.length_nil, Nat.reduceAdd, Nat.reduceSub, List.all_cons, List.all_nil, Bool.and_true, Bool.true_and, true_and, and_true, atI_map, ex_map, ex_some, List.length_map, beq_int, decide_eq_true_eq, if_true, if_false, Bool.false_eq_true, if_pos, reduceIte, at0, at1, at2, at3, dP, mCallX, mCallB, peekA, evA, evAs, eq_self, sRaise0, sRaise1, sTry, caught, unslot, unheld, mXArg, mXIs, runX, List.contains_cons, List.contains_nil, Slot.isExn, String.reduceBEq, ex_arg, ex_valB, Bool.or_false, Bool.false_or, Bool.or_true, Bool.true_or, Bool.not_false, Bool.not_true, mComp2, dGcd, dComb, dSortS, ar__law_draw]
    exact ⟨by omega, by omega, hw2, fun r w' r0 r1 hw' => hK _ ⟨_, _, by omega, hw', rfl⟩⟩
  rintro _ ⟨b, w3, hb, hw3, rfl⟩
  refine seq_cut (fun s' => s' = ldt (.val (.int t)) (.val (.int a)) (.val (.int b)) (.val (.str [])) .gone w3) ?_ ?_
  · intro K hK
    simp only [run, runF, DL.get, DL.put, puts, back, mC, mVar, mFzV, mFeed, frz, msN, msC, mBin, mUn, dAdd, dSub, dMul, dDiv, dMod, dPow, dNeg, dCmp, dLt, dLe, dGt, dGe, dEq, dNe, dIn, dIsN, dIsNotN, isN, dIs, dIsNot, dTab, flatD, okT, truth, tV, tB, tAnd, tOr, tNot, mAnd, mOr, mNot, mIf, mChain, mList, mTup, dIx, mSl, oN, oS, mRev, mRevTo, mCall, mCallF, dLen, dAbs, dInt, dMin2, dMax2, dList, dTup, dSum, dMin, dMax, dMinG, dMaxG, dAll, isTy, mIsI, gV, gSkip, gsN, gsC, gT, srcV, srcR1, srcR2, srcEnum, srcRev, mComp, tYes, isS, isL, mMS, mML, dIndexS, dIndexL, dIndexFrom, mMS2, dCount, dSplit, dJoin, sNil, sSeq, sSet, sAsg, sPar, sRet, retK, sRetN, sIf, sPass, sBrk, sCont, sNever, sExpr, sAug, ownAt, feedAt, intD, sApp, sExt, sSetI, sAugI, sFeed, sFeedA, popD, sPop, sAddPop, sFor, DL.W.set, DL.W.at, DL.R.d, okD, eqD_none_none, eqD_none_bool, eqD_none_int, eqD_none_str, eqD_none_list, eqD_none_tup, eqD_bool_none, eqD_bool_bool, eqD_bool_int, eqD_bool_str, eqD_bool_list, eqD_bool_tup, eqD_int_none, eqD_int_bool, eqD_int_int, eqD_int_str, eqD_int_list, eqD_int_tup, eqD_str_none, eqD_str_bool, eqD_str_int, eqD_str_str, eqD_str_list, eqD_str_tup, eqD_list_none, eqD_list_bool, eqD_list_int, eqD_list_str, eqD_list_list, eqD_list_tup, eqD_tup_none, eqD_tup_bool, eqD_tup_int, eqD_tup_str, eqD_tup_list, eqD_tup_tup, eqDs_nn, eqDs_cc, eqDs_nc, eqDs_cn, List.map_cons, List.map_nil, List.map, List.cons_append, List.nil_append, List.replicate, List.length_cons, List.length_nil, Nat.reduceAdd, Nat.reduceSub, List.all_cons, List.all_nil, Bool.and_true, Bool.true_and, true_and, and_true, atI_map, ex_map, ex_some, List.length_map, beq_int, decide_eq_true_eq, if_true, if_false, Bool.false_eq_true, if_pos, reduceIte, at0, at1, at2, at3, dP, mCallX, mCallB, peekA, evA, evAs, eq_self, sRaise0, sRaise1, sTry, caught, unslot, unheld, mXArg, mXIs, runX, List.contains_cons, List.contains_nil, Slot.isExn, String.reduceBEq, ex_arg, ex_valB, Bool.or_false, Bool.false_or, Bool.or_true, Bool.true_or, Bool.not_false, Bool.not_true, mComp2, dGcd, dComb, dSortS, ar__law_draw]
    exact hK _ rfl
  rintro _ rfl
  refine seq_cut (fun s' => ∃ (l : List Nat) (c d e : Slot) (w' : W), (∀ x ∈ l, x = 111 ∨ x = 105) ∧ (l.count 111 : Int) = a ∧ (l.count 105 : Int) = b ∧ Wok w' ∧ s' = ldt (.val (.int t)) c d (.val (.str l)) e w') ?_ ?_
  · intro K hK
    refine for_cut (fun ds s' => ∃ N : Nat, (N : Int) = a + b ∧ ds = ran 0 N ∧ s' = ldt (.val (.int t)) (.val (.int a)) (.val (.int b)) (.val (.str [])) .gone w3) ?_ ?_
    · intro K hK
      simp only [run, runF, DL.get, DL.put, puts, back, mC, mVar, mFzV, mFeed, frz, msN, msC, mBin, mUn, dAdd, dSub, dMul, dDiv, dMod, dPow, dNeg, dCmp, dLt, dLe, dGt, dGe, dEq, dNe, dIn, dIsN, dIsNotN, isN, dIs, dIsNot, dTab, flatD, okT, truth, tV, tB, tAnd, tOr, tNot, mAnd, mOr, mNot, mIf, mChain, mList, mTup, dIx, mSl, oN, oS, mRev, mRevTo, mCall, mCallF, dLen, dAbs, dInt, dMin2, dMax2, dList, dTup, dSum, dMin, dMax, dMinG, dMaxG, dAll, isTy, mIsI, gV, gSkip, gsN, gsC, gT, srcV, srcR1, srcR2, srcEnum, srcRev, mComp, tYes, isS, isL, mMS, mML, dIndexS, dIndexL, dIndexFrom, mMS2, dCount, dSplit, dJoin, sNil, sSeq, sSet, sAsg, sPar, sRet, retK, sRetN, sIf, sPass, sBrk, sCont, sNever, sExpr, sAug, ownAt, feedAt, intD, sApp, sExt, sSetI, sAugI, sFeed, sFeedA, popD, sPop, sAddPop, sFor, DL.W.set, DL.W.at, DL.R.d, okD, eqD_none_none, eqD_none_bool, eqD_none_int, eqD_none_str, eqD_none_list, eqD_none_tup, eqD_bool_none, eqD_bool_bool, eqD_bool_int, eqD_bool_str, eqD_bool_list, eqD_bool_tup, eqD_int_none, eqD_int_bool, eqD_int_int, eqD_int_str, eqD_int_list, eqD_int_tup, eqD_str_none, eqD_str_bool, eqD_str_int, eqD_str_str, eqD_str_list, eqD_str_tup, eqD_list_none, eqD_list_bool, eqD_list_int, eqD_list_str, eqD_list_list, eqD_list_tup, eqD_tup_none, eqD_tup_bool, eqD_tup_int, eqD_tup_str, eqD_tup_list, eqD_tup_tup, eqDs_nn, eqDs_cc, eqDs_nc, eqDs_cn, List.map_cons, List.map_nil, List.map, List.cons_append, List.nil_append, List.replicate, List.length_cons, List.length_nil, Nat.reduceAdd, Nat.reduceSub, List.all_cons, List.all_nil, Bool.and_true, Bool.true_and, true_and, and_true, atI_map, ex_map, ex_some, List.length_map, beq_int, decide_eq_true_eq, if_true, if_false, Bool.false_eq_true, if_pos, reduceIte, at0, at1, at2, at3, dP, mCallX, mCallB, peekA, evA, evAs, eq_self, sRaise0, sRaise1, sTry, caught, unslot, unheld, mXArg, mXIs, runX, List.contains_cons, List.contains_nil, Slot.isExn, String.reduceBEq, ex_arg, ex_valB, Bool.or_false, Bool.false_or, Bool.or_true, Bool.true_or, Bool.not_false, Bool.not_true, mComp2, dGcd, dComb, dSortS, ar__law_draw]
      exact ⟨⟨by omega, by omega⟩, hK _ _ ⟨(a + b).toNat, by omega, rfl, rfl⟩⟩
    rintro ds _ ⟨N, hN, rfl, rfl⟩
    refine forL_ran (fun n st => ∃ (l : List Nat) (e : Slot) (w' : W), (∀ x ∈ l, x = 111 ∨ x = 105) ∧ l.length = n ∧ (l.count 111 : Int) ≤ a ∧ (l.count 105 : Int) ≤ b ∧ Wok w' ∧ st = ldt (.val (.int t)) (.val (.int (a - l.count 111))) (.val (.int (b - l.count 105))) (.val (.str l)) e w') _ ⟨[], .gone, w3, (fun x hx => by cases hx), rfl, by simp; omega, by simp; omega, hw3, by simp⟩ ?_ ?_
    · rintro n _ hn ⟨l, e, w', hl, hln, h1, h2, hw', rfl⟩ K hK
      have l2 := len2 l hl
      simp only [run, runF, DL.get, DL.put, puts, back, mC, mVar, mFzV, mFeed, frz, msN, msC, mBin, mUn, dAdd, dSub, dMul, dDiv, dMod, dPow, dNeg, dCmp, dLt, dLe, dGt, dGe, dEq, dNe, dIn, dIsN, dIsNotN, isN, dIs, dIsNot, dTab, flatD, okT, truth, tV, tB, tAnd, tOr, tNot, mAnd, mOr, mNot, mIf, mChain, mList, mTup, dIx, mSl, oN, oS, mRev, mRevTo, mCall, mCallF, dLen, dAbs, dInt, dMin2, dMax2, dList, dTup, dSum, dMin, dMax, dMinG, dMaxG, dAll, isTy, mIsI, gV, gSkip, gsN, gsC, gT, srcV, srcR1, srcR2, srcEnum, srcRev, mComp, tYes, isS, isL, mMS, mML, dIndexS, dIndexL, dIndexFrom, mMS2, dCount, dSplit, dJoin, sNil, sSeq, sSet, sAsg, sPar, sRet, retK, sRetN, sIf, sPass, sBrk, sCont, sNever, sExpr, sAug, ownAt, feedAt, intD, sApp, sExt, sSetI, sAugI, sFeed, sFeedA, popD, sPop, sAddPop, sFor, DL.W.set, DL.W.at, DL.R.d, okD, eqD_none_none, eqD_none_bool, eqD_none_int, eqD_none_str, eqD_none_list, eqD_none_tup, eqD_bool_none, eqD_bool_bool, eqD_bool_int, eqD_bool_str, eqD_bool_list, eqD_bool_tup, eqD_int_none, eqD_int_bool, eqD_int_int, eqD_int_str, eqD_int_list, eqD_int_tup, eqD_str_none, eqD_str_bool, eqD_str_int, eqD_str_str, eqD_str_list, eqD_str_tup, eqD_list_none, eqD_list_bool, eqD_list_int, eqD_list_str, eqD_list_list, eqD_list_tup, eqD_tup_none, eqD_tup_bool, eqD_tup_int, eqD_tup_str, eqD_tup_list, eqD_tup_tup, eqDs_nn, eqDs_cc, eqDs_nc, eqDs_cn, List.map_cons, List.map_nil, List.map, List.cons_append, List.nil_append, List.replicate, List.length_cons, List.length_nil, Nat.reduceAdd, Nat.reduceSub, List.all_cons, List.all_nil, Bool.and_true, Bool.true_and, true_and, and_true, atI_map, ex_map, ex_some, List.length_map, beq_int, decide_eq_true_eq, if_true, if_false, Bool.false_eq_true, if_pos, reduceIte, at0, at1, at2, at3, dP, mCallX, mCallB, peekA, evA, evAs, eq_self, sRaise0, sRaise1, sTry, caught, unslot, unheld, mXArg, mXIs, runX, List.contains_cons, List.contains_nil, Slot.isExn, String.reduceBEq, ex_arg, ex_valB, Bool.or_false, Bool.false_or, Bool.or_true, Bool.true_or, Bool.not_false, Bool.not_true, mComp2, dGcd, dComb, dSortS, ar__law_draw]
      refine ⟨by omega, by omega, hw', fun r w2 r0 r1 hw2 => ?_⟩
      split
      · rename_i hr
        refine ⟨by omega, hK _ ⟨l ++ [111], .val (.int (0 + (n : Int))), _, fun x hx => ?_, by simp; omega, by simp; omega, by simp; omega, hw2, ?_⟩⟩
        · rcases List.mem_append.mp hx with z | z
          · exact hl x z
          · exact .inl (List.mem_singleton.mp z)
        · rw [List.count_append, List.count_append, show List.count 111 [111] = 1 from rfl, show List.count 105 [111] = 0 from rfl, show a - ((l.count 111 + 1 : Nat) : Int) = a - (l.count 111 : Int) - 1 by omega]
          rfl
      · rename_i hr
        refine ⟨by omega, hK _ ⟨l ++ [105], .val (.int (0 + (n : Int))), _, fun x hx => ?_, by simp; omega, by simp; omega, by simp; omega, hw2, ?_⟩⟩
        · rcases List.mem_append.mp hx with z | z
          · exact hl x z
          · exact .inr (List.mem_singleton.mp z)
        · rw [List.count_append, List.count_append, show List.count 111 [105] = 0 from rfl, show List.count 105 [105] = 1 from rfl, show b - ((l.count 105 + 1 : Nat) : Int) = b - (l.count 105 : Int) - 1 by omega]
          rfl
    · rintro _ ⟨l, e, w', hl, hln, h1, h2, hw', rfl⟩
      have l2 := len2 l hl
      exact hK _ ⟨l, _, _, _, _, hl, by omega, by omega, hw', rfl⟩
  rintro _ ⟨l, c, d, e, w', hl, h1, h2, hw', rfl⟩
  simp only [run, runF, DL.get, DL.put, puts, back, mC, mVar, mFzV, mFeed, frz, msN, msC, mBin, mUn, dAdd, dSub, dMul, dDiv, dMod, dPow, dNeg, dCmp, dLt, dLe, dGt, dGe, dEq, dNe, dIn, dIsN, dIsNotN, isN, dIs, dIsNot, dTab, flatD, okT, truth, tV, tB, tAnd, tOr, tNot, mAnd, mOr, mNot, mIf, mChain, mList, mTup, dIx, mSl, oN, oS, mRev, mRevTo, mCall, mCallF, dLen, dAbs, dInt, dMin2, dMax2, dList, dTup, dSum, dMin, dMax, dMinG, dMaxG, dAll, isTy, mIsI, gV, gSkip, gsN, gsC, gT, srcV, srcR1, srcR2, srcEnum, srcRev, mComp, tYes, isS, isL, mMS, mML, dIndexS, dIndexL, dIndexFrom, mMS2, dCount, dSplit, dJoin, sNil, sSeq, sSet, sAsg, sPar, sRet, retK, sRetN, sIf, sPass, sBrk, sCont, sNever, sExpr, sAug, ownAt, feedAt, intD, sApp, sExt, sSetI, sAugI, sFeed, sFeedA, popD, sPop, sAddPop, sFor, DL.W.set, DL.W.at, DL.R.d, okD, eqD_none_none, eqD_none_bool, eqD_none_int, eqD_none_str, eqD_none_list, eqD_none_tup, eqD_bool_none, eqD_bool_bool, eqD_bool_int, eqD_bool_str, eqD_bool_list, eqD_bool_tup, eqD_int_none, eqD_int_bool, eqD_int_int, eqD_int_str, eqD_int_list, eqD_int_tup, eqD_str_none, eqD_str_bool, eqD_str_int, eqD_str_str, eqD_str_list, eqD_str_tup, eqD_list_none, eqD_list_bool, eqD_list_int, eqD_list_str, eqD_list_list, eqD_list_tup, eqD_tup_none, eqD_tup_bool, eqD_tup_int, eqD_tup_str, eqD_tup_list, eqD_tup_tup, eqDs_nn, eqDs_cc, eqDs_nc, eqDs_cn, List.map_cons, List.map_nil, List.map, List.cons_append, List.nil_append, List.replicate, List.length_cons, List.length_nil, Nat.reduceAdd, Nat.reduceSub, List.all_cons, List.all_nil, Bool.and_true, Bool.true_and, true_and, and_true, atI_map, ex_map, ex_some, List.length_map, beq_int, decide_eq_true_eq, if_true, if_false, Bool.false_eq_true, if_pos, reduceIte, at0, at1, at2, at3, dP, mCallX, mCallB, peekA, evA, evAs, eq_self, sRaise0, sRaise1, sTry, caught, unslot, unheld, mXArg, mXIs, runX, List.contains_cons, List.contains_nil, Slot.isExn, String.reduceBEq, ex_arg, ex_valB, Bool.or_false, Bool.false_or, Bool.or_true, Bool.true_or, Bool.not_false, Bool.not_true, mComp2, dGcd, dComb, dSortS, ar__law_draw]
  exact q l w' ⟨hl, List.count_pos_iff.mp (by omega), List.count_pos_iff.mp (by omega)⟩ (by omega) (by omega) hw'
theorem has_any (l : List Nat) (c : Nat) : (l.any fun d => d == c) = decide (c ∈ l) := by
  rw [Bool.eq_iff_iff, List.any_eq_true, decide_eq_true_eq]
  constructor
  · rintro ⟨x, hx, e⟩
    rw [← beq_iff_eq.mp e]; exact hx
  · intro h
    exact ⟨c, h, beq_self_eq_true c⟩
abbrev smt (a b c d : Slot) (w : W) : S := ⟨[.feed, a, b, c, d], w⟩
def spec__law_some : Sem := fun ds w Q => ∃ (kind : Int), ds = [.int kind] ∧ Wok w ∧ ∀ l w', Word l → l.length ≤ 14 → Wok w' → Q (.val (.str l)) w'
theorem ar__law_some (kind : Int) (w : W) (Q : R → W → Prop) : ar 1 spec__law_some [.int kind] w Q = (Wok w ∧ ∀ l w', Word l → l.length ≤ 14 → Wok w' → Q (.val (.str l)) w') := by
  apply propext
  constructor
  · rintro ⟨_, kind', e, h⟩
    simp only [List.cons.injEq, D.str.injEq, D.int.injEq, D.bool.injEq, D.tup.injEq, D.list.injEq, mapInt_inj, Int.natCast_inj, and_true, and_assoc] at e
    first | (obtain rfl := e; exact h) | (obtain ⟨rfl, _⟩ := e; exact h)
  · intro h
    exact ⟨rfl, kind, rfl, h⟩
theorem vc__law_some : ∀ ds w Q, spec__law_some ds w Q → runF 5 (b__law_some (ar 0 spec__law_land) (ar 1 spec__law_exchanged) (ar 1 spec__law_draw)) ds w Q := by
  rintro ds w Q ⟨kind, rfl, h⟩
  unfold b__law_some
  obtain ⟨hw, q⟩ := h
  have hz : (2000 : Nat) ≤ LINE := by decide
  show sSeq _ _ (smt (.val (.int kind)) .gone .gone .gone w) _
  refine seq_cut (fun s' => ∃ (p : List Nat) (w' : W), (∀ x ∈ p, x = 111 ∨ x = 105) ∧ p.length ≤ 6 ∧ Wok w' ∧ s' = smt (.val (.int kind)) (.val (.str p)) .gone .gone w') ?_ ?_
  · intro K hK
    simp only [run, runF, DL.get, DL.put, puts, back, mC, mVar, mFzV, mFeed, frz, msN, msC, mBin, mUn, dAdd, dSub, dMul, dDiv, dMod, dPow, dNeg, dCmp, dLt, dLe, dGt, dGe, dEq, dNe, dIn, dIsN, dIsNotN, isN, dIs, dIsNot, dTab, flatD, okT, truth, tV, tB, tAnd, tOr, tNot, mAnd, mOr, mNot, mIf, mChain, mList, mTup, dIx, mSl, oN, oS, mRev, mRevTo, mCall, mCallF, dLen, dAbs, dInt, dMin2, dMax2, dList, dTup, dSum, dMin, dMax, dMinG, dMaxG, dAll, isTy, mIsI, gV, gSkip, gsN, gsC, gT, srcV, srcR1, srcR2, srcEnum, srcRev, mComp, tYes, isS, isL, mMS, mML, dIndexS, dIndexL, dIndexFrom, mMS2, dCount, dSplit, dJoin, sNil, sSeq, sSet, sAsg, sPar, sRet, retK, sRetN, sIf, sPass, sBrk, sCont, sNever, sExpr, sAug, ownAt, feedAt, intD, sApp, sExt, sSetI, sAugI, sFeed, sFeedA, popD, sPop, sAddPop, sFor, DL.W.set, DL.W.at, DL.R.d, okD, eqD_none_none, eqD_none_bool, eqD_none_int, eqD_none_str, eqD_none_list, eqD_none_tup, eqD_bool_none, eqD_bool_bool, eqD_bool_int, eqD_bool_str, eqD_bool_list, eqD_bool_tup, eqD_int_none, eqD_int_bool, eqD_int_int, eqD_int_str, eqD_int_list, eqD_int_tup, eqD_str_none, eqD_str_bool, eqD_str_int, eqD_str_str, eqD_str_list, eqD_str_tup, eqD_list_none, eqD_list_bool, eqD_list_int, eqD_list_str, eqD_list_list, eqD_list_tup, eqD_tup_none, eqD_tup_bool, eqD_tup_int, eqD_tup_str, eqD_tup_list, eqD_tup_tup, eqDs_nn, eqDs_cc, eqDs_nc, eqDs_cn, List.map_cons, List.map_nil, List.map, List.cons_append, List.nil_append, List.replicate, List.length_cons, List.length_nil, Nat.reduceAdd, Nat.reduceSub, List.all_cons, List.all_nil, Bool.and_true, Bool.true_and, true_and, and_true, atI_map, ex_map, ex_some, List.length_map, beq_int, decide_eq_true_eq, if_true, if_false, Bool.false_eq_true, if_pos, reduceIte, at0, at1, at2, at3, dP, mCallX, mCallB, peekA, evA, evAs, eq_self, sRaise0, sRaise1, sTry, caught, unslot, unheld, mXArg, mXIs, runX, List.contains_cons, List.contains_nil, Slot.isExn, String.reduceBEq, ex_arg, ex_valB, Bool.or_false, Bool.false_or, Bool.or_true, Bool.true_or, Bool.not_false, Bool.not_true, mComp2, dGcd, dComb, dSortS, ar__law_land, ar__law_exchanged, ar__law_draw]
    refine ⟨hw, fun l w' hwl c1 c2 hw' => ?_⟩
    have l2 := len2 l hwl.all
    rw [show (6 : Int) = ((6 : Nat) : Int) from rfl, cut_to]
    exact ⟨by omega, hK _ ⟨l.take 6, _, fun x hx => hwl.all x (List.mem_of_mem_take hx), by rw [List.length_take]; omega, hw', rfl⟩⟩
  rintro _ ⟨p, w1, hp, hpl, hw1, rfl⟩
  refine seq_cut (fun s' => ∃ (v : List Nat), (∀ x ∈ v, x = 111 ∨ x = 105) ∧ v.length ≤ 12 ∧ s' = smt (.val (.int kind)) (.val (.str p)) (.val (.str v)) .gone w1) ?_ ?_
  · intro K hK
    simp only [run, runF, DL.get, DL.put, puts, back, mC, mVar, mFzV, mFeed, frz, msN, msC, mBin, mUn, dAdd, dSub, dMul, dDiv, dMod, dPow, dNeg, dCmp, dLt, dLe, dGt, dGe, dEq, dNe, dIn, dIsN, dIsNotN, isN, dIs, dIsNot, dTab, flatD, okT, truth, tV, tB, tAnd, tOr, tNot, mAnd, mOr, mNot, mIf, mChain, mList, mTup, dIx, mSl, oN, oS, mRev, mRevTo, mCall, mCallF, dLen, dAbs, dInt, dMin2, dMax2, dList, dTup, dSum, dMin, dMax, dMinG, dMaxG, dAll, isTy, mIsI, gV, gSkip, gsN, gsC, gT, srcV, srcR1, srcR2, srcEnum, srcRev, mComp, tYes, isS, isL, mMS, mML, dIndexS, dIndexL, dIndexFrom, mMS2, dCount, dSplit, dJoin, sNil, sSeq, sSet, sAsg, sPar, sRet, retK, sRetN, sIf, sPass, sBrk, sCont, sNever, sExpr, sAug, ownAt, feedAt, intD, sApp, sExt, sSetI, sAugI, sFeed, sFeedA, popD, sPop, sAddPop, sFor, DL.W.set, DL.W.at, DL.R.d, okD, eqD_none_none, eqD_none_bool, eqD_none_int, eqD_none_str, eqD_none_list, eqD_none_tup, eqD_bool_none, eqD_bool_bool, eqD_bool_int, eqD_bool_str, eqD_bool_list, eqD_bool_tup, eqD_int_none, eqD_int_bool, eqD_int_int, eqD_int_str, eqD_int_list, eqD_int_tup, eqD_str_none, eqD_str_bool, eqD_str_int, eqD_str_str, eqD_str_list, eqD_str_tup, eqD_list_none, eqD_list_bool, eqD_list_int, eqD_list_str, eqD_list_list, eqD_list_tup, eqD_tup_none, eqD_tup_bool, eqD_tup_int, eqD_tup_str, eqD_tup_list, eqD_tup_tup, eqDs_nn, eqDs_cc, eqDs_nc, eqDs_cn, List.map_cons, List.map_nil, List.map, List.cons_append, List.nil_append, List.replicate, List.length_cons, List.length_nil, Nat.reduceAdd, Nat.reduceSub, List.all_cons, List.all_nil, Bool.and_true, Bool.true_and, true_and, and_true, atI_map, ex_map, ex_some, List.length_map, beq_int, decide_eq_true_eq, if_true, if_false, Bool.false_eq_true, if_pos, reduceIte, at0, at1, at2, at3, dP, mCallX, mCallB, peekA, evA, evAs, eq_self, sRaise0, sRaise1, sTry, caught, unslot, unheld, mXArg, mXIs, runX, List.contains_cons, List.contains_nil, Slot.isExn, String.reduceBEq, ex_arg, ex_valB, Bool.or_false, Bool.false_or, Bool.or_true, Bool.true_or, Bool.not_false, Bool.not_true, mComp2, dGcd, dComb, dSortS, ar__law_land, ar__law_exchanged, ar__law_draw]
    have ap : ∀ {a b : List Nat}, (∀ x ∈ a, x = 111 ∨ x = 105) → (∀ x ∈ b, x = 111 ∨ x = 105) → ∀ x ∈ a ++ b, x = 111 ∨ x = 105 := fun ha hb x hx => by
      rcases List.mem_append.mp hx with z | z
      · exact ha x z
      · exact hb x z
    have rv : ∀ {a : List Nat}, (∀ x ∈ a, x = 111 ∨ x = 105) → ∀ x ∈ a.reverse, x = 111 ∨ x = 105 := fun ha x hx => ha x (List.mem_reverse.mp hx)
    have el := exg_len p
    split
    · exact ⟨by omega, by rw [List.length_reverse]; omega, hK _ ⟨_, ap hp (rv hp), by rw [List.length_append, List.length_reverse]; omega, rfl⟩⟩
    · split
      · exact ⟨hp, by omega, by omega, hK _ ⟨_, ap hp (exg_all hp), by rw [List.length_append]; omega, rfl⟩⟩
      · exact ⟨hp, by omega, by omega, by rw [List.length_reverse]; omega, hK _ ⟨_, ap hp (rv (exg_all hp)), by rw [List.length_append, List.length_reverse]; omega, rfl⟩⟩
  rintro _ ⟨v, hv, hvl, rfl⟩
  refine seq_cut (fun s' => ∃ (v : List Nat), (∀ x ∈ v, x = 111 ∨ x = 105) ∧ 111 ∈ v ∧ v.length ≤ 13 ∧ s' = smt (.val (.int kind)) (.val (.str p)) (.val (.str v)) .gone w1) ?_ ?_
  · intro K hK
    simp only [run, runF, DL.get, DL.put, puts, back, mC, mVar, mFzV, mFeed, frz, msN, msC, mBin, mUn, dAdd, dSub, dMul, dDiv, dMod, dPow, dNeg, dCmp, dLt, dLe, dGt, dGe, dEq, dNe, dIn, dIsN, dIsNotN, isN, dIs, dIsNot, dTab, flatD, okT, truth, tV, tB, tAnd, tOr, tNot, mAnd, mOr, mNot, mIf, mChain, mList, mTup, dIx, mSl, oN, oS, mRev, mRevTo, mCall, mCallF, dLen, dAbs, dInt, dMin2, dMax2, dList, dTup, dSum, dMin, dMax, dMinG, dMaxG, dAll, isTy, mIsI, gV, gSkip, gsN, gsC, gT, srcV, srcR1, srcR2, srcEnum, srcRev, mComp, tYes, isS, isL, mMS, mML, dIndexS, dIndexL, dIndexFrom, mMS2, dCount, dSplit, dJoin, sNil, sSeq, sSet, sAsg, sPar, sRet, retK, sRetN, sIf, sPass, sBrk, sCont, sNever, sExpr, sAug, ownAt, feedAt, intD, sApp, sExt, sSetI, sAugI, sFeed, sFeedA, popD, sPop, sAddPop, sFor, DL.W.set, DL.W.at, DL.R.d, okD, eqD_none_none, eqD_none_bool, eqD_none_int, eqD_none_str, eqD_none_list, eqD_none_tup, eqD_bool_none, eqD_bool_bool, eqD_bool_int, eqD_bool_str, eqD_bool_list, eqD_bool_tup, eqD_int_none, eqD_int_bool, eqD_int_int, eqD_int_str, eqD_int_list, eqD_int_tup, eqD_str_none, eqD_str_bool, eqD_str_int, eqD_str_str, eqD_str_list, eqD_str_tup, eqD_list_none, eqD_list_bool, eqD_list_int, eqD_list_str, eqD_list_list, eqD_list_tup, eqD_tup_none, eqD_tup_bool, eqD_tup_int, eqD_tup_str, eqD_tup_list, eqD_tup_tup, eqDs_nn, eqDs_cc, eqDs_nc, eqDs_cn, List.map_cons, List.map_nil, List.map, List.cons_append, List.nil_append, List.replicate, List.length_cons, List.length_nil, Nat.reduceAdd, Nat.reduceSub, List.all_cons, List.all_nil, Bool.and_true, Bool.true_and, true_and, and_true, atI_map, ex_map, ex_some, List.length_map, beq_int, decide_eq_true_eq, if_true, if_false, Bool.false_eq_true, if_pos, reduceIte, at0, at1, at2, at3, dP, mCallX, mCallB, peekA, evA, evAs, eq_self, sRaise0, sRaise1, sTry, caught, unslot, unheld, mXArg, mXIs, runX, List.contains_cons, List.contains_nil, Slot.isExn, String.reduceBEq, ex_arg, ex_valB, Bool.or_false, Bool.false_or, Bool.or_true, Bool.true_or, Bool.not_false, Bool.not_true, mComp2, dGcd, dComb, dSortS, ar__law_land, ar__law_exchanged, ar__law_draw]
    rw [has_any]
    by_cases c : 111 ∈ v
    · rw [if_neg (by rw [decide_eq_true c]; decide)]
      exact hK _ ⟨v, hv, c, by omega, rfl⟩
    · rw [if_pos (by rw [decide_eq_false c]; decide)]
      refine ⟨by omega, hK _ ⟨v ++ [111], fun x hx => ?_, List.mem_append_right _ List.mem_cons_self, by rw [List.length_append]; simp only [List.length_cons, List.length_nil]; omega, rfl⟩⟩
      rcases List.mem_append.mp hx with z | z
      · exact hv x z
      · exact .inl (List.mem_singleton.mp z)
  rintro _ ⟨v, hv, ho, hvl, rfl⟩
  refine seq_cut (fun s' => ∃ (v : List Nat), Word v ∧ v.length ≤ 14 ∧ s' = smt (.val (.int kind)) (.val (.str p)) (.val (.str v)) .gone w1) ?_ ?_
  · intro K hK
    simp only [run, runF, DL.get, DL.put, puts, back, mC, mVar, mFzV, mFeed, frz, msN, msC, mBin, mUn, dAdd, dSub, dMul, dDiv, dMod, dPow, dNeg, dCmp, dLt, dLe, dGt, dGe, dEq, dNe, dIn, dIsN, dIsNotN, isN, dIs, dIsNot, dTab, flatD, okT, truth, tV, tB, tAnd, tOr, tNot, mAnd, mOr, mNot, mIf, mChain, mList, mTup, dIx, mSl, oN, oS, mRev, mRevTo, mCall, mCallF, dLen, dAbs, dInt, dMin2, dMax2, dList, dTup, dSum, dMin, dMax, dMinG, dMaxG, dAll, isTy, mIsI, gV, gSkip, gsN, gsC, gT, srcV, srcR1, srcR2, srcEnum, srcRev, mComp, tYes, isS, isL, mMS, mML, dIndexS, dIndexL, dIndexFrom, mMS2, dCount, dSplit, dJoin, sNil, sSeq, sSet, sAsg, sPar, sRet, retK, sRetN, sIf, sPass, sBrk, sCont, sNever, sExpr, sAug, ownAt, feedAt, intD, sApp, sExt, sSetI, sAugI, sFeed, sFeedA, popD, sPop, sAddPop, sFor, DL.W.set, DL.W.at, DL.R.d, okD, eqD_none_none, eqD_none_bool, eqD_none_int, eqD_none_str, eqD_none_list, eqD_none_tup, eqD_bool_none, eqD_bool_bool, eqD_bool_int, eqD_bool_str, eqD_bool_list, eqD_bool_tup, eqD_int_none, eqD_int_bool, eqD_int_int, eqD_int_str, eqD_int_list, eqD_int_tup, eqD_str_none, eqD_str_bool, eqD_str_int, eqD_str_str, eqD_str_list, eqD_str_tup, eqD_list_none, eqD_list_bool, eqD_list_int, eqD_list_str, eqD_list_list, eqD_list_tup, eqD_tup_none, eqD_tup_bool, eqD_tup_int, eqD_tup_str, eqD_tup_list, eqD_tup_tup, eqDs_nn, eqDs_cc, eqDs_nc, eqDs_cn, List.map_cons, List.map_nil, List.map, List.cons_append, List.nil_append, List.replicate, List.length_cons, List.length_nil, Nat.reduceAdd, Nat.reduceSub, List.all_cons, List.all_nil, Bool.and_true, Bool.true_and, true_and, and_true, atI_map, ex_map, ex_some, List.length_map, beq_int, decide_eq_true_eq, if_true, if_false, Bool.false_eq_true, if_pos, reduceIte, at0, at1, at2, at3, dP, mCallX, mCallB, peekA, evA, evAs, eq_self, sRaise0, sRaise1, sTry, caught, unslot, unheld, mXArg, mXIs, runX, List.contains_cons, List.contains_nil, Slot.isExn, String.reduceBEq, ex_arg, ex_valB, Bool.or_false, Bool.false_or, Bool.or_true, Bool.true_or, Bool.not_false, Bool.not_true, mComp2, dGcd, dComb, dSortS, ar__law_land, ar__law_exchanged, ar__law_draw]
    rw [has_any]
    by_cases c : 105 ∈ v
    · rw [if_neg (by rw [decide_eq_true c]; decide)]
      exact hK _ ⟨v, ⟨hv, ho, c⟩, by omega, rfl⟩
    · rw [if_pos (by rw [decide_eq_false c]; decide)]
      refine ⟨by omega, hK _ ⟨v ++ [105], ⟨fun x hx => ?_, List.mem_append_left _ ho, List.mem_append_right _ List.mem_cons_self⟩, by rw [List.length_append]; simp only [List.length_cons, List.length_nil]; omega, rfl⟩⟩
      rcases List.mem_append.mp hx with z | z
      · exact hv x z
      · exact .inr (List.mem_singleton.mp z)
  rintro _ ⟨v, hv, hvl, rfl⟩
  simp only [run, runF, DL.get, DL.put, puts, back, mC, mVar, mFzV, mFeed, frz, msN, msC, mBin, mUn, dAdd, dSub, dMul, dDiv, dMod, dPow, dNeg, dCmp, dLt, dLe, dGt, dGe, dEq, dNe, dIn, dIsN, dIsNotN, isN, dIs, dIsNot, dTab, flatD, okT, truth, tV, tB, tAnd, tOr, tNot, mAnd, mOr, mNot, mIf, mChain, mList, mTup, dIx, mSl, oN, oS, mRev, mRevTo, mCall, mCallF, dLen, dAbs, dInt, dMin2, dMax2, dList, dTup, dSum, dMin, dMax, dMinG, dMaxG, dAll, isTy, mIsI, gV, gSkip, gsN, gsC, gT, srcV, srcR1, srcR2, srcEnum, srcRev, mComp, tYes, isS, isL, mMS, mML, dIndexS, dIndexL, dIndexFrom, mMS2, dCount, dSplit, dJoin, sNil, sSeq, sSet, sAsg, sPar, sRet, retK, sRetN, sIf, sPass, sBrk, sCont, sNever, sExpr, sAug, ownAt, feedAt, intD, sApp, sExt, sSetI, sAugI, sFeed, sFeedA, popD, sPop, sAddPop, sFor, DL.W.set, DL.W.at, DL.R.d, okD, eqD_none_none, eqD_none_bool, eqD_none_int, eqD_none_str, eqD_none_list, eqD_none_tup, eqD_bool_none, eqD_bool_bool, eqD_bool_int, eqD_bool_str, eqD_bool_list, eqD_bool_tup, eqD_int_none, eqD_int_bool, eqD_int_int, eqD_int_str, eqD_int_list, eqD_int_tup, eqD_str_none, eqD_str_bool, eqD_str_int, eqD_str_str, eqD_str_list, eqD_str_tup, eqD_list_none, eqD_list_bool, eqD_list_int, eqD_list_str, eqD_list_list, eqD_list_tup, eqD_tup_none, eqD_tup_bool, eqD_tup_int, eqD_tup_str, eqD_tup_list, eqD_tup_tup, eqDs_nn, eqDs_cc, eqDs_nc, eqDs_cn, List.map_cons, List.map_nil, List.map, List.cons_append, List.nil_append, List.replicate, List.length_cons, List.length_nil, Nat.reduceAdd, Nat.reduceSub, List.all_cons, List.all_nil, Bool.and_true, Bool.true_and, true_and, and_true, atI_map, ex_map, ex_some, List.length_map, beq_int, decide_eq_true_eq, if_true, if_false, Bool.false_eq_true, if_pos, reduceIte, at0, at1, at2, at3, dP, mCallX, mCallB, peekA, evA, evAs, eq_self, sRaise0, sRaise1, sTry, caught, unslot, unheld, mXArg, mXIs, runX, List.contains_cons, List.contains_nil, Slot.isExn, String.reduceBEq, ex_arg, ex_valB, Bool.or_false, Bool.false_or, Bool.or_true, Bool.true_or, Bool.not_false, Bool.not_true, mComp2, dGcd, dComb, dSortS, ar__law_land, ar__law_exchanged, ar__law_draw]
  have h0 : 0 < v.length := List.length_pos_of_mem hv.o
  refine ⟨by omega, by omega, by omega, hw1, fun r w' r0 r1 hw' => ?_⟩
  obtain ⟨r, rfl⟩ := Int.eq_ofNat_of_zero_le r0
  have tl := turn_len v (p := r) (by omega)
  rw [cut_from, cut_to, ← List.length_append, show v.drop r ++ v.take r = turn v r from rfl]
  refine ⟨by omega, by omega, by omega, q _ _ ?_ (by omega) hw'⟩
  exact ⟨fun x hx => hv.all x ((turn_perm v r).mem_iff.mp hx), (turn_perm v r).mem_iff.mpr hv.o, (turn_perm v r).mem_iff.mpr hv.i⟩
abbrev rgt (l : List Nat) (b c d e f : Slot) (w : W) : S := ⟨[.val (.str l), b, c, d, e, f], w⟩
def spec__law_right : Sem := fun ds w Q => ∃ (l : List Nat), ds = [.str l] ∧ Word l ∧ l.length ≤ 1000 ∧ Q (.val (.bool true)) w
theorem ar__law_right (l : List Nat) (w : W) (Q : R → W → Prop) : ar 1 spec__law_right [.str l] w Q = (Word l ∧ l.length ≤ 1000 ∧ Q (.val (.bool true)) w) := by
  apply propext
  constructor
  · rintro ⟨_, l', e, h⟩
    simp only [List.cons.injEq, D.str.injEq, D.int.injEq, D.bool.injEq, D.tup.injEq, D.list.injEq, mapInt_inj, Int.natCast_inj, and_true, and_assoc] at e
    first | (obtain rfl := e; exact h) | (obtain ⟨rfl, _⟩ := e; exact h)
  · intro h
    exact ⟨rfl, l, rfl, h⟩
theorem vc__law_right : ∀ ds w Q, spec__law_right ds w Q → run 6 (b__law_right (ar 1 spec__law_turnings) (ar 1 spec__law_exchanged) (ar 2 (spec__law_same 6)) (ar 1 spec_is_mirrored) (ar 1 spec_has_like_rims) (ar 1 spec_has_turned_rims) (ar 1 spec_exchanged_rims) (ar 2 spec__law_rim)) ds w Q := by
  rintro ds w Q ⟨l, rfl, h⟩
  unfold b__law_right
  obtain ⟨hw, hl, q⟩ := h
  have hz : (200000 : Nat) ≤ LINE := by decide
  have h0 : 0 < l.length := List.length_pos_of_mem hw.o
  have ha := hw.all
  have el := exg_len l
  have ea := exg_all ha
  have ee : exg (exg l) = l := exg_exg ha
  have okl := okS ha
  have oke := okS ea
  have okr : (l.reverse.all fun c => decide (c < 1114112)) = true := okS fun x hx => ha x (List.mem_reverse.mp hx)
  have oker : ((exg l).reverse.all fun c => decide (c < 1114112)) = true := okS fun x hx => ea x (List.mem_reverse.mp hx)
  show sSeq _ _ (rgt l .gone .gone .gone .gone .gone w) _
  refine seq_cut (fun s' => s' = rgt l (.own ((List.range l.length).map fun k => D.str (turn l k))) .gone .gone .gone .gone w) ?_ ?_
  · intro K hK
    simp only [run, runF, DL.get, DL.put, puts, back, mC, mVar, mFzV, mFeed, frz, msN, msC, mBin, mUn, dAdd, dSub, dMul, dDiv, dMod, dPow, dNeg, dCmp, dLt, dLe, dGt, dGe, dEq, dNe, dIn, dIsN, dIsNotN, isN, dIs, dIsNot, dTab, flatD, okT, truth, tV, tB, tAnd, tOr, tNot, mAnd, mOr, mNot, mIf, mChain, mList, mTup, dIx, mSl, oN, oS, mRev, mRevTo, mCall, mCallF, dLen, dAbs, dInt, dMin2, dMax2, dList, dTup, dSum, dMin, dMax, dMinG, dMaxG, dAll, isTy, mIsI, gV, gSkip, gsN, gsC, gT, srcV, srcR1, srcR2, srcEnum, srcRev, mComp, tYes, isS, isL, mMS, mML, dIndexS, dIndexL, dIndexFrom, mMS2, dCount, dSplit, dJoin, sNil, sSeq, sSet, sAsg, sPar, sRet, retK, sRetN, sIf, sPass, sBrk, sCont, sNever, sExpr, sAug, ownAt, feedAt, intD, sApp, sExt, sSetI, sAugI, sFeed, sFeedA, popD, sPop, sAddPop, sFor, DL.W.set, DL.W.at, DL.R.d, okD, eqD_none_none, eqD_none_bool, eqD_none_int, eqD_none_str, eqD_none_list, eqD_none_tup, eqD_bool_none, eqD_bool_bool, eqD_bool_int, eqD_bool_str, eqD_bool_list, eqD_bool_tup, eqD_int_none, eqD_int_bool, eqD_int_int, eqD_int_str, eqD_int_list, eqD_int_tup, eqD_str_none, eqD_str_bool, eqD_str_int, eqD_str_str, eqD_str_list, eqD_str_tup, eqD_list_none, eqD_list_bool, eqD_list_int, eqD_list_str, eqD_list_list, eqD_list_tup, eqD_tup_none, eqD_tup_bool, eqD_tup_int, eqD_tup_str, eqD_tup_list, eqD_tup_tup, eqDs_nn, eqDs_cc, eqDs_nc, eqDs_cn, List.map_cons, List.map_nil, List.map, List.cons_append, List.nil_append, List.replicate, List.length_cons, List.length_nil, Nat.reduceAdd, Nat.reduceSub, List.all_cons, List.all_nil, Bool.and_true, Bool.true_and, true_and, and_true, atI_map, ex_map, ex_some, List.length_map, beq_int, decide_eq_true_eq, if_true, if_false, Bool.false_eq_true, if_pos, reduceIte, at0, at1, at2, at3, dP, mCallX, mCallB, peekA, evA, evAs, eq_self, sRaise0, sRaise1, sTry, caught, unslot, unheld, mXArg, mXIs, runX, List.contains_cons, List.contains_nil, Slot.isExn, String.reduceBEq, ex_arg, ex_valB, Bool.or_false, Bool.false_or, Bool.or_true, Bool.true_or, Bool.not_false, Bool.not_true, mComp2, dGcd, dComb, dSortS, ar__law_turnings, ar__law_exchanged, ar__law_same, ar_is_mirrored, ar_has_like_rims, ar_has_turned_rims, ar_exchanged_rims, ar__law_rim]
    exact ⟨hl, hK _ rfl⟩
  rintro _ rfl
  refine seq_cut (fun s' => s' = rgt l (.own ((List.range l.length).map fun k => D.str (turn l k))) (.val (.str (exg l))) .gone .gone .gone w) ?_ ?_
  · intro K hK
    simp only [run, runF, DL.get, DL.put, puts, back, mC, mVar, mFzV, mFeed, frz, msN, msC, mBin, mUn, dAdd, dSub, dMul, dDiv, dMod, dPow, dNeg, dCmp, dLt, dLe, dGt, dGe, dEq, dNe, dIn, dIsN, dIsNotN, isN, dIs, dIsNot, dTab, flatD, okT, truth, tV, tB, tAnd, tOr, tNot, mAnd, mOr, mNot, mIf, mChain, mList, mTup, dIx, mSl, oN, oS, mRev, mRevTo, mCall, mCallF, dLen, dAbs, dInt, dMin2, dMax2, dList, dTup, dSum, dMin, dMax, dMinG, dMaxG, dAll, isTy, mIsI, gV, gSkip, gsN, gsC, gT, srcV, srcR1, srcR2, srcEnum, srcRev, mComp, tYes, isS, isL, mMS, mML, dIndexS, dIndexL, dIndexFrom, mMS2, dCount, dSplit, dJoin, sNil, sSeq, sSet, sAsg, sPar, sRet, retK, sRetN, sIf, sPass, sBrk, sCont, sNever, sExpr, sAug, ownAt, feedAt, intD, sApp, sExt, sSetI, sAugI, sFeed, sFeedA, popD, sPop, sAddPop, sFor, DL.W.set, DL.W.at, DL.R.d, okD, eqD_none_none, eqD_none_bool, eqD_none_int, eqD_none_str, eqD_none_list, eqD_none_tup, eqD_bool_none, eqD_bool_bool, eqD_bool_int, eqD_bool_str, eqD_bool_list, eqD_bool_tup, eqD_int_none, eqD_int_bool, eqD_int_int, eqD_int_str, eqD_int_list, eqD_int_tup, eqD_str_none, eqD_str_bool, eqD_str_int, eqD_str_str, eqD_str_list, eqD_str_tup, eqD_list_none, eqD_list_bool, eqD_list_int, eqD_list_str, eqD_list_list, eqD_list_tup, eqD_tup_none, eqD_tup_bool, eqD_tup_int, eqD_tup_str, eqD_tup_list, eqD_tup_tup, eqDs_nn, eqDs_cc, eqDs_nc, eqDs_cn, List.map_cons, List.map_nil, List.map, List.cons_append, List.nil_append, List.replicate, List.length_cons, List.length_nil, Nat.reduceAdd, Nat.reduceSub, List.all_cons, List.all_nil, Bool.and_true, Bool.true_and, true_and, and_true, atI_map, ex_map, ex_some, List.length_map, beq_int, decide_eq_true_eq, if_true, if_false, Bool.false_eq_true, if_pos, reduceIte, at0, at1, at2, at3, dP, mCallX, mCallB, peekA, evA, evAs, eq_self, sRaise0, sRaise1, sTry, caught, unslot, unheld, mXArg, mXIs, runX, List.contains_cons, List.contains_nil, Slot.isExn, String.reduceBEq, ex_arg, ex_valB, Bool.or_false, Bool.false_or, Bool.or_true, Bool.true_or, Bool.not_false, Bool.not_true, mComp2, dGcd, dComb, dSortS, ar__law_turnings, ar__law_exchanged, ar__law_same, ar_is_mirrored, ar_has_like_rims, ar_has_turned_rims, ar_exchanged_rims, ar__law_rim]
    exact ⟨ha, hl, hK _ rfl⟩
  rintro _ rfl
  refine seq_cut (fun s' => s' = rgt l (.own ((List.range l.length).map fun k => D.str (turn l k))) (.val (.str (exg l))) (.own [.bool (turnC l.reverse l), .bool (turnC (exg l) l), .bool (turnC (exg l).reverse l)]) .gone .gone w) ?_ ?_
  · intro K hK
    simp only [run, runF, DL.get, DL.put, puts, back, mC, mVar, mFzV, mFeed, frz, msN, msC, mBin, mUn, dAdd, dSub, dMul, dDiv, dMod, dPow, dNeg, dCmp, dLt, dLe, dGt, dGe, dEq, dNe, dIn, dIsN, dIsNotN, isN, dIs, dIsNot, dTab, flatD, okT, truth, tV, tB, tAnd, tOr, tNot, mAnd, mOr, mNot, mIf, mChain, mList, mTup, dIx, mSl, oN, oS, mRev, mRevTo, mCall, mCallF, dLen, dAbs, dInt, dMin2, dMax2, dList, dTup, dSum, dMin, dMax, dMinG, dMaxG, dAll, isTy, mIsI, gV, gSkip, gsN, gsC, gT, srcV, srcR1, srcR2, srcEnum, srcRev, mComp, tYes, isS, isL, mMS, mML, dIndexS, dIndexL, dIndexFrom, mMS2, dCount, dSplit, dJoin, sNil, sSeq, sSet, sAsg, sPar, sRet, retK, sRetN, sIf, sPass, sBrk, sCont, sNever, sExpr, sAug, ownAt, feedAt, intD, sApp, sExt, sSetI, sAugI, sFeed, sFeedA, popD, sPop, sAddPop, sFor, DL.W.set, DL.W.at, DL.R.d, okD, eqD_none_none, eqD_none_bool, eqD_none_int, eqD_none_str, eqD_none_list, eqD_none_tup, eqD_bool_none, eqD_bool_bool, eqD_bool_int, eqD_bool_str, eqD_bool_list, eqD_bool_tup, eqD_int_none, eqD_int_bool, eqD_int_int, eqD_int_str, eqD_int_list, eqD_int_tup, eqD_str_none, eqD_str_bool, eqD_str_int, eqD_str_str, eqD_str_list, eqD_str_tup, eqD_list_none, eqD_list_bool, eqD_list_int, eqD_list_str, eqD_list_list, eqD_list_tup, eqD_tup_none, eqD_tup_bool, eqD_tup_int, eqD_tup_str, eqD_tup_list, eqD_tup_tup, eqDs_nn, eqDs_cc, eqDs_nc, eqDs_cn, List.map_cons, List.map_nil, List.map, List.cons_append, List.nil_append, List.replicate, List.length_cons, List.length_nil, Nat.reduceAdd, Nat.reduceSub, List.all_cons, List.all_nil, Bool.and_true, Bool.true_and, true_and, and_true, atI_map, ex_map, ex_some, List.length_map, beq_int, decide_eq_true_eq, if_true, if_false, Bool.false_eq_true, if_pos, reduceIte, at0, at1, at2, at3, dP, mCallX, mCallB, peekA, evA, evAs, eq_self, sRaise0, sRaise1, sTry, caught, unslot, unheld, mXArg, mXIs, runX, List.contains_cons, List.contains_nil, Slot.isExn, String.reduceBEq, ex_arg, ex_valB, Bool.or_false, Bool.false_or, Bool.or_true, Bool.true_or, Bool.not_false, Bool.not_true, mComp2, dGcd, dComb, dSortS, ar__law_turnings, ar__law_exchanged, ar__law_same, ar_is_mirrored, ar_has_like_rims, ar_has_turned_rims, ar_exchanged_rims, ar__law_rim]
    rw [turns_any, turns_any, turns_any, Bool.false_xor, Bool.false_xor, Bool.false_xor]
    have oks : (List.map (fun k => D.str (turn l k)) (List.range l.length)).all (okD 8) = true := by rw [turns_strs]; exact okSs (turns_all ha) 8
    exact ⟨by omega, okr, oks, oke, oks, by omega, oker, oks, by omega, hK _ rfl⟩
  rintro _ rfl
  refine seq_cut (fun s' => s' = rgt l (.own ((List.range l.length).map fun k => D.str (turn l k))) (.val (.str (exg l))) (.own [.bool (turnC l.reverse l), .bool (turnC (exg l) l), .bool (turnC (exg l).reverse l)]) .gone .gone w) ?_ ?_
  · intro K hK
    simp only [run, runF, DL.get, DL.put, puts, back, mC, mVar, mFzV, mFeed, frz, msN, msC, mBin, mUn, dAdd, dSub, dMul, dDiv, dMod, dPow, dNeg, dCmp, dLt, dLe, dGt, dGe, dEq, dNe, dIn, dIsN, dIsNotN, isN, dIs, dIsNot, dTab, flatD, okT, truth, tV, tB, tAnd, tOr, tNot, mAnd, mOr, mNot, mIf, mChain, mList, mTup, dIx, mSl, oN, oS, mRev, mRevTo, mCall, mCallF, dLen, dAbs, dInt, dMin2, dMax2, dList, dTup, dSum, dMin, dMax, dMinG, dMaxG, dAll, isTy, mIsI, gV, gSkip, gsN, gsC, gT, srcV, srcR1, srcR2, srcEnum, srcRev, mComp, tYes, isS, isL, mMS, mML, dIndexS, dIndexL, dIndexFrom, mMS2, dCount, dSplit, dJoin, sNil, sSeq, sSet, sAsg, sPar, sRet, retK, sRetN, sIf, sPass, sBrk, sCont, sNever, sExpr, sAug, ownAt, feedAt, intD, sApp, sExt, sSetI, sAugI, sFeed, sFeedA, popD, sPop, sAddPop, sFor, DL.W.set, DL.W.at, DL.R.d, okD, eqD_none_none, eqD_none_bool, eqD_none_int, eqD_none_str, eqD_none_list, eqD_none_tup, eqD_bool_none, eqD_bool_bool, eqD_bool_int, eqD_bool_str, eqD_bool_list, eqD_bool_tup, eqD_int_none, eqD_int_bool, eqD_int_int, eqD_int_str, eqD_int_list, eqD_int_tup, eqD_str_none, eqD_str_bool, eqD_str_int, eqD_str_str, eqD_str_list, eqD_str_tup, eqD_list_none, eqD_list_bool, eqD_list_int, eqD_list_str, eqD_list_list, eqD_list_tup, eqD_tup_none, eqD_tup_bool, eqD_tup_int, eqD_tup_str, eqD_tup_list, eqD_tup_tup, eqDs_nn, eqDs_cc, eqDs_nc, eqDs_cn, List.map_cons, List.map_nil, List.map, List.cons_append, List.nil_append, List.replicate, List.length_cons, List.length_nil, Nat.reduceAdd, Nat.reduceSub, List.all_cons, List.all_nil, Bool.and_true, Bool.true_and, true_and, and_true, atI_map, ex_map, ex_some, List.length_map, beq_int, decide_eq_true_eq, if_true, if_false, Bool.false_eq_true, if_pos, reduceIte, at0, at1, at2, at3, dP, mCallX, mCallB, peekA, evA, evAs, eq_self, sRaise0, sRaise1, sTry, caught, unslot, unheld, mXArg, mXIs, runX, List.contains_cons, List.contains_nil, Slot.isExn, String.reduceBEq, ex_arg, ex_valB, Bool.or_false, Bool.false_or, Bool.or_true, Bool.true_or, Bool.not_false, Bool.not_true, mComp2, dGcd, dComb, dSortS, ar__law_turnings, ar__law_exchanged, ar__law_same, ar_is_mirrored, ar_has_like_rims, ar_has_turned_rims, ar_exchanged_rims, ar__law_rim]
    have hs : shp 5 (.list [.bool (turnC l.reverse l), .bool (turnC (exg l) l), .bool (turnC (exg l).reverse l)]) := .inr ⟨_, .inl rfl, by simp, fun e he => by
      rcases List.mem_cons.mp he with rfl | he
      · exact shp_leaf (.inr (.inl ⟨_, rfl⟩)) _
      rcases List.mem_cons.mp he with rfl | he
      · exact shp_leaf (.inr (.inl ⟨_, rfl⟩)) _
      rcases List.mem_cons.mp he with rfl | he
      · exact shp_leaf (.inr (.inl ⟨_, rfl⟩)) _
      · cases he⟩
    exact ⟨h0, hl, ha, h0, hl, ha, h0, hl, ha, by omega, hs, hK _ rfl⟩
  rintro _ rfl
  refine seq_cut (fun s' => s' = rgt l (.own ((List.range l.length).map fun k => D.str (turn l k))) (.val (.str (exg l))) (.own [.bool (turnC l.reverse l), .bool (turnC (exg l) l), .bool (turnC (exg l).reverse l)]) .gone .gone w) ?_ ?_
  · intro K hK
    simp only [run, runF, DL.get, DL.put, puts, back, mC, mVar, mFzV, mFeed, frz, msN, msC, mBin, mUn, dAdd, dSub, dMul, dDiv, dMod, dPow, dNeg, dCmp, dLt, dLe, dGt, dGe, dEq, dNe, dIn, dIsN, dIsNotN, isN, dIs, dIsNot, dTab, flatD, okT, truth, tV, tB, tAnd, tOr, tNot, mAnd, mOr, mNot, mIf, mChain, mList, mTup, dIx, mSl, oN, oS, mRev, mRevTo, mCall, mCallF, dLen, dAbs, dInt, dMin2, dMax2, dList, dTup, dSum, dMin, dMax, dMinG, dMaxG, dAll, isTy, mIsI, gV, gSkip, gsN, gsC, gT, srcV, srcR1, srcR2, srcEnum, srcRev, mComp, tYes, isS, isL, mMS, mML, dIndexS, dIndexL, dIndexFrom, mMS2, dCount, dSplit, dJoin, sNil, sSeq, sSet, sAsg, sPar, sRet, retK, sRetN, sIf, sPass, sBrk, sCont, sNever, sExpr, sAug, ownAt, feedAt, intD, sApp, sExt, sSetI, sAugI, sFeed, sFeedA, popD, sPop, sAddPop, sFor, DL.W.set, DL.W.at, DL.R.d, okD, eqD_none_none, eqD_none_bool, eqD_none_int, eqD_none_str, eqD_none_list, eqD_none_tup, eqD_bool_none, eqD_bool_bool, eqD_bool_int, eqD_bool_str, eqD_bool_list, eqD_bool_tup, eqD_int_none, eqD_int_bool, eqD_int_int, eqD_int_str, eqD_int_list, eqD_int_tup, eqD_str_none, eqD_str_bool, eqD_str_int, eqD_str_str, eqD_str_list, eqD_str_tup, eqD_list_none, eqD_list_bool, eqD_list_int, eqD_list_str, eqD_list_list, eqD_list_tup, eqD_tup_none, eqD_tup_bool, eqD_tup_int, eqD_tup_str, eqD_tup_list, eqD_tup_tup, eqDs_nn, eqDs_cc, eqDs_nc, eqDs_cn, List.map_cons, List.map_nil, List.map, List.cons_append, List.nil_append, List.replicate, List.length_cons, List.length_nil, Nat.reduceAdd, Nat.reduceSub, List.all_cons, List.all_nil, Bool.and_true, Bool.true_and, true_and, and_true, atI_map, ex_map, ex_some, List.length_map, beq_int, decide_eq_true_eq, if_true, if_false, Bool.false_eq_true, if_pos, reduceIte, at0, at1, at2, at3, dP, mCallX, mCallB, peekA, evA, evAs, eq_self, sRaise0, sRaise1, sTry, caught, unslot, unheld, mXArg, mXIs, runX, List.contains_cons, List.contains_nil, Slot.isExn, String.reduceBEq, ex_arg, ex_valB, Bool.or_false, Bool.false_or, Bool.or_true, Bool.true_or, Bool.not_false, Bool.not_true, mComp2, dGcd, dComb, dSortS, ar__law_turnings, ar__law_exchanged, ar__law_same, ar_is_mirrored, ar_has_like_rims, ar_has_turned_rims, ar_exchanged_rims, ar__law_rim]
    rw [ee]
    exact ⟨ha, hl, shp_leaf (.inr (.inr ⟨_, rfl, oke⟩)) _, ea, by omega, rfl, shp_leaf (.inr (.inr ⟨_, rfl, okl⟩)) _, hK _ rfl⟩
  rintro _ rfl
  refine seq_cut (fun s' => ∃ x y, s' = rgt l (.own ((List.range l.length).map fun k => D.str (turn l k))) (.val (.str (exg l))) (.own [.bool (turnC l.reverse l), .bool (turnC (exg l) l), .bool (turnC (exg l).reverse l)]) x y w) ?_ ?_
  · intro K hK
    show sIf _ _ _ _ _
    refine cond_cut (turnC l.reverse l) ?_ (fun ct => ?_) fun _ => ?_
    · intro K hK
      simp only [run, runF, DL.get, DL.put, puts, back, mC, mVar, mFzV, mFeed, frz, msN, msC, mBin, mUn, dAdd, dSub, dMul, dDiv, dMod, dPow, dNeg, dCmp, dLt, dLe, dGt, dGe, dEq, dNe, dIn, dIsN, dIsNotN, isN, dIs, dIsNot, dTab, flatD, okT, truth, tV, tB, tAnd, tOr, tNot, mAnd, mOr, mNot, mIf, mChain, mList, mTup, dIx, mSl, oN, oS, mRev, mRevTo, mCall, mCallF, dLen, dAbs, dInt, dMin2, dMax2, dList, dTup, dSum, dMin, dMax, dMinG, dMaxG, dAll, isTy, mIsI, gV, gSkip, gsN, gsC, gT, srcV, srcR1, srcR2, srcEnum, srcRev, mComp, tYes, isS, isL, mMS, mML, dIndexS, dIndexL, dIndexFrom, mMS2, dCount, dSplit, dJoin, sNil, sSeq, sSet, sAsg, sPar, sRet, retK, sRetN, sIf, sPass, sBrk, sCont, sNever, sExpr, sAug, ownAt, feedAt, intD, sApp, sExt, sSetI, sAugI, sFeed, sFeedA, popD, sPop, sAddPop, sFor, DL.W.set, DL.W.at, DL.R.d, okD, eqD_none_none, eqD_none_bool, eqD_none_int, eqD_none_str, eqD_none_list, eqD_none_tup, eqD_bool_none, eqD_bool_bool, eqD_bool_int, eqD_bool_str, eqD_bool_list, eqD_bool_tup, eqD_int_none, eqD_int_bool, eqD_int_int, eqD_int_str, eqD_int_list, eqD_int_tup, eqD_str_none, eqD_str_bool, eqD_str_int, eqD_str_str, eqD_str_list, eqD_str_tup, eqD_list_none, eqD_list_bool, eqD_list_int, eqD_list_str, eqD_list_list, eqD_list_tup, eqD_tup_none, eqD_tup_bool, eqD_tup_int, eqD_tup_str, eqD_tup_list, eqD_tup_tup, eqDs_nn, eqDs_cc, eqDs_nc, eqDs_cn, List.map_cons, List.map_nil, List.map, List.cons_append, List.nil_append, List.replicate, List.length_cons, List.length_nil, Nat.reduceAdd, Nat.reduceSub, List.all_cons, List.all_nil, Bool.and_true, Bool.true_and, true_and, and_true, atI_map, ex_map, ex_some, List.length_map, beq_int, decide_eq_true_eq, if_true, if_false, Bool.false_eq_true, if_pos, reduceIte, at0, at1, at2, at3, dP, mCallX, mCallB, peekA, evA, evAs, eq_self, sRaise0, sRaise1, sTry, caught, unslot, unheld, mXArg, mXIs, runX, List.contains_cons, List.contains_nil, Slot.isExn, String.reduceBEq, ex_arg, ex_valB, Bool.or_false, Bool.false_or, Bool.or_true, Bool.true_or, Bool.not_false, Bool.not_true, mComp2, dGcd, dComb, dSortS, ar__law_turnings, ar__law_exchanged, ar__law_same, ar_is_mirrored, ar_has_like_rims, ar_has_turned_rims, ar_exchanged_rims, ar__law_rim]
      exact hK
    · refine for_cut (fun ds s' => ds = [.str [111], .str [105]] ∧ s' = rgt l (.own ((List.range l.length).map fun k => D.str (turn l k))) (.val (.str (exg l))) (.own [.bool (turnC l.reverse l), .bool (turnC (exg l) l), .bool (turnC (exg l).reverse l)]) .gone .gone w) ?_ ?_
      · intro K hK
        simp only [run, runF, DL.get, DL.put, puts, back, mC, mVar, mFzV, mFeed, frz, msN, msC, mBin, mUn, dAdd, dSub, dMul, dDiv, dMod, dPow, dNeg, dCmp, dLt, dLe, dGt, dGe, dEq, dNe, dIn, dIsN, dIsNotN, isN, dIs, dIsNot, dTab, flatD, okT, truth, tV, tB, tAnd, tOr, tNot, mAnd, mOr, mNot, mIf, mChain, mList, mTup, dIx, mSl, oN, oS, mRev, mRevTo, mCall, mCallF, dLen, dAbs, dInt, dMin2, dMax2, dList, dTup, dSum, dMin, dMax, dMinG, dMaxG, dAll, isTy, mIsI, gV, gSkip, gsN, gsC, gT, srcV, srcR1, srcR2, srcEnum, srcRev, mComp, tYes, isS, isL, mMS, mML, dIndexS, dIndexL, dIndexFrom, mMS2, dCount, dSplit, dJoin, sNil, sSeq, sSet, sAsg, sPar, sRet, retK, sRetN, sIf, sPass, sBrk, sCont, sNever, sExpr, sAug, ownAt, feedAt, intD, sApp, sExt, sSetI, sAugI, sFeed, sFeedA, popD, sPop, sAddPop, sFor, DL.W.set, DL.W.at, DL.R.d, okD, eqD_none_none, eqD_none_bool, eqD_none_int, eqD_none_str, eqD_none_list, eqD_none_tup, eqD_bool_none, eqD_bool_bool, eqD_bool_int, eqD_bool_str, eqD_bool_list, eqD_bool_tup, eqD_int_none, eqD_int_bool, eqD_int_int, eqD_int_str, eqD_int_list, eqD_int_tup, eqD_str_none, eqD_str_bool, eqD_str_int, eqD_str_str, eqD_str_list, eqD_str_tup, eqD_list_none, eqD_list_bool, eqD_list_int, eqD_list_str, eqD_list_list, eqD_list_tup, eqD_tup_none, eqD_tup_bool, eqD_tup_int, eqD_tup_str, eqD_tup_list, eqD_tup_tup, eqDs_nn, eqDs_cc, eqDs_nc, eqDs_cn, List.map_cons, List.map_nil, List.map, List.cons_append, List.nil_append, List.replicate, List.length_cons, List.length_nil, Nat.reduceAdd, Nat.reduceSub, List.all_cons, List.all_nil, Bool.and_true, Bool.true_and, true_and, and_true, atI_map, ex_map, ex_some, List.length_map, beq_int, decide_eq_true_eq, if_true, if_false, Bool.false_eq_true, if_pos, reduceIte, at0, at1, at2, at3, dP, mCallX, mCallB, peekA, evA, evAs, eq_self, sRaise0, sRaise1, sTry, caught, unslot, unheld, mXArg, mXIs, runX, List.contains_cons, List.contains_nil, Slot.isExn, String.reduceBEq, ex_arg, ex_valB, Bool.or_false, Bool.false_or, Bool.or_true, Bool.true_or, Bool.not_false, Bool.not_true, mComp2, dGcd, dComb, dSortS, ar__law_turnings, ar__law_exchanged, ar__law_same, ar_is_mirrored, ar_has_like_rims, ar_has_turned_rims, ar_exchanged_rims, ar__law_rim]
        exact ⟨by omega, hK _ _ ⟨rfl, rfl⟩⟩
      rintro ds _ ⟨hds, rfl⟩
      refine forL_ix _ (fun _ s' => ∃ x y, s' = rgt l (.own ((List.range l.length).map fun k => D.str (turn l k))) (.val (.str (exg l))) (.own [.bool (turnC l.reverse l), .bool (turnC (exg l) l), .bool (turnC (exg l).reverse l)]) x y w) ?_ (fun s h => hK s h) _ ⟨_, _, rfl⟩
      rintro k d _ hd ⟨x, y, rfl⟩ K hK
      obtain ⟨s, hs, rfl⟩ : ∃ s, Sign s ∧ d = .str [s] := by
        have := List.mem_of_getElem? hd
        rw [hds] at this
        rcases List.mem_cons.mp this with rfl | this
        · exact ⟨111, .inl rfl, rfl⟩
        rcases List.mem_cons.mp this with rfl | this
        · exact ⟨105, .inr rfl, rfl⟩
        · cases this
      have rl : (rim l s).length ≤ 1000 := by
        have := rim_len hw hs
        have := many_le (l := l) s
        omega
      have hrt : RT (rim l s).reverse (rim l s) := by
        have h1 := rim_isTurn hw hs ((turnC_eq _ _).mp ct)
        rcases hs with rfl | rfl
        · exact (rim_rev_o hw).symm.trans h1
        · exact (rim_rev_i hw).symm.trans h1
      simp only [run, runF, DL.get, DL.put, puts, back, mC, mVar, mFzV, mFeed, frz, msN, msC, mBin, mUn, dAdd, dSub, dMul, dDiv, dMod, dPow, dNeg, dCmp, dLt, dLe, dGt, dGe, dEq, dNe, dIn, dIsN, dIsNotN, isN, dIs, dIsNot, dTab, flatD, okT, truth, tV, tB, tAnd, tOr, tNot, mAnd, mOr, mNot, mIf, mChain, mList, mTup, dIx, mSl, oN, oS, mRev, mRevTo, mCall, mCallF, dLen, dAbs, dInt, dMin2, dMax2, dList, dTup, dSum, dMin, dMax, dMinG, dMaxG, dAll, isTy, mIsI, gV, gSkip, gsN, gsC, gT, srcV, srcR1, srcR2, srcEnum, srcRev, mComp, tYes, isS, isL, mMS, mML, dIndexS, dIndexL, dIndexFrom, mMS2, dCount, dSplit, dJoin, sNil, sSeq, sSet, sAsg, sPar, sRet, retK, sRetN, sIf, sPass, sBrk, sCont, sNever, sExpr, sAug, ownAt, feedAt, intD, sApp, sExt, sSetI, sAugI, sFeed, sFeedA, popD, sPop, sAddPop, sFor, DL.W.set, DL.W.at, DL.R.d, okD, eqD_none_none, eqD_none_bool, eqD_none_int, eqD_none_str, eqD_none_list, eqD_none_tup, eqD_bool_none, eqD_bool_bool, eqD_bool_int, eqD_bool_str, eqD_bool_list, eqD_bool_tup, eqD_int_none, eqD_int_bool, eqD_int_int, eqD_int_str, eqD_int_list, eqD_int_tup, eqD_str_none, eqD_str_bool, eqD_str_int, eqD_str_str, eqD_str_list, eqD_str_tup, eqD_list_none, eqD_list_bool, eqD_list_int, eqD_list_str, eqD_list_list, eqD_list_tup, eqD_tup_none, eqD_tup_bool, eqD_tup_int, eqD_tup_str, eqD_tup_list, eqD_tup_tup, eqDs_nn, eqDs_cc, eqDs_nc, eqDs_cn, List.map_cons, List.map_nil, List.map, List.cons_append, List.nil_append, List.replicate, List.length_cons, List.length_nil, Nat.reduceAdd, Nat.reduceSub, List.all_cons, List.all_nil, Bool.and_true, Bool.true_and, true_and, and_true, atI_map, ex_map, ex_some, List.length_map, beq_int, decide_eq_true_eq, if_true, if_false, Bool.false_eq_true, if_pos, reduceIte, at0, at1, at2, at3, dP, mCallX, mCallB, peekA, evA, evAs, eq_self, sRaise0, sRaise1, sTry, caught, unslot, unheld, mXArg, mXIs, runX, List.contains_cons, List.contains_nil, Slot.isExn, String.reduceBEq, ex_arg, ex_valB, Bool.or_false, Bool.false_or, Bool.or_true, Bool.true_or, Bool.not_false, Bool.not_true, mComp2, dGcd, dComb, dSortS, ar__law_turnings, ar__law_exchanged, ar__law_same, ar_is_mirrored, ar_has_like_rims, ar_has_turned_rims, ar_exchanged_rims, ar__law_rim]
      refine ⟨hw, hl, hs, ?_⟩
      generalize rim l s = r at *
      refine turnings_l r _ _ rl ?_
      have hany : (((List.range r.length).map fun k => D.list ((rot r k).map D.int)).any fun d => eqD d (.list (r.map D.int).reverse)) = true := by
        obtain ⟨j, hj, e⟩ := hrt
        rw [List.any_map, List.any_eq_true]
        refine ⟨j, List.mem_range.mpr hj, ?_⟩
        rw [Function.comp, e, List.map_reverse, eqD_refl]
      simp only [run, runF, DL.get, DL.put, puts, back, mC, mVar, mFzV, mFeed, frz, msN, msC, mBin, mUn, dAdd, dSub, dMul, dDiv, dMod, dPow, dNeg, dCmp, dLt, dLe, dGt, dGe, dEq, dNe, dIn, dIsN, dIsNotN, isN, dIs, dIsNot, dTab, flatD, okT, truth, tV, tB, tAnd, tOr, tNot, mAnd, mOr, mNot, mIf, mChain, mList, mTup, dIx, mSl, oN, oS, mRev, mRevTo, mCall, mCallF, dLen, dAbs, dInt, dMin2, dMax2, dList, dTup, dSum, dMin, dMax, dMinG, dMaxG, dAll, isTy, mIsI, gV, gSkip, gsN, gsC, gT, srcV, srcR1, srcR2, srcEnum, srcRev, mComp, tYes, isS, isL, mMS, mML, dIndexS, dIndexL, dIndexFrom, mMS2, dCount, dSplit, dJoin, sNil, sSeq, sSet, sAsg, sPar, sRet, retK, sRetN, sIf, sPass, sBrk, sCont, sNever, sExpr, sAug, ownAt, feedAt, intD, sApp, sExt, sSetI, sAugI, sFeed, sFeedA, popD, sPop, sAddPop, sFor, DL.W.set, DL.W.at, DL.R.d, okD, eqD_none_none, eqD_none_bool, eqD_none_int, eqD_none_str, eqD_none_list, eqD_none_tup, eqD_bool_none, eqD_bool_bool, eqD_bool_int, eqD_bool_str, eqD_bool_list, eqD_bool_tup, eqD_int_none, eqD_int_bool, eqD_int_int, eqD_int_str, eqD_int_list, eqD_int_tup, eqD_str_none, eqD_str_bool, eqD_str_int, eqD_str_str, eqD_str_list, eqD_str_tup, eqD_list_none, eqD_list_bool, eqD_list_int, eqD_list_str, eqD_list_list, eqD_list_tup, eqD_tup_none, eqD_tup_bool, eqD_tup_int, eqD_tup_str, eqD_tup_list, eqD_tup_tup, eqDs_nn, eqDs_cc, eqDs_nc, eqDs_cn, List.map_cons, List.map_nil, List.map, List.cons_append, List.nil_append, List.replicate, List.length_cons, List.length_nil, Nat.reduceAdd, Nat.reduceSub, List.all_cons, List.all_nil, Bool.and_true, Bool.true_and, true_and, and_true, atI_map, ex_map, ex_some, List.length_map, beq_int, decide_eq_true_eq, if_true, if_false, Bool.false_eq_true, if_pos, reduceIte, at0, at1, at2, at3, dP, mCallX, mCallB, peekA, evA, evAs, eq_self, sRaise0, sRaise1, sTry, caught, unslot, unheld, mXArg, mXIs, runX, List.contains_cons, List.contains_nil, Slot.isExn, String.reduceBEq, ex_arg, ex_valB, Bool.or_false, Bool.false_or, Bool.or_true, Bool.true_or, Bool.not_false, Bool.not_true, mComp2, dGcd, dComb, dSortS, ar__law_turnings, ar__law_exchanged, ar__law_same, ar_is_mirrored, ar_has_like_rims, ar_has_turned_rims, ar_exchanged_rims, ar__law_rim]
      rw [hany]
      refine ⟨?_, ?_, ?_⟩
      · rw [← List.map_reverse]
        exact okInts _ 7
      · refine List.all_eq_true.mpr fun d hd => ?_
        obtain ⟨k, _, rfl⟩ := List.mem_map.mp hd
        exact okInts _ 7
      · rw [if_neg (by decide)]
        exact hK _ ⟨_, _, rfl⟩
    · exact hK _ ⟨_, _, rfl⟩
  rintro _ ⟨x, y, rfl⟩
  simp only [run, runF, DL.get, DL.put, puts, back, mC, mVar, mFzV, mFeed, frz, msN, msC, mBin, mUn, dAdd, dSub, dMul, dDiv, dMod, dPow, dNeg, dCmp, dLt, dLe, dGt, dGe, dEq, dNe, dIn, dIsN, dIsNotN, isN, dIs, dIsNot, dTab, flatD, okT, truth, tV, tB, tAnd, tOr, tNot, mAnd, mOr, mNot, mIf, mChain, mList, mTup, dIx, mSl, oN, oS, mRev, mRevTo, mCall, mCallF, dLen, dAbs, dInt, dMin2, dMax2, dList, dTup, dSum, dMin, dMax, dMinG, dMaxG, dAll, isTy, mIsI, gV, gSkip, gsN, gsC, gT, srcV, srcR1, srcR2, srcEnum, srcRev, mComp, tYes, isS, isL, mMS, mML, dIndexS, dIndexL, dIndexFrom, mMS2, dCount, dSplit, dJoin, sNil, sSeq, sSet, sAsg, sPar, sRet, retK, sRetN, sIf, sPass, sBrk, sCont, sNever, sExpr, sAug, ownAt, feedAt, intD, sApp, sExt, sSetI, sAugI, sFeed, sFeedA, popD, sPop, sAddPop, sFor, DL.W.set, DL.W.at, DL.R.d, okD, eqD_none_none, eqD_none_bool, eqD_none_int, eqD_none_str, eqD_none_list, eqD_none_tup, eqD_bool_none, eqD_bool_bool, eqD_bool_int, eqD_bool_str, eqD_bool_list, eqD_bool_tup, eqD_int_none, eqD_int_bool, eqD_int_int, eqD_int_str, eqD_int_list, eqD_int_tup, eqD_str_none, eqD_str_bool, eqD_str_int, eqD_str_str, eqD_str_list, eqD_str_tup, eqD_list_none, eqD_list_bool, eqD_list_int, eqD_list_str, eqD_list_list, eqD_list_tup, eqD_tup_none, eqD_tup_bool, eqD_tup_int, eqD_tup_str, eqD_tup_list, eqD_tup_tup, eqDs_nn, eqDs_cc, eqDs_nc, eqDs_cn, List.map_cons, List.map_nil, List.map, List.cons_append, List.nil_append, List.replicate, List.length_cons, List.length_nil, Nat.reduceAdd, Nat.reduceSub, List.all_cons, List.all_nil, Bool.and_true, Bool.true_and, true_and, and_true, atI_map, ex_map, ex_some, List.length_map, beq_int, decide_eq_true_eq, if_true, if_false, Bool.false_eq_true, if_pos, reduceIte, at0, at1, at2, at3, dP, mCallX, mCallB, peekA, evA, evAs, eq_self, sRaise0, sRaise1, sTry, caught, unslot, unheld, mXArg, mXIs, runX, List.contains_cons, List.contains_nil, Slot.isExn, String.reduceBEq, ex_arg, ex_valB, Bool.or_false, Bool.false_or, Bool.or_true, Bool.true_or, Bool.not_false, Bool.not_true, mComp2, dGcd, dComb, dSortS, ar__law_turnings, ar__law_exchanged, ar__law_same, ar_is_mirrored, ar_has_like_rims, ar_has_turned_rims, ar_exchanged_rims, ar__law_rim]
  exact q
theorem at46 {r : Int} (h0 : 0 ≤ r) (h1 : r < 2) : ∃ d : Int, atI [D.int 4, D.int 6] r = some (.int d) ∧ (d = 4 ∨ d = 6) := by
  rcases (by omega : r = 0 ∨ r = 1) with rfl | rfl
  · exact ⟨4, rfl, .inl rfl⟩
  · exact ⟨6, rfl, .inr rfl⟩
theorem shp_mir {n m : Nat} (hn : n ≤ 6) (hm : m ≤ 6) : shp 5 (.list ((mirL n m).map D.str)) := .inr ⟨_, .inl rfl, by rw [List.length_map]; have := mirL_few' hn hm; omega, fun e he => by
  obtain ⟨l, hl, rfl⟩ := List.mem_map.mp he
  exact shp_leaf (.inr (.inr ⟨_, rfl, okS (mirL_mem hl).2⟩)) _⟩
abbrev lst (a b c d e f g : Slot) (w : W) : S := ⟨[.gone, .feed, a, b, c, d, e, f, g], w⟩
theorem vc_law : ∀ ns : List Int, ns.length ≤ 63 → lawTrue 9 (b_law (ar 1 spec__law_right) (ar 0 spec__law_land) (ar 1 spec__law_some) (ar 1 spec__law_exchanged) (ar 1 spec__law_draw) (ar 2 spec__law_mirrored) (ar 2 spec_all_mirrored) (ar 2 (spec__law_same 6)) (ar 1 spec_is_mirrored) (ar 1 spec_has_like_rims) (ar 1 spec_has_turned_rims)) ns := by
  intro ns hn
  have hz : (2000000 : Nat) ≤ LINE := by decide
  have hw0 := Wok.start hn
  show sSeq _ _ (lst .gone .gone .gone .gone .gone .gone .gone ⟨ns, 0, 0, 1⟩) _
  refine seq_cut (fun s' => ∃ a w', Wok w' ∧ s' = lst a .gone .gone .gone .gone .gone .gone w') ?_ ?_
  · intro K hK
    refine for_r1 4 (fun n s' => ∃ a w', Wok w' ∧ s' = lst a .gone .gone .gone .gone .gone .gone w') _ (fun K h => h) (by decide) ⟨_, _, hw0, rfl⟩ ?_ ?_
    · rintro n _ hn ⟨a, w0, hw0, rfl⟩ K hK
      simp only [run, runF, DL.get, DL.put, puts, back, mC, mVar, mFzV, mFeed, frz, msN, msC, mBin, mUn, dAdd, dSub, dMul, dDiv, dMod, dPow, dNeg, dCmp, dLt, dLe, dGt, dGe, dEq, dNe, dIn, dIsN, dIsNotN, isN, dIs, dIsNot, dTab, flatD, okT, truth, tV, tB, tAnd, tOr, tNot, mAnd, mOr, mNot, mIf, mChain, mList, mTup, dIx, mSl, oN, oS, mRev, mRevTo, mCall, mCallF, dLen, dAbs, dInt, dMin2, dMax2, dList, dTup, dSum, dMin, dMax, dMinG, dMaxG, dAll, isTy, mIsI, gV, gSkip, gsN, gsC, gT, srcV, srcR1, srcR2, srcEnum, srcRev, mComp, tYes, isS, isL, mMS, mML, dIndexS, dIndexL, dIndexFrom, mMS2, dCount, dSplit, dJoin, sNil, sSeq, sSet, sAsg, sPar, sRet, retK, sRetN, sIf, sPass, sBrk, sCont, sNever, sExpr, sAug, ownAt, feedAt, intD, sApp, sExt, sSetI, sAugI, sFeed, sFeedA, popD, sPop, sAddPop, sFor, DL.W.set, DL.W.at, DL.R.d, okD, eqD_none_none, eqD_none_bool, eqD_none_int, eqD_none_str, eqD_none_list, eqD_none_tup, eqD_bool_none, eqD_bool_bool, eqD_bool_int, eqD_bool_str, eqD_bool_list, eqD_bool_tup, eqD_int_none, eqD_int_bool, eqD_int_int, eqD_int_str, eqD_int_list, eqD_int_tup, eqD_str_none, eqD_str_bool, eqD_str_int, eqD_str_str, eqD_str_list, eqD_str_tup, eqD_list_none, eqD_list_bool, eqD_list_int, eqD_list_str, eqD_list_list, eqD_list_tup, eqD_tup_none, eqD_tup_bool, eqD_tup_int, eqD_tup_str, eqD_tup_list, eqD_tup_tup, eqDs_nn, eqDs_cc, eqDs_nc, eqDs_cn, List.map_cons, List.map_nil, List.map, List.cons_append, List.nil_append, List.replicate, List.length_cons, List.length_nil, Nat.reduceAdd, Nat.reduceSub, List.all_cons, List.all_nil, Bool.and_true, Bool.true_and, true_and, and_true, atI_map, ex_map, ex_some, List.length_map, beq_int, decide_eq_true_eq, if_true, if_false, Bool.false_eq_true, if_pos, reduceIte, at0, at1, at2, at3, dP, mCallX, mCallB, peekA, evA, evAs, eq_self, sRaise0, sRaise1, sTry, caught, unslot, unheld, mXArg, mXIs, runX, List.contains_cons, List.contains_nil, Slot.isExn, String.reduceBEq, ex_arg, ex_valB, Bool.or_false, Bool.false_or, Bool.or_true, Bool.true_or, Bool.not_false, Bool.not_true, mComp2, dGcd, dComb, dSortS, ar__law_right, ar__law_land, ar__law_some, ar__law_exchanged, ar__law_draw, ar__law_mirrored, ar_all_mirrored, ar__law_same, ar_is_mirrored, ar_has_like_rims, ar_has_turned_rims]
      refine ⟨hw0, fun l w' hl c1 c2 hw' => ⟨hl, ?_, hK _ ⟨_, _, hw', rfl⟩⟩⟩
      have := len2 l hl.all
      omega
    · rintro _ ⟨a, w', hw', rfl⟩
      exact hK _ ⟨a, w', hw', rfl⟩
  rintro _ ⟨a, w1, hw1, rfl⟩
  refine seq_cut (fun s' => ∃ b c w', Wok w' ∧ s' = lst a b c .gone .gone .gone .gone w') ?_ ?_
  · intro K hK
    refine for_r1 3 (fun n s' => ∃ b c w', Wok w' ∧ s' = lst a b c .gone .gone .gone .gone w') _ (fun K h => h) (by decide) ⟨_, _, _, hw1, rfl⟩ ?_ ?_
    · rintro n _ hn ⟨b, c, w0, hw0, rfl⟩ K hK
      simp only [run, runF, DL.get, DL.put, puts, back, mC, mVar, mFzV, mFeed, frz, msN, msC, mBin, mUn, dAdd, dSub, dMul, dDiv, dMod, dPow, dNeg, dCmp, dLt, dLe, dGt, dGe, dEq, dNe, dIn, dIsN, dIsNotN, isN, dIs, dIsNot, dTab, flatD, okT, truth, tV, tB, tAnd, tOr, tNot, mAnd, mOr, mNot, mIf, mChain, mList, mTup, dIx, mSl, oN, oS, mRev, mRevTo, mCall, mCallF, dLen, dAbs, dInt, dMin2, dMax2, dList, dTup, dSum, dMin, dMax, dMinG, dMaxG, dAll, isTy, mIsI, gV, gSkip, gsN, gsC, gT, srcV, srcR1, srcR2, srcEnum, srcRev, mComp, tYes, isS, isL, mMS, mML, dIndexS, dIndexL, dIndexFrom, mMS2, dCount, dSplit, dJoin, sNil, sSeq, sSet, sAsg, sPar, sRet, retK, sRetN, sIf, sPass, sBrk, sCont, sNever, sExpr, sAug, ownAt, feedAt, intD, sApp, sExt, sSetI, sAugI, sFeed, sFeedA, popD, sPop, sAddPop, sFor, DL.W.set, DL.W.at, DL.R.d, okD, eqD_none_none, eqD_none_bool, eqD_none_int, eqD_none_str, eqD_none_list, eqD_none_tup, eqD_bool_none, eqD_bool_bool, eqD_bool_int, eqD_bool_str, eqD_bool_list, eqD_bool_tup, eqD_int_none, eqD_int_bool, eqD_int_int, eqD_int_str, eqD_int_list, eqD_int_tup, eqD_str_none, eqD_str_bool, eqD_str_int, eqD_str_str, eqD_str_list, eqD_str_tup, eqD_list_none, eqD_list_bool, eqD_list_int, eqD_list_str, eqD_list_list, eqD_list_tup, eqD_tup_none, eqD_tup_bool, eqD_tup_int, eqD_tup_str, eqD_tup_list, eqD_tup_tup, eqDs_nn, eqDs_cc, eqDs_nc, eqDs_cn, List.map_cons, List.map_nil, List.map, List.cons_append, List.nil_append, List.replicate, List.length_cons, List.length_nil, Nat.reduceAdd, Nat.reduceSub, List.all_cons, List.all_nil, Bool.and_true, Bool.true_and, true_and, and_true, atI_map, ex_map, ex_some, List.length_map, beq_int, decide_eq_true_eq, if_true, if_false, Bool.false_eq_true, if_pos, reduceIte, at0, at1, at2, at3, dP, mCallX, mCallB, peekA, evA, evAs, eq_self, sRaise0, sRaise1, sTry, caught, unslot, unheld, mXArg, mXIs, runX, List.contains_cons, List.contains_nil, Slot.isExn, String.reduceBEq, ex_arg, ex_valB, Bool.or_false, Bool.false_or, Bool.or_true, Bool.true_or, Bool.not_false, Bool.not_true, mComp2, dGcd, dComb, dSortS, ar__law_right, ar__law_land, ar__law_some, ar__law_exchanged, ar__law_draw, ar__law_mirrored, ar_all_mirrored, ar__law_same, ar_is_mirrored, ar_has_like_rims, ar_has_turned_rims]
      refine ⟨hw0, fun l w' hl c1 hw' => ⟨hl, by omega, hl.all, by omega, exg_word hl, by rw [exg_len]; omega, hK _ ⟨_, _, _, hw', rfl⟩⟩⟩
    · rintro _ ⟨b, c, w', hw', rfl⟩
      exact hK _ ⟨b, c, w', hw', rfl⟩
  rintro _ ⟨b, c, w2, hw2, rfl⟩
  refine seq_cut (fun s' => ∃ (n : Nat) (w' : W), (1 ≤ n ∧ n ≤ 6) ∧ Wok w' ∧ s' = lst a b c (.val (.int n)) .gone .gone .gone w') ?_ ?_
  · intro K hK
    simp only [run, runF, DL.get, DL.put, puts, back, mC, mVar, mFzV, mFeed, frz, msN, msC, mBin, mUn, dAdd, dSub, dMul, dDiv, dMod, dPow, dNeg, dCmp, dLt, dLe, dGt, dGe, dEq, dNe, dIn, dIsN, dIsNotN, isN, dIs, dIsNot, dTab, flatD, okT, truth, tV, tB, tAnd, tOr, tNot, mAnd, mOr, mNot, mIf, mChain, mList, mTup, dIx, mSl, oN, oS, mRev, mRevTo, mCall, mCallF, dLen, dAbs, dInt, dMin2, dMax2, dList, dTup, dSum, dMin, dMax, dMinG, dMaxG, dAll, isTy, mIsI, gV, gSkip, gsN, gsC, gT, srcV, srcR1, srcR2, srcEnum, srcRev, mComp, tYes, isS, isL, mMS, mML, dIndexS, dIndexL, dIndexFrom, mMS2, dCount, dSplit, dJoin, sNil, sSeq, sSet, sAsg, sPar, sRet, retK, sRetN, sIf, sPass, sBrk, sCont, sNever, sExpr, sAug, ownAt, feedAt, intD, sApp, sExt, sSetI, sAugI, sFeed, sFeedA, popD, sPop, sAddPop, sFor, DL.W.set, DL.W.at, DL.R.d, okD, eqD_none_none, eqD_none_bool, eqD_none_int, eqD_none_str, eqD_none_list, eqD_none_tup, eqD_bool_none, eqD_bool_bool, eqD_bool_int, eqD_bool_str, eqD_bool_list, eqD_bool_tup, eqD_int_none, eqD_int_bool, eqD_int_int, eqD_int_str, eqD_int_list, eqD_int_tup, eqD_str_none, eqD_str_bool, eqD_str_int, eqD_str_str, eqD_str_list, eqD_str_tup, eqD_list_none, eqD_list_bool, eqD_list_int, eqD_list_str, eqD_list_list, eqD_list_tup, eqD_tup_none, eqD_tup_bool, eqD_tup_int, eqD_tup_str, eqD_tup_list, eqD_tup_tup, eqDs_nn, eqDs_cc, eqDs_nc, eqDs_cn, List.map_cons, List.map_nil, List.map, List.cons_append, List.nil_append, List.replicate, List.length_cons, List.length_nil, Nat.reduceAdd, Nat.reduceSub, List.all_cons, List.all_nil, Bool.and_true, Bool.true_and, true_and, and_true, atI_map, ex_map, ex_some, List.length_map, beq_int, decide_eq_true_eq, if_true, if_false, Bool.false_eq_true, if_pos, reduceIte, at0, at1, at2, at3, dP, mCallX, mCallB, peekA, evA, evAs, eq_self, sRaise0, sRaise1, sTry, caught, unslot, unheld, mXArg, mXIs, runX, List.contains_cons, List.contains_nil, Slot.isExn, String.reduceBEq, ex_arg, ex_valB, Bool.or_false, Bool.false_or, Bool.or_true, Bool.true_or, Bool.not_false, Bool.not_true, mComp2, dGcd, dComb, dSortS, ar__law_right, ar__law_land, ar__law_some, ar__law_exchanged, ar__law_draw, ar__law_mirrored, ar_all_mirrored, ar__law_same, ar_is_mirrored, ar_has_like_rims, ar_has_turned_rims]
    refine ⟨by omega, by decide, by decide, hw2, fun r w' r0 r1 hw' => ?_⟩
    obtain ⟨d, hd, hd2⟩ := at46 r0 r1
    refine ⟨_, hd, ?_⟩
    rw [ar__law_draw]
    refine ⟨by omega, by omega, hw', fun r w' r0 r1 hw' => ?_⟩
    refine hK _ ⟨(1 + r).toNat, _, by omega, hw', ?_⟩
    rw [show (((1 + r).toNat : Nat) : Int) = 1 + r by omega]
  rintro _ ⟨n, w3, ⟨n1, hn6⟩, hw3, rfl⟩
  refine seq_cut (fun s' => ∃ (m : Nat) (w' : W), (1 ≤ m ∧ m ≤ 6) ∧ Wok w' ∧ s' = lst a b c (.val (.int n)) (.val (.int m)) .gone .gone w') ?_ ?_
  · intro K hK
    simp only [run, runF, DL.get, DL.put, puts, back, mC, mVar, mFzV, mFeed, frz, msN, msC, mBin, mUn, dAdd, dSub, dMul, dDiv, dMod, dPow, dNeg, dCmp, dLt, dLe, dGt, dGe, dEq, dNe, dIn, dIsN, dIsNotN, isN, dIs, dIsNot, dTab, flatD, okT, truth, tV, tB, tAnd, tOr, tNot, mAnd, mOr, mNot, mIf, mChain, mList, mTup, dIx, mSl, oN, oS, mRev, mRevTo, mCall, mCallF, dLen, dAbs, dInt, dMin2, dMax2, dList, dTup, dSum, dMin, dMax, dMinG, dMaxG, dAll, isTy, mIsI, gV, gSkip, gsN, gsC, gT, srcV, srcR1, srcR2, srcEnum, srcRev, mComp, tYes, isS, isL, mMS, mML, dIndexS, dIndexL, dIndexFrom, mMS2, dCount, dSplit, dJoin, sNil, sSeq, sSet, sAsg, sPar, sRet, retK, sRetN, sIf, sPass, sBrk, sCont, sNever, sExpr, sAug, ownAt, feedAt, intD, sApp, sExt, sSetI, sAugI, sFeed, sFeedA, popD, sPop, sAddPop, sFor, DL.W.set, DL.W.at, DL.R.d, okD, eqD_none_none, eqD_none_bool, eqD_none_int, eqD_none_str, eqD_none_list, eqD_none_tup, eqD_bool_none, eqD_bool_bool, eqD_bool_int, eqD_bool_str, eqD_bool_list, eqD_bool_tup, eqD_int_none, eqD_int_bool, eqD_int_int, eqD_int_str, eqD_int_list, eqD_int_tup, eqD_str_none, eqD_str_bool, eqD_str_int, eqD_str_str, eqD_str_list, eqD_str_tup, eqD_list_none, eqD_list_bool, eqD_list_int, eqD_list_str, eqD_list_list, eqD_list_tup, eqD_tup_none, eqD_tup_bool, eqD_tup_int, eqD_tup_str, eqD_tup_list, eqD_tup_tup, eqDs_nn, eqDs_cc, eqDs_nc, eqDs_cn, List.map_cons, List.map_nil, List.map, List.cons_append, List.nil_append, List.replicate, List.length_cons, List.length_nil, Nat.reduceAdd, Nat.reduceSub, List.all_cons, List.all_nil, Bool.and_true, Bool.true_and, true_and, and_true, atI_map, ex_map, ex_some, List.length_map, beq_int, decide_eq_true_eq, if_true, if_false, Bool.false_eq_true, if_pos, reduceIte, at0, at1, at2, at3, dP, mCallX, mCallB, peekA, evA, evAs, eq_self, sRaise0, sRaise1, sTry, caught, unslot, unheld, mXArg, mXIs, runX, List.contains_cons, List.contains_nil, Slot.isExn, String.reduceBEq, ex_arg, ex_valB, Bool.or_false, Bool.false_or, Bool.or_true, Bool.true_or, Bool.not_false, Bool.not_true, mComp2, dGcd, dComb, dSortS, ar__law_right, ar__law_land, ar__law_some, ar__law_exchanged, ar__law_draw, ar__law_mirrored, ar_all_mirrored, ar__law_same, ar_is_mirrored, ar_has_like_rims, ar_has_turned_rims]
    refine ⟨by omega, by decide, by decide, hw3, fun r w' r0 r1 hw' => ?_⟩
    obtain ⟨d, hd, hd2⟩ := at46 r0 r1
    refine ⟨_, hd, ?_⟩
    rw [ar__law_draw]
    refine ⟨by omega, by omega, hw', fun r w' r0 r1 hw' => ?_⟩
    refine hK _ ⟨(1 + r).toNat, _, by omega, hw', ?_⟩
    rw [show (((1 + r).toNat : Nat) : Int) = 1 + r by omega]
  rintro _ ⟨m, w4, ⟨m1, hm6⟩, hw4, rfl⟩
  refine seq_cut (fun s' => s' = lst a b c (.val (.int n)) (.val (.int m)) (.own ((mirL n m).map D.str)) .gone w4) ?_ ?_
  · intro K hK
    simp only [run, runF, DL.get, DL.put, puts, back, mC, mVar, mFzV, mFeed, frz, msN, msC, mBin, mUn, dAdd, dSub, dMul, dDiv, dMod, dPow, dNeg, dCmp, dLt, dLe, dGt, dGe, dEq, dNe, dIn, dIsN, dIsNotN, isN, dIs, dIsNot, dTab, flatD, okT, truth, tV, tB, tAnd, tOr, tNot, mAnd, mOr, mNot, mIf, mChain, mList, mTup, dIx, mSl, oN, oS, mRev, mRevTo, mCall, mCallF, dLen, dAbs, dInt, dMin2, dMax2, dList, dTup, dSum, dMin, dMax, dMinG, dMaxG, dAll, isTy, mIsI, gV, gSkip, gsN, gsC, gT, srcV, srcR1, srcR2, srcEnum, srcRev, mComp, tYes, isS, isL, mMS, mML, dIndexS, dIndexL, dIndexFrom, mMS2, dCount, dSplit, dJoin, sNil, sSeq, sSet, sAsg, sPar, sRet, retK, sRetN, sIf, sPass, sBrk, sCont, sNever, sExpr, sAug, ownAt, feedAt, intD, sApp, sExt, sSetI, sAugI, sFeed, sFeedA, popD, sPop, sAddPop, sFor, DL.W.set, DL.W.at, DL.R.d, okD, eqD_none_none, eqD_none_bool, eqD_none_int, eqD_none_str, eqD_none_list, eqD_none_tup, eqD_bool_none, eqD_bool_bool, eqD_bool_int, eqD_bool_str, eqD_bool_list, eqD_bool_tup, eqD_int_none, eqD_int_bool, eqD_int_int, eqD_int_str, eqD_int_list, eqD_int_tup, eqD_str_none, eqD_str_bool, eqD_str_int, eqD_str_str, eqD_str_list, eqD_str_tup, eqD_list_none, eqD_list_bool, eqD_list_int, eqD_list_str, eqD_list_list, eqD_list_tup, eqD_tup_none, eqD_tup_bool, eqD_tup_int, eqD_tup_str, eqD_tup_list, eqD_tup_tup, eqDs_nn, eqDs_cc, eqDs_nc, eqDs_cn, List.map_cons, List.map_nil, List.map, List.cons_append, List.nil_append, List.replicate, List.length_cons, List.length_nil, Nat.reduceAdd, Nat.reduceSub, List.all_cons, List.all_nil, Bool.and_true, Bool.true_and, true_and, and_true, atI_map, ex_map, ex_some, List.length_map, beq_int, decide_eq_true_eq, if_true, if_false, Bool.false_eq_true, if_pos, reduceIte, at0, at1, at2, at3, dP, mCallX, mCallB, peekA, evA, evAs, eq_self, sRaise0, sRaise1, sTry, caught, unslot, unheld, mXArg, mXIs, runX, List.contains_cons, List.contains_nil, Slot.isExn, String.reduceBEq, ex_arg, ex_valB, Bool.or_false, Bool.false_or, Bool.or_true, Bool.true_or, Bool.not_false, Bool.not_true, mComp2, dGcd, dComb, dSortS, ar__law_right, ar__law_land, ar__law_some, ar__law_exchanged, ar__law_draw, ar__law_mirrored, ar_all_mirrored, ar__law_same, ar_is_mirrored, ar_has_like_rims, ar_has_turned_rims]
    exact ⟨n1, hn6, m1, hm6, hK _ rfl⟩
  rintro _ rfl
  refine seq_cut (fun s' => s' = lst a b c (.val (.int n)) (.val (.int m)) (.own ((mirL n m).map D.str)) (.own ((mirL n m).map D.str)) w4) ?_ ?_
  · intro K hK
    simp only [run, runF, DL.get, DL.put, puts, back, mC, mVar, mFzV, mFeed, frz, msN, msC, mBin, mUn, dAdd, dSub, dMul, dDiv, dMod, dPow, dNeg, dCmp, dLt, dLe, dGt, dGe, dEq, dNe, dIn, dIsN, dIsNotN, isN, dIs, dIsNot, dTab, flatD, okT, truth, tV, tB, tAnd, tOr, tNot, mAnd, mOr, mNot, mIf, mChain, mList, mTup, dIx, mSl, oN, oS, mRev, mRevTo, mCall, mCallF, dLen, dAbs, dInt, dMin2, dMax2, dList, dTup, dSum, dMin, dMax, dMinG, dMaxG, dAll, isTy, mIsI, gV, gSkip, gsN, gsC, gT, srcV, srcR1, srcR2, srcEnum, srcRev, mComp, tYes, isS, isL, mMS, mML, dIndexS, dIndexL, dIndexFrom, mMS2, dCount, dSplit, dJoin, sNil, sSeq, sSet, sAsg, sPar, sRet, retK, sRetN, sIf, sPass, sBrk, sCont, sNever, sExpr, sAug, ownAt, feedAt, intD, sApp, sExt, sSetI, sAugI, sFeed, sFeedA, popD, sPop, sAddPop, sFor, DL.W.set, DL.W.at, DL.R.d, okD, eqD_none_none, eqD_none_bool, eqD_none_int, eqD_none_str, eqD_none_list, eqD_none_tup, eqD_bool_none, eqD_bool_bool, eqD_bool_int, eqD_bool_str, eqD_bool_list, eqD_bool_tup, eqD_int_none, eqD_int_bool, eqD_int_int, eqD_int_str, eqD_int_list, eqD_int_tup, eqD_str_none, eqD_str_bool, eqD_str_int, eqD_str_str, eqD_str_list, eqD_str_tup, eqD_list_none, eqD_list_bool, eqD_list_int, eqD_list_str, eqD_list_list, eqD_list_tup, eqD_tup_none, eqD_tup_bool, eqD_tup_int, eqD_tup_str, eqD_tup_list, eqD_tup_tup, eqDs_nn, eqDs_cc, eqDs_nc, eqDs_cn, List.map_cons, List.map_nil, List.map, List.cons_append, List.nil_append, List.replicate, List.length_cons, List.length_nil, Nat.reduceAdd, Nat.reduceSub, List.all_cons, List.all_nil, Bool.and_true, Bool.true_and, true_and, and_true, atI_map, ex_map, ex_some, List.length_map, beq_int, decide_eq_true_eq, if_true, if_false, Bool.false_eq_true, if_pos, reduceIte, at0, at1, at2, at3, dP, mCallX, mCallB, peekA, evA, evAs, eq_self, sRaise0, sRaise1, sTry, caught, unslot, unheld, mXArg, mXIs, runX, List.contains_cons, List.contains_nil, Slot.isExn, String.reduceBEq, ex_arg, ex_valB, Bool.or_false, Bool.false_or, Bool.or_true, Bool.true_or, Bool.not_false, Bool.not_true, mComp2, dGcd, dComb, dSortS, ar__law_right, ar__law_land, ar__law_some, ar__law_exchanged, ar__law_draw, ar__law_mirrored, ar_all_mirrored, ar__law_same, ar_is_mirrored, ar_has_like_rims, ar_has_turned_rims]
    exact ⟨n1, hn6, m1, hm6, hK _ rfl⟩
  rintro _ rfl
  refine seq_cut (fun s' => s' = lst a b c (.val (.int n)) (.val (.int m)) (.own ((mirL n m).map D.str)) (.own ((mirL n m).map D.str)) w4) ?_ ?_
  · intro K hK
    simp only [run, runF, DL.get, DL.put, puts, back, mC, mVar, mFzV, mFeed, frz, msN, msC, mBin, mUn, dAdd, dSub, dMul, dDiv, dMod, dPow, dNeg, dCmp, dLt, dLe, dGt, dGe, dEq, dNe, dIn, dIsN, dIsNotN, isN, dIs, dIsNot, dTab, flatD, okT, truth, tV, tB, tAnd, tOr, tNot, mAnd, mOr, mNot, mIf, mChain, mList, mTup, dIx, mSl, oN, oS, mRev, mRevTo, mCall, mCallF, dLen, dAbs, dInt, dMin2, dMax2, dList, dTup, dSum, dMin, dMax, dMinG, dMaxG, dAll, isTy, mIsI, gV, gSkip, gsN, gsC, gT, srcV, srcR1, srcR2, srcEnum, srcRev, mComp, tYes, isS, isL, mMS, mML, dIndexS, dIndexL, dIndexFrom, mMS2, dCount, dSplit, dJoin, sNil, sSeq, sSet, sAsg, sPar, sRet, retK, sRetN, sIf, sPass, sBrk, sCont, sNever, sExpr, sAug, ownAt, feedAt, intD, sApp, sExt, sSetI, sAugI, sFeed, sFeedA, popD, sPop, sAddPop, sFor, DL.W.set, DL.W.at, DL.R.d, okD, eqD_none_none, eqD_none_bool, eqD_none_int, eqD_none_str, eqD_none_list, eqD_none_tup, eqD_bool_none, eqD_bool_bool, eqD_bool_int, eqD_bool_str, eqD_bool_list, eqD_bool_tup, eqD_int_none, eqD_int_bool, eqD_int_int, eqD_int_str, eqD_int_list, eqD_int_tup, eqD_str_none, eqD_str_bool, eqD_str_int, eqD_str_str, eqD_str_list, eqD_str_tup, eqD_list_none, eqD_list_bool, eqD_list_int, eqD_list_str, eqD_list_list, eqD_list_tup, eqD_tup_none, eqD_tup_bool, eqD_tup_int, eqD_tup_str, eqD_tup_list, eqD_tup_tup, eqDs_nn, eqDs_cc, eqDs_nc, eqDs_cn, List.map_cons, List.map_nil, List.map, List.cons_append, List.nil_append, List.replicate, List.length_cons, List.length_nil, Nat.reduceAdd, Nat.reduceSub, List.all_cons, List.all_nil, Bool.and_true, Bool.true_and, true_and, and_true, atI_map, ex_map, ex_some, List.length_map, beq_int, decide_eq_true_eq, if_true, if_false, Bool.false_eq_true, if_pos, reduceIte, at0, at1, at2, at3, dP, mCallX, mCallB, peekA, evA, evAs, eq_self, sRaise0, sRaise1, sTry, caught, unslot, unheld, mXArg, mXIs, runX, List.contains_cons, List.contains_nil, Slot.isExn, String.reduceBEq, ex_arg, ex_valB, Bool.or_false, Bool.false_or, Bool.or_true, Bool.true_or, Bool.not_false, Bool.not_true, mComp2, dGcd, dComb, dSortS, ar__law_right, ar__law_land, ar__law_some, ar__law_exchanged, ar__law_draw, ar__law_mirrored, ar_all_mirrored, ar__law_same, ar_is_mirrored, ar_has_like_rims, ar_has_turned_rims]
    exact ⟨shp_mir hn6 hm6, hK _ rfl⟩
  rintro _ rfl
  refine seq_cut (fun s' => ∃ x, s' = lst a b c (.val (.int n)) (.val (.int m)) (.own ((mirL n m).map D.str)) x w4) ?_ ?_
  · intro K hK
    simp only [run, runF, DL.get, DL.put, puts, back, mC, mVar, mFzV, mFeed, frz, msN, msC, mBin, mUn, dAdd, dSub, dMul, dDiv, dMod, dPow, dNeg, dCmp, dLt, dLe, dGt, dGe, dEq, dNe, dIn, dIsN, dIsNotN, isN, dIs, dIsNot, dTab, flatD, okT, truth, tV, tB, tAnd, tOr, tNot, mAnd, mOr, mNot, mIf, mChain, mList, mTup, dIx, mSl, oN, oS, mRev, mRevTo, mCall, mCallF, dLen, dAbs, dInt, dMin2, dMax2, dList, dTup, dSum, dMin, dMax, dMinG, dMaxG, dAll, isTy, mIsI, gV, gSkip, gsN, gsC, gT, srcV, srcR1, srcR2, srcEnum, srcRev, mComp, tYes, isS, isL, mMS, mML, dIndexS, dIndexL, dIndexFrom, mMS2, dCount, dSplit, dJoin, sNil, sSeq, sSet, sAsg, sPar, sRet, retK, sRetN, sIf, sPass, sBrk, sCont, sNever, sExpr, sAug, ownAt, feedAt, intD, sApp, sExt, sSetI, sAugI, sFeed, sFeedA, popD, sPop, sAddPop, sFor, DL.W.set, DL.W.at, DL.R.d, okD, eqD_none_none, eqD_none_bool, eqD_none_int, eqD_none_str, eqD_none_list, eqD_none_tup, eqD_bool_none, eqD_bool_bool, eqD_bool_int, eqD_bool_str, eqD_bool_list, eqD_bool_tup, eqD_int_none, eqD_int_bool, eqD_int_int, eqD_int_str, eqD_int_list, eqD_int_tup, eqD_str_none, eqD_str_bool, eqD_str_int, eqD_str_str, eqD_str_list, eqD_str_tup, eqD_list_none, eqD_list_bool, eqD_list_int, eqD_list_str, eqD_list_list, eqD_list_tup, eqD_tup_none, eqD_tup_bool, eqD_tup_int, eqD_tup_str, eqD_tup_list, eqD_tup_tup, eqDs_nn, eqDs_cc, eqDs_nc, eqDs_cn, List.map_cons, List.map_nil, List.map, List.cons_append, List.nil_append, List.replicate, List.length_cons, List.length_nil, Nat.reduceAdd, Nat.reduceSub, List.all_cons, List.all_nil, Bool.and_true, Bool.true_and, true_and, and_true, atI_map, ex_map, ex_some, List.length_map, beq_int, decide_eq_true_eq, if_true, if_false, Bool.false_eq_true, if_pos, reduceIte, at0, at1, at2, at3, dP, mCallX, mCallB, peekA, evA, evAs, eq_self, sRaise0, sRaise1, sTry, caught, unslot, unheld, mXArg, mXIs, runX, List.contains_cons, List.contains_nil, Slot.isExn, String.reduceBEq, ex_arg, ex_valB, Bool.or_false, Bool.false_or, Bool.or_true, Bool.true_or, Bool.not_false, Bool.not_true, mComp2, dGcd, dComb, dSortS, ar__law_right, ar__law_land, ar__law_some, ar__law_exchanged, ar__law_draw, ar__law_mirrored, ar_all_mirrored, ar__law_same, ar_is_mirrored, ar_has_like_rims, ar_has_turned_rims]
    exact ⟨by have := mirL_few' hn6 hm6; omega, hK _ ⟨_, rfl⟩⟩
  rintro _ ⟨x, rfl⟩
  refine seq_cut (fun s' => s' = lst a b c (.val (.int n)) (.val (.int m)) (.own ((mirL n m).map D.str)) x w4) ?_ ?_
  · intro K hK
    simp only [run, runF, DL.get, DL.put, puts, back, mC, mVar, mFzV, mFeed, frz, msN, msC, mBin, mUn, dAdd, dSub, dMul, dDiv, dMod, dPow, dNeg, dCmp, dLt, dLe, dGt, dGe, dEq, dNe, dIn, dIsN, dIsNotN, isN, dIs, dIsNot, dTab, flatD, okT, truth, tV, tB, tAnd, tOr, tNot, mAnd, mOr, mNot, mIf, mChain, mList, mTup, dIx, mSl, oN, oS, mRev, mRevTo, mCall, mCallF, dLen, dAbs, dInt, dMin2, dMax2, dList, dTup, dSum, dMin, dMax, dMinG, dMaxG, dAll, isTy, mIsI, gV, gSkip, gsN, gsC, gT, srcV, srcR1, srcR2, srcEnum, srcRev, mComp, tYes, isS, isL, mMS, mML, dIndexS, dIndexL, dIndexFrom, mMS2, dCount, dSplit, dJoin, sNil, sSeq, sSet, sAsg, sPar, sRet, retK, sRetN, sIf, sPass, sBrk, sCont, sNever, sExpr, sAug, ownAt, feedAt, intD, sApp, sExt, sSetI, sAugI, sFeed, sFeedA, popD, sPop, sAddPop, sFor, DL.W.set, DL.W.at, DL.R.d, okD, eqD_none_none, eqD_none_bool, eqD_none_int, eqD_none_str, eqD_none_list, eqD_none_tup, eqD_bool_none, eqD_bool_bool, eqD_bool_int, eqD_bool_str, eqD_bool_list, eqD_bool_tup, eqD_int_none, eqD_int_bool, eqD_int_int, eqD_int_str, eqD_int_list, eqD_int_tup, eqD_str_none, eqD_str_bool, eqD_str_int, eqD_str_str, eqD_str_list, eqD_str_tup, eqD_list_none, eqD_list_bool, eqD_list_int, eqD_list_str, eqD_list_list, eqD_list_tup, eqD_tup_none, eqD_tup_bool, eqD_tup_int, eqD_tup_str, eqD_tup_list, eqD_tup_tup, eqDs_nn, eqDs_cc, eqDs_nc, eqDs_cn, List.map_cons, List.map_nil, List.map, List.cons_append, List.nil_append, List.replicate, List.length_cons, List.length_nil, Nat.reduceAdd, Nat.reduceSub, List.all_cons, List.all_nil, Bool.and_true, Bool.true_and, true_and, and_true, atI_map, ex_map, ex_some, List.length_map, beq_int, decide_eq_true_eq, if_true, if_false, Bool.false_eq_true, if_pos, reduceIte, at0, at1, at2, at3, dP, mCallX, mCallB, peekA, evA, evAs, eq_self, sRaise0, sRaise1, sTry, caught, unslot, unheld, mXArg, mXIs, runX, List.contains_cons, List.contains_nil, Slot.isExn, String.reduceBEq, ex_arg, ex_valB, Bool.or_false, Bool.false_or, Bool.or_true, Bool.true_or, Bool.not_false, Bool.not_true, mComp2, dGcd, dComb, dSortS, ar__law_right, ar__law_land, ar__law_some, ar__law_exchanged, ar__law_draw, ar__law_mirrored, ar_all_mirrored, ar__law_same, ar_is_mirrored, ar_has_like_rims, ar_has_turned_rims]
    refine ⟨n1, hn6, m1, hm6, shp_mir hn6 hm6, ?_⟩
    rw [show [D.int 1, D.int 1] = [D.int ((1 : Nat) : Int), D.int ((1 : Nat) : Int)] from rfl, ar_all_mirrored, mirL_11]
    refine ⟨by decide, by decide, by decide, by decide, by decide, rfl, ?_, hK _ rfl⟩
    have := shp_mir (n := 1) (m := 1) (by decide) (by decide)
    rw [mirL_11] at this
    exact this
  rintro _ rfl
  refine seq_cut (fun s' => s' = lst a b c (.val (.int n)) (.val (.int m)) (.own ((mirL n m).map D.str)) x w4) ?_ ?_
  · intro K hK
    simp only [run, runF, DL.get, DL.put, puts, back, mC, mVar, mFzV, mFeed, frz, msN, msC, mBin, mUn, dAdd, dSub, dMul, dDiv, dMod, dPow, dNeg, dCmp, dLt, dLe, dGt, dGe, dEq, dNe, dIn, dIsN, dIsNotN, isN, dIs, dIsNot, dTab, flatD, okT, truth, tV, tB, tAnd, tOr, tNot, mAnd, mOr, mNot, mIf, mChain, mList, mTup, dIx, mSl, oN, oS, mRev, mRevTo, mCall, mCallF, dLen, dAbs, dInt, dMin2, dMax2, dList, dTup, dSum, dMin, dMax, dMinG, dMaxG, dAll, isTy, mIsI, gV, gSkip, gsN, gsC, gT, srcV, srcR1, srcR2, srcEnum, srcRev, mComp, tYes, isS, isL, mMS, mML, dIndexS, dIndexL, dIndexFrom, mMS2, dCount, dSplit, dJoin, sNil, sSeq, sSet, sAsg, sPar, sRet, retK, sRetN, sIf, sPass, sBrk, sCont, sNever, sExpr, sAug, ownAt, feedAt, intD, sApp, sExt, sSetI, sAugI, sFeed, sFeedA, popD, sPop, sAddPop, sFor, DL.W.set, DL.W.at, DL.R.d, okD, eqD_none_none, eqD_none_bool, eqD_none_int, eqD_none_str, eqD_none_list, eqD_none_tup, eqD_bool_none, eqD_bool_bool, eqD_bool_int, eqD_bool_str, eqD_bool_list, eqD_bool_tup, eqD_int_none, eqD_int_bool, eqD_int_int, eqD_int_str, eqD_int_list, eqD_int_tup, eqD_str_none, eqD_str_bool, eqD_str_int, eqD_str_str, eqD_str_list, eqD_str_tup, eqD_list_none, eqD_list_bool, eqD_list_int, eqD_list_str, eqD_list_list, eqD_list_tup, eqD_tup_none, eqD_tup_bool, eqD_tup_int, eqD_tup_str, eqD_tup_list, eqD_tup_tup, eqDs_nn, eqDs_cc, eqDs_nc, eqDs_cn, List.map_cons, List.map_nil, List.map, List.cons_append, List.nil_append, List.replicate, List.length_cons, List.length_nil, Nat.reduceAdd, Nat.reduceSub, List.all_cons, List.all_nil, Bool.and_true, Bool.true_and, true_and, and_true, atI_map, ex_map, ex_some, List.length_map, beq_int, decide_eq_true_eq, if_true, if_false, Bool.false_eq_true, if_pos, reduceIte, at0, at1, at2, at3, dP, mCallX, mCallB, peekA, evA, evAs, eq_self, sRaise0, sRaise1, sTry, caught, unslot, unheld, mXArg, mXIs, runX, List.contains_cons, List.contains_nil, Slot.isExn, String.reduceBEq, ex_arg, ex_valB, Bool.or_false, Bool.false_or, Bool.or_true, Bool.true_or, Bool.not_false, Bool.not_true, mComp2, dGcd, dComb, dSortS, ar__law_right, ar__law_land, ar__law_some, ar__law_exchanged, ar__law_draw, ar__law_mirrored, ar_all_mirrored, ar__law_same, ar_is_mirrored, ar_has_like_rims, ar_has_turned_rims]
    exact ⟨⟨by decide, by decide, by decide⟩, by decide, ⟨by decide, by decide, by decide⟩, by decide, ⟨by decide, by decide, by decide⟩, by decide, hK _ rfl⟩
  rintro _ rfl
  simp only [run, runF, DL.get, DL.put, puts, back, mC, mVar, mFzV, mFeed, frz, msN, msC, mBin, mUn, dAdd, dSub, dMul, dDiv, dMod, dPow, dNeg, dCmp, dLt, dLe, dGt, dGe, dEq, dNe, dIn, dIsN, dIsNotN, isN, dIs, dIsNot, dTab, flatD, okT, truth, tV, tB, tAnd, tOr, tNot, mAnd, mOr, mNot, mIf, mChain, mList, mTup, dIx, mSl, oN, oS, mRev, mRevTo, mCall, mCallF, dLen, dAbs, dInt, dMin2, dMax2, dList, dTup, dSum, dMin, dMax, dMinG, dMaxG, dAll, isTy, mIsI, gV, gSkip, gsN, gsC, gT, srcV, srcR1, srcR2, srcEnum, srcRev, mComp, tYes, isS, isL, mMS, mML, dIndexS, dIndexL, dIndexFrom, mMS2, dCount, dSplit, dJoin, sNil, sSeq, sSet, sAsg, sPar, sRet, retK, sRetN, sIf, sPass, sBrk, sCont, sNever, sExpr, sAug, ownAt, feedAt, intD, sApp, sExt, sSetI, sAugI, sFeed, sFeedA, popD, sPop, sAddPop, sFor, DL.W.set, DL.W.at, DL.R.d, okD, eqD_none_none, eqD_none_bool, eqD_none_int, eqD_none_str, eqD_none_list, eqD_none_tup, eqD_bool_none, eqD_bool_bool, eqD_bool_int, eqD_bool_str, eqD_bool_list, eqD_bool_tup, eqD_int_none, eqD_int_bool, eqD_int_int, eqD_int_str, eqD_int_list, eqD_int_tup, eqD_str_none, eqD_str_bool, eqD_str_int, eqD_str_str, eqD_str_list, eqD_str_tup, eqD_list_none, eqD_list_bool, eqD_list_int, eqD_list_str, eqD_list_list, eqD_list_tup, eqD_tup_none, eqD_tup_bool, eqD_tup_int, eqD_tup_str, eqD_tup_list, eqD_tup_tup, eqDs_nn, eqDs_cc, eqDs_nc, eqDs_cn, List.map_cons, List.map_nil, List.map, List.cons_append, List.nil_append, List.replicate, List.length_cons, List.length_nil, Nat.reduceAdd, Nat.reduceSub, List.all_cons, List.all_nil, Bool.and_true, Bool.true_and, true_and, and_true, atI_map, ex_map, ex_some, List.length_map, beq_int, decide_eq_true_eq, if_true, if_false, Bool.false_eq_true, if_pos, reduceIte, at0, at1, at2, at3, dP, mCallX, mCallB, peekA, evA, evAs, eq_self, sRaise0, sRaise1, sTry, caught, unslot, unheld, mXArg, mXIs, runX, List.contains_cons, List.contains_nil, Slot.isExn, String.reduceBEq, ex_arg, ex_valB, Bool.or_false, Bool.false_or, Bool.or_true, Bool.true_or, Bool.not_false, Bool.not_true, mComp2, dGcd, dComb, dSortS, ar__law_right, ar__law_land, ar__law_some, ar__law_exchanged, ar__law_draw, ar__law_mirrored, ar_all_mirrored, ar__law_same, ar_is_mirrored, ar_has_like_rims, ar_has_turned_rims]
  have e1 : turnC [111, 111, 105, 111, 105, 105].reverse [111, 111, 105, 111, 105, 105] = false := by decide +kernel
  have e2 : turnC (exg [111, 111, 105, 111, 105, 105]) [111, 111, 105, 111, 105, 105] = false := by decide +kernel
  have e3 : turnC (exg [111, 111, 105, 111, 105, 105]).reverse [111, 111, 105, 111, 105, 105] = true := by decide +kernel
  rw [e1, e2, e3]
  have hs : shp 5 (.list [.bool false, .bool false, .bool true]) := .inr ⟨_, .inl rfl, by simp, fun e he => by
    rcases List.mem_cons.mp he with rfl | he
    · exact shp_leaf (.inr (.inl ⟨_, rfl⟩)) _
    rcases List.mem_cons.mp he with rfl | he
    · exact shp_leaf (.inr (.inl ⟨_, rfl⟩)) _
    rcases List.mem_cons.mp he with rfl | he
    · exact shp_leaf (.inr (.inl ⟨_, rfl⟩)) _
    · cases he⟩
  have ha : ∀ x ∈ [111, 111, 105, 111, 105, 105], x = 111 ∨ x = 105 := by decide
  exact ⟨by decide, by decide, ha, by decide, by decide, ha, by decide, by decide, ha, by decide, by decide, rfl, hs⟩

end K89

/-! The defs walk. -/
namespace K89
open PySem PySem.Spec PyProof.Rows L2 DL

def topS (i : Nat) : Stmt := PySem.Challenge.pw_ringlands_k89_whole_mirrors_of_lands.main.body.getD i (.Pass ⟨0, 0, 0, 0⟩)
section
variable {P : Program} {w : World} {K : PySem.W.Frag} {mg : Str → Option Value} {base : Heap}
abbrev s__law_feed : Stmt := topS 22
abbrev n__law_feed : List Str := ["script"]
theorem sc__law_feed : FnScope ["script"] ["script"] (defScope s__law_feed) := ⟨rfl, rfl, rfl, by decide +kernel, rfl, by decide +kernel, by decide +kernel⟩
abbrev s__law_words : Stmt := topS 30
abbrev n__law_words : List Str := ["n", "m", "words", "step", "longer", "word"]
theorem sc__law_words : FnScope ["n", "m", "words", "step", "longer", "word"] ["n", "m"] (defScope s__law_words) := ⟨rfl, rfl, rfl, by decide +kernel, rfl, by decide +kernel, by decide +kernel⟩
theorem w__law_words {f : Addr} {cdv : Value} {A : Around} {outer : List PySem.Env} {s : Shared} {H : Hp} {E : XK} {c : Ct} (ok : Ok (bodyCx P w K mg base n__law_words "_law_words" (defScope s__law_words) f cdv A outer s H E) c) :
  PSs (bodyCx P w K mg base n__law_words "_law_words" (defScope s__law_words) f cdv A outer s H E) (defBody s__law_words) (tS c (b__law_words)) := by
  exact (dss_cons (ds_set 2 (de_list (da_cons de_str da_nil)))
  (dss_cons (ds_for PassesOwn.never (ds_range1 (de_add (de_var 0) (de_var 1))) (dg_name 3)
  (dss_cons (ds_set 4 (de_list da_nil))
  (dss_cons (ds_for PassesOwn.never (ds_val (de_fz 2)) (dg_name 5)
  (dss_cons (ds_if (dt_lt (de_count (de_var 5) de_str) (de_var 0))
  (dss_one (ds_app 4 (de_add (de_var 5) de_str)))
  dss_nil)
  (dss_one (ds_if (dt_lt (de_count (de_var 5) de_str) (de_var 1))
  (dss_one (ds_app 4 (de_add (de_var 5) de_str)))
  dss_nil))))
  (dss_one (ds_set 2 (de_fz 4))))))
  (dss_one (ds_ret (de_var 2)))))
abbrev s__law_turnings : Stmt := topS 27
abbrev n__law_turnings : List Str := ["word", "at"]
theorem sc__law_turnings : FnScope ["word", "at"] ["word"] (defScope s__law_turnings) := ⟨rfl, rfl, rfl, by decide +kernel, rfl, by decide +kernel, by decide +kernel⟩
theorem w__law_turnings {f : Addr} {cdv : Value} {A : Around} {outer : List PySem.Env} {s : Shared} {H : Hp} {E : XK} {c : Ct} (ok : Ok (bodyCx P w K mg base n__law_turnings "_law_turnings" (defScope s__law_turnings) f cdv A outer s H E) c) :
  PSs (bodyCx P w K mg base n__law_turnings "_law_turnings" (defScope s__law_turnings) f cdv A outer s H E) (defBody s__law_turnings) (tS c (b__law_turnings)) := by
  exact (dss_one (ds_ret (de_comp [("at", 1)] (ds_range1 (de_len (de_var 0))) (show blkC n__law_turnings (defScope s__law_turnings) _ _ = true by decide +kernel) (fun _ _ _ _ _ _ _ => (dg_name 1)) (fun _ _ _ _ _ _ _ => (tYesT _)) (fun _ _ _ _ _ _ _ => (de_add (de_slice (de_var 0) (do_some (de_var 1)) do_none) (de_slice (de_var 0) do_none (do_some (de_var 1))))))))
abbrev s__law_mirrored : Stmt := topS 31
abbrev n__law_mirrored : List Str := ["n", "m", "found", "word", "turnings"]
theorem sc__law_mirrored : FnScope ["n", "m", "found", "word", "turnings"] ["n", "m"] (defScope s__law_mirrored) := ⟨rfl, rfl, rfl, by decide +kernel, rfl, by decide +kernel, by decide +kernel⟩
theorem w__law_mirrored {g__law_words : Sem} {g__law_turnings : Sem} {f : Addr} {cdv : Value} {A : Around} {outer : List PySem.Env} {s : Shared} {H : Hp} {E : XK} {c : Ct} (k__law_words : Kn (bodyCx P w K mg base n__law_mirrored "_law_mirrored" (defScope s__law_mirrored) f cdv A outer s H E) "_law_words" (spD K g__law_words)) (k__law_turnings : Kn (bodyCx P w K mg base n__law_mirrored "_law_mirrored" (defScope s__law_mirrored) f cdv A outer s H E) "_law_turnings" (spD K g__law_turnings)) (ok : Ok (bodyCx P w K mg base n__law_mirrored "_law_mirrored" (defScope s__law_mirrored) f cdv A outer s H E) c) :
  PSs (bodyCx P w K mg base n__law_mirrored "_law_mirrored" (defScope s__law_mirrored) f cdv A outer s H E) (defBody s__law_mirrored) (tS c (b__law_mirrored g__law_words g__law_turnings)) := by
  exact (dss_cons (ds_set 2 (de_list da_nil))
  (dss_cons (ds_for PassesOwn.never (ds_val (de_call k__law_words (da_cons (de_fz 0) (da_cons (de_fz 1) da_nil)))) (dg_name 3)
  (dss_cons (ds_set 4 (de_call k__law_turnings (da_cons (de_fz 3) da_nil)))
  (dss_one (ds_if (PW.pt (dw_and (dt_eq (de_var 3) (de_minG (de_var 4))) (dw_and1 (dt_in (de_rev (de_var 3)) (de_var 4)))))
  (dss_one (ds_app 2 (de_fz 3)))
  dss_nil))))
  (dss_one (ds_ret (de_sortS (de_var 2))))))
abbrev s_fixed_by : Stmt := topS 9
abbrev n_fixed_by : List Str := ["n", "m", "k", "size"]
theorem sc_fixed_by : FnScope ["n", "m", "k", "size"] ["n", "m", "k"] (defScope s_fixed_by) := ⟨rfl, rfl, rfl, by decide +kernel, rfl, by decide +kernel, by decide +kernel⟩
theorem w_fixed_by {f : Addr} {cdv : Value} {A : Around} {outer : List PySem.Env} {s : Shared} {H : Hp} {E : XK} {c : Ct} (hc_gcd : KB mg "gcd" "math.gcd") (hc_comb : KB mg "comb" "math.comb") (ok : Ok (bodyCx P w K mg base n_fixed_by "fixed_by" (defScope s_fixed_by) f cdv A outer s H E) c) :
  PSs (bodyCx P w K mg base n_fixed_by "fixed_by" (defScope s_fixed_by) f cdv A outer s H E) (defBody s_fixed_by) (tS c (b_fixed_by)) := by
  exact (dss_cons (ds_set 3 (de_gcd hc_gcd (de_var 2) (de_add (de_var 0) (de_var 1))))
  (dss_cons (ds_if (dt_gt (de_mod (de_mul (de_var 0) (de_var 3)) (de_add (de_var 0) (de_var 1))) de_int)
  (dss_one (ds_ret de_int))
  dss_nil)
  (dss_one (ds_ret (de_comb hc_comb (de_var 3) (de_div (de_mul (de_var 0) (de_var 3)) (de_add (de_var 0) (de_var 1))))))))
abbrev s_count_lands : Stmt := topS 10
abbrev n_count_lands : List Str := ["n", "m", "k"]
theorem sc_count_lands : FnScope ["n", "m", "k"] ["n", "m"] (defScope s_count_lands) := ⟨rfl, rfl, rfl, by decide +kernel, rfl, by decide +kernel, by decide +kernel⟩
theorem w_count_lands {g_fixed_by : Sem} {f : Addr} {cdv : Value} {A : Around} {outer : List PySem.Env} {s : Shared} {H : Hp} {E : XK} {c : Ct} (k_fixed_by : Kn (bodyCx P w K mg base n_count_lands "count_lands" (defScope s_count_lands) f cdv A outer s H E) "fixed_by" (spD K g_fixed_by)) (ok : Ok (bodyCx P w K mg base n_count_lands "count_lands" (defScope s_count_lands) f cdv A outer s H E) c) :
  PSs (bodyCx P w K mg base n_count_lands "count_lands" (defScope s_count_lands) f cdv A outer s H E) (defBody s_count_lands) (tS c (b_count_lands g_fixed_by)) := by
  exact (dss_one (ds_ret (de_div (de_sum (de_comp [("k", 2)] (ds_range1 (de_add (de_var 0) (de_var 1))) (show blkC n_count_lands (defScope s_count_lands) _ _ = true by decide +kernel) (fun _ _ _ _ _ _ _ => (dg_name 2)) (fun _ _ _ _ _ _ _ => (tYesT _)) (fun _ _ _ _ _ _ _ => (de_call ⟨k_fixed_by.ex⟩ (da_cons (de_fz 0) (da_cons (de_fz 1) (da_cons (de_fz 2) da_nil))))))) (de_add (de_var 0) (de_var 1)))))
abbrev s_all_words : Stmt := topS 11
abbrev n_all_words : List Str := ["n", "m", "words", "_", "longer", "word"]
theorem sc_all_words : FnScope ["n", "m", "words", "_", "longer", "word"] ["n", "m"] (defScope s_all_words) := ⟨rfl, rfl, rfl, by decide +kernel, rfl, by decide +kernel, by decide +kernel⟩
theorem w_all_words {f : Addr} {cdv : Value} {A : Around} {outer : List PySem.Env} {s : Shared} {H : Hp} {E : XK} {c : Ct} (ok : Ok (bodyCx P w K mg base n_all_words "all_words" (defScope s_all_words) f cdv A outer s H E) c) :
  PSs (bodyCx P w K mg base n_all_words "all_words" (defScope s_all_words) f cdv A outer s H E) (defBody s_all_words) (tS c (b_all_words)) := by
  exact (dss_cons (ds_set 2 (de_list (da_cons de_str da_nil)))
  (dss_cons (ds_for PassesOwn.never (ds_range1 (de_add (de_var 0) (de_var 1))) (dg_name 3)
  (dss_cons (ds_set 4 (de_list da_nil))
  (dss_cons (ds_for PassesOwn.never (ds_val (de_fz 2)) (dg_name 5)
  (dss_cons (ds_if (dt_lt (de_count (de_var 5) de_str) (de_var 1))
  (dss_one (ds_app 4 (de_add (de_var 5) de_str)))
  dss_nil)
  (dss_one (ds_if (dt_lt (de_count (de_var 5) de_str) (de_var 0))
  (dss_one (ds_app 4 (de_add (de_var 5) de_str)))
  dss_nil))))
  (dss_one (ds_set 2 (de_fz 4))))))
  (dss_one (ds_ret (de_var 2)))))
abbrev s_begun_at : Stmt := topS 5
abbrev n_begun_at : List Str := ["word", "at"]
theorem sc_begun_at : FnScope ["word", "at"] ["word", "at"] (defScope s_begun_at) := ⟨rfl, rfl, rfl, by decide +kernel, rfl, by decide +kernel, by decide +kernel⟩
theorem w_begun_at {f : Addr} {cdv : Value} {A : Around} {outer : List PySem.Env} {s : Shared} {H : Hp} {E : XK} {c : Ct} (ok : Ok (bodyCx P w K mg base n_begun_at "begun_at" (defScope s_begun_at) f cdv A outer s H E) c) :
  PSs (bodyCx P w K mg base n_begun_at "begun_at" (defScope s_begun_at) f cdv A outer s H E) (defBody s_begun_at) (tS c (b_begun_at)) := by
  exact (dss_one (ds_ret (de_add (de_slice (de_var 0) (do_some (de_var 1)) do_none) (de_slice (de_var 0) do_none (do_some (de_var 1))))))
abbrev s_least_land : Stmt := topS 6
abbrev n_least_land : List Str := ["word", "at"]
theorem sc_least_land : FnScope ["word", "at"] ["word"] (defScope s_least_land) := ⟨rfl, rfl, rfl, by decide +kernel, rfl, by decide +kernel, by decide +kernel⟩
theorem w_least_land {g_begun_at : Sem} {f : Addr} {cdv : Value} {A : Around} {outer : List PySem.Env} {s : Shared} {H : Hp} {E : XK} {c : Ct} (k_begun_at : Kn (bodyCx P w K mg base n_least_land "least_land" (defScope s_least_land) f cdv A outer s H E) "begun_at" (spD K g_begun_at)) (ok : Ok (bodyCx P w K mg base n_least_land "least_land" (defScope s_least_land) f cdv A outer s H E) c) :
  PSs (bodyCx P w K mg base n_least_land "least_land" (defScope s_least_land) f cdv A outer s H E) (defBody s_least_land) (tS c (b_least_land g_begun_at)) := by
  exact (dss_one (ds_ret (de_minG (de_comp [("at", 1)] (ds_range1 (de_len (de_var 0))) (show blkC n_least_land (defScope s_least_land) _ _ = true by decide +kernel) (fun _ _ _ _ _ _ _ => (dg_name 1)) (fun _ _ _ _ _ _ _ => (tYesT _)) (fun _ _ _ _ _ _ _ => (de_call ⟨k_begun_at.ex⟩ (da_cons (de_fz 0) (da_cons (de_fz 1) da_nil))))))))
abbrev s_all_lands : Stmt := topS 12
abbrev n_all_lands : List Str := ["n", "m", "word"]
theorem sc_all_lands : FnScope ["n", "m", "word"] ["n", "m"] (defScope s_all_lands) := ⟨rfl, rfl, rfl, by decide +kernel, rfl, by decide +kernel, by decide +kernel⟩
theorem w_all_lands {g_count_lands : Sem} {g_all_words : Sem} {g_least_land : Sem} {f : Addr} {cdv : Value} {A : Around} {outer : List PySem.Env} {s : Shared} {H : Hp} {E : XK} {c : Ct} (hc_MOST_TOLD : KC K mg "MOST_TOLD" c_MOST_TOLD) (k_count_lands : Kn (bodyCx P w K mg base n_all_lands "all_lands" (defScope s_all_lands) f cdv A outer s H E) "count_lands" (spD K g_count_lands)) (k_all_words : Kn (bodyCx P w K mg base n_all_lands "all_lands" (defScope s_all_lands) f cdv A outer s H E) "all_words" (spD K g_all_words)) (k_least_land : Kn (bodyCx P w K mg base n_all_lands "all_lands" (defScope s_all_lands) f cdv A outer s H E) "least_land" (spD K g_least_land)) (ok : Ok (bodyCx P w K mg base n_all_lands "all_lands" (defScope s_all_lands) f cdv A outer s H E) c) :
  PSs (bodyCx P w K mg base n_all_lands "all_lands" (defScope s_all_lands) f cdv A outer s H E) (defBody s_all_lands) (tS c (b_all_lands g_count_lands g_all_words g_least_land)) := by
  exact (dss_cons (ds_if (dt_gt (de_call k_count_lands (da_cons (de_fz 0) (da_cons (de_fz 1) da_nil))) (de_globK hc_MOST_TOLD))
  (dss_one ds_never)
  dss_nil)
  (dss_one (ds_ret (de_comp [("word", 2)] (ds_val (de_call k_all_words (da_cons (de_fz 0) (da_cons (de_fz 1) da_nil)))) (show blkC n_all_lands (defScope s_all_lands) _ _ = true by decide +kernel) (fun _ _ _ _ _ _ _ => (dg_name 2)) (fun _ _ _ _ _ _ _ => (dts_one (dt_eq (de_call ⟨k_least_land.ex⟩ (da_cons (de_fz 2) da_nil)) (de_var 2)))) (fun _ _ _ _ _ _ _ => (de_fz 2))))))
abbrev s_are_turnings : Stmt := topS 15
abbrev n_are_turnings : List Str := ["word", "other"]
theorem sc_are_turnings : FnScope ["word", "other"] ["word", "other"] (defScope s_are_turnings) := ⟨rfl, rfl, rfl, by decide +kernel, rfl, by decide +kernel, by decide +kernel⟩
theorem w_are_turnings {g_least_land : Sem} {f : Addr} {cdv : Value} {A : Around} {outer : List PySem.Env} {s : Shared} {H : Hp} {E : XK} {c : Ct} (k_least_land : Kn (bodyCx P w K mg base n_are_turnings "are_turnings" (defScope s_are_turnings) f cdv A outer s H E) "least_land" (spD K g_least_land)) (ok : Ok (bodyCx P w K mg base n_are_turnings "are_turnings" (defScope s_are_turnings) f cdv A outer s H E) c) :
  PSs (bodyCx P w K mg base n_are_turnings "are_turnings" (defScope s_are_turnings) f cdv A outer s H E) (defBody s_are_turnings) (tS c (b_are_turnings g_least_land)) := by
  exact (dss_one (ds_ret (de_eq (de_call k_least_land (da_cons (de_fz 0) da_nil)) (de_call k_least_land (da_cons (de_fz 1) da_nil)))))
abbrev s_is_mirrored : Stmt := topS 16
abbrev n_is_mirrored : List Str := ["word"]
theorem sc_is_mirrored : FnScope ["word"] ["word"] (defScope s_is_mirrored) := ⟨rfl, rfl, rfl, by decide +kernel, rfl, by decide +kernel, by decide +kernel⟩
theorem w_is_mirrored {g_are_turnings : Sem} {f : Addr} {cdv : Value} {A : Around} {outer : List PySem.Env} {s : Shared} {H : Hp} {E : XK} {c : Ct} (k_are_turnings : Kn (bodyCx P w K mg base n_is_mirrored "is_mirrored" (defScope s_is_mirrored) f cdv A outer s H E) "are_turnings" (spD K g_are_turnings)) (ok : Ok (bodyCx P w K mg base n_is_mirrored "is_mirrored" (defScope s_is_mirrored) f cdv A outer s H E) c) :
  PSs (bodyCx P w K mg base n_is_mirrored "is_mirrored" (defScope s_is_mirrored) f cdv A outer s H E) (defBody s_is_mirrored) (tS c (b_is_mirrored g_are_turnings)) := by
  exact (dss_one (ds_ret (de_call k_are_turnings (da_cons (de_fz 0) (da_cons (de_rev (de_var 0)) da_nil)))))
abbrev s_all_mirrored : Stmt := topS 20
abbrev n_all_mirrored : List Str := ["n", "m", "word"]
theorem sc_all_mirrored : FnScope ["n", "m", "word"] ["n", "m"] (defScope s_all_mirrored) := ⟨rfl, rfl, rfl, by decide +kernel, rfl, by decide +kernel, by decide +kernel⟩
theorem w_all_mirrored {g_all_lands : Sem} {g_is_mirrored : Sem} {f : Addr} {cdv : Value} {A : Around} {outer : List PySem.Env} {s : Shared} {H : Hp} {E : XK} {c : Ct} (k_all_lands : Kn (bodyCx P w K mg base n_all_mirrored "all_mirrored" (defScope s_all_mirrored) f cdv A outer s H E) "all_lands" (spD K g_all_lands)) (k_is_mirrored : Kn (bodyCx P w K mg base n_all_mirrored "all_mirrored" (defScope s_all_mirrored) f cdv A outer s H E) "is_mirrored" (spD K g_is_mirrored)) (ok : Ok (bodyCx P w K mg base n_all_mirrored "all_mirrored" (defScope s_all_mirrored) f cdv A outer s H E) c) :
  PSs (bodyCx P w K mg base n_all_mirrored "all_mirrored" (defScope s_all_mirrored) f cdv A outer s H E) (defBody s_all_mirrored) (tS c (b_all_mirrored g_all_lands g_is_mirrored)) := by
  exact (dss_one (ds_ret (de_comp [("word", 2)] (ds_val (de_call k_all_lands (da_cons (de_fz 0) (da_cons (de_fz 1) da_nil)))) (show blkC n_all_mirrored (defScope s_all_mirrored) _ _ = true by decide +kernel) (fun _ _ _ _ _ _ _ => (dg_name 2)) (fun _ _ _ _ _ _ _ => (dts_one (dt_val (de_call ⟨k_is_mirrored.ex⟩ (da_cons (de_fz 2) da_nil))))) (fun _ _ _ _ _ _ _ => (de_fz 2)))))
abbrev s__law_same : Stmt := topS 24
abbrev n__law_same : List Str := ["actual", "due", "k"]
theorem sc__law_same : FnScope ["actual", "due", "k"] ["actual", "due"] (defScope s__law_same) := ⟨rfl, rfl, rfl, by decide +kernel, rfl, by decide +kernel, by decide +kernel⟩
theorem w__law_same {g__law_same : Sem} {f : Addr} {cdv : Value} {A : Around} {outer : List PySem.Env} {s : Shared} {H : Hp} {E : XK} {c : Ct} (k__law_same : Kn (bodyCx P w K mg base n__law_same "_law_same" (defScope s__law_same) f cdv A outer s H E) "_law_same" (spD K g__law_same)) (ok : Ok (bodyCx P w K mg base n__law_same "_law_same" (defScope s__law_same) f cdv A outer s H E) c) :
  PSs (bodyCx P w K mg base n__law_same "_law_same" (defScope s__law_same) f cdv A outer s H E) (defBody s__law_same) (tS c (b__law_same g__law_same)) := by
  exact (dss_cons (ds_if (PW.pt (dw_or (dt_val (de_isI .list (de_var 1) (by decide +kernel))) (dw_or1 (dt_val (de_isI .tuple (de_var 1) (by decide +kernel))))))
  (dss_cons (ds_if (PW.pt (dw_or (dt_ne (de_isI .list (de_var 0) (by decide +kernel)) (de_isI .list (de_var 1) (by decide +kernel))) (dw_or1 (dt_ne (de_isI .tuple (de_var 0) (by decide +kernel)) (de_isI .tuple (de_var 1) (by decide +kernel))))))
  (dss_one (ds_ret de_bool))
  dss_nil)
  (dss_one (ds_ret (de_and (de_eq (de_len (de_var 0)) (de_len (de_var 1))) (de_one (de_all (de_comp [("k", 2)] (ds_range1 (de_len (de_var 1))) (show blkC n__law_same (defScope s__law_same) _ _ = true by decide +kernel) (fun _ _ _ _ _ _ _ => (dg_name 2)) (fun _ _ _ _ _ _ _ => (tYesT _)) (fun _ _ _ _ _ _ _ => (de_call ⟨k__law_same.ex⟩ (da_cons (de_ix (de_var 0) (de_var 2)) (da_cons (de_ix (de_var 1) (de_var 2)) da_nil)))))))))))
  dss_nil)
  (dss_cons (ds_if (PW.pt (dw_or (dt_isN (de_var 1)) (dw_or1 (dt_val (de_isI .bool (de_var 1) (by decide +kernel))))))
  (dss_one (ds_ret (de_if (dt_isN (de_var 1)) (de_isN (de_var 0)) (de_and (de_isI .bool (de_var 0) (by decide +kernel)) (de_one (de_eq (de_var 0) (de_var 1)))))))
  dss_nil)
  (dss_cons (ds_if (dt_val (de_isI .str (de_var 1) (by decide +kernel)))
  (dss_one (ds_ret (de_and (de_isI .str (de_var 0) (by decide +kernel)) (de_one (de_eq (de_var 0) (de_var 1))))))
  dss_nil)
  (dss_one (ds_ret (de_and (de_isI .int (de_var 0) (by decide +kernel)) (de_and (de_not (de_isI .bool (de_var 0) (by decide +kernel))) (de_one (de_eq (de_var 0) (de_var 1))))))))))
abbrev s__law_draw : Stmt := topS 23
abbrev n__law_draw : List Str := ["feed", "many", "cell", "told", "mixed"]
theorem sc__law_draw : FnScope ["feed", "many", "cell", "told", "mixed"] ["feed", "many"] (defScope s__law_draw) := ⟨rfl, rfl, rfl, by decide +kernel, rfl, by decide +kernel, by decide +kernel⟩
theorem w__law_draw {f : Addr} {cdv : Value} {A : Around} {outer : List PySem.Env} {s : Shared} {H : Hp} {E : XK} {c : Ct} (ok : Ok (bodyCx P w K mg base n__law_draw "_law_draw" (defScope s__law_draw) f cdv A outer s H E) c) :
  PSs (bodyCx P w K mg base n__law_draw "_law_draw" (defScope s__law_draw) f cdv A outer s H E) (defBody s__law_draw) (tS c (b__law_draw)) := by
  exact (dss_cons (ds_if (PW.pt (dw_and (dt_eq (de_feed 0 2) de_int) (dw_and1 (dt_lt (de_feed 0 1) (de_len (de_feed 0 0))))))
  (dss_cons (ds_set 2 (de_abs (de_toInt (de_ix (de_feed 0 0) (de_feed 0 1)))))
  (dss_cons (ds_feedA 0 1)
  (dss_one (ds_if (dt_ge (de_var 2) (de_pow de_int de_int))
  (dss_one (ds_feed 0 2 (de_fz 2)))
  (dss_one (ds_feed 0 3 (de_mod (de_toInt (de_add (de_add (de_mul (de_feed 0 3) de_int) (de_mul (de_var 2) de_int)) (de_feed 0 1))) de_int)))))))
  dss_nil)
  (dss_cons (ds_if (dt_gt (de_feed 0 2) de_int)
  (dss_cons (ds_set 3 (de_mod (de_toInt (de_feed 0 2)) (de_var 1)))
  (dss_cons (ds_feed 0 2 (de_div (de_feed 0 2) (de_var 1)))
  (dss_one (ds_ret (de_var 3)))))
  dss_nil)
  (dss_cons (ds_feed 0 3 (de_mod (de_toInt (de_add (de_mul (de_feed 0 3) de_int) de_int)) de_int))
  (dss_cons (ds_set 4 (de_mod (de_toInt (de_add (de_mul (de_feed 0 3) (de_feed 0 3)) (de_feed 0 3))) de_int))
  (dss_one (ds_ret (de_mod (de_div (de_var 4) de_int) (de_var 1))))))))
abbrev s__law_land : Stmt := topS 26
abbrev n__law_land : List Str := ["feed", "top", "outer", "inner", "word", "step"]
theorem sc__law_land : FnScope ["feed", "top", "outer", "inner", "word", "step"] ["feed"] (defScope s__law_land) := ⟨rfl, rfl, rfl, by decide +kernel, rfl, by decide +kernel, by decide +kernel⟩
theorem w__law_land {g__law_draw : Sem} {f : Addr} {cdv : Value} {A : Around} {outer : List PySem.Env} {s : Shared} {H : Hp} {E : XK} {c : Ct} (k__law_draw : Kn (bodyCx P w K mg base n__law_land "_law_land" (defScope s__law_land) f cdv A outer s H E) "_law_draw" (spF K g__law_draw)) (ok : Ok (bodyCx P w K mg base n__law_land "_law_land" (defScope s__law_land) f cdv A outer s H E) c) :
  PSs (bodyCx P w K mg base n__law_land "_law_land" (defScope s__law_land) f cdv A outer s H E) (defBody s__law_land) (tS c (b__law_land g__law_draw)) := by
  exact (dss_cons (ds_set 1 (de_ix (de_list (da_cons de_int (da_cons de_int da_nil))) (de_callF 0 k__law_draw (da_cons de_int da_nil))))
  (dss_cons (ds_set 2 (de_add de_int (de_callF 0 k__law_draw (da_cons (de_fz 1) da_nil))))
  (dss_cons (ds_set 3 (de_add de_int (de_callF 0 k__law_draw (da_cons (de_fz 1) da_nil))))
  (dss_cons (ds_set 4 de_str)
  (dss_cons (ds_for PassesOwn.never (ds_range1 (de_add (de_var 2) (de_var 3))) (dg_name 5)
  (dss_one (ds_if (dt_lt (de_callF 0 k__law_draw (da_cons (de_add (de_var 2) (de_var 3)) da_nil)) (de_var 2))
  (dss_cons (ds_set 4 (de_add (de_var 4) de_str))
  (dss_one (ds_aug 2 ip_sub de_int)))
  (dss_cons (ds_set 4 (de_add (de_var 4) de_str))
  (dss_one (ds_aug 3 ip_sub de_int))))))
  (dss_one (ds_ret (de_var 4))))))))
abbrev s__law_exchanged : Stmt := topS 28
abbrev n__law_exchanged : List Str := ["word", "told", "sign"]
theorem sc__law_exchanged : FnScope ["word", "told", "sign"] ["word"] (defScope s__law_exchanged) := ⟨rfl, rfl, rfl, by decide +kernel, rfl, by decide +kernel, by decide +kernel⟩
theorem w__law_exchanged {f : Addr} {cdv : Value} {A : Around} {outer : List PySem.Env} {s : Shared} {H : Hp} {E : XK} {c : Ct} (ok : Ok (bodyCx P w K mg base n__law_exchanged "_law_exchanged" (defScope s__law_exchanged) f cdv A outer s H E) c) :
  PSs (bodyCx P w K mg base n__law_exchanged "_law_exchanged" (defScope s__law_exchanged) f cdv A outer s H E) (defBody s__law_exchanged) (tS c (b__law_exchanged)) := by
  exact (dss_cons (ds_set 1 de_str)
  (dss_cons (ds_for PassesOwn.never (ds_val (de_fz 0)) (dg_name 2)
  (dss_one (ds_set 1 (de_add (de_var 1) (de_ix (de_list (da_cons de_str (da_cons de_str da_nil))) (de_toInt (de_eq (de_var 2) de_str)))))))
  (dss_one (ds_ret (de_var 1)))))
abbrev s__law_some : Stmt := topS 32
abbrev n__law_some : List Str := ["feed", "kind", "part", "word", "at"]
theorem sc__law_some : FnScope ["feed", "kind", "part", "word", "at"] ["feed", "kind"] (defScope s__law_some) := ⟨rfl, rfl, rfl, by decide +kernel, rfl, by decide +kernel, by decide +kernel⟩
theorem w__law_some {g__law_land : Sem} {g__law_exchanged : Sem} {g__law_draw : Sem} {f : Addr} {cdv : Value} {A : Around} {outer : List PySem.Env} {s : Shared} {H : Hp} {E : XK} {c : Ct} (k__law_land : Kn (bodyCx P w K mg base n__law_some "_law_some" (defScope s__law_some) f cdv A outer s H E) "_law_land" (spF K g__law_land)) (k__law_exchanged : Kn (bodyCx P w K mg base n__law_some "_law_some" (defScope s__law_some) f cdv A outer s H E) "_law_exchanged" (spD K g__law_exchanged)) (k__law_draw : Kn (bodyCx P w K mg base n__law_some "_law_some" (defScope s__law_some) f cdv A outer s H E) "_law_draw" (spF K g__law_draw)) (ok : Ok (bodyCx P w K mg base n__law_some "_law_some" (defScope s__law_some) f cdv A outer s H E) c) :
  PSs (bodyCx P w K mg base n__law_some "_law_some" (defScope s__law_some) f cdv A outer s H E) (defBody s__law_some) (tS c (b__law_some g__law_land g__law_exchanged g__law_draw)) := by
  exact (dss_cons (ds_set 2 (de_slice (de_callF 0 k__law_land da_nil) do_none (do_some de_int)))
  (dss_cons (ds_if (dt_eq (de_var 1) de_int)
  (dss_one (ds_set 3 (de_add (de_var 2) (de_rev (de_var 2)))))
  (dss_one (ds_if (dt_eq (de_var 1) de_int)
  (dss_one (ds_set 3 (de_add (de_var 2) (de_call k__law_exchanged (da_cons (de_fz 2) da_nil)))))
  (dss_one (ds_set 3 (de_add (de_var 2) (de_rev (de_call k__law_exchanged (da_cons (de_fz 2) da_nil)))))))))
  (dss_cons (ds_if (dt_notIn de_str (de_var 3))
  (dss_one (ds_set 3 (de_add (de_var 3) de_str)))
  dss_nil)
  (dss_cons (ds_if (dt_notIn de_str (de_var 3))
  (dss_one (ds_set 3 (de_add (de_var 3) de_str)))
  dss_nil)
  (dss_cons (ds_set 4 (de_callF 0 k__law_draw (da_cons (de_len (de_var 3)) da_nil)))
  (dss_one (ds_ret (de_add (de_slice (de_var 3) (do_some (de_var 4)) do_none) (de_slice (de_var 3) do_none (do_some (de_var 4)))))))))))
abbrev s__law_rim : Stmt := topS 25
abbrev n__law_rim : List Str := ["word", "sign", "begin", "turned", "found", "own"]
theorem sc__law_rim : FnScope ["word", "sign", "begin", "turned", "found", "own"] ["word", "sign"] (defScope s__law_rim) := ⟨rfl, rfl, rfl, by decide +kernel, rfl, by decide +kernel, by decide +kernel⟩
theorem w__law_rim {f : Addr} {cdv : Value} {A : Around} {outer : List PySem.Env} {s : Shared} {H : Hp} {E : XK} {c : Ct} (ok : Ok (bodyCx P w K mg base n__law_rim "_law_rim" (defScope s__law_rim) f cdv A outer s H E) c) :
  PSs (bodyCx P w K mg base n__law_rim "_law_rim" (defScope s__law_rim) f cdv A outer s H E) (defBody s__law_rim) (tS c (b__law_rim)) := by
  exact (dss_cons (ds_set 2 (de_indexS (de_var 0) (de_var 1)))
  (dss_cons (ds_set 3 (de_add (de_slice (de_var 0) (do_some (de_var 2)) do_none) (de_slice (de_var 0) do_none (do_some (de_var 2)))))
  (dss_cons (ds_set 4 (de_list da_nil))
  (dss_cons (ds_for PassesOwn.never (ds_val (de_fz 3)) (dg_name 5)
  (dss_one (ds_if (dt_eq (de_var 5) (de_var 1))
  (dss_one (ds_app 4 de_int))
  (dss_one (ds_augI 4 ip_add (de_neg de_int) de_int)))))
  (dss_one (ds_ret (de_var 4)))))))
abbrev s_exchanged_rims : Stmt := topS 17
abbrev n_exchanged_rims : List Str := ["word", "sign"]
theorem sc_exchanged_rims : FnScope ["word", "sign"] ["word"] (defScope s_exchanged_rims) := ⟨rfl, rfl, rfl, by decide +kernel, rfl, by decide +kernel, by decide +kernel⟩
theorem w_exchanged_rims {f : Addr} {cdv : Value} {A : Around} {outer : List PySem.Env} {s : Shared} {H : Hp} {E : XK} {c : Ct} (hc_EXCHANGED : KT K w mg "EXCHANGED" c_EXCHANGED) (ok : Ok (bodyCx P w K mg base n_exchanged_rims "exchanged_rims" (defScope s_exchanged_rims) f cdv A outer s H E) c) :
  PSs (bodyCx P w K mg base n_exchanged_rims "exchanged_rims" (defScope s_exchanged_rims) f cdv A outer s H E) (defBody s_exchanged_rims) (tS c (b_exchanged_rims)) := by
  exact (dss_one (ds_ret (de_join de_str (de_comp [("sign", 1)] (ds_val (de_fz 0)) (show blkC n_exchanged_rims (defScope s_exchanged_rims) _ _ = true by decide +kernel) (fun _ _ _ _ _ _ _ => (dg_name 1)) (fun _ _ _ _ _ _ _ => (tYesT _)) (fun _ _ _ _ _ _ _ => (de_tab hc_EXCHANGED (de_var 1)))))))
abbrev s_has_like_rims : Stmt := topS 18
abbrev n_has_like_rims : List Str := ["word"]
theorem sc_has_like_rims : FnScope ["word"] ["word"] (defScope s_has_like_rims) := ⟨rfl, rfl, rfl, by decide +kernel, rfl, by decide +kernel, by decide +kernel⟩
theorem w_has_like_rims {g_are_turnings : Sem} {g_exchanged_rims : Sem} {f : Addr} {cdv : Value} {A : Around} {outer : List PySem.Env} {s : Shared} {H : Hp} {E : XK} {c : Ct} (k_are_turnings : Kn (bodyCx P w K mg base n_has_like_rims "has_like_rims" (defScope s_has_like_rims) f cdv A outer s H E) "are_turnings" (spD K g_are_turnings)) (k_exchanged_rims : Kn (bodyCx P w K mg base n_has_like_rims "has_like_rims" (defScope s_has_like_rims) f cdv A outer s H E) "exchanged_rims" (spD K g_exchanged_rims)) (ok : Ok (bodyCx P w K mg base n_has_like_rims "has_like_rims" (defScope s_has_like_rims) f cdv A outer s H E) c) :
  PSs (bodyCx P w K mg base n_has_like_rims "has_like_rims" (defScope s_has_like_rims) f cdv A outer s H E) (defBody s_has_like_rims) (tS c (b_has_like_rims g_are_turnings g_exchanged_rims)) := by
  exact (dss_one (ds_ret (de_call k_are_turnings (da_cons (de_fz 0) (da_cons (de_call k_exchanged_rims (da_cons (de_fz 0) da_nil)) da_nil)))))
abbrev s_has_turned_rims : Stmt := topS 19
abbrev n_has_turned_rims : List Str := ["word"]
theorem sc_has_turned_rims : FnScope ["word"] ["word"] (defScope s_has_turned_rims) := ⟨rfl, rfl, rfl, by decide +kernel, rfl, by decide +kernel, by decide +kernel⟩
theorem w_has_turned_rims {g_are_turnings : Sem} {g_exchanged_rims : Sem} {f : Addr} {cdv : Value} {A : Around} {outer : List PySem.Env} {s : Shared} {H : Hp} {E : XK} {c : Ct} (k_are_turnings : Kn (bodyCx P w K mg base n_has_turned_rims "has_turned_rims" (defScope s_has_turned_rims) f cdv A outer s H E) "are_turnings" (spD K g_are_turnings)) (k_exchanged_rims : Kn (bodyCx P w K mg base n_has_turned_rims "has_turned_rims" (defScope s_has_turned_rims) f cdv A outer s H E) "exchanged_rims" (spD K g_exchanged_rims)) (ok : Ok (bodyCx P w K mg base n_has_turned_rims "has_turned_rims" (defScope s_has_turned_rims) f cdv A outer s H E) c) :
  PSs (bodyCx P w K mg base n_has_turned_rims "has_turned_rims" (defScope s_has_turned_rims) f cdv A outer s H E) (defBody s_has_turned_rims) (tS c (b_has_turned_rims g_are_turnings g_exchanged_rims)) := by
  exact (dss_one (ds_ret (de_call k_are_turnings (da_cons (de_fz 0) (da_cons (de_rev (de_call k_exchanged_rims (da_cons (de_fz 0) da_nil))) da_nil)))))
abbrev s__law_right : Stmt := topS 29
abbrev n__law_right : List Str := ["word", "turnings", "other", "due", "sign", "ring"]
theorem sc__law_right : FnScope ["word", "turnings", "other", "due", "sign", "ring"] ["word"] (defScope s__law_right) := ⟨rfl, rfl, rfl, by decide +kernel, rfl, by decide +kernel, by decide +kernel⟩
theorem w__law_right {g__law_turnings : Sem} {g__law_exchanged : Sem} {g__law_same : Sem} {g_is_mirrored : Sem} {g_has_like_rims : Sem} {g_has_turned_rims : Sem} {g_exchanged_rims : Sem} {g__law_rim : Sem} {f : Addr} {cdv : Value} {A : Around} {outer : List PySem.Env} {s : Shared} {H : Hp} {E : XK} {c : Ct} (k__law_turnings : Kn (bodyCx P w K mg base n__law_right "_law_right" (defScope s__law_right) f cdv A outer s H E) "_law_turnings" (spD K g__law_turnings)) (k__law_exchanged : Kn (bodyCx P w K mg base n__law_right "_law_right" (defScope s__law_right) f cdv A outer s H E) "_law_exchanged" (spD K g__law_exchanged)) (k__law_same : Kn (bodyCx P w K mg base n__law_right "_law_right" (defScope s__law_right) f cdv A outer s H E) "_law_same" (spD K g__law_same)) (k_is_mirrored : Kn (bodyCx P w K mg base n__law_right "_law_right" (defScope s__law_right) f cdv A outer s H E) "is_mirrored" (spD K g_is_mirrored)) (k_has_like_rims : Kn (bodyCx P w K mg base n__law_right "_law_right" (defScope s__law_right) f cdv A outer s H E) "has_like_rims" (spD K g_has_like_rims)) (k_has_turned_rims : Kn (bodyCx P w K mg base n__law_right "_law_right" (defScope s__law_right) f cdv A outer s H E) "has_turned_rims" (spD K g_has_turned_rims)) (k_exchanged_rims : Kn (bodyCx P w K mg base n__law_right "_law_right" (defScope s__law_right) f cdv A outer s H E) "exchanged_rims" (spD K g_exchanged_rims)) (k__law_rim : Kn (bodyCx P w K mg base n__law_right "_law_right" (defScope s__law_right) f cdv A outer s H E) "_law_rim" (spD K g__law_rim)) (ok : Ok (bodyCx P w K mg base n__law_right "_law_right" (defScope s__law_right) f cdv A outer s H E) c) :
  PSs (bodyCx P w K mg base n__law_right "_law_right" (defScope s__law_right) f cdv A outer s H E) (defBody s__law_right) (tS c (b__law_right g__law_turnings g__law_exchanged g__law_same g_is_mirrored g_has_like_rims g_has_turned_rims g_exchanged_rims g__law_rim)) := by
  exact (dss_cons (ds_set 1 (de_call k__law_turnings (da_cons (de_fz 0) da_nil)))
  (dss_cons (ds_set 2 (de_call k__law_exchanged (da_cons (de_fz 0) da_nil)))
  (dss_cons (ds_set 3 (de_list (da_cons (de_in (de_rev (de_var 0)) (de_var 1)) (da_cons (de_in (de_var 2) (de_var 1)) (da_cons (de_in (de_rev (de_var 2)) (de_var 1)) da_nil)))))
  (dss_cons (ds_if (dt_not (dt_val (de_callB k__law_same (dk_ex (de_list (da_cons (de_call k_is_mirrored (da_cons (de_fz 0) da_nil)) (da_cons (de_call k_has_like_rims (da_cons (de_fz 0) da_nil)) (da_cons (de_call k_has_turned_rims (da_cons (de_fz 0) da_nil)) da_nil)))) (dk_nm 3 dk_nil)))))
  (dss_one (ds_ret de_bool))
  dss_nil)
  (dss_cons (ds_if (PW.pt (dw_or (dt_not (dt_val (de_callB k__law_same (dk_ex (de_call k_exchanged_rims (da_cons (de_fz 0) da_nil)) (dk_nm 2 dk_nil))))) (dw_or1 (dt_not (dt_val (de_callB k__law_same (dk_ex (de_call k_exchanged_rims (da_cons (de_fz 2) da_nil)) (dk_nm 0 dk_nil))))))))
  (dss_one (ds_ret de_bool))
  dss_nil)
  (dss_cons (ds_if (dt_val (de_ix (de_var 3) de_int))
  (dss_one (ds_for PassesOwn.never (ds_val (de_list (da_cons de_str (da_cons de_str da_nil)))) (dg_name 4)
  (dss_cons (ds_set 5 (de_call k__law_rim (da_cons (de_fz 0) (da_cons (de_fz 4) da_nil))))
  (dss_one (ds_if (dt_notIn (de_rev (de_var 5)) (de_call k__law_turnings (da_cons (de_fz 5) da_nil)))
  (dss_one (ds_ret de_bool))
  dss_nil)))))
  dss_nil)
  (dss_one (ds_ret de_bool))))))))
abbrev s_law : Stmt := topS 33
abbrev n_law : List Str := ["script", "feed", "turn", "kind", "word", "n", "m", "due", "told"]
theorem sc_law : FnScope ["script", "feed", "turn", "kind", "word", "n", "m", "due", "told"] ["script"] (defScope s_law) := ⟨rfl, rfl, rfl, by decide +kernel, rfl, by decide +kernel, by decide +kernel⟩
theorem w_law {g__law_right : Sem} {g__law_land : Sem} {g__law_some : Sem} {g__law_exchanged : Sem} {g__law_draw : Sem} {g__law_mirrored : Sem} {g_all_mirrored : Sem} {g__law_same : Sem} {g_is_mirrored : Sem} {g_has_like_rims : Sem} {g_has_turned_rims : Sem} {f : Addr} {cdv : Value} {A : Around} {outer : List PySem.Env} {s : Shared} {H : Hp} {E : XK} {c : Ct} (k__law_right : Kn (bodyCx P w K mg base n_law "law" (defScope s_law) f cdv A outer s H E) "_law_right" (spD K g__law_right)) (k__law_land : Kn (bodyCx P w K mg base n_law "law" (defScope s_law) f cdv A outer s H E) "_law_land" (spF K g__law_land)) (k__law_some : Kn (bodyCx P w K mg base n_law "law" (defScope s_law) f cdv A outer s H E) "_law_some" (spF K g__law_some)) (k__law_exchanged : Kn (bodyCx P w K mg base n_law "law" (defScope s_law) f cdv A outer s H E) "_law_exchanged" (spD K g__law_exchanged)) (k__law_draw : Kn (bodyCx P w K mg base n_law "law" (defScope s_law) f cdv A outer s H E) "_law_draw" (spF K g__law_draw)) (k__law_mirrored : Kn (bodyCx P w K mg base n_law "law" (defScope s_law) f cdv A outer s H E) "_law_mirrored" (spD K g__law_mirrored)) (k_all_mirrored : Kn (bodyCx P w K mg base n_law "law" (defScope s_law) f cdv A outer s H E) "all_mirrored" (spD K g_all_mirrored)) (k__law_same : Kn (bodyCx P w K mg base n_law "law" (defScope s_law) f cdv A outer s H E) "_law_same" (spD K g__law_same)) (k_is_mirrored : Kn (bodyCx P w K mg base n_law "law" (defScope s_law) f cdv A outer s H E) "is_mirrored" (spD K g_is_mirrored)) (k_has_like_rims : Kn (bodyCx P w K mg base n_law "law" (defScope s_law) f cdv A outer s H E) "has_like_rims" (spD K g_has_like_rims)) (k_has_turned_rims : Kn (bodyCx P w K mg base n_law "law" (defScope s_law) f cdv A outer s H E) "has_turned_rims" (spD K g_has_turned_rims)) (ok : Ok (bodyCx P w K mg base n_law "law" (defScope s_law) f cdv A outer s H E) c) :
  PSs (bodyCx P w K mg base n_law "law" (defScope s_law) f cdv A outer s H E) ((defBody s_law).tail) (tS c (b_law g__law_right g__law_land g__law_some g__law_exchanged g__law_draw g__law_mirrored g_all_mirrored g__law_same g_is_mirrored g_has_like_rims g_has_turned_rims)) := by
  exact (dss_cons (ds_for PassesOwn.never (ds_range1 de_int) (dg_name 2)
  (dss_one (ds_if (dt_not (dt_val (de_call k__law_right (da_cons (de_callF 1 k__law_land da_nil) da_nil))))
  (dss_one (ds_ret de_bool))
  dss_nil)))
  (dss_cons (ds_for PassesOwn.never (ds_range1 de_int) (dg_name 3)
  (dss_cons (ds_set 4 (de_callF 1 k__law_some (da_cons (de_fz 3) da_nil)))
  (dss_one (ds_if (PW.pt (dw_or (dt_not (dt_val (de_call k__law_right (da_cons (de_fz 4) da_nil)))) (dw_or1 (dt_not (dt_val (de_call k__law_right (da_cons (de_call k__law_exchanged (da_cons (de_fz 4) da_nil)) da_nil)))))))
  (dss_one (ds_ret de_bool))
  dss_nil))))
  (dss_cons (ds_set 5 (de_add de_int (de_callF 1 k__law_draw (da_cons (de_ix (de_list (da_cons de_int (da_cons de_int da_nil))) (de_callF 1 k__law_draw (da_cons de_int da_nil))) da_nil))))
  (dss_cons (ds_set 6 (de_add de_int (de_callF 1 k__law_draw (da_cons (de_ix (de_list (da_cons de_int (da_cons de_int da_nil))) (de_callF 1 k__law_draw (da_cons de_int da_nil))) da_nil))))
  (dss_cons (ds_set 7 (de_call k__law_mirrored (da_cons (de_fz 5) (da_cons (de_fz 6) da_nil))))
  (dss_cons (ds_set 8 (de_call k_all_mirrored (da_cons (de_fz 5) (da_cons (de_fz 6) da_nil))))
  (dss_cons (ds_if (dt_not (dt_val (de_callB k__law_same (dk_nm 8 (dk_nm 7 dk_nil)))))
  (dss_one (ds_ret de_bool))
  dss_nil)
  (dss_cons (ds_app 8 de_str)
  (dss_cons (ds_if (PW.pt (dw_or (dt_not (dt_val (de_callB k__law_same (dk_ex (de_call k_all_mirrored (da_cons (de_fz 5) (da_cons (de_fz 6) da_nil))) (dk_nm 7 dk_nil))))) (dw_or1 (dt_not (dt_val (de_call k__law_same (da_cons (de_call k_all_mirrored (da_cons de_int (da_cons de_int da_nil))) (da_cons (de_list (da_cons de_str da_nil)) da_nil))))))))
  (dss_one (ds_ret de_bool))
  dss_nil)
  (dss_cons (ds_if (PW.pt (dw_or (dt_not (dt_val (de_call k__law_right (da_cons de_str da_nil)))) (dw_or (dt_not (dt_val (de_call k__law_right (da_cons de_str da_nil)))) (dw_or1 (dt_not (dt_val (de_call k__law_right (da_cons de_str da_nil))))))))
  (dss_one (ds_ret de_bool))
  dss_nil)
  (dss_one (ds_ret (de_call k__law_same (da_cons (de_list (da_cons (de_call k_is_mirrored (da_cons de_str da_nil)) (da_cons (de_call k_has_like_rims (da_cons de_str da_nil)) (da_cons (de_call k_has_turned_rims (da_cons de_str da_nil)) da_nil)))) (da_cons (de_list (da_cons de_bool (da_cons de_bool (da_cons de_bool da_nil)))) da_nil)))))))))))))))
end
end K89

/-! The end: each def keeps its promise; what the top has written. -/
namespace K89
open PySem PySem.Spec PyProof.Rows L2 DL

section
variable {P : Program} {w : World} {K : PySem.W.Frag} {mg : Str → Option Value} {base hp : Heap}
theorem fk__law_words (X : K.In hp) (G : hp.Ns mainGlobals mg) (blt : ∀ x ∈ bltNames, mg x = none) (h : FnAt K "_law_words" s__law_words) : FK P w K mg base "_law_words" 1 (spD K (ar 2 spec__law_words)) :=
  h.fk X G (fun f fd F => fn_ok F sc__law_words (fun ds w Q h => h.1) blt (fun cdv A outer s H E c hr ok => w__law_words ok) (fun ds w Q h => vc__law_words ds w Q h.2)) (fun _ _ _ _ _ _ us hl => match us, hl with | [_, _], _ => rfl)
theorem fk__law_turnings (X : K.In hp) (G : hp.Ns mainGlobals mg) (blt : ∀ x ∈ bltNames, mg x = none) (h : FnAt K "_law_turnings" s__law_turnings) : FK P w K mg base "_law_turnings" 1 (spD K (ar 1 spec__law_turnings)) :=
  h.fk X G (fun f fd F => fn_ok F sc__law_turnings (fun ds w Q h => h.1) blt (fun cdv A outer s H E c hr ok => w__law_turnings ok) (fun ds w Q h => vc__law_turnings ds w Q h.2)) (fun _ _ _ _ _ _ us hl => match us, hl with | [_], _ => rfl)
theorem fk__law_mirrored (X : K.In hp) (G : hp.Ns mainGlobals mg) (blt : ∀ x ∈ bltNames, mg x = none) (h : FnAt K "_law_mirrored" s__law_mirrored) (k__law_words : FK P w K mg base "_law_words" 1 (spD K (ar 2 spec__law_words))) (k__law_turnings : FK P w K mg base "_law_turnings" 1 (spD K (ar 1 spec__law_turnings))) : FK P w K mg base "_law_mirrored" 2 (spD K (ar 2 spec__law_mirrored)) :=
  h.fk X G (fun f fd F => fn_ok F sc__law_mirrored (fun ds w Q h => h.1) blt (fun cdv A outer s H E c hr ok => w__law_mirrored (k__law_words.kn hr (by decide)) (k__law_turnings.kn hr (by decide)) ok) (fun ds w Q h => vc__law_mirrored ds w Q h.2)) (fun _ _ _ _ _ _ us hl => match us, hl with | [_, _], _ => rfl)
theorem fk_fixed_by (X : K.In hp) (G : hp.Ns mainGlobals mg) (blt : ∀ x ∈ bltNames, mg x = none) (h : FnAt K "fixed_by" s_fixed_by) (hc_gcd : KB mg "gcd" "math.gcd") (hc_comb : KB mg "comb" "math.comb") : FK P w K mg base "fixed_by" 1 (spD K (ar 3 spec_fixed_by)) :=
  h.fk X G (fun f fd F => fn_ok F sc_fixed_by (fun ds w Q h => h.1) blt (fun cdv A outer s H E c hr ok => w_fixed_by hc_gcd hc_comb ok) (fun ds w Q h => vc_fixed_by ds w Q h.2)) (fun _ _ _ _ _ _ us hl => match us, hl with | [_, _, _], _ => rfl)
theorem fk_count_lands (X : K.In hp) (G : hp.Ns mainGlobals mg) (blt : ∀ x ∈ bltNames, mg x = none) (h : FnAt K "count_lands" s_count_lands) (k_fixed_by : FK P w K mg base "fixed_by" 1 (spD K (ar 3 spec_fixed_by))) : FK P w K mg base "count_lands" 2 (spD K (ar 2 spec_count_lands)) :=
  h.fk X G (fun f fd F => fn_ok F sc_count_lands (fun ds w Q h => h.1) blt (fun cdv A outer s H E c hr ok => w_count_lands (k_fixed_by.kn hr (by decide)) ok) (fun ds w Q h => vc_count_lands ds w Q h.2)) (fun _ _ _ _ _ _ us hl => match us, hl with | [_, _], _ => rfl)
theorem fk_all_words (X : K.In hp) (G : hp.Ns mainGlobals mg) (blt : ∀ x ∈ bltNames, mg x = none) (h : FnAt K "all_words" s_all_words) : FK P w K mg base "all_words" 1 (spD K (ar 2 spec_all_words)) :=
  h.fk X G (fun f fd F => fn_ok F sc_all_words (fun ds w Q h => h.1) blt (fun cdv A outer s H E c hr ok => w_all_words ok) (fun ds w Q h => vc_all_words ds w Q h.2)) (fun _ _ _ _ _ _ us hl => match us, hl with | [_, _], _ => rfl)
theorem fk_begun_at (X : K.In hp) (G : hp.Ns mainGlobals mg) (blt : ∀ x ∈ bltNames, mg x = none) (h : FnAt K "begun_at" s_begun_at) : FK P w K mg base "begun_at" 1 (spD K (ar 2 spec_begun_at)) :=
  h.fk X G (fun f fd F => fn_ok F sc_begun_at (fun ds w Q h => h.1) blt (fun cdv A outer s H E c hr ok => w_begun_at ok) (fun ds w Q h => vc_begun_at ds w Q h.2)) (fun _ _ _ _ _ _ us hl => match us, hl with | [_, _], _ => rfl)
theorem fk_least_land (X : K.In hp) (G : hp.Ns mainGlobals mg) (blt : ∀ x ∈ bltNames, mg x = none) (h : FnAt K "least_land" s_least_land) (k_begun_at : FK P w K mg base "begun_at" 1 (spD K (ar 2 spec_begun_at))) : FK P w K mg base "least_land" 2 (spD K (ar 1 spec_least_land)) :=
  h.fk X G (fun f fd F => fn_ok F sc_least_land (fun ds w Q h => h.1) blt (fun cdv A outer s H E c hr ok => w_least_land (k_begun_at.kn hr (by decide)) ok) (fun ds w Q h => vc_least_land ds w Q h.2)) (fun _ _ _ _ _ _ us hl => match us, hl with | [_], _ => rfl)
theorem fk_all_lands (X : K.In hp) (G : hp.Ns mainGlobals mg) (blt : ∀ x ∈ bltNames, mg x = none) (h : FnAt K "all_lands" s_all_lands) (hc_MOST_TOLD : KC K mg "MOST_TOLD" c_MOST_TOLD) (k_count_lands : FK P w K mg base "count_lands" 2 (spD K (ar 2 spec_count_lands))) (k_all_words : FK P w K mg base "all_words" 1 (spD K (ar 2 spec_all_words))) (k_least_land : FK P w K mg base "least_land" 2 (spD K (ar 1 spec_least_land))) : FK P w K mg base "all_lands" 3 (spD K (ar 2 spec_all_lands)) :=
  h.fk X G (fun f fd F => fn_ok F sc_all_lands (fun ds w Q h => h.1) blt (fun cdv A outer s H E c hr ok => w_all_lands hc_MOST_TOLD (k_count_lands.kn hr (by decide)) (k_all_words.kn hr (by decide)) (k_least_land.kn hr (by decide)) ok) (fun ds w Q h => vc_all_lands ds w Q h.2)) (fun _ _ _ _ _ _ us hl => match us, hl with | [_, _], _ => rfl)
theorem fk_are_turnings (X : K.In hp) (G : hp.Ns mainGlobals mg) (blt : ∀ x ∈ bltNames, mg x = none) (h : FnAt K "are_turnings" s_are_turnings) (k_least_land : FK P w K mg base "least_land" 2 (spD K (ar 1 spec_least_land))) : FK P w K mg base "are_turnings" 3 (spD K (ar 2 spec_are_turnings)) :=
  h.fk X G (fun f fd F => fn_ok F sc_are_turnings (fun ds w Q h => h.1) blt (fun cdv A outer s H E c hr ok => w_are_turnings (k_least_land.kn hr (by decide)) ok) (fun ds w Q h => vc_are_turnings ds w Q h.2)) (fun _ _ _ _ _ _ us hl => match us, hl with | [_, _], _ => rfl)
theorem fk_is_mirrored (X : K.In hp) (G : hp.Ns mainGlobals mg) (blt : ∀ x ∈ bltNames, mg x = none) (h : FnAt K "is_mirrored" s_is_mirrored) (k_are_turnings : FK P w K mg base "are_turnings" 3 (spD K (ar 2 spec_are_turnings))) : FK P w K mg base "is_mirrored" 4 (spD K (ar 1 spec_is_mirrored)) :=
  h.fk X G (fun f fd F => fn_ok F sc_is_mirrored (fun ds w Q h => h.1) blt (fun cdv A outer s H E c hr ok => w_is_mirrored (k_are_turnings.kn hr (by decide)) ok) (fun ds w Q h => vc_is_mirrored ds w Q h.2)) (fun _ _ _ _ _ _ us hl => match us, hl with | [_], _ => rfl)
theorem fk_all_mirrored (X : K.In hp) (G : hp.Ns mainGlobals mg) (blt : ∀ x ∈ bltNames, mg x = none) (h : FnAt K "all_mirrored" s_all_mirrored) (k_all_lands : FK P w K mg base "all_lands" 3 (spD K (ar 2 spec_all_lands))) (k_is_mirrored : FK P w K mg base "is_mirrored" 4 (spD K (ar 1 spec_is_mirrored))) : FK P w K mg base "all_mirrored" 5 (spD K (ar 2 spec_all_mirrored)) :=
  h.fk X G (fun f fd F => fn_ok F sc_all_mirrored (fun ds w Q h => h.1) blt (fun cdv A outer s H E c hr ok => w_all_mirrored (k_all_lands.kn hr (by decide)) (k_is_mirrored.kn hr (by decide)) ok) (fun ds w Q h => vc_all_mirrored ds w Q h.2)) (fun _ _ _ _ _ _ us hl => match us, hl with | [_, _], _ => rfl)
theorem fk__law_same (X : K.In hp) (G : hp.Ns mainGlobals mg) (blt : ∀ x ∈ bltNames, mg x = none) (h : FnAt K "_law_same" s__law_same) : ∀ j : Nat, FK P w K mg base "_law_same" (0 + j) (spD K (ar 2 (spec__law_same j)))
  | 0 => h.fk (ps := ["actual", "due"]) X G (fun f fd F => fn_no (fun ds w Q h => h.2)) (fun _ _ _ _ _ _ us hl => match us, hl with | [_, _], _ => rfl)
  | j + 1 => h.fk X G (fun f fd F => fn_ok F sc__law_same (fun ds w Q h => h.1) blt (fun cdv A outer s H E c hr ok => w__law_same ((fk__law_same X G blt h j).kn hr (Nat.le_refl _)) ok) (fun ds w Q h => vc__law_same j ds w Q h.2)) (fun _ _ _ _ _ _ us hl => match us, hl with | [_, _], _ => rfl)
theorem fk__law_draw (X : K.In hp) (G : hp.Ns mainGlobals mg) (blt : ∀ x ∈ bltNames, mg x = none) (h : FnAt K "_law_draw" s__law_draw) : FK P w K mg base "_law_draw" 1 (spF K (ar 1 spec__law_draw)) :=
  h.fk X G (fun f fd F => fn_okF F sc__law_draw (fun ds w Q h => congrArg (· + 1) h.1) blt (fun cdv A outer s H E c hr ok => w__law_draw ok) (fun ds w Q h => vc__law_draw ds w Q h.2)) (fun _ _ _ _ _ _ us hl => match us, hl with | [_, _], _ => rfl)
theorem fk__law_land (X : K.In hp) (G : hp.Ns mainGlobals mg) (blt : ∀ x ∈ bltNames, mg x = none) (h : FnAt K "_law_land" s__law_land) (k__law_draw : FK P w K mg base "_law_draw" 1 (spF K (ar 1 spec__law_draw))) : FK P w K mg base "_law_land" 2 (spF K (ar 0 spec__law_land)) :=
  h.fk X G (fun f fd F => fn_okF F sc__law_land (fun ds w Q h => congrArg (· + 1) h.1) blt (fun cdv A outer s H E c hr ok => w__law_land (k__law_draw.kn hr (by decide)) ok) (fun ds w Q h => vc__law_land ds w Q h.2)) (fun _ _ _ _ _ _ us hl => match us, hl with | [_], _ => rfl)
theorem fk__law_exchanged (X : K.In hp) (G : hp.Ns mainGlobals mg) (blt : ∀ x ∈ bltNames, mg x = none) (h : FnAt K "_law_exchanged" s__law_exchanged) : FK P w K mg base "_law_exchanged" 1 (spD K (ar 1 spec__law_exchanged)) :=
  h.fk X G (fun f fd F => fn_ok F sc__law_exchanged (fun ds w Q h => h.1) blt (fun cdv A outer s H E c hr ok => w__law_exchanged ok) (fun ds w Q h => vc__law_exchanged ds w Q h.2)) (fun _ _ _ _ _ _ us hl => match us, hl with | [_], _ => rfl)
theorem fk__law_some (X : K.In hp) (G : hp.Ns mainGlobals mg) (blt : ∀ x ∈ bltNames, mg x = none) (h : FnAt K "_law_some" s__law_some) (k__law_land : FK P w K mg base "_law_land" 2 (spF K (ar 0 spec__law_land))) (k__law_exchanged : FK P w K mg base "_law_exchanged" 1 (spD K (ar 1 spec__law_exchanged))) (k__law_draw : FK P w K mg base "_law_draw" 1 (spF K (ar 1 spec__law_draw))) : FK P w K mg base "_law_some" 3 (spF K (ar 1 spec__law_some)) :=
  h.fk X G (fun f fd F => fn_okF F sc__law_some (fun ds w Q h => congrArg (· + 1) h.1) blt (fun cdv A outer s H E c hr ok => w__law_some (k__law_land.kn hr (by decide)) (k__law_exchanged.kn hr (by decide)) (k__law_draw.kn hr (by decide)) ok) (fun ds w Q h => vc__law_some ds w Q h.2)) (fun _ _ _ _ _ _ us hl => match us, hl with | [_, _], _ => rfl)
theorem fk__law_rim (X : K.In hp) (G : hp.Ns mainGlobals mg) (blt : ∀ x ∈ bltNames, mg x = none) (h : FnAt K "_law_rim" s__law_rim) : FK P w K mg base "_law_rim" 1 (spD K (ar 2 spec__law_rim)) :=
  h.fk X G (fun f fd F => fn_ok F sc__law_rim (fun ds w Q h => h.1) blt (fun cdv A outer s H E c hr ok => w__law_rim ok) (fun ds w Q h => vc__law_rim ds w Q h.2)) (fun _ _ _ _ _ _ us hl => match us, hl with | [_, _], _ => rfl)
theorem fk_exchanged_rims (X : K.In hp) (G : hp.Ns mainGlobals mg) (blt : ∀ x ∈ bltNames, mg x = none) (h : FnAt K "exchanged_rims" s_exchanged_rims) (hc_EXCHANGED : KT K w mg "EXCHANGED" c_EXCHANGED) : FK P w K mg base "exchanged_rims" 1 (spD K (ar 1 spec_exchanged_rims)) :=
  h.fk X G (fun f fd F => fn_ok F sc_exchanged_rims (fun ds w Q h => h.1) blt (fun cdv A outer s H E c hr ok => w_exchanged_rims hc_EXCHANGED ok) (fun ds w Q h => vc_exchanged_rims ds w Q h.2)) (fun _ _ _ _ _ _ us hl => match us, hl with | [_], _ => rfl)
theorem fk_has_like_rims (X : K.In hp) (G : hp.Ns mainGlobals mg) (blt : ∀ x ∈ bltNames, mg x = none) (h : FnAt K "has_like_rims" s_has_like_rims) (k_are_turnings : FK P w K mg base "are_turnings" 3 (spD K (ar 2 spec_are_turnings))) (k_exchanged_rims : FK P w K mg base "exchanged_rims" 1 (spD K (ar 1 spec_exchanged_rims))) : FK P w K mg base "has_like_rims" 4 (spD K (ar 1 spec_has_like_rims)) :=
  h.fk X G (fun f fd F => fn_ok F sc_has_like_rims (fun ds w Q h => h.1) blt (fun cdv A outer s H E c hr ok => w_has_like_rims (k_are_turnings.kn hr (by decide)) (k_exchanged_rims.kn hr (by decide)) ok) (fun ds w Q h => vc_has_like_rims ds w Q h.2)) (fun _ _ _ _ _ _ us hl => match us, hl with | [_], _ => rfl)
theorem fk_has_turned_rims (X : K.In hp) (G : hp.Ns mainGlobals mg) (blt : ∀ x ∈ bltNames, mg x = none) (h : FnAt K "has_turned_rims" s_has_turned_rims) (k_are_turnings : FK P w K mg base "are_turnings" 3 (spD K (ar 2 spec_are_turnings))) (k_exchanged_rims : FK P w K mg base "exchanged_rims" 1 (spD K (ar 1 spec_exchanged_rims))) : FK P w K mg base "has_turned_rims" 4 (spD K (ar 1 spec_has_turned_rims)) :=
  h.fk X G (fun f fd F => fn_ok F sc_has_turned_rims (fun ds w Q h => h.1) blt (fun cdv A outer s H E c hr ok => w_has_turned_rims (k_are_turnings.kn hr (by decide)) (k_exchanged_rims.kn hr (by decide)) ok) (fun ds w Q h => vc_has_turned_rims ds w Q h.2)) (fun _ _ _ _ _ _ us hl => match us, hl with | [_], _ => rfl)
theorem fk__law_right (X : K.In hp) (G : hp.Ns mainGlobals mg) (blt : ∀ x ∈ bltNames, mg x = none) (h : FnAt K "_law_right" s__law_right) (k__law_turnings : FK P w K mg base "_law_turnings" 1 (spD K (ar 1 spec__law_turnings))) (k__law_exchanged : FK P w K mg base "_law_exchanged" 1 (spD K (ar 1 spec__law_exchanged))) (k__law_same : FK P w K mg base "_law_same" 6 (spD K (ar 2 (spec__law_same 6)))) (k_is_mirrored : FK P w K mg base "is_mirrored" 4 (spD K (ar 1 spec_is_mirrored))) (k_has_like_rims : FK P w K mg base "has_like_rims" 4 (spD K (ar 1 spec_has_like_rims))) (k_has_turned_rims : FK P w K mg base "has_turned_rims" 4 (spD K (ar 1 spec_has_turned_rims))) (k_exchanged_rims : FK P w K mg base "exchanged_rims" 1 (spD K (ar 1 spec_exchanged_rims))) (k__law_rim : FK P w K mg base "_law_rim" 1 (spD K (ar 2 spec__law_rim))) : FK P w K mg base "_law_right" 7 (spD K (ar 1 spec__law_right)) :=
  h.fk X G (fun f fd F => fn_ok F sc__law_right (fun ds w Q h => h.1) blt (fun cdv A outer s H E c hr ok => w__law_right (k__law_turnings.kn hr (by decide)) (k__law_exchanged.kn hr (by decide)) (k__law_same.kn hr (by decide)) (k_is_mirrored.kn hr (by decide)) (k_has_like_rims.kn hr (by decide)) (k_has_turned_rims.kn hr (by decide)) (k_exchanged_rims.kn hr (by decide)) (k__law_rim.kn hr (by decide)) ok) (fun ds w Q h => vc__law_right ds w Q h.2)) (fun _ _ _ _ _ _ us hl => match us, hl with | [_], _ => rfl)
theorem all_mk {l : PySem.W.OpenLaw} {w : World} {K : PySem.W.Frag} {h : Heap} {mg : Str → Option Value} {fa : Addr} (X : K.In h) (G : h.Ns mainGlobals mg) (hfa : mg "law" = some (.ref fa))
    (h__law_feed : FnAt K "_law_feed" s__law_feed)
    (h__law_words : FnAt K "_law_words" s__law_words)
    (h__law_turnings : FnAt K "_law_turnings" s__law_turnings)
    (h__law_mirrored : FnAt K "_law_mirrored" s__law_mirrored)
    (h_fixed_by : FnAt K "fixed_by" s_fixed_by)
    (h_count_lands : FnAt K "count_lands" s_count_lands)
    (h_all_words : FnAt K "all_words" s_all_words)
    (h_begun_at : FnAt K "begun_at" s_begun_at)
    (h_least_land : FnAt K "least_land" s_least_land)
    (h_all_lands : FnAt K "all_lands" s_all_lands)
    (h_are_turnings : FnAt K "are_turnings" s_are_turnings)
    (h_is_mirrored : FnAt K "is_mirrored" s_is_mirrored)
    (h_all_mirrored : FnAt K "all_mirrored" s_all_mirrored)
    (h__law_same : FnAt K "_law_same" s__law_same)
    (h__law_draw : FnAt K "_law_draw" s__law_draw)
    (h__law_land : FnAt K "_law_land" s__law_land)
    (h__law_exchanged : FnAt K "_law_exchanged" s__law_exchanged)
    (h__law_some : FnAt K "_law_some" s__law_some)
    (h__law_rim : FnAt K "_law_rim" s__law_rim)
    (h_exchanged_rims : FnAt K "exchanged_rims" s_exchanged_rims)
    (h_has_like_rims : FnAt K "has_like_rims" s_has_like_rims)
    (h_has_turned_rims : FnAt K "has_turned_rims" s_has_turned_rims)
    (h__law_right : FnAt K "_law_right" s__law_right)
    (h_law : FnAt K "law" s_law)
    (hc_MOST_TOLD : KC K mg "MOST_TOLD" c_MOST_TOLD)
    (hc_EXCHANGED : KT K w mg "EXCHANGED" c_EXCHANGED)
    (hc_gcd : KB mg "gcd" "math.gcd")
    (hc_comb : KB mg "comb" "math.comb")
    (blt : ∀ x ∈ bltNames, mg x = none) :
    ∃ fd : FuncData, (∀ (s : Shared) (v : Value), BindsTo s fd ⟨[v], []⟩ [("script", v)]) ∧ ∀ base : Heap, K.In base → base.Ns mainGlobals mg → FnOk l.prog w K mg base CX0 8 fa fd ["script"] (spLaw K) := by
  obtain ⟨f, fd, a, F⟩ := h_law.ex
  have e := hfa.symm.trans (PySem.W.mg_of X G a)
  cases e
  refine ⟨fd, fun s v => ?_, fun base hb1 hb2 => ?_⟩
  · obtain ⟨oc, od, kV, doc, pm, an, cdv, ct, osl, e, _⟩ := F.ex
    subst e
    exact .of_eq rfl
  · have k__law_feed : FK l.prog w K mg base "_law_feed" 1 (spFeed K) := h__law_feed.fk X G (fun f fd F => feed_fn F sc__law_feed (blt _ (by decide +kernel)) rfl (fun _ _ _ _ => rfl) rfl) (fun _ _ _ _ _ _ us hl => match us, hl with | [_], _ => rfl)
    have k__law_words := fk__law_words (P := l.prog) (w := w) (base := base) X G blt h__law_words
    have k__law_turnings := fk__law_turnings (P := l.prog) (w := w) (base := base) X G blt h__law_turnings
    have k__law_mirrored := fk__law_mirrored (P := l.prog) (w := w) (base := base) X G blt h__law_mirrored k__law_words k__law_turnings
    have k_fixed_by := fk_fixed_by (P := l.prog) (w := w) (base := base) X G blt h_fixed_by hc_gcd hc_comb
    have k_count_lands := fk_count_lands (P := l.prog) (w := w) (base := base) X G blt h_count_lands k_fixed_by
    have k_all_words := fk_all_words (P := l.prog) (w := w) (base := base) X G blt h_all_words
    have k_begun_at := fk_begun_at (P := l.prog) (w := w) (base := base) X G blt h_begun_at
    have k_least_land := fk_least_land (P := l.prog) (w := w) (base := base) X G blt h_least_land k_begun_at
    have k_all_lands := fk_all_lands (P := l.prog) (w := w) (base := base) X G blt h_all_lands hc_MOST_TOLD k_count_lands k_all_words k_least_land
    have k_are_turnings := fk_are_turnings (P := l.prog) (w := w) (base := base) X G blt h_are_turnings k_least_land
    have k_is_mirrored := fk_is_mirrored (P := l.prog) (w := w) (base := base) X G blt h_is_mirrored k_are_turnings
    have k_all_mirrored := fk_all_mirrored (P := l.prog) (w := w) (base := base) X G blt h_all_mirrored k_all_lands k_is_mirrored
    have k__law_same := fk__law_same (P := l.prog) (w := w) (base := base) X G blt h__law_same 6
    have k__law_draw := fk__law_draw (P := l.prog) (w := w) (base := base) X G blt h__law_draw
    have k__law_land := fk__law_land (P := l.prog) (w := w) (base := base) X G blt h__law_land k__law_draw
    have k__law_exchanged := fk__law_exchanged (P := l.prog) (w := w) (base := base) X G blt h__law_exchanged
    have k__law_some := fk__law_some (P := l.prog) (w := w) (base := base) X G blt h__law_some k__law_land k__law_exchanged k__law_draw
    have k__law_rim := fk__law_rim (P := l.prog) (w := w) (base := base) X G blt h__law_rim
    have k_exchanged_rims := fk_exchanged_rims (P := l.prog) (w := w) (base := base) X G blt h_exchanged_rims hc_EXCHANGED
    have k_has_like_rims := fk_has_like_rims (P := l.prog) (w := w) (base := base) X G blt h_has_like_rims k_are_turnings k_exchanged_rims
    have k_has_turned_rims := fk_has_turned_rims (P := l.prog) (w := w) (base := base) X G blt h_has_turned_rims k_are_turnings k_exchanged_rims
    have k__law_right := fk__law_right (P := l.prog) (w := w) (base := base) X G blt h__law_right k__law_turnings k__law_exchanged k__law_same k_is_mirrored k_has_like_rims k_has_turned_rims k_exchanged_rims k__law_rim
    exact law_fn (k := 7) F sc_law blt k__law_feed (by decide) rfl rfl rfl rfl (by first | exact .inl rfl | exact .inr rfl) (fun _ _ _ _ => rfl) (fun cdv A outer s H E c hr ok => w_law (k__law_right.kn hr (by decide)) (k__law_land.kn hr (by decide)) (k__law_some.kn hr (by decide)) (k__law_exchanged.kn hr (by decide)) (k__law_draw.kn hr (by decide)) (k__law_mirrored.kn hr (by decide)) (k_all_mirrored.kn hr (by decide)) (k__law_same.kn hr (by decide)) (k_is_mirrored.kn hr (by decide)) (k_has_like_rims.kn hr (by decide)) (k_has_turned_rims.kn hr (by decide)) ok) vc_law
end
end K89
open PySem PySem.W PyProof.Rows


theorem PySem.Challenge.cw_ringlands_k89_whole_mirrors_of_lands_holds : PySem.Challenge.rw_ringlands_k89_whole_mirrors_of_lands.Holds := by
  w_on; o_law; k_head; (case hw => w_witness2)
  k_fill
  refine L2.walk_of (l := PySem.Challenge.rw_ringlands_k89_whole_mirrors_of_lands) (n := 63) (k := 8) (x := "script") (CX := fun _ => L2.CX0) (sp := fun w => DL.spLaw _) rfl (by decide) rfl ⟨rfl, by decide, by decide⟩ (fun w h Y => PySem.W.kIn_of Y) ?F (fun _ _ a ns hl _ hS => ⟨a, ns, rfl, hS, hl, fun _ => rfl⟩) (fun _ _ _ _ _ h => h)
  case F =>
    intro w mg fa h KX G hmg
    refine' K89.all_mk KX G hmg ?f__law_feed ?f__law_words ?f__law_turnings ?f__law_mirrored ?f_fixed_by ?f_count_lands ?f_all_words ?f_begun_at ?f_least_land ?f_all_lands ?f_are_turnings ?f_is_mirrored ?f_all_mirrored ?f__law_same ?f__law_draw ?f__law_land ?f__law_exchanged ?f__law_some ?f__law_rim ?f_exchanged_rims ?f_has_like_rims ?f_has_turned_rims ?f__law_right ?f_law ?c_MOST_TOLD ?c_EXCHANGED ?c_gcd ?c_comb ?blt
    (case f__law_feed => (refine' DL.FnAt.mk' ?a ?l ?c ?k; (case a => k_is); (case l => k_is); (case c => k_is); (case k => k_is)))
    (case f__law_words => (refine' DL.FnAt.mk' ?a ?l ?c ?k; (case a => k_is); (case l => k_is); (case c => k_is); (case k => k_is)))
    (case f__law_turnings => (refine' DL.FnAt.mk' ?a ?l ?c ?k; (case a => k_is); (case l => k_is); (case c => k_is); (case k => k_is)))
    (case f__law_mirrored => (refine' DL.FnAt.mk' ?a ?l ?c ?k; (case a => k_is); (case l => k_is); (case c => k_is); (case k => k_is)))
    (case f_fixed_by => (refine' DL.FnAt.mk' ?a ?l ?c ?k; (case a => k_is); (case l => k_is); (case c => k_is); (case k => k_is)))
    (case f_count_lands => (refine' DL.FnAt.mk' ?a ?l ?c ?k; (case a => k_is); (case l => k_is); (case c => k_is); (case k => k_is)))
    (case f_all_words => (refine' DL.FnAt.mk' ?a ?l ?c ?k; (case a => k_is); (case l => k_is); (case c => k_is); (case k => k_is)))
    (case f_begun_at => (refine' DL.FnAt.mk' ?a ?l ?c ?k; (case a => k_is); (case l => k_is); (case c => k_is); (case k => k_is)))
    (case f_least_land => (refine' DL.FnAt.mk' ?a ?l ?c ?k; (case a => k_is); (case l => k_is); (case c => k_is); (case k => k_is)))
    (case f_all_lands => (refine' DL.FnAt.mk' ?a ?l ?c ?k; (case a => k_is); (case l => k_is); (case c => k_is); (case k => k_is)))
    (case f_are_turnings => (refine' DL.FnAt.mk' ?a ?l ?c ?k; (case a => k_is); (case l => k_is); (case c => k_is); (case k => k_is)))
    (case f_is_mirrored => (refine' DL.FnAt.mk' ?a ?l ?c ?k; (case a => k_is); (case l => k_is); (case c => k_is); (case k => k_is)))
    (case f_all_mirrored => (refine' DL.FnAt.mk' ?a ?l ?c ?k; (case a => k_is); (case l => k_is); (case c => k_is); (case k => k_is)))
    (case f__law_same => (refine' DL.FnAt.mk' ?a ?l ?c ?k; (case a => k_is); (case l => k_is); (case c => k_is); (case k => k_is)))
    (case f__law_draw => (refine' DL.FnAt.mk' ?a ?l ?c ?k; (case a => k_is); (case l => k_is); (case c => k_is); (case k => k_is)))
    (case f__law_land => (refine' DL.FnAt.mk' ?a ?l ?c ?k; (case a => k_is); (case l => k_is); (case c => k_is); (case k => k_is)))
    (case f__law_exchanged => (refine' DL.FnAt.mk' ?a ?l ?c ?k; (case a => k_is); (case l => k_is); (case c => k_is); (case k => k_is)))
    (case f__law_some => (refine' DL.FnAt.mk' ?a ?l ?c ?k; (case a => k_is); (case l => k_is); (case c => k_is); (case k => k_is)))
    (case f__law_rim => (refine' DL.FnAt.mk' ?a ?l ?c ?k; (case a => k_is); (case l => k_is); (case c => k_is); (case k => k_is)))
    (case f_exchanged_rims => (refine' DL.FnAt.mk' ?a ?l ?c ?k; (case a => k_is); (case l => k_is); (case c => k_is); (case k => k_is)))
    (case f_has_like_rims => (refine' DL.FnAt.mk' ?a ?l ?c ?k; (case a => k_is); (case l => k_is); (case c => k_is); (case k => k_is)))
    (case f_has_turned_rims => (refine' DL.FnAt.mk' ?a ?l ?c ?k; (case a => k_is); (case l => k_is); (case c => k_is); (case k => k_is)))
    (case f__law_right => (refine' DL.FnAt.mk' ?a ?l ?c ?k; (case a => k_is); (case l => k_is); (case c => k_is); (case k => k_is)))
    (case f_law => (refine' DL.FnAt.mk' ?a ?l ?c ?k; (case a => k_is); (case l => k_is); (case c => k_is); (case k => k_is)))
    (case c_MOST_TOLD => (refine' DL.KC.int KX G ?a; (case a => k_is)))
    (case c_EXCHANGED => (refine' DL.KT.mk' KX G ?a ?l ?k (DL.KEs.cons (k := "o") ?n0 ?s0 (DL.VD.str ?v0) (DL.KEs.cons (k := "i") ?n1 ?s1 (DL.VD.str ?v1) DL.KEs.nil)); (case a => k_is); (case l => k_is); (case k => k_keys); (case n0 => k_is); (case s0 => decide +kernel); (case v0 => decide +kernel); (case n1 => k_is); (case s1 => decide +kernel); (case v1 => decide +kernel)))
    (case c_gcd => (refine' DL.KB.mk' KX G ?a; (case a => k_is)))
    (case c_comb => (refine' DL.KB.mk' KX G ?a; (case a => k_is)))
    (case blt => (refine' DL.blt_of KX G ?b0 ?b1 ?b2 ?b3 ?b4 ?b5 ?b6 ?b7 ?b8 ?b9 ?b10 ?b11 ?b12 ?b13 ?b14 ?b15 ?b16; (case b0 => k_is); (case b1 => k_is); (case b2 => k_is); (case b3 => k_is); (case b4 => k_is); (case b5 => k_is); (case b6 => k_is); (case b7 => k_is); (case b8 => k_is); (case b9 => k_is); (case b10 => k_is); (case b11 => k_is); (case b12 => k_is); (case b13 => k_is); (case b14 => k_is); (case b15 => k_is); (case b16 => k_is)))
