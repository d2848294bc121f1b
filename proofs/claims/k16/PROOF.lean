import PyProof.Rows.All
import Wide.All
import OpenK.AllK
import Wide.FinOn
import HandS.ForMost
import HandS.ForExc
import HandS.Flow
import HandS.Walk
import HandS.Wide
import HandS.IsInst
import HandS.Zip
import HandS.TupAny
import HandS.TupMul
import HandS.TupLe
import HandS.Star
import HandS.Conv
import HandS.Style
import HandS.TryMany
import HandS.HeadEnd
import HandS.HeadHook1
import HandS.HeadHook2
import HandS.Head0
import HandS.Head1
import HandS.Head2
import HandS.WordsExc
import KE.KeyNested
import KE.SortData
import HandS.Lambda
import HandS.EndTab
import HandS.HeadHook4
import HandS.ExcField
import HandS.ExcInit
import HandS.RaiseMore
import KE.KExcSuper
import KE.KExcInit
import KE.KDictKeyed
import KE.KDictSum
import HandS.ExcValue
import HandS.ExcOwn
import HandS.DictComp
import KE.SortKeyHeap
import KE.KDictPairs
import PyProof.ListMulRight
import HandS.Deep
import PySem.Challenge.RW_gluewhole_k16_errors_of_spaces
set_option Elab.async false
set_option linter.all false
set_option maxRecDepth 100000
/-! Gw1: a small core language with values without a heap, its meaning as trees of choices. -/
namespace Gw
open PySem

inductive D where
  | non | bl (b : Bool) | int (i : Int) | str (s : Str)
  | tup (xs : List D) | lst (xs : List D)
  | ref (i : Nat) | fn (x : Str) | ty (n : String)
  | scr (ns : List Int) | emp
  /-- a dict: its keys, its values -/
  | dct (ks vs : List D)

/-- a changing object -/
inductive MO where
  | lst (xs : List D) | hat | tab (q : Str)
  | dct (ks vs : List D)

abbrev Sto := List MO
/-- what comes of a run: a value, an error, a choice of one of n ways, nothing told -/
inductive Tr (α : Type) where
  | ok (a : α) (s : Sto)
  | ex (x : Str) (v : D) (s : Sto)
  | pick (n : Nat) (k : Nat → Tr α)
  | bad
abbrev M (α : Type) := Sto → Tr α
def Tr.bind {α β : Type} : Tr α → (α → Sto → Tr β) → Tr β
  | .ok a s, f => f a s
  | .ex x v s, _ => .ex x v s
  | .pick n k, f => .pick n fun i => (k i).bind f
  | .bad, _ => .bad
def ret {α : Type} (a : α) : M α := fun s => .ok a s
def badM {α : Type} : M α := fun _ => .bad
def andThen {α β : Type} (m : M α) (f : α → M β) : M β := fun s => (m s).bind f
def optM {α : Type} : Option α → M α
  | some a => ret a
  | none => badM

/-- an error within is not told -/
def Tr.noX {α : Type} : Tr α → Tr α
  | .ok a s => .ok a s
  | .ex _ _ _ => .bad
  | .pick n k => .pick n fun i => (k i).noX
  | .bad => .bad
def noXM {α : Type} (m : M α) : M α := fun s => (m s).noX
def Tr.All {α : Type} : Tr α → (α → Sto → Prop) → (Str → D → Sto → Prop) → Prop
  | .ok a s, P, _ => P a s
  | .ex x v s, _, E => E x v s
  | .pick n k, P, E => ∀ i, i < n → (k i).All P E
  | .bad, _, _ => False
theorem Tr.All_mono {α : Type} {P P' : α → Sto → Prop} {E E' : Str → D → Sto → Prop} (hP : ∀ a s, P a s → P' a s) (hE : ∀ x v s, E x v s → E' x v s) : ∀ t : Tr α, t.All P E → t.All P' E'
  | .ok a s, h => hP a s h
  | .ex x v s, h => hE x v s h
  | .pick n k, h => fun i hi => Tr.All_mono hP hE (k i) (h i hi)
  | .bad, h => h
theorem Tr.All_noX {α : Type} {P : α → Sto → Prop} {E E' : Str → D → Sto → Prop} : ∀ t : Tr α, t.noX.All P E → t.All P E'
  | .ok a s, h => h
  | .ex x v s, h => h.elim
  | .pick n k, h => fun i hi => Tr.All_noX (k i) (h i hi)
  | .bad, h => h
theorem Tr.All_bind {α β : Type} {f : α → Sto → Tr β} {P : β → Sto → Prop} {E : Str → D → Sto → Prop} : ∀ t : Tr α, (t.bind f).All P E ↔ t.All (fun a s => (f a s).All P E) E
  | .ok a s => Iff.rfl
  | .ex x v s => Iff.rfl
  | .pick n k => ⟨fun h i hi => (Tr.All_bind (k i)).mp (h i hi), fun h i hi => (Tr.All_bind (k i)).mpr (h i hi)⟩
  | .bad => Iff.rfl

/-! ### values -/
mutual
/-- no changing object within -/
def D.rf : D → Bool
  | .ref _ => false
  | .tup xs => D.rfs xs
  | .lst xs => D.rfs xs
  | .dct ks vs => D.rfs ks && D.rfs vs
  | _ => true
def D.rfs : List D → Bool
  | [] => true
  | x :: xs => D.rf x && D.rfs xs
end
def MO.rf : MO → Bool
  | .lst xs => D.rfs xs
  | .hat => true
  | .tab _ => true
  | .dct ks vs => D.rfs ks && D.rfs vs
mutual
/-- as plain data -/
def D.data : D → Option PyData
  | .non => some .none
  | .bl b => some (.bool b)
  | .int i => some (.int i)
  | .str s => some (.str s)
  | .tup xs => (D.datas xs).map .tuple
  | .lst xs => (D.datas xs).map .list
  | _ => none
def D.datas : List D → Option (List PyData)
  | [] => some []
  | x :: xs => (D.data x).bind fun d => (D.datas xs).map fun ds => d :: ds
end
/-- Python's == on plain data -/
def D.eq? (x y : D) : Option Bool := match x.data, y.data with
  | some a, some b => if SeqAt.shaped a && SeqAt.shaped b then some (PyData.eqv a b) else none
  | _, _ => none
def D.truth : D → Option Bool
  | .non => some false
  | .bl b => some b
  | .int i => some (i != 0)
  | .str y => if y.length ≤ sizeLine then some ((y.length : Int) != 0) else none
  | .tup xs => some (!xs.isEmpty)
  | .lst xs => some (!xs.isEmpty)
  | _ => none
/-! ### keys -/
mutual
/-- the key that a value is -/
def kD : D → Option NestedKey
  | .non => some .none
  | .bl b => some (.num (if b = true then 1 else 0))
  | .int i => some (.num i)
  | .str x => some (.text x)
  | .tup xs => (kDs xs).map .tup
  | _ => none
def kDs : List D → Option (List NestedKey)
  | [] => some []
  | x :: xs => (kD x).bind fun k => (kDs xs).map fun ks => k :: ks
end
/-- tuples are keys of one kind, numbers and texts of another -/
def kcls : D → Option Bool
  | .tup xs => match kD (.tup xs) with
    | some k => if k.depth ≤ 8 then some true else none
    | none => none
  | .int _ => some false
  | .str _ => some false
  | _ => none
def kIs (k : NestedKey) (y : D) : Bool := match kD y with
  | some k' => NestedKey.beq k' k
  | none => false
def getK : List D → List D → NestedKey → Option D
  | y :: ys, v :: vs, k => if kIs k y = true then some v else getK ys vs k
  | _, _, _ => none
def setK : List D → List D → NestedKey → D → List D
  | y :: ys, v :: vs, k, x => (if kIs k y = true then x else v) :: setK ys vs k x
  | _, _, _, _ => []
def putK2 (ks vs : List D) (x : D) (k : NestedKey) (v : D) : List D × List D := if (getK ks vs k).isSome = true then (ks, setK ks vs k v) else (ks ++ [x], vs ++ [v])
def clsB (b : Bool) (y : D) : Bool := match kcls y with
  | some c => c == b
  | none => false
/-- the key x, if it is of the kind of the keys there -/
def fitK (ks : List D) (x : D) : Option NestedKey := match kcls x with
  | some b => if ks.all (clsB b) = true then kD x else none
  | none => none
def lexLtI : List D → List D → Option Bool
  | [], [] => some false
  | [], .int _ :: r => (lexLtI [] r).map fun _ => true
  | .int _ :: r, [] => (lexLtI r []).map fun _ => false
  | .int a :: r, .int b :: r' => (lexLtI r r').map fun z => if a = b then z else decide (a < b)
  | _, _ => none
def D.isNon : D → Bool
  | .non => true
  | _ => false
/-- x in ys, by data -/
def inD (x : D) (ys : List D) : Option Bool := match x.data, D.datas ys with
  | some a, some bs => if SeqAt.shaped a && SeqAt.shaped (.list bs) then some (bs.any fun z => PyData.eqv z a) else none
  | _, _ => none
def memD (neg : Bool) (x : D) : D → Option D
  | .tup ys => (inD x ys).map fun b => .bl (if neg then !b else b)
  | .lst ys => (inD x ys).map fun b => .bl (if neg then !b else b)
  | .dct ks vs => (fitK ks x).map fun k => .bl (if neg then !(getK ks vs k).isSome else (getK ks vs k).isSome)
  | _ => none
def cmpD (o : CmpOp) (x y : D) : Option D :=
  match o, x, y with
  | .In, x, y => memD false x y
  | .NotIn, x, y => memD true x y
  | .Eq, x, y => (x.eq? y).map .bl
  | .NotEq, x, y => (x.eq? y).map fun b => .bl (!b)
  | .Lt, .int a, .int b => some (.bl (decide (a < b)))
  | .LtE, .int a, .int b => some (.bl (decide (a ≤ b)))
  | .Gt, .int a, .int b => some (.bl (decide (b < a)))
  | .GtE, .int a, .int b => some (.bl (decide (b ≤ a)))
  | .Is, .bl a, .bl b => some (.bl (decide (a = b)))
  | .IsNot, .bl a, .bl b => some (.bl (!decide (a = b)))
  | .Is, x, .non => some (.bl x.isNon)
  | .IsNot, x, .non => some (.bl (!x.isNon))
  | _, _, _ => none
def okMul (i j : Int) : Bool := decide (i.natAbs < 2 ^ 64) || decide (j.natAbs < 2 ^ 64) || decide (i.natAbs.log2 + j.natAbs.log2 < 1000000)
def okDiv (j : Int) : Bool := decide (j ≠ 0) && decide (j.natAbs.log2 < 9000)
def okPow (i j : Int) : Bool := decide (0 ≤ j) && decide ((Builtin.Int.intBits i : Int) * j ≤ 2 ^ 27)
def binD (o : Operator) (x y : D) : Option D :=
  match o, x, y with
  | .Add, .int a, .int b => some (.int (a + b))
  | .Sub, .int a, .int b => some (.int (a - b))
  | .Mult, .int a, .int b => if okMul a b then some (.int (a * b)) else none
  | .FloorDiv, .int a, .int b => if okDiv b then some (.int (a.fdiv b)) else none
  | .Mod, .int a, .int b => if decide (b ≠ 0) then some (.int (a.fmod b)) else none
  | .Pow, .int a, .int b => if okPow a b then some (.int (a ^ b.toNat)) else none
  | .Add, .tup xs, .tup ys => if decide (xs.length + ys.length ≤ sizeLine) then some (.tup (xs ++ ys)) else none
  | .Add, .lst xs, .lst ys => if decide (xs.length + ys.length ≤ sizeLine) then some (.lst (xs ++ ys)) else none
  | .Add, .str a, .str b => if decide (a.length + b.length ≤ sizeLine) then some (.str (a ++ b)) else none
  | .Mult, .lst xs, .int k => if decide (-1000 ≤ k) && (decide (k ≤ 1000) && decide (xs.length ≤ 1000)) then some (.lst (List.replicate k.toNat xs).flatten) else none
  | .Mult, .int k, .lst xs => if decide (-1000 ≤ k) && (decide (k ≤ 1000) && decide (xs.length ≤ 1000)) then some (.lst (List.replicate k.toNat xs).flatten) else none
  | .Mult, .tup xs, .int k => if decide (-1000 ≤ k) && (decide (k ≤ 1000) && decide (xs.length ≤ 1000)) then some (.tup (List.replicate k.toNat xs).flatten) else none
  | _, _, _ => none
def augD (o : Operator) (x y : D) : Option D :=
  match o, x, y with
  | .Add, .int a, .int b => some (.int (a + b))
  | .Sub, .int a, .int b => some (.int (a - b))
  | .Mult, .int a, .int b => if okMul a b then some (.int (a * b)) else none
  | .Add, .str a, .str b => if decide (a.length + b.length ≤ sizeLine) then some (.str (a ++ b)) else none
  | _, _, _ => none
def negD : D → Option D
  | .int a => some (.int (-a))
  | _ => none
def ixD (x i : D) : Option D :=
  match x, i with
  | .tup xs, .int k => L2.atI xs k
  | .lst xs, .int k => L2.atI xs k
  | .scr ns, .int k => (L2.atI ns k).map .int
  | .dct ks vs, k => (fitK ks k).bind fun n => getK ks vs n
  | _, _ => none
/-- a changing list, as it is now -/
def drf (s : Sto) : D → D
  | .ref r => match s[r]? with
    | some (.lst xs) => .lst xs
    | some (.dct ks vs) => .dct ks vs
    | _ => .ref r
  | x => x
def D.nr : D → Bool
  | .ref _ => false
  | _ => true
def cutD (xs : List D) (lo hi : Option Int) : List D := (xs.drop (HT.sIx xs.length 0 lo)).take (HT.sIx xs.length xs.length hi - HT.sIx xs.length 0 lo)
def partD : D → Option (Option Int)
  | .non => some none
  | .int i => some (some i)
  | _ => none
def slD (x lo hi : D) : Option D :=
  match x, partD lo, partD hi with
  | .tup xs, some a, some b => some (.tup (cutD xs a b))
  | .lst xs, some a, some b => some (.lst (cutD xs a b))
  | _, _, _ => none
def ixM (x i : D) : M D := fun s => optM (ixD (drf s x) (drf s i)) s
def slM (x l h : D) : M D := fun s => optM (slD (drf s x) l h) s
def binM (o : Operator) (x y : D) : M D := fun s => optM (binD o (drf s x) (drf s y)) s
def cmpM (o : CmpOp) (x y : D) : M D := fun s => optM (cmpD o (drf s x) (drf s y)) s
def appM (r : Nat) (d : D) : M D := fun s => match s[r]? with
  | some (.lst xs) => if xs.length < sizeLine then .ok .non (s.set r (.lst (xs ++ [d]))) else .bad
  | _ => .bad
def atL (s : Sto) : D → Bool
  | .ref r => match s[r]? with
    | some (.lst _) => true
    | _ => false
  | _ => false
def appX (x d : D) : M D := match x with
  | .ref r => appM r d
  | _ => badM
mutual
def D.beq : D → D → Bool
  | .non, .non => true
  | .bl a, .bl b => decide (a = b)
  | .int a, .int b => decide (a = b)
  | .str a, .str b => decide (a = b)
  | .tup xs, .tup ys => D.beqs xs ys
  | .lst xs, .lst ys => D.beqs xs ys
  | .ref i, .ref j => decide (i = j)
  | .fn a, .fn b => decide (a = b)
  | .ty a, .ty b => decide (a = b)
  | .scr a, .scr b => decide (a = b)
  | .emp, .emp => true
  | .dct a b, .dct c d => D.beqs a c && D.beqs b d
  | _, _ => false
def D.beqs : List D → List D → Bool
  | [], [] => true
  | x :: xs, y :: ys => D.beq x y && D.beqs xs ys
  | _, _ => false
end
mutual
theorem D.beq_eq : ∀ x y : D, D.beq x y = true → x = y
  | .non, y, h => by cases y <;> first | rfl | cases h
  | .bl a, y, h => by cases y <;> first | (rw [of_decide_eq_true (show decide (a = _) = true from h)]; done) | cases h
  | .int a, y, h => by cases y <;> first | (rw [of_decide_eq_true (show decide (a = _) = true from h)]; done) | cases h
  | .str a, y, h => by cases y <;> first | (rw [of_decide_eq_true (show decide (a = _) = true from h)]; done) | cases h
  | .tup xs, y, h => by cases y <;> first | (rw [D.beqs_eq xs _ (show D.beqs xs _ = true from h)]; done) | cases h
  | .lst xs, y, h => by cases y <;> first | (rw [D.beqs_eq xs _ (show D.beqs xs _ = true from h)]; done) | cases h
  | .ref a, y, h => by cases y <;> first | (rw [of_decide_eq_true (show decide (a = _) = true from h)]; done) | cases h
  | .fn a, y, h => by cases y <;> first | (rw [of_decide_eq_true (show decide (a = _) = true from h)]; done) | cases h
  | .ty a, y, h => by cases y <;> first | (rw [of_decide_eq_true (show decide (a = _) = true from h)]; done) | cases h
  | .scr a, y, h => by cases y <;> first | (rw [of_decide_eq_true (show decide (a = _) = true from h)]; done) | cases h
  | .emp, y, h => by cases y <;> first | rfl | cases h
  | .dct a b, y, h => by
    cases y <;> first | (cases h; done) | skip
    rename_i c d
    obtain ⟨h1, h2⟩ := Bool.and_eq_true_iff.mp (show (D.beqs a c && D.beqs b d) = true from h)
    rw [D.beqs_eq a c h1, D.beqs_eq b d h2]
theorem D.beqs_eq : ∀ xs ys : List D, D.beqs xs ys = true → xs = ys
  | [], [], _ => rfl
  | [], _ :: _, h => by cases h
  | _ :: _, [], h => by cases h
  | x :: xs, y :: ys, h => by
    obtain ⟨h1, h2⟩ := Bool.and_eq_true_iff.mp (show (D.beq x y && D.beqs xs ys) = true from h)
    rw [D.beq_eq x y h1, D.beqs_eq xs ys h2]
end
/-- lists that must stay as they are while they are walked -/
abbrev Gd := List (Nat × List D)
def gd1 (s : Sto) (p : Nat × List D) : Bool := match s[p.1]? with
  | some (.lst ys) => D.beqs p.2 ys
  | _ => false
def gdB (gd : Gd) (s : Sto) : Bool := gd.all (gd1 s)
def chk {α : Type} (gd : Gd) (m : M α) : M α := fun s => if gdB gd s then m s else .bad
/-- r gets the members of a list -/
def extM (r : Nat) (d : D) : M D := fun s => match s[r]?, drf s d with
  | some (.lst xs), .lst ys => if xs.length + ys.length ≤ sizeLine then .ok .non (s.set r (.lst (xs ++ ys))) else .bad
  | _, _ => .bad
def extX (x d : D) : M D := match x with
  | .ref r => extM r d
  | _ => badM
def itemsD : D → Option (List D)
  | .tup xs => some xs
  | .lst xs => some xs
  | _ => none
def rangeD (a b : Int) : List D := (List.range (b - a).toNat).map fun (i : Nat) => D.int (a + (i : Int))
def okRng (a b : Int) : Bool := decide (-(2 ^ 62) ≤ a) && decide (a < 2 ^ 62) && decide (-(2 ^ 62) ≤ b) && decide (b < 2 ^ 62)
def rngD : List D → Option (List D)
  | [.int b] => if okRng 0 b then some (rangeD 0 b) else none
  | [.int a, .int b] => if okRng a b then some (rangeD a b) else none
  | _ => none
def rangeC (a c : Int) (n : Nat) : List D := (List.range n).map fun (i : Nat) => D.int (a + (i : Int) * c)
def okRngC (a b c : Int) : Bool := decide (c ≠ 0) && decide (c.natAbs < 1073741824) && Builtin.Range.small a b c && decide (0 ≤ Builtin.Range.rangeSize a b c)
def rngD3 : D → D → D → Option (List D)
  | .int a, .int b, .int c => if okRngC a b c then some (rangeC a c (Builtin.Range.rangeSize a b c).toNat) else none
  | _, _, _ => none
def zipD : List D → Option (List D)
  | [.tup xs, .tup ys] => some ((xs.zip ys).map fun p => .tup [p.1, p.2])
  | [.lst xs, .lst ys] => some ((xs.zip ys).map fun p => .tup [p.1, p.2])
  | _ => none
def enumD : List D → Option (List D)
  | [.lst xs] => some ((List.range xs.length).zip xs |>.map fun p => .tup [.int (p.1 : Int), p.2])
  | _ => none
/-- what is walked, and what must stay meanwhile -/
def lsL : D → M (List D × Gd)
  | .lst xs => ret (xs, [])
  | .ref r => fun s => match s[r]? with
    | some (.lst xs) => .ok (xs, [(r, xs)]) s
    | _ => .bad
  | _ => badM
def lsM : D → M (List D × Gd)
  | .tup xs => ret (xs, [])
  | .scr _ => badM
  | x => lsL x
def zipL (xs ys : List D) : List D := (xs.zip ys).map fun p => .tup [p.1, p.2]
def zipT (xs : List D) : D → M (List D × Gd)
  | .tup ys => ret (zipL xs ys, [])
  | _ => badM
def zipM (x y : D) : M (List D × Gd) := match x with
  | .tup xs => zipT xs y
  | x => andThen (lsL x) fun p => andThen (lsL y) fun q => ret (zipL p.1 q.1, p.2 ++ q.2)
def enuL (xs : List D) : List D := (List.range xs.length).zip xs |>.map fun p => .tup [.int (p.1 : Int), p.2]
def enuM (x : D) : M (List D × Gd) := andThen (lsL x) fun p => ret (enuL p.1, p.2)

/-! ### the core language -/
inductive T where
  | nm (i : Nat) | nil | cons (t : T) (ts : T)
abbrev Ev := List (Option D)
/-- a target takes a value -/
def T.bind : T → D → Ev → Option Ev
  | .nm i, d, e => some (e.set i (some d))
  | .nil, .tup [], e => some e
  | .cons t ts, .tup (x :: xs), e => (t.bind x e).bind fun e' => ts.bind (.tup xs) e'
  | .nil, .lst [], e => some e
  | .cons t ts, .lst (x :: xs), e => (t.bind x e).bind fun e' => ts.bind (.tup xs) e'
  | _, _, _ => none

/-- what a handler returns: constants, the field of the error, its repr, sums of texts, tuples -/
inductive HE where
  | c (d : D) | fld (f : Str) | repr (h : HE) | add (a b : HE) | tup (hs : HE) | nil | cons (h hs : HE)
/-- an except clause: the classes that it takes, each with its field; those that it does not take; what it returns -/
structure Hd where
  yes : List (Str × Option Str)
  no : List Str
  h : HE
inductive E where
  | var (i : Nat)
  | c (d : D)
  | bin (o : Operator) (a b : E)
  | neg (a : E)
  | cmp (o : CmpOp) (a b : E)
  | chain (o p : CmpOp) (a b c : E)
  | and_ (a b : E) | or_ (a b : E) | not_ (a : E)
  | ite (c a b : E)
  | tup (es : E) | lst (es : E) | lstM (es : E)
  | nil | cons (e es : E) | star (e es : E)
  | ix (a i : E) | sl (a lo hi : E) | int_ (a : E)
  | app (o a : E) | ext (o a : E) | dnew
  | it1 (a : E) | rng1 (a : E) | rng2 (a b : E) | zip (a b : E) | enum (a : E)
  | lc (own : List Nat) (g : T) (it : E) (cnd : E) (elt : E)
  | lc2 (own : List Nat) (g : T) (it : E) (cnd : E) (own1 : List Nat) (g1 : T) (it1 : E) (cnd1 : E) (elt : E)
  | call (f : List D → M D) (es : E)
  | callV (tab : List (Str × (List D → M D))) (f es : E)
  | met (r : Nat) (q : Str) (b : E) (hs : List Hd) (fin : Option HE)
  | catL (a b : E)
  | never
  /-- a list comprehension whose list will be changed -/
  | lcM (own : List Nat) (g : T) (it : E) (cnd : E) (elt : E)
  /-- dicts: a comprehension (mu: it will be changed), get with a default, update -/
  | dc (mu : Bool) (own : List Nat) (g : T) (it : E) (cnd : E) (k v : E)
  | dget (a k d : E)
  | dupd (o a : E)
  | dnewM
  | itms (a : E)
  | rng3 (a b c : E)
  /-- {k: v}, the key a number or a text -/
  | d1 (mu : Bool) (k v : E)
  /-- a built-in with a lambda as its key -/
  | lamB (r : Nat) (q : Str) (φ : List D → Option D) (a : E)

def truthM (d : D) : M Bool := fun s => optM (drf s d).truth s
def wipeE (e : Ev) : List Nat → Ev
  | [] => e
  | v :: vs => (wipeE e vs).set v none
/-- a comprehension's turns -/
def lcGo (f : D → M (Option D)) (gd : Gd) : List D → List D → M (List D)
  | acc, [] => chk gd (ret acc)
  | acc, x :: xs => chk gd (andThen (f x) fun o => match o with
    | some y => if acc.length < sizeLine then lcGo f gd (acc ++ [y]) xs else badM
    | none => lcGo f gd acc xs)
/-- two fors -/
def lc2Go (fo : D → M (Option Ev)) (fit : Ev → M (List D × Gd)) (fi : Ev → D → M (Option D)) (gd : Gd) : List D → List D → M (List D)
  | acc, [] => chk gd (ret acc)
  | acc, x :: xs => chk gd (andThen (fo x) fun o => match o with
    | none => lc2Go fo fit fi gd acc xs
    | some e => andThen (fit e) fun ys => andThen (lcGo (fi e) ys.2 acc ys.1) fun acc' => lc2Go fo fit fi gd acc' xs)
/-- a dict comprehension's turns -/
def dcGo (f : D → M (Option (D × D))) (gd : Gd) : List D → List D → List D → M (List D × List D)
  | ks, vs, [] => chk gd (ret (ks, vs))
  | ks, vs, x :: xs => chk gd (andThen (f x) fun o => match o with
    | some p => if ks.length < sizeLine then (match fitK ks p.1 with
      | some n => dcGo f gd (putK2 ks vs p.1 n p.2).1 (putK2 ks vs p.1 n p.2).2 xs
      | none => badM) else badM
    | none => dcGo f gd ks vs xs)
def newLM (xs : List D) : M D := fun s => .ok (.ref s.length) (s ++ [.lst xs])
def newDM (ks vs : List D) : M D := fun s => .ok (.ref s.length) (s ++ [.dct ks vs])
def atD (s : Sto) (x : D) : Bool := match drf s x with
  | .dct _ _ => true
  | _ => false
def dgetM (x k d : D) : M D := fun s => match drf s x with
  | .dct ks vs => optM ((fitK ks k).map fun n => (getK ks vs n).getD d) s
  | _ => .bad
/-- all pairs are put -/
def putsK : List D → List D → List D → List D → Option (List D × List D)
  | ks, vs, x :: xs, y :: ys => (fitK ks x).bind fun n => putsK (putK2 ks vs x n y).1 (putK2 ks vs x n y).2 xs ys
  | ks, vs, _, _ => some (ks, vs)
mutual
/-- the hash of a key without texts -/
def hashN : NestedKey → Int
  | .none => reduceHash 0xFCA86420
  | .num i => hashInt i
  | .text _ => 0
  | .tup ks => reduceHash (Builtin.Tuple.tupleHashOf (hashNs ks))
def hashNs : List NestedKey → List Int
  | [] => []
  | k :: ks => hashN k :: hashNs ks
end
mutual
def noText : NestedKey → Bool
  | .text _ => false
  | .tup ks => noTexts ks
  | _ => true
def noTexts : List NestedKey → Bool
  | [] => true
  | k :: ks => noText k && noTexts ks
end
def nodupB : List Int → Bool
  | [] => true
  | x :: xs => !(xs.any fun y => decide (y = x)) && nodupB xs
def noTextD (d : D) : Bool := match kD d with
  | some k => noText k
  | none => false
def hashD (d : D) : Int := match kD d with
  | some k => hashN k
  | none => 0
def updOk (ks ls : List D) : Bool := (ks.all (clsB false) && ls.all (clsB false)) || ((ks.all (clsB true) && ls.all (clsB true)) && (!ks.isEmpty || (ls.all noTextD && nodupB (ls.map hashD))))
def selfB (r : Nat) : D → Bool
  | .ref i => decide (i = r)
  | _ => false
def updM (r : Nat) (d : D) : M D := fun s => match s[r]?, drf s d with
  | some (.dct ks vs), .dct ls ws => if !selfB r d && (updOk ks ls && decide (ks.length + ls.length ≤ sizeLine)) then (match putsK ks vs ls ws with
    | some p => .ok .non (s.set r (.dct p.1 p.2))
    | none => .bad) else .bad
  | _, _ => .bad
def updX (x d : D) : M D := match x with
  | .ref r => updM r d
  | _ => badM
def dctOf : D → Option (List D × List D)
  | .dct ks vs => some (ks, vs)
  | _ => none
def itmL (ks vs : List D) : List D := (ks.zip vs).map fun p => .tup [p.1, p.2]
def lenOk (xs : List D) : M (List D) := if xs.length ≤ sizeLine then ret xs else badM
def tabG (tab : List (Str × (List D → M D))) : D → Option (List D → M D)
  | .fn x => tab.lookup x
  | _ => none
def tabM (tab : List (Str × (List D → M D))) (d : D) (m : M (List D)) : M D := match tabG tab d with
  | some φ => andThen m φ
  | none => badM
/-- the repr of plain data -/
def reprD : List D → Option D
  | [d] => d.data.bind fun p => if p.showable && (!p.hasDict && (decide (p.shown.length ≤ sizeLine) && decide (p.depth ≤ 60))) then some (.str p.shown) else none
  | _ => none
mutual
def heM (xf : Option Str) (v : D) : HE → M D
  | .c d => ret d
  | .fld f => if xf = some f then ret v else badM
  | .repr h => andThen (heM xf v h) fun d => optM (reprD [d])
  | .add a b => andThen (heM xf v a) fun x => andThen (heM xf v b) fun y => optM (binD .Add x y)
  | .tup hs => andThen (heMs xf v hs) fun xs => andThen (lenOk xs) fun xs => ret (.tup xs)
  | _ => badM
def heMs (xf : Option Str) (v : D) : HE → M (List D)
  | .nil => ret []
  | .cons h hs => andThen (heM xf v h) fun x => andThen (heMs xf v hs) fun xs => ret (x :: xs)
  | _ => badM
end
def catchT (x : Str) (v : D) (s : Sto) : List Hd → Tr D
  | [] => .bad
  | h :: r => match h.yes.lookup x with
    | some xf => (heM xf v h.h s).noX
    | none => if h.no.contains x then catchT x v s r else .bad
def tryT (hs : List Hd) (fin : Option HE) : Tr D → Tr D
  | .ok v s => match fin with
    | none => .ok v s
    | some h => (heM none .non h s).noX
  | .ex x v s => catchT x v s hs
  | .pick n k => .pick n fun i => tryT hs fin (k i)
  | .bad => .bad
def tabOk (s : Sto) (r : Nat) (q : Str) : Bool := match s[r]? with
  | some (.tab q') => decide (q' = q)
  | _ => false
/-- a sum of lists that will be changed -/
def catM (x y : D) : M D := fun s => match drf s x, drf s y with
  | .lst xs, .lst ys => if xs.length + ys.length ≤ sizeLine then .ok (.ref s.length) (s ++ [.lst (xs ++ ys)]) else .bad
  | _, _ => .bad
mutual
def ev : E → Ev → M D
  | .var i, e => optM ((e[i]?).bind id)
  | .c d, _ => ret d
  | .bin o a b, e => andThen (ev a e) fun x => andThen (ev b e) fun y => binM o x y
  | .neg a, e => andThen (ev a e) fun x => optM (negD x)
  | .cmp o a b, e => andThen (ev a e) fun x => andThen (ev b e) fun y => cmpM o x y
  | .chain o p a b c, e => andThen (ev a e) fun x => andThen (ev b e) fun y => andThen (cmpM o x y) fun z => match z with
    | .bl true => andThen (ev c e) fun w => cmpM p y w
    | .bl false => ret (.bl false)
    | _ => badM
  | .and_ a b, e => andThen (ev a e) fun x => andThen (truthM x) fun t => if t = true then ev b e else ret x
  | .or_ a b, e => andThen (ev a e) fun x => andThen (truthM x) fun t => if t = true then ret x else ev b e
  | .not_ a, e => andThen (ev a e) fun x => andThen (truthM x) fun t => ret (.bl (!t))
  | .ite c a b, e => andThen (ev c e) fun x => andThen (truthM x) fun t => if t = true then ev a e else ev b e
  | .tup es, e => andThen (evs es e) fun xs => andThen (lenOk xs) fun xs => ret (.tup xs)
  | .lst es, e => andThen (evs es e) fun xs => andThen (lenOk xs) fun xs => ret (.lst xs)
  | .lstM es, e => andThen (evs es e) fun xs => andThen (lenOk xs) fun xs => fun s => .ok (.ref s.length) (s ++ [.lst xs])
  | .int_ a, e => andThen (ev a e) fun x => match x with
    | .int i => ret (.int i)
    | _ => badM
  | .ix a i, e => andThen (ev a e) fun x => andThen (ev i e) fun k => ixM x k
  | .sl a lo hi, e => andThen (ev a e) fun x => andThen (ev lo e) fun l => andThen (ev hi e) fun h => slM x l h
  | .lc own g it cnd elt, e => andThen (evi it e) fun xs => andThen (lcGo (fun x => match g.bind x (wipeE e own) with
      | none => badM
      | some e' => andThen (noXM (andThen (ev cnd e') truthM)) fun t => if t = true then andThen (noXM (ev elt e')) fun y => ret (some y) else ret none) xs.2 [] xs.1) fun ys => ret (.lst ys)
  | .lc2 own g it cnd own1 g1 it1 cnd1 elt, e => andThen (evi it e) fun xs => andThen (lc2Go (fun x => match g.bind x (wipeE e own) with
      | none => badM
      | some e' => andThen (noXM (andThen (ev cnd e') truthM)) fun t => ret (if t = true then some e' else none)) (fun e' => noXM (evi it1 e')) (fun e' x => match g1.bind x (wipeE e' own1) with
      | none => badM
      | some e'' => andThen (noXM (andThen (ev cnd1 e'') truthM)) fun t => if t = true then andThen (noXM (ev elt e'')) fun y => ret (some y) else ret none) xs.2 [] xs.1) fun ys => ret (.lst ys)
  | .call f es, e => andThen (evs es e) fun xs => f xs
  | .callV tab f es, e => andThen (ev f e) fun d => tabM tab d (evs es e)
  | .met r q b hs fin, e => fun s => if tabOk s r q then tryT hs fin (ev b e s) else .bad
  | .catL a b, e => andThen (ev a e) fun x => andThen (ev b e) fun y => catM x y
  | .app o a, e => andThen (ev o e) fun x => fun s => if atL s x then andThen (ev a e) (appX x) s else .bad
  | .ext o a, e => andThen (ev o e) fun x => fun s => if atL s x then andThen (ev a e) (extX x) s else .bad
  | .dnew, _ => ret .emp
  | .dnewM, _ => newDM [] []
  | .lcM own g it cnd elt, e => andThen (evi it e) fun xs => andThen (lcGo (fun x => match g.bind x (wipeE e own) with
      | none => badM
      | some e' => andThen (noXM (andThen (ev cnd e') truthM)) fun t => if t = true then andThen (noXM (ev elt e')) fun y => ret (some y) else ret none) xs.2 [] xs.1) newLM
  | .dc mu own g it cnd k v, e => andThen (evi it e) fun xs => andThen (dcGo (fun x => match g.bind x (wipeE e own) with
      | none => badM
      | some e' => andThen (noXM (andThen (ev cnd e') truthM)) fun t => if t = true then andThen (noXM (ev k e')) fun y => andThen (noXM (ev v e')) fun z => ret (some (y, z)) else ret none) xs.2 [] [] xs.1) fun p => if mu = true then newDM p.1 p.2 else ret (.dct p.1 p.2)
  | .lamB r q φ a, e => andThen (ev a e) fun x => fun s => if tabOk s r q = true then optM (φ [drf s x]) s else .bad
  | .d1 mu k v, e => andThen (ev k e) fun x => andThen (ev v e) fun y => if kcls x = some false then (if mu = true then newDM [x] [y] else ret (.dct [x] [y])) else badM
  | .dget a k d, e => andThen (ev a e) fun x => fun s => if atD s x = true then andThen (ev k e) (fun y => andThen (ev d e) fun z => dgetM x y z) s else .bad
  | .dupd o a, e => andThen (ev o e) fun x => fun s => if atD s x = true then andThen (ev a e) (updX x) s else .bad
  | _, _ => badM
def evs : E → Ev → M (List D)
  | .nil, _ => ret []
  | .cons a es, e => andThen (ev a e) fun x => andThen (evs es e) fun xs => ret (x :: xs)
  | .star a es, e => andThen (ev a e) fun x => andThen (optM (itemsD x)) fun ys => andThen (evs es e) fun xs => ret (ys ++ xs)
  | _, _ => badM
def evi : E → Ev → M (List D × Gd)
  | .it1 a, e => andThen (ev a e) lsM
  | .rng1 a, e => andThen (ev a e) fun x => andThen (optM (rngD [x])) fun xs => ret (xs, [])
  | .rng2 a b, e => andThen (ev a e) fun x => andThen (ev b e) fun y => andThen (optM (rngD [x, y])) fun xs => ret (xs, [])
  | .zip a b, e => andThen (ev a e) fun x => andThen (ev b e) fun y => zipM x y
  | .enum a, e => andThen (ev a e) enuM
  | .rng3 a b c, e => andThen (ev a e) fun x => andThen (ev b e) fun y => andThen (ev c e) fun z => andThen (optM (rngD3 x y z)) fun xs => ret (xs, [])
  | .itms a, e => andThen (ev a e) fun x => andThen (optM (dctOf x)) fun p => ret (itmL p.1 p.2, [])
  | _, _ => badM
end

/-! ### statements -/
inductive Fl where
  | nx | rt (d : D) | bk | ct
inductive S where
  | pass | brk | cnt
  | asg (g : T) (a : E)
  | par (i j : Nat) (a b : E)
  | setix (o i a : E)
  | expr (a : E)
  | ret (a : E)
  | ifs (c : E) (t u : S)
  | whl (n : Nat) (c : E) (b : S)
  | for_ (g : T) (it : E) (b : S)
  | seq (a b : S)
  | raise (x : Str) (a : E)
  | never
  | aug (i : Nat) (o : Operator) (a : E)
def storeD (s : Sto) (r : Nat) (ks vs : List D) (k d : D) : Option Sto := if ks.length < sizeLine then (fitK ks k).map fun n => s.set r (.dct (putK2 ks vs k n d).1 (putK2 ks vs k n d).2) else none
def setStore (s : Sto) (x i d : D) : Option Sto := match x, i with
  | .ref r, .int k => match s[r]? with
    | some (.lst xs) => (L2.ixN xs.length k).map fun j => s.set r (.lst (xs.set j d))
    | some (.dct ks vs) => storeD s r ks vs (.int k) d
    | _ => none
  | .ref r, k => match s[r]? with
    | some (.dct ks vs) => storeD s r ks vs k d
    | _ => none
  | _, _ => none
def whlGo (c : Ev → M Bool) (b : Ev → M (Fl × Ev)) : Nat → Ev → M (Fl × Ev)
  | 0, _ => badM
  | n + 1, e => andThen (c e) fun t => if t = true then andThen (b e) fun r => match r.1 with
      | .nx => whlGo c b n r.2
      | .ct => whlGo c b n r.2
      | .bk => Gw.ret (.nx, r.2)
      | .rt d => Gw.ret (.rt d, r.2)
    else Gw.ret (.nx, e)
def forGo (g : T) (b : Ev → M (Fl × Ev)) (gd : Gd) : List D → Ev → M (Fl × Ev)
  | [], e => chk gd (Gw.ret (.nx, e))
  | x :: xs, e => chk gd (match g.bind x e with
    | none => badM
    | some e' => andThen (b e') fun r => match r.1 with
      | .nx => forGo g b gd xs r.2
      | .ct => forGo g b gd xs r.2
      | .bk => Gw.ret (.nx, r.2)
      | .rt d => Gw.ret (.rt d, r.2))
def ex : S → Ev → M (Fl × Ev)
  | .pass, e => Gw.ret (.nx, e)
  | .brk, e => Gw.ret (.bk, e)
  | .cnt, e => Gw.ret (.ct, e)
  | .asg g a, e => andThen (ev a e) fun x => match g.bind x e with
    | some e' => Gw.ret (.nx, e')
    | none => badM
  | .par i j a b, e => andThen (ev a e) fun x => andThen (ev b e) fun y => Gw.ret (.nx, (e.set i (some x)).set j (some y))
  | .setix o i a, e => andThen (ev a e) fun x => andThen (ev o e) fun y => andThen (ev i e) fun k => fun s => match setStore s y k x with
    | some s' => .ok (.nx, e) s'
    | none => .bad
  | .expr a, e => andThen (ev a e) fun _ => Gw.ret (.nx, e)
  | .ret a, e => andThen (ev a e) fun x => Gw.ret (.rt x, e)
  | .ifs c t u, e => andThen (ev c e) fun x => andThen (truthM x) fun k => if k = true then ex t e else ex u e
  | .whl n c b, e => whlGo (fun e => andThen (ev c e) truthM) (ex b) n e
  | .for_ g it b, e => andThen (evi it e) fun xs => forGo g (ex b) xs.2 xs.1 e
  | .seq a b, e => andThen (ex a e) fun r => match r.1 with
    | .nx => ex b r.2
    | f => Gw.ret (f, r.2)
  | .raise x a, e => andThen (ev a e) fun v => fun s => .ex x v s
  | .never, _ => badM
  | .aug i o a, e => andThen (optM ((e[i]?).bind id)) fun x => andThen (ev a e) fun y => andThen (optM (augD o x y)) fun z => Gw.ret (.nx, e.set i (some z))
def startE (n : Nat) (ds : List D) : Ev := ds.map some ++ List.replicate (n - ds.length) none
def endD : Fl → M D
  | .nx => Gw.ret .non
  | .rt d => Gw.ret d
  | _ => badM
/-- a def: n slots, p parameters -/
def fnM (n p : Nat) (b : S) : List D → M D := fun ds => if ds.length = p then andThen (ex b (startE n ds)) fun r => endD r.1 else badM
/-- what a def made for itself is forgotten at its end -/
def frzT (n : Nat) (v : D) (s : Sto) : D := match v with
  | .ref r => if n ≤ r then (match s[r]? with
    | some (.lst xs) => .lst xs
    | some (.dct ks vs) => .dct ks vs
    | _ => .ref r) else .ref r
  | v => v
def trimT (n : Nat) : Tr D → Tr D
  | .ok v s => if (frzT n v s).rf && (s.take n).all MO.rf then .ok (frzT n v s) (s.take n) else .ok v s
  | .ex x v s => if v.rf && (s.take n).all MO.rf then .ex x v (s.take n) else .ex x v s
  | .pick m k => .pick m fun i => trimT n (k i)
  | .bad => .bad
def trimM (f : List D → M D) : List D → M D := fun ds s => trimT s.length (f ds s)
end Gw

set_option Elab.async false
set_option linter.all false
set_option maxRecDepth 100000
set_option maxHeartbeats 2000000
/-! Gx1: try with several except clauses, some with a name. -/
namespace Gw
open PySem PySem.Spec PyProof.Rows L2
abbrev Suite := Addr → Value → Option Addr → TS
/-- a clause: its class, the slot of its name if it has one, its suite -/
abbrev Clause := Value × Option Nat × Suite
def endsAt (D : Ends) : Option Nat → Ends
  | none => D
  | some i => ⟨fun τ G => D.nx (τ.set i none) G, D.rt, fun τ G => D.bk (τ.set i none) G, fun τ G => D.ct (τ.set i none) G⟩
def putAt (τ : L2.St) (a : Addr) : Option Nat → L2.St
  | none => τ
  | some i => τ.set i (some (.ref a))
def wMix (K : PySem.W.Frag) (Wo : WX) (D : Ends) : List Clause → WX
  | [] => Wo
  | q :: r => fun cls d τ G => ∃ b, PySem.W.exmOne K cls q.1 = some b ∧ (b = true → ∀ a, G a = none → q.2.2 a cls d (endsAt D q.2.1) (putAt τ a q.2.1) G) ∧ (b = false → wMix K Wo D r cls d τ G)
/-- how a clause is written -/
structure ClauseOk (X : Cx) (h : ExceptHandler) (q : Clause) : Prop where
  ok : ∃ (x : Str) (np p : Pos) (o : Option Str) (st : Stmt) (r : List Stmt), h = .ExceptHandler (some (.Name x np)) o (st :: r) p ∧ Names X x q.1 ∧
    (match o with
      | none => q.2.1 = none
      | some n => ∃ i, q.2.1 = some i ∧ X.N[i]? = some n ∧ X.env.kindOf n = some .local) ∧
    ∀ (a : Addr) (oe : Obj) (cls : Value) (d : Option Addr) (pn : List (Addr × Obj)), Zc cls d oe → (∃ vs, oe.data = .fields vs) → PSs (X.suite a ((a, oe) :: pn)) (st :: r) (q.2.2 a cls d)
section
variable {X : Cx} {body : List Stmt} {h₀ : ExceptHandler} {hds : List ExceptHandler} {l : List Clause} {pos : Pos} {tb : WX → TS} {Wo : WX}
/-- the frames of a def hold no exception -/
theorem exc_off {B : Heap} {h : Heap} {a : Addr} {oe : Obj} {vs : Array Value} {l : List Env} (ff : h.FunFrames B l) (e : h.get? a = some oe) (dd : oe.data = .fields vs) : a ∉ frs l := fun hm => by
  obtain ⟨_, oz, ez, hz⟩ := ff.mem hm
  cases e.symm.trans ez
  exact hz _ dd
theorem ps_mix (hs : X.stack = X.env :: X.outer) (hf : X.env.frame = some X.env.locals) (hN : X.N.Nodup) (tk : Takes X Wo)
    (hb : ∀ (W : WX) (pn : List (Addr × Obj)) (xe : Value → Shared → Prop), Takes (X.tr pn xe) W → PassesOwn (model X.prog X.w) X.A X.env xe → PSs (X.tr pn xe) body (tb W))
    (hh : Paired (ClauseOk X) (h₀ :: hds) l) : PS X (.Try body (h₀ :: hds) [] [] pos) (fun D σ H => tb (fun cls d τ G => τ.length = X.N.length → wMix X.K Wo D l cls d τ G) D σ H) := by
  refine ⟨fun pins s σ H D I hw => ?_⟩
  have ok := I.ok
  have hfr : X.A.frames = some (X.env :: X.outer) := ok.frames.trans (congrArg some hs)
  -- what stands behind an exception
  let after : Value → Shared → Prop := fun e s₁ => wpAny (model X.prog X.w) X.A (noteFrame e X.env) (fun _ s₂ => wpAny (model X.prog X.w) X.A (setFlight e none) (fun _ s₃ =>
    wpAny (model X.prog X.w) X.A (handleBy e X.env (h₀ :: hds)) (SP X pins D) X.xe s₃) X.xe s₂) X.xe s₁
  have catch_ : Takes (X.tr (X.pn ++ pins) after) (fun cls d τ G => τ.length = X.N.length → wMix X.K Wo D l cls d τ G) := by
    intro u s' xx
    obtain ⟨a, B, sI, pz, σ', G, cls, d, rfl, J', nb, up, sky, na, os, ag, w⟩ := xx
    have J : Inv X pins σ' G sI := J'.ofTry ok
    have w := w J.len
    have sky2 : Sky B (X.env :: X.outer) a (Zc cls d) X.env.locals s'.heap := hs ▸ sky
    show wpAny (model X.prog X.w) X.A (noteFrame (.ref a) X.env) _ _ _
    refine Sky.land Zc.steady hfr hf sky2 fun g fl upg => ?_
    have Jg : Inv X pins σ' G { s' with heap := g } := J.landed nb fl.1 (up.trans upg) os ag
    obtain ⟨og, vg, eg, zg, dg⟩ := fl.there
    have off := exc_off fl.2.2.1 eg dg
    have nL : a ≠ X.env.locals := fun z => off (List.mem_filterMap.mpr ⟨X.env, List.mem_cons_self, by rw [hf, z]⟩)
    have nF : a ∉ X.fs := fun hm => by
      obtain ⟨e, he, q⟩ := List.mem_filterMap.mp hm
      exact off (List.mem_filterMap.mpr ⟨e, List.mem_cons_of_mem _ he, q⟩)
    have Sg := Jg.suite eg dg na nL nF
    have tyA : PySem.W.Looks (model X.prog X.w) g (typeOf (.ref a)) cls := fun A Q E s k q => wpAny_typeOf_ref (k _ _ eg) (zg.1.symm ▸ q)
    have go : ∀ {hds' : List ExceptHandler} {l' : List Clause}, Paired (ClauseOk X) hds' l' → wMix X.K Wo D l' cls d σ' G → wpAny (model X.prog X.w) X.A (handleBy (.ref a) X.env hds') (SP X pins D) X.xe { s' with heap := g } := by
      intro hds' l' hk
      induction hk with
      | nil =>
        intro w
        refine wpAny_handleBy_nil ?_
        obtain ⟨_, _, _, oe, vs, T, oT, ts', he, hz, hd, h1, hr⟩ := id fl
        unfold PySem.passOn
        refine wpAny_bind (wpAny_field he hd h1 ?_)
        rw [if_neg (by simp : ¬ ((Value.ref T == Value.none) = true))]
        have fin : wpAny (model X.prog X.w) X.A (setFlight (.ref a) X.env.frame) (fun _ s4 => wpAny (model X.prog X.w) X.A (throw (.ref a) : Sem Flow) (SP X pins D) X.xe s4) X.xe { s' with heap := g } := by
          rw [hf]
          refine HandSPX.setFlight_upZ fl fun g4 hh4 up4 => wpAny_throw (tk _ _ ⟨a, B, sI, pins, σ', G, cls, d, rfl, J, nb, (up.trans upg).trans up4, .inr (.inr (hs ▸ hh4)), na, os, ag, w⟩)
        first
          | exact wpAny_bind fin
          | exact wpAny_bind (wpAny_pure (wpAny_bind fin))
      | @cons hd q hds2 l2 hq _ ih =>
        intro w
        obtain ⟨b, hb1, hyes, hno⟩ := w
        obtain ⟨x, np, p, o, st, r, rfl, hc, ho, hsu⟩ := hq.ok
        refine wpAny_handleBy_cons (codeAny_handlers_test ?_) (fun z => by cases z)
        have LM := PySem.W.exm_one (M := model X.prog X.w) Jg.kIn tyA hb1
        have test : ∀ {Q E : Value → Shared → Prop}, Q q.1 { s' with heap := g } → wpAny (model X.prog X.w) (X.A.mark (some (.ref a))) (eval (.Name x np) X.env) Q E { s' with heap := g } := fun {Q E} z => by
          obtain ⟨hg, hdbg, hm | ⟨hm, hv, hnn⟩⟩ := hc
          · exact ld_glob (X := X.suite a ((a, og) :: (X.pn ++ pins))) Sg hg hm z hdbg
          · exact ld_blt (X := X.suite a ((a, og) :: (X.pn ++ pins))) Sg hg hm hv z hnn hdbg
        refine test (LM.here ?_)
        cases b with
        | false =>
          show wpAny _ X.A (handleBy (.ref a) X.env hds2) _ _ _
          exact ih (hno rfl)
        | true =>
          have run := hyes rfl a na
          cases o with
          | none =>
            rw [show q.2.1 = none from ho] at run
            refine codeAny_handlers_suite (HandSPX.lands_againZ fl fun g4 fl4 up4 => ?_)
            have J4 : Inv X pins σ' G { s' with heap := g4 } := J.landed nb fl4.1 ((up.trans upg).trans up4) os ag
            obtain ⟨o4, v4, e4, z4, d4⟩ := fl4.there
            refine wpAny_mono ((hsu a o4 cls d (X.pn ++ pins) z4 ⟨_, d4⟩).run [] _ _ G _ (J4.suite e4 d4 na nL nF) run) (fun f s6 hsp => ?_) fun _ _ z => z.elim
            cases f with
            | ret u =>
              obtain ⟨v6, σ6, H6, S6, r6, q6⟩ := hsp
              exact ⟨_, _, _, S6.unsuite ok, r6, q6⟩
            | _ =>
              obtain ⟨σ6, H6, S6, q6⟩ := hsp
              exact ⟨_, _, S6.unsuite ok, q6⟩
          | some n =>
            obtain ⟨i, ei, hi, hl⟩ := ho
            rw [ei] at run
            refine codeAny_handlers_suite_as (HandSPX.lands_againZ fl fun g4 fl4 up4 => ?_)
            have J4 : Inv X pins σ' G { s' with heap := g4 } := J.landed nb fl4.1 ((up.trans upg).trans up4) os ag
            obtain ⟨o4, v4, e4, z4, d4⟩ := fl4.there
            refine store_ok (X := X.suite a ((a, o4) :: (X.pn ++ pins))) (v := .ref a) (J4.suite e4 d4 na nL nF) hN hi (.inl hl) rfl (fun s5 S5 => ?_) (.inr hl)
            refine wpAny_mono ((hsu a o4 cls d (X.pn ++ pins) z4 ⟨_, d4⟩).run [] s5 _ G _ S5 run) (fun f s6 hsp => ?_) fun _ _ z => z.elim
            cases f with
            | ret u =>
              obtain ⟨v6, σ6, H6, S6, r6, q6⟩ := hsp
              exact gone_ok (S6.unsuite ok) hN hi hl fun s7 J7 => ⟨_, _, _, J7, r6, q6⟩
            | _ =>
              obtain ⟨σ6, H6, S6, q6⟩ := hsp
              exact gone_ok (S6.unsuite ok) hN hi hl fun s7 J7 => ⟨_, _, J7, q6⟩
    exact go hh w
  refine wpAny_Try_except (wpAny_mono ((hb _ (X.pn ++ pins) after catch_ PassesOwn.looking).run [] s σ H D (I.toTry _) hw) (fun f s1 hsp => ?_) fun e s1 he => he)
  cases f with
  | next =>
    obtain ⟨σ', G, J, q⟩ := hsp
    exact wpAny_execs_nil ⟨σ', G, J.ofTry ok, q⟩
  | ret u =>
    obtain ⟨v, σ', G, J, r, q⟩ := hsp
    exact ⟨v, σ', G, J.ofTry ok, r, q⟩
  | _ =>
    obtain ⟨σ', G, J, q⟩ := hsp
    exact ⟨σ', G, J.ofTry ok, q⟩
end
end Gw

set_option Elab.async false
set_option linter.all false
set_option maxRecDepth 100000
set_option maxHeartbeats 4000000
/-! Gx2: an error of an own class whose __init__ says super().__init__(x) and keeps x. -/
namespace Gw
open PySem PySem.Spec PyProof.Rows L2 PySem.W PySem.Calls Builtin Builtin.ObjectAttr
/-- what is known of the builtin base -/
structure BaseK (B newId initId : String) (bmB : List Value) : Prop where
  f : ExcBaseFacts B newId initId bmB
  k : KxsFacts B initId
  s : StoreFacts B bmB "object.__setattr__" "object"
/-- what the written part says of the class -/
structure KeepC (P : Program) (K : PySem.W.Frag) (C fI : Addr) (B newId initId : String) (bmB : List Value) (qual : Str) (params : Arguments) (body : List Stmt) (scope : Scope) (fld : Str) : Prop where
  base : BaseK B newId initId bmB
  cls : excInitIn K C bmB newId = true
  over : excOver K C bmB = true
  fn : ∃ od kV doc pm an cda ct cc osl ocd odd vs sld file tf cl cld csl, K.lookup fI = some ⟨.type "function", od, .func (ksFn "__init__" qual params body scope .none kV doc pm an (.ref cda) ct cc), osl⟩ ∧ codeIn K (.ref cda) qual = true ∧
    K.lookup cda = some ⟨ocd, odd, .fields vs, sld⟩ ∧ vs[2]? = some (.str file tf) ∧ ((P.main.file : Str) == file) = true ∧ K.lookup cc = some ⟨cl, cld, .cell (some (.ref C)), csl⟩
  sup : ks_superIn K C C "__init__" = some (some (.builtin initId))
  self_ : mroIn K C (.ref C) = some true
  subB : subIn K (.ref C) (.type B) = some true
  opq : nsIn K cStatics "thirdparty.any" = some none
  sa : findIn K (.ref C) "__setattr__" = some (some (.builtin "object.__setattr__"))
  tk : takerIn K C fld = some none
  dct : hasDictIn K C = true
  ini : findIn K (.ref C) "__init__" = some (some (.ref fI))
  exc : subIn K (.ref C) (.type "BaseException") = some true
  ty : typeIn K (.ref C) = some (.type "type")
  kp : keepIn K (.ref C) = true
  nos : nsIn K mainGlobals "super" = some none
  top : (P.main.scope.names.lookup ("super" : Str)).isSome = false
/-- the __init__'s text -/
structure InitT (params : Arguments) (body : List Stmt) (scope : Scope) (x fld : Str) : Prop where
  body : ∃ p0 p1 p2 p3 p4 p5 p6 p7 p8 p9, body = [.Expr (.Call (.Attribute (.Call (.Name "super" p0) [] [] p1) "__init__" p2) [.Name x p3] [] p4) p5, .Assign [.Attribute (.Name "self" p6) fld p7] (.Name x p8) p9] ∧ ∀ env : Env, ∃ pl : Sem Bool, eval (.Call (.Attribute (.Call (.Name "super" p0) [] [] p1) "__init__" p2) [.Name x p3] [] p4) env = (do
      let ov ← attributeBase (.Call (.Name "super" p0) [] [] p1) "__init__" env (eval (.Call (.Name "super" p0) [] [] p1) env)
      standAt p2.atName
      let (f, first) ← holding [ov] (getMethod ov "__init__" pl)
      callWith p4 f first (backTo p4 (starEach [.Name x p3] env)) [])
  par : ∃ ar, (params.posonlyargs ++ params.args).head? = some ar ∧ ar.arg = ("self" : Str)
  bind : ∀ (q : Str) (b : List Stmt) (cl : List (Str × Addr)) (kV doc pm cv ct : Value) (an : Option Addr) (u v : Value), bindArgs (fnX "__init__" q params b scope cl .none kV doc pm an cv ct) ⟨[u, v], []⟩ = pure [(("self" : Str), u), (x, v)]
  ks : scope.names.lookup ("super" : Str) = some .globalImplicit
  kc : scope.names.lookup ("__class__" : Str) = some .free
  k1 : scope.names.lookup ("self" : Str) = some .local
  k2 : scope.names.lookup x = some .local
  cell : ∀ y ∈ scope.names, y.2 ≠ .cell
  co : scope.isCoroutine = false
  gen : scope.isGenerator = false
  kind : scope.kind = .function
  nself : x ≠ "self"
  ndb : (x == ("__debug__" : Str)) = false
/-- an exception with a dict -/
abbrev excD (C t dx : Addr) : Obj := { cls := .ref C, dict := some dx, data := .fields #[.ref t, .none, .none, .none, .bool false, .none] }
section
variable {prog : Program} {w : World} {A : Around} {E : Value → Shared → Prop} {hp : Heap} {g : Array GenState} {d : Drawn} {t : Nat} {os : OsState}
variable {K : PySem.W.Frag} {C fI : Addr} {B newId initId : String} {bmB : List Value} {qual : Str} {params : Arguments} {body : List Stmt} {scope : Scope} {fld : Str}
/-- the builtin __init__, called through the wrapper -/
theorem call_mw {u e t0 : Addr} {rest : List Value} {nm qn : Str} {N : Addr} {bs bm : List Value} {hdct : Bool} {sn : List Str} {sub : List Value} {ab : Bool} {col : Option Bool} {dd : Option Addr} {k0 k1 k2 k3 k5 : Option Value} {Q : Value → Shared → Prop}
    (F : ExcBaseFacts B newId initId bmB) (hC : hp.get? C = some (excClassObj nm qn C N bs bm hdct sn sub ab col dd k0 k1 k2 k3 k5 newId)) (he : hp.get? e = some (HandSPX.excO C t0)) (hu : hp.get? u = some (kxs_mw initId e)) (hl : rest.length ≤ sizeLine)
    (hq : ∀ h' t1, (∀ b o, b ≠ e → hp.get? b = some o → h'.get? b = some o) → h'.get? e = some (HandSPX.excO C t1) → Q .none ⟨h', g, d, t, os⟩) :
    wpAny (model prog w) A (call (.ref u) rest) Q E ⟨hp, g, d, t, os⟩ := by
  refine wpAny_call (codeAny_of_tree ?_)
  show wpAny _ A.in1 (callAny (.ref u) ⟨rest, []⟩) _ _ _
  simp only [callAny]
  refine wpAny_bind (wpAny_load hu ?_)
  simp only [kxs_mw, show (Value.type "method-wrapper" == Value.type "method" || Value.type "method-wrapper" == Value.type "builtin_function_or_method" || Value.type "method-wrapper" == Value.type "method-wrapper") = true from by decide, if_true]
  refine KFB.if_so (by decide) (wpAny_bind (check_bound_init F.toExcCallFacts hC he rfl ?_))
  refine wpAny_bind (wpAny_pure (wpAny_pure ⟨plainId_quiet F.init.plain _, codeAny_builtin F.initEntry ?_⟩))
  exact exc_init_tree (cls := .ref C) (t0 := t0) (dv := none) (c2 := .none) (c3 := .none) (b4 := .bool false) he hl fun h' k e1 _ => hq h' _ k e1
/-- the first field of an exception -/
theorem store_first {name : Str} {v : Value} {e t0 : Addr} {Q : Unit → Shared → Prop} (SF : StoreFacts B bmB "object.__setattr__" "object") (X : K.In hp) (over : excOver K C bmB = true) (tk : takerIn K C name = some none) (dct : hasDictIn K C = true) (sa : findIn K (.ref C) "__setattr__" = some (some (.builtin "object.__setattr__")))
    (he : hp.get? e = some (HandSPX.excO C t0))
    (hq : ∀ h' t' dx, (∀ b o, b ≠ e → hp.get? b = some o → h'.get? b = some o) → hp.objs.size ≤ dx → dx ≠ e → h'.get? e = some (excD C t0 dx) → h'.Ns1 dx (fun y => if y = name then some v else none) → Q () ⟨h', g, d, t', os⟩) :
    wpAny (model prog w) A (setAttr (.ref e) name v) Q E ⟨hp, g, d, t, os⟩ := by
  have I : InstAt hp e (HandSPX.excO C t0) C none := ⟨he, rfl, rfl, trivial⟩
  refine set_plain X I sa (osa_openX SF X I over tk fun b => ?_)
  obtain ⟨cd, hc, hd⟩ : ∃ cd, clsIn K C = some cd ∧ cd.hasDict = true := by
    have z : (clsIn K C).any (fun c => c.hasDict) = true := dct
    cases h : clsIn K C with
    | none => rw [h] at z; cases z
    | some c => rw [h] at z; exact ⟨c, rfl, z⟩
  have hcls : Looks (model prog w) hp (classData C) cd := looks_clsIn X hc
  have hxs : e ≠ hp.objs.size := Nat.ne_of_lt (Heap.lt_size he)
  show wpAny _ _ (storeInOwnDict (.ref e) (.ref C) (.str name t) name v b) _ _ _
  obtain ⟨nm, bs, mro, ns, qn, hd', sn, sb, ab, col, del⟩ := cd
  dsimp only at hd
  subst hd
  unfold storeInOwnDict ownDictForStores
  repeat (first | with_reducible refine HandSPX.store_in_new ?_ ?_ | with_reducible refine wpAny_loadPart_at he ?_ | with_reducible refine hcls.at ?_ | wp_step)
  · exact ⟨_, #[], _, (Heap.get?_update_ne _ _ _ _ hxs.symm).trans (Heap.get?_push_at rfl rfl), rfl, fun _ z => absurd z (by simp), fun _ => rfl⟩
  · intro h' tk' hn hs
    refine hq h' tk' hp.objs.size (fun b o hb ho => ?_) (Nat.le_refl _) hxs.symm ?_ hn
    · exact (hs.2 b (Nat.ne_of_lt (Heap.lt_size ho))).trans ((Heap.get?_update_ne _ _ _ _ hb).trans (Heap.get?_push_of_some _ ho))
    · exact (hs.2 e hxs).trans (Heap.get?_update_self _ (Heap.get?_push_of_some _ he) rfl)
end
section
variable {X : Cx} {pins : List (Addr × Obj)} {σ : L2.St} {H : Hp} {hp : Heap} {g : Array GenState} {d : Drawn} {t : Nat} {os : OsState}
variable {C fI : Addr} {B newId initId : String} {bmB : List Value} {qual : Str} {params : Arguments} {body : List Stmt} {scope : Scope} {x fld : Str}
theorem boot_super_ : bootBuiltins "super" = some (.type "super") := by kernel_rfl
theorem keep_call (T : KeepC X.prog X.K C fI B newId initId bmB qual params body scope fld) (S : InitT params body scope x fld) (I : Inv X pins σ H ⟨hp, g, d, t, os⟩) (hr : Room 2 X.A) {u : Value} {Q E : Value → Shared → Prop}
    (hq : ∀ e dx h' t1 t', (∀ b o, hp.get? b = some o → h'.get? b = some o) → hp.objs.size ≤ e → hp.objs.size ≤ dx → dx ≠ e → h'.get? e = some (excD C t1 dx) → h'.Ns1 dx (fun y => if y = fld then some u else none) → Q (.ref e) ⟨h', g, d, t', os⟩) :
    wpAny (model X.prog X.w) X.A (call (.ref C) [u]) Q E ⟨hp, g, d, t, os⟩ := by
  obtain ⟨nm, N, qn, bs, bm, hdct, sn, sub, ab, col, dd, k0, k1, k2, k3, k5, hC, hT⟩ := excInit_of I.kIn T.cls
  obtain ⟨od, kV, doc, pm, an, cda, ct, cc, osl, ocd, odd, vs, sld, file, tf, cl, cld, csl, lk, hcd, lcd, hvs, hfile, lcc⟩ := T.fn
  obtain ⟨p0, p1, p2, p3, p4, p5, p6, p7, p8, p9, hbd, hev⟩ := S.body
  obtain ⟨ar, har, earg⟩ := S.par
  have one : ([u] : List Value).length ≤ sizeLine := (by rw [sizeLine_eq]; show 1 ≤ _; decide)
  have kin : X.K.In hp := I.kIn
  refine wpAny_call (HandSPX.call_own T.base.f hT hC (looks_findIn kin T.ini) (fun self => exc_bind (kin _ _ lk) rfl self) one ?_)
  -- the exception, bare
  obtain ⟨e, he⟩ : ∃ e, e = hp.objs.size + 1 := ⟨_, rfl⟩
  obtain ⟨h1, hh1⟩ : ∃ h1, h1 = (hp.push (kdv_tup [u])).push (HandSPX.excO C hp.objs.size) := ⟨_, rfl⟩
  have k1' : ∀ b o, hp.get? b = some o → h1.get? b = some o := fun b o z => by rw [hh1]; exact Heap.get?_push_of_some _ (Heap.get?_push_of_some _ z)
  have e1 : h1.get? e = some (HandSPX.excO C hp.objs.size) := by
    rw [hh1, he]
    heap_get
  rw [← he, ← hh1]
  have lim : h1.NoLimit := I.nolimit.keeps k1'
  subst hbd
  refine ks_codeAny_call_defAt (fd := ksFn "__init__" qual params _ scope .none kV doc pm an (.ref cda) ct cc) (binds := [(("self" : Str), .ref e), (x, u)]) (hr.make C [u] []).depth (k1' _ _ (kin _ _ lk)) rfl lim (codeRec_of (kin.keeps k1') hcd) rfl (.of_eq (S.bind _ _ _ _ _ _ _ _ _ _ _)) S.cell (fun y hy => ?_) (fun h0 hns kh0 => ?_) S.co S.gen S.kind
  · simp only [List.mem_cons, List.not_mem_nil, or_false] at hy
    rcases hy with rfl | rfl
    · exact S.k1
    · exact S.k2
  have k2 : ∀ b o, hp.get? b = some o → h0.get? b = some o := fun b o z => kh0 b o (k1' b o z)
  have kin2 : X.K.In h0 := kin.keeps k2
  have look1 : (fun y => (([(("self" : Str), Value.ref e), (x, u)] : List (Str × Value)).reverse.lookup y)) "self" = some (.ref e) := by
    show (List.lookup ("self" : Str) [(x, u), (("self" : Str), Value.ref e)]) = _
    rw [List.lookup_cons, beq_false_of_ne (Ne.symm S.nself)]
    simp
  have look2 : (fun y => (([(("self" : Str), Value.ref e), (x, u)] : List (Str × Value)).reverse.lookup y)) x = some u := by
    show (List.lookup x [(x, u), (("self" : Str), Value.ref e)]) = _
    simp
  have e2 : h0.get? e = some (HandSPX.excO C hp.objs.size) := kh0 _ _ e1
  obtain ⟨oD, hD1, cdD, hD2⟩ : ∃ oD, h0.get? C = some oD ∧ ∃ cdD, oD.data = .cls cdD := ⟨_, k2 _ _ hC, _, rfl⟩
  have IA : ∀ {h : Heap}, h.get? e = some (HandSPX.excO C hp.objs.size) → InstAt h e (HandSPX.excO C hp.objs.size) C none := fun z => ⟨z, rfl, rfl, trivial⟩
  have hcls : ∃ cd, clsIn X.K C = some cd := by
    have z := T.sup
    unfold ks_superIn at z
    cases hc : clsIn X.K C with
    | none => rw [hc] at z; cases z
    | some cd => exact ⟨cd, rfl⟩
  obtain ⟨cd, hcd'⟩ := hcls
  have hal : alongIn X.K "__init__" ((cd.mro.dropWhile (· != .ref C)).drop 1) = some (some (.builtin initId)) := by
    have z := T.sup
    unfold ks_superIn at z
    rw [hcd'] at z
    exact z
  obtain ⟨mb, hmb, hmb2⟩ := I.mod.blt
  have nsup : X.mg "super" = none := mg_none_of kin (I.mod.glob.keeps I.bk) T.nos
  obtain ⟨pl, hev⟩ := hev (ksEnv qual scope h1.objs.size fI (.ref cda) cc)
  have hint : interactive (ksEnv qual scope h1.objs.size fI (.ref cda) cc) = false := by
    unfold interactive
    simp [envX, newEnv, S.kind]
  refine ks_wpAt_execs_cons (ks_wpAt_Expr_any (ks_wpAt_MethodCall (env := ksEnv qual scope h1.objs.size fI (.ref cda) cc) ?_ hev) hint)
  refine ks_wpAt_super_base (env := ksEnv qual scope h1.objs.size fI (.ref cda) cc) S.ks S.kc (by decide) rfl (kin2 _ _ lk) rfl har rfl (kin2 _ _ lcd) rfl hvs hfile T.top ?_
  have gl2 : h0.Ns mainGlobals X.mg := (I.mod.glob.keeps I.bk).keeps k2
  have bl2 : h0.Ns builtinsNs mb := (hmb.keeps I.bk).keeps k2
  refine ks_loadName_global S.kind S.ks (loadGlobal_builtin (env := ksEnv qual scope h1.objs.size fI (.ref cda) cc) gl2 nsup bl2 ((hmb2 _ (by decide)).trans boot_super_) ⟨rfl, ?_⟩)
  refine wpAny_loadName_free S.kind S.kc rfl ⟨_, kin2 _ _ lcc, rfl⟩ ?_
  rw [earg]
  refine wpAny_loadName_local S.kind S.k1 hns look1 ?_
  refine ks_wpAny_isType_cls hD1 hD2 ⟨rfl, ?_⟩
  refine ks_wpAny_call_super hD1 hD2 e2 rfl (fun c z => by cases z) (looks_mroIn kin2 T.self_) (fun h3 eso k3' => ?_)
  have kin3 : X.K.In h3 := kin2.keeps k3'
  have e3 := k3' _ _ e2
  have hne : e ≠ C := fun z => by
    have q := k2 _ _ hC
    rw [← z, e2] at q
    cases q
  refine kxs_getMethod T.base.k eso (looks_opaque kin3 T.opq) (l₀ := cd.mro) ((looks_clsIn kin3 hcd').andThen .now) rfl kin3 hal ((IA e3).type.andThen (looks_subIn kin3 T.subB)) hne (by decide) ?_
  have k4 : ∀ b o, h3.get? b = some o → (h3.push (kxs_mw initId e)).get? b = some o := fun b o z => Heap.get?_push_of_some _ z
  have u4 : (h3.push (kxs_mw initId e)).get? h3.objs.size = some (kxs_mw initId e) := Heap.get?_push_size _ rfl
  have e4 := k4 _ _ e3
  have ns4 := (hns.keeps k3').keeps k4
  show wpAny _ _ (callWith p4 (.ref h3.objs.size) [] ((false, eval (.Name x p3) (ksEnv qual scope h1.objs.size fI (.ref cda) cc)) :: backTo p4 (starEach [] (ksEnv qual scope h1.objs.size fI (.ref cda) cc))) []) _ _ _
  refine kxs_callWith (i := initId) (x := e) rfl (evalArgs_plain (Calls.spliced_cons (wpAny_Name (wpAny_loadName_local S.kind S.k2 ns4 look2 ?_) S.ndb)))
  refine Calls.spliced_nil ⟨u4, ?_⟩
  have C4 := k4 _ _ (k3' _ _ (k2 _ _ hC))
  refine call_mw T.base.f C4 e4 u4 one (fun h5 t1 k5' e5 => ?_)
  have hLe : h1.objs.size ≠ e := Nat.ne_of_gt (Heap.lt_size e1)
  have ns5 : h5.Ns h1.objs.size fun y => ([(("self" : Str), Value.ref e), (x, u)] : List (Str × Value)).reverse.lookup y := by
    obtain ⟨o, es, ep, z, r⟩ := ns4
    exact ⟨o, es, ep, k5' _ _ hLe z, r⟩
  have old : ∀ b o, hp.get? b = some o → b ≠ e := fun b o z => by
    have := Heap.lt_size z
    rw [he]
    exact Nat.ne_of_lt (Nat.lt_succ_of_lt this)
  have k5 : ∀ b o, hp.get? b = some o → h5.get? b = some o := fun b o z => k5' b o (old b o z) (k4 _ _ (k3' _ _ (k2 _ _ z)))
  have kin5 : X.K.In h5 := kin.keeps k5
  refine ks_wpAt_execs_cons (wpAt_of_wpAny (plainObj_wpAny_Assign_Attribute (wpAny_Name (wpAny_loadName_local S.kind S.k2 ns5 look2 (wpAny_Name (wpAny_loadName_local S.kind S.k1 ns5 look1 ?_) (by decide))) S.ndb) rfl))
  refine store_first T.base.s kin5 T.over T.tk T.dct T.sa e5 (fun h6 t6 dx k6 hdx ne6 e6 ns6 => ?_)
  refine wpAt_of_wpAny (wpAny_execs_nil ⟨rfl, ?_⟩)
  have sz5 : hp.objs.size ≤ h5.objs.size := by
    have := Heap.lt_size e5
    rw [he] at this
    exact Nat.le_of_lt (Nat.lt_of_succ_lt this)
  exact hq e dx h6 t1 t6 (fun b o z => k6 b o (old b o z) (k5 b o z)) (by rw [he]; exact Nat.le_succ _) (Nat.le_trans sz5 hdx) ne6 e6 ns6
/-- C(v), an error that keeps v -/
def tKeep (C : Addr) (fld : Str) (ta : TE) : L2.St → Hp → XK → Prop := fun σ H Q => ta σ H fun v H1 => ∀ dx, H1 dx = none → Q (.ref C) (some dx) (upd H1 dx (.xd [(fld, v)]))
theorem pmk_keep {cn : Str} {e : Expr} {ta : TE} {p pos : Pos} (T : KeepC X.prog X.K C fI B newId initId bmB qual params body scope fld) (S : InitT params body scope x fld) (gC : X.mg cn = some (.ref C)) (hr : Room 2 X.A) (hg : Gl X cn) (ha : PE X e ta)
    (hdb : (cn == ("__debug__" : Str)) = false) (hs : starEach [e] X.env = (false, eval e X.env) :: starEach [] X.env) : PMk X (.Call (.Name cn p) [e] [] pos) (tKeep C fld ta) := by
  intro pins s σ H Q I h
  refine wpAny_Call_Name_kw (ld_glob I hg gC ?_ hdb)
  refine callWith_K (h₀ := X.base) I.ok.mod.kin T.kp (thn ((pa_cons ha pa_nil hs).run pos pins s σ H (fun vs H1 => match vs with
    | [v] => ∀ dx, H1 dx = none → Q (.ref C) (some dx) (upd H1 dx (.xd [(fld, v)]))
    | _ => False) I h) fun us s1 hh => ?_) hs rfl
  obtain ⟨vs, H1, I1, r1, q1⟩ := hh
  refine ⟨I1.kIn, ?_⟩
  show wpAny _ _ (call (.ref C) us) _ _ _
  match vs, r1, q1 with
  | [], _, q1 => exact q1.elim
  | _ :: _ :: _, _, q1 => exact q1.elim
  | [v], r1, q1 =>
    cases r1 with
    | @cons _ u _ ur rv rr =>
      cases rr
      obtain ⟨hp, g, d, t, os⟩ := s1
      refine keep_call T S I1 hr fun a dx h' t1 t' k sa sd ne ea ns => ?_
      obtain ⟨G, g1, g2⟩ := restrict h' fun b => decide (b ≠ a)
      have gk : ∀ b, b ≠ a → G.get? b = h'.get? b := fun b hb => g1 b (decide_eq_true hb)
      have ga : G.get? a = none := g2 a (by simp)
      have hd1 : H1 dx = none := I1.hok.fresh sd
      have kG : ∀ b o, hp.get? b = some o → G.get? b = some o := fun b o z => by
        have hb : b ≠ a := Nat.ne_of_lt (Nat.lt_of_lt_of_le (Heap.lt_size z) sa)
        rw [gk b hb]
        exact k b o z
      have ob : ObjOk X.prog X.w (upd H1 dx (.xd [(fld, v)])) G dx (.xd [(fld, v)]) := by
        refine ⟨_, ns.at fun o z => (gk dx ne).trans z, fun f => ?_⟩
        show RelO (List.lookup f [(fld, v)]) (if f = fld then some u else none)
        by_cases hf : f = fld
        · rw [if_pos hf, hf]
          simp only [List.lookup_cons, beq_self_eq_true]
          exact rv
        · rw [if_neg hf, List.lookup_cons, beq_false_of_ne hf]
          exact True.intro
      have J : L2.Inv X pins σ (upd H1 dx (.xd [(fld, v)])) ⟨G, g, d, t', os⟩ := I1.laid kG sd ob
      refine ⟨a, _, _, ⟨G, g, d, t', os⟩, _, .ref C, some dx, rfl, J, fun b o z => ?_, ga, ea, ⟨rfl, rfl⟩, rfl, rfl, ?_, rfl, I1.bare, raises_own T.exc T.ty, q1 dx hd1⟩
      · by_cases hb : b = a
        · rw [hb, ga] at z; cases z
        · exact (gk b hb).symm.trans z
      · rw [upd_ne (Ne.symm ne)]
        exact I1.hok.fresh sa
end
end Gw

set_option Elab.async false
set_option linter.all false
set_option maxRecDepth 100000
set_option maxHeartbeats 4000000
/-! Gx3: defs called where no repr is running; a lambda handed to a def. -/
namespace Gw
open PySem PySem.Spec PyProof.Rows L2 LamX
/-- no repr is running -/
abbrev Quiet (A : Around) : Prop := A.guards = some []
structure FnG (P : Program) (w : World) (K : PySem.W.Frag) (mg : Str → Option Value) (base : Heap) (CX : CXT) (k : Nat) (f : Addr) (fd : FuncData) (ps : List Str) (sp : Sp) : Prop where
  len : ∀ vs H Q E, sp vs H Q E → vs.length = ps.length
  run : ∀ (A : Around) (outer : List Env) (s : Shared) (H : Hp) (args : Args) (us : List Value) (vs : List V) (Q : VK) (E : XK), Room k A → Quiet A → Env0 P w K mg base A outer s H → BindsTo s fd args (ps.zip us) → Vals vs us → sp vs H Q E →
    codeAny (model P w) A (.call (.ref f) args) (CR CX outer P w H s Q E) s
section
variable {P : Program} {w : World} {K : PySem.W.Frag} {mg : Str → Option Value} {base : Heap} {CX : CXT} {k : Nat} {f : Addr} {fd : FuncData} {ps : List Str} {sp sp' : Sp}
theorem FnG.imp (F : FnG P w K mg base CX k f fd ps sp) (h : ∀ vs H Q E, sp' vs H Q E → sp vs H Q E) : FnG P w K mg base CX k f fd ps sp' :=
  ⟨fun vs H Q E q => F.len vs H Q E (h vs H Q E q), fun A outer s H args us vs Q E hr hg he hb hv hs => F.run A outer s H args us vs Q E hr hg he hb hv (h vs H Q E hs)⟩
theorem fnG_of {x qual : Str} {params : Arguments} {body : List Stmt} {scope : Scope} {N : List Str} (F : FunD K x qual params body scope [] [] f fd) (S : FnScope N ps scope) (len : ∀ vs H Q E, sp vs H Q E → vs.length = ps.length)
    (hbody : ∀ (cdv : Value) (A : Around) (outer : List Env) (s : Shared) (H : Hp) (vs : List V) (Q : VK) (E : XK), PySem.W.codeIn K cdv qual = true → (∃ oc od osl, K.lookup f = some ⟨oc, od, .func fd, osl⟩ ∧ fd.code = cdv) → Room k (A.deeper (envOfC qual scope s.heap.objs.size f cdv)) → Quiet (A.deeper (envOfC qual scope s.heap.objs.size f cdv)) → sp vs H Q E →
      ∃ t, PSs (cxOf CX P w K mg base N qual scope f cdv A outer s H E) body t ∧ t { nx := fun _ H' => Q .non H', rt := Q } (L2.start N vs) H) : FnG P w K mg base CX (k + 1) f fd ps sp := by
  obtain ⟨oc, od, dV, kV, doc, pm, an, cdv, ct, osl, rfl, lk, hcd, _, _⟩ := F.ex
  refine ⟨len, fun A outer s H args us vs Q E hr hg he hb hv hs => run_ofS lk hcd S hr he hb hv (len _ _ _ _ hs) fun hr' => ?_⟩
  exact hbody cdv A outer s H vs Q E hcd ⟨oc, od, osl, lk, rfl⟩ hr' hg hs
end
section
variable {X : Cx} {CX : CXT} {k : Nat} {f : Addr} {fd : FuncData} {ps : List Str} {sp : Sp} {E : L2.St → XK} {x : Str} {p pos : Pos} {e : Expr} {es : List Expr} {t : TA}
theorem run_fnG {pins : List (Addr × Obj)} {σ : L2.St} {H : Hp} {s : Shared} {Q : VK} {us : List Value} {vs : List V} (F : FnG X.prog X.w X.K X.mg X.base CX k f fd ps sp) (hr : Room k X.A) (hg : Quiet X.A) (hb : Binds X.K fd ps []) (hx : PassesAt CX X σ (E σ))
    (I : L2.Inv X pins σ H s) (r : Vals vs us) (h : sp vs H Q (E σ)) : wpAny (model X.prog X.w) X.A (call (.ref f) us) (EP X pins σ Q) X.xe s := by
  have b := hb s us I.kIn (by rw [List.append_nil, ← r.length]; exact F.len _ _ _ _ h)
  rw [List.append_nil] at b
  refine wpAny_call (codeAny_mono (F.run X.A X.stack s H ⟨us, []⟩ us vs Q (E σ) hr hg I.env0 b r h) fun r s' hq => ?_)
  match r, hq with
  | .error e, hq => exact hx pins H s e s' I hq
  | .ok (.ret u), hq => exact I.after hq
  | .ok .next, hq => exact hq.elim
  | .ok .brk, hq => exact hq.elim
  | .ok .cont, hq => exact hq.elim
theorem pe_callG (F : FnG X.prog X.w X.K X.mg X.base CX k f fd ps sp) (hr : Room k X.A) (hq : Quiet X.A) (hg : Gl X x) (hm : X.mg x = some (.ref f)) (hk : PySem.W.keepIn X.K (.ref f) = true) (hb : Binds X.K fd ps []) (hx : ∀ σ, PassesAt CX X σ (E σ))
    (ha : PA X (e :: es) t) (hdb : (x == ("__debug__" : Str)) = false) (he : starEach (e :: es) X.env = (false, eval e X.env) :: starEach es X.env) (hpl : (backTo pos (starEach es X.env)).any (·.1) = false) :
    PE X (.Call (.Name x p) (e :: es) [] pos) (tCallS sp E t) :=
  ⟨fun pins s σ H Q I h => wpAny_Call_Name_kw (ld_glob I hg hm (PySem.W.callWith_K (h₀ := X.base) I.ok.mod.kin hk (thn (ha.run pos pins s σ H _ I h) fun us s1 ⟨vs, H1, I1, r, q⟩ => ⟨I1.kIn, run_fnG F hr hq hb (hx σ) I1 r q⟩) he hpl) hdb)⟩
end
end Gw

set_option Elab.async false
set_option linter.all false
set_option maxRecDepth 100000
set_option maxHeartbeats 4000000
/-! Gx4: a lambda handed to a def, where no repr is running. -/
namespace Gw
open PySem PySem.Spec PyProof.Rows L2 LamX
/-- what the making of a lambda does to the heap: nothing, or one more code object in the table at P -/
def Made (H H1 : Hp) (P : Addr) (q : Str) : Prop := H1 = H ∨ ∃ (ps ps' : Array Value) (c : Addr), H P = some (.tbl ps) ∧ H c = none ∧ H1 = upd (upd H P (.tbl ps')) c (CodeO c q) ∧ TriplesOk ps'.toList ∧
  ∀ (pos : Pos) (cv : Value), codeAmong pos ps'.toList = some cv → codeAmong pos ps.toList = some cv ∨ cv = .ref c
section
variable {X : Cx} {pins : List (Addr × Obj)} {σ : L2.St} {H : Hp} {s : Shared}
theorem lam_made {c P : Addr} {params : Arguments} {body : Expr} {scope : Scope} {pos : Pos} {E : Value → Shared → Prop} {Q : Value → Shared → Prop} (I : L2.Inv X pins σ H s) (TB : TabB X.base X.mg c P) (hcode : X.env.code = .ref c)
    (hT : TabS H P (X.env.qual ++ "<lambda>")) (hdef : defaultsOf params X.env = ([], [])) (hfree : ∀ y ∈ scope.names, y.2 = .free → ∃ c, X.env.cells.lookup y.1 = some c)
    (h : ∀ (f c' : Addr) (pm ctv : Value) (H1 : Hp) (s' : Shared), L2.Inv X pins σ H1 s' → Made H H1 P (X.env.qual ++ "<lambda>") →
      s'.heap.get? f = some (PySem.W.kla_obj "<lambda>" (X.env.qual ++ "<lambda>") params body scope (cloFrom X.env.cells scope.names []) pm c' ctv) → H1 f = none → f ∉ frs X.stack → H1 c' = some (CodeO c' (X.env.qual ++ "<lambda>")) → Q (.ref f) s') :
    wpAny (model X.prog X.w) X.A (eval (.Lambda params body scope pos) X.env) Q E s := by
  obtain ⟨ps, hP, ht, ha⟩ := hT
  have hP' : s.heap.get? P = some { cls := .none, data := .fields ps } := I.hok P _ hP
  have off : ∀ f, s.heap.objs.size ≤ f → f ∉ frs X.stack := fun f hf z => by
    rcases List.mem_cons.mp (I.stkSub _ z) with e | e
    · have := I.lt
      rw [← e] at this
      exact Nat.lt_irrefl _ (Nat.lt_of_lt_of_le this hf)
    · exact I.nofs hf e
  refine PySem.W.kla_eval hdef ?_
  cases hc : codeAmong pos ps.toList with
  | some cv =>
    obtain ⟨c', rfl, hco⟩ := ha pos cv hc
    refine PySem.W.kla_makeFunctionHit (mg := X.mg) (c := c) (P := P) (ps := ps) (closure_ok hfree) I.ok.glob (I.mod.glob.keeps I.bk) hcode (TB.code.keeps I.bk) hP' ht hc (TB.bm.keeps I.bk) fun ctv h' tk hx hsz => ?_
    exact h h'.objs.size c' ((X.mg "__name__").getD .none) ctv H _ (I.kept fun b o z => Heap.get?_push_of_some _ (hx b o z)) (.inl rfl) (Heap.get?_push_size _ rfl) (I.hok.fresh hsz) (off _ hsz) hco
  | none =>
    refine PySem.W.kla_makeFunction (mg := X.mg) (c := c) (P := P) (ps := ps) (closure_ok hfree) I.ok.glob (I.mod.glob.keeps I.bk) hcode (TB.code.keeps I.bk) hP' ht hc TB.gP (TB.bm.keeps I.bk) fun c' ctv h' tk hx hge hlt hrec htb => ?_
    obtain ⟨c2, oc, vs, t, e2, hoc, hd, hv⟩ := hrec
    cases e2
    have sz : s.heap.objs.size ≤ h'.objs.size := Nat.le_trans hge (Nat.le_of_lt hlt)
    have I1 := inv_table (t' := tk) (more := #[rawInt pos.line, rawInt pos.col, .ref c']) (h' := h'.push (PySem.W.kla_obj "<lambda>" (X.env.qual ++ "<lambda>") params body scope (cloFrom X.env.cells scope.names []) ((X.mg "__name__").getD .none) c' ctv)) I hP
      (fun b o z q => Heap.get?_push_of_some _ (hx b o z q)) (Heap.get?_push_of_some _ htb) hge ⟨oc, vs, t, Heap.get?_push_of_some _ hoc, hd, hv⟩
    have eL : (ps ++ #[rawInt pos.line, rawInt pos.col, .ref c']).toList = ps.toList ++ [rawInt pos.line, rawInt pos.col, .ref c'] := by simp
    refine h h'.objs.size c' ((X.mg "__name__").getD .none) ctv _ _ I1 (.inr ⟨ps, _, c', hP, I.hok.fresh hge, rfl, by rw [eL]; exact PySem.TriplesOk_snoc _ _ _ _ ht, fun p' cv z => ?_⟩) (Heap.get?_push_size _ rfl) ?_ (off _ sz) upd_same
    · rw [eL] at z
      exact among_app _ ht z
    · rw [upd_ne (Nat.ne_of_gt hlt), upd_ne (Nat.ne_of_gt (Nat.lt_of_lt_of_le (Heap.lt_size hP') sz))]
      exact I.hok.fresh sz
end
section
variable {X : Cx} {pins : List (Addr × Obj)} {σ : L2.St} {H : Hp} {s : Shared}
/-- the lambda's call in the def that got it -/
theorem act_ok {CXg : CXT} {Eg : XK} {Ng : List Str} {qg : Str} {sg : Scope} {g f c' : Addr} {cdg pm ctv : Value} {params : Arguments} {body : Expr} {scope : Scope} {k i : Nat} {a : Str} {pn : List (Addr × Obj)} {xe : Value → Shared → Prop} {W : WX} {E : XK} {tb : TE} {p1 p2 : Pos}
    (I : L2.Inv X pins σ H s) (L : LamS X.env.scope scope) (hf : s.heap.get? f = some (PySem.W.kla_obj "<lambda>" (X.env.qual ++ "<lambda>") params body scope (cloFrom X.env.cells scope.names []) pm c' ctv)) (hfn : H f = none) (hfr : f ∉ frs X.stack)
    (hbind : bindArgs (PySem.W.kla_fn "<lambda>" (X.env.qual ++ "<lambda>") params body scope (cloFrom X.env.cells scope.names []) pm (.ref c') ctv) ⟨[], []⟩ = pure [])
    (tk : Takes ((cxOf CXg X.prog X.w X.K X.mg X.base Ng qg sg g cdg X.A X.stack s H Eg).tr pn xe) W) (hW : ∀ cls d τ G, E cls d G → W cls d τ G) (hr : Room (k + 1) (X.A.deeper (envOfC qg sg s.heap.objs.size g cdg))) (hqu : Quiet X.A)
    (hbody : ∀ (A : Around) (outer : List Env) (s : Shared) (G : Hp), Room k (A.deeper (lamEnv X scope s.heap.objs.size f c')) → Quiet (A.deeper (lamEnv X scope s.heap.objs.size f c')) → PE (lamCx X A outer s G E scope f c') body tb)
    (hN : Ng[i]? = some a) (hv : Vis sg a) (hd : (a == ("__debug__" : Str)) = false) (hcd : (a == ("__classdict__" : Str)) = false) :
    PE ((cxOf CXg X.prog X.w X.K X.mg X.base Ng qg sg g cdg X.A X.stack s H Eg).tr pn xe) (.Call (.Name a p1) [] [] p2)
      (fun τ G Q => τ[i]? = some (some (.ref f)) ∧ G c' = some (CodeO c' (X.env.qual ++ "<lambda>")) ∧ tb σ G Q) := by
  refine ⟨fun pz sz τ G Q Iz ⟨h0, hc, ht⟩ => ?_⟩
  have hx : Passes (L2.CX X.prog X.w) ((cxOf CXg X.prog X.w X.K X.mg X.base Ng qg sg g cdg X.A X.stack s H Eg).tr pn xe) E := passes_call tk hW
  refine wpAny_Call_Name_kw (thn ((pe_var (pos := p1) (i := i) hN hv hd hcd).run pz sz τ G (fun v G1 => v = .ref f ∧ G1 = G) Iz ⟨.ref f, h0, rfl, rfl⟩) fun u s1 ⟨v, G1, I1, r1, ev, eG⟩ => ?_)
  subst ev eG
  obtain rfl : u = Value.ref f := r1
  have un : Un (frs X.stack) [] H G1 s.heap s1.heap := I1.base
  have fo : s1.heap.get? f = some (PySem.W.kla_obj "<lambda>" (X.env.qual ++ "<lambda>") params body scope (cloFrom X.env.cells scope.names []) pm c' ctv) := un.keep f _ hf hfn hfr (by simp)
  obtain ⟨⟨oc, vs, t, hoc, hdc, hvc⟩, _, _⟩ := I1.hok c' _ hc
  refine PySem.W.callWith_F0 ⟨_, _, _, _, fo⟩ (wpAny_call (codeAny_mono (R := CR (L2.CX X.prog X.w) (envOfC qg sg s.heap.objs.size g cdg :: X.stack) X.prog X.w G1 s1 Q E) ?_ fun r s' hq => ?_))
  · refine PySem.W.kla_callFunE hr.depth fo rfl L.co L.gen rfl ⟨c', oc, vs, t, rfl, hoc, hdc, hvc⟩ ?_
    rw [show ([] : List Value) ++ [] = [] from rfl, hbind]
    refine wpAny_pure (wpAny_newFunctionEnv (fun y hy => (L.own y hy).2) (fun y hy => absurd hy (by simp)) (fun h₁ hns hsb => ⟨I1.nolimit.fresh _ hsb, ?_⟩) L.kind)
    show codeAny _ _ (.expr body (lamEnv X scope s1.heap.objs.size f c')) _ _
    have kp : ∀ b o, s1.heap.get? b = some o → h₁.get? b = some o := fun b o z => hsb.extBut b o (Nat.ne_of_lt (Heap.lt_size z)) (Heap.get?_push_of_some _ z)
    have J : L2.Inv (lamCx X (X.A.deeper (envOfC qg sg s.heap.objs.size g cdg)) (envOfC qg sg s.heap.objs.size g cdg :: X.stack) s1 G1 E scope f c') [] σ G1 { s1 with heap := h₁, toks := s1.toks + ([] : List (Str × Value)).length } :=
      lam_start2 I L I1.env0 hr.hd un hns kp
    refine PySem.W.kla_codeExpr (wpAny_mono ((hbody _ _ s1 G1 (hr.deeper _) hqu).run [] _ _ G1 Q J ht) (fun v s' hq => ?_) fun e s' hq => hq)
    obtain ⟨w', G', J', rv, q⟩ := hq
    exact ⟨w', G', J'.os, J'.bare, J'.base, J'.hok, rv, q⟩
  · match r, hq with
    | .error e, hq => exact hx pz τ G1 s1 e s' I1 hq
    | .ok (.ret u), hq => exact I1.after hq
    | .ok .next, hq => exact hq.elim
    | .ok .brk, hq => exact hq.elim
    | .ok .cont, hq => exact hq.elim
end
/-- the def's facts: what K has of it -/
structure GotD (P : Program) (K : PySem.W.Frag) (mg : Str → Option Value) (x : Str) (g : Addr) (pg : Arguments) (bg : List Stmt) (sg : Scope) (cdv : Value) (a : Str) : Prop where
  mg_ : mg x = some (.ref g)
  kp : PySem.W.keepIn K (.ref g) = true
  fn : ∃ oc od dV kV doc pm an ct osl, K.lookup g = some ⟨oc, od, .func (PySem.W.fnOf x x pg bg sg dV kV doc pm an cdv ct), osl⟩ ∧ L2.Binds K (PySem.W.fnOf x x pg bg sg dV kV doc pm an cdv ct) [a] []
  code : PySem.W.codeIn K cdv x = true
section
variable {X : Cx}
def tLm (P : Addr) (q : Str) (TT : (XK → Hp → VK → Prop) → Hp → VK → Prop) (t : XK → TE) : TE := fun σ H Q => TabS H P q ∧ ∀ H1, Made H H1 P q → TT (fun E H' Q' => t E σ H' Q') H1 Q
theorem lam_call {TT : (XK → Hp → VK → Prop) → Hp → VK → Prop} {x a : Str} {g c P : Addr} {k : Nat} {pg : Arguments} {bg : List Stmt} {sg : Scope} {cdv : Value} {Ng : List Str}
    {params : Arguments} {body : Expr} {scope : Scope} {t : XK → TE} {p lpos pos : Pos} (hg : Gl X x) (D : GotD X.prog X.K X.mg x g pg bg sg cdv a) (Sg : FnScope Ng [a] sg) (hNg : Ng[0]? = some a) (hva : Vis sg a)
    (hG : GivesTo X Ng x sg g cdv bg a (X.env.qual ++ "<lambda>") TT)
    (TB : TabB X.base X.mg c P) (hcode : X.env.code = .ref c) (hr : Room (k + 2) X.A) (hqu : Quiet X.A) (L : LamS X.env.scope scope) (hdef : defaultsOf params X.env = ([], []))
    (hbind : ∀ (q : Str) (cl : List (Str × Addr)) (pm cv ctv : Value), bindArgs (PySem.W.kla_fn "<lambda>" q params body scope cl pm cv ctv) ⟨[], []⟩ = pure [])
    (hbody : ∀ (A : Around) (outer : List Env) (s : Shared) (H : Hp) (E : XK) (f c' : Addr), Room k (A.deeper (lamEnv X scope s.heap.objs.size f c')) → Quiet (A.deeper (lamEnv X scope s.heap.objs.size f c')) → PE (lamCx X A outer s H E scope f c') body (t E))
    (hdb : (x == ("__debug__" : Str)) = false) (hd : (a == ("__debug__" : Str)) = false) (hcd : (a == ("__classdict__" : Str)) = false) :
    PE X (.Call (.Name x p) [.Lambda params body scope lpos] [] pos) (tLm P (X.env.qual ++ "<lambda>") TT t) := by
  obtain ⟨oc, od, dV, kV, doc, pm, an, ct, osl, lk, hb⟩ := D.fn
  refine ⟨fun pins s σ H Q I ⟨hT, h⟩ => wpAny_Call_Name_kw (ld_glob I hg D.mg_ ?_ hdb)⟩
  refine PySem.W.callWith_K (h₀ := X.base) I.ok.mod.kin D.kp ?_ rfl rfl
  show wpAny _ _ (spliced ((false, eval (.Lambda params body scope lpos) X.env) :: backTo pos (starEach [] X.env))) _ _ s
  refine Calls.spliced_cons (lam_made I TB hcode hT hdef (L.has I.ok) fun f c' pm' ctv H1 s' I1 eN hf hfn hfr hco => Calls.spliced_nil ⟨I1.kIn, ?_⟩)
  refine wpAny_call (codeAny_mono (R := CR C8.CX0 X.stack X.prog X.w H1 s' Q C8.E0) ?_ fun r s2 hq => ?_)
  · refine run_ofS (N := Ng) (ps := [a]) (us := [.ref f]) (vs := [.ref f]) lk D.code Sg hr I1.env0 (hb s' [.ref f] I1.kIn rfl) (.cons rfl .nil) rfl fun hr' => ?_
    obtain ⟨t', ht', hq'⟩ := hG f c' s' H1 Q (fun E H' Q' => t E σ H' Q') (fun W pn xe E p1 p2 tk hW => act_ok (i := 0) I1 L hf hfn hfr (hbind _ _ _ _ _) tk hW hr' hqu (fun A outer s H r2 q2 => hbody A outer s H E f c' r2 q2) hNg hva hd hcd) hco (h H1 eN)
    exact ⟨t', ht'.nox, hq'⟩
  · match r, hq with
    | .error e, hq => exact (show False from hq).elim
    | .ok (.ret u), hq => exact I1.after hq
    | .ok .next, hq => exact hq.elim
    | .ok .brk, hq => exact hq.elim
    | .ok .cont, hq => exact hq.elim
end
end Gw

set_option Elab.async false
set_option linter.all false
set_option maxRecDepth 100000
set_option maxHeartbeats 4000000
/-! Gx5: the end of a law whose defs make lambdas. -/
namespace Gw
open PySem PySem.Spec PyProof.Rows L2 LamX
/-- at the start: the script known, the tables empty -/
noncomputable def hp0 (K : PySem.W.Frag) (ts : List Addr) (a : Addr) (o : Obj) (vs : List V) : Hp := fun b =>
  open Classical in if b ∈ ts then some (.tbl #[]) else if b = a ∧ K.lookup a = none then some (.frz o (.lst vs)) else none
section
variable {K : PySem.W.Frag} {ts : List Addr} {a : Addr} {o : Obj} {vs : List V} {b : Addr}
theorem hp0_tab (h : b ∈ ts) : hp0 K ts a o vs b = some (.tbl #[]) := if_pos h
theorem hp0_scr (h : a ∉ ts) (k : K.lookup a = none) : hp0 K ts a o vs a = some (.frz o (.lst vs)) := (if_neg h).trans (if_pos ⟨rfl, k⟩)
theorem hp0_no (h : b ∉ ts) (k : ¬ (b = a ∧ K.lookup a = none)) : hp0 K ts a o vs b = none := (if_neg h).trans (if_neg k)
theorem hp0_cases (u : HO) (h : hp0 K ts a o vs b = some u) : (b ∈ ts ∧ u = .tbl #[]) ∨ (b ∉ ts ∧ b = a ∧ K.lookup a = none ∧ u = .frz o (.lst vs)) := by
  by_cases h1 : b ∈ ts
  · rw [hp0_tab h1] at h; cases h; exact .inl ⟨h1, rfl⟩
  · by_cases h2 : b = a ∧ K.lookup a = none
    · have := (if_neg h1).trans (if_pos h2) |>.symm.trans h
      cases this
      exact .inr ⟨h1, h2.1, h2.2, rfl⟩
    · rw [hp0_no h1 h2] at h; cases h
end
theorem law_run {P : Program} {w : World} {K : PySem.W.Frag} {mg mb : Str → Option Value} {k : Nat} {fa a : Addr} {cs : List (Addr × Addr)} {fd : FuncData} {x : Str} {sp : Sp} {s₁ : Shared} {vs : List Value} {ns : List Int}
    (KX : K.In s₁.heap) (hns : s₁.heap.Ns mainGlobals mg) (hb : s₁.heap.Ns builtinsNs mb) (hbb : ∀ x : Str, x ≠ "__name__" → mb x = bootBuiltins x) (hlim : s₁.heap.NoLimit) (hg : s₁.gens = #[])
    (hT : ∀ p ∈ cs, s₁.heap.get? p.2 = some { cls := .none, data := .fields #[] }) (nT : ∀ p ∈ cs, K.lookup p.2 = none) (C : ∀ p ∈ cs, PySem.W.CodeHd s₁.heap p.1 p.2)
    (hbm : ∃ (bm : Addr) (ob : Obj), mg "__builtins__" = some (.ref bm) ∧ bm ≠ builtinsNs ∧ s₁.heap.get? bm = some ob ∧ ob.cls = .type "module" ∧ ob.dict = some builtinsNs ∧ ob.data = .plain)
    (ha : s₁.heap.get? a = some { cls := .type "list", data := .seq vs.toArray }) (hi : IntsAre vs ns) (hl : ns.length ≤ sizeLine) (hr : Room k callerA)
    (F : ∀ base : Heap, K.In base → base.Ns mainGlobals mg → (∀ p ∈ cs, TabB base mg p.1 p.2) → FnG P w K mg base (L2.CX P w) k fa fd [x] sp) (hbind : ∀ (s : Shared) (u : Value), BindsTo s fd ⟨[u], []⟩ [(x, u)])
    (hsp : ∀ H : Hp, (∀ p ∈ cs, H p.2 = some (.tbl #[])) → (∀ b ps, H b = some (.tbl ps) → b ∈ cs.map (·.2)) → SqL K H a (ns.map V.int) → sp [.ref a] H (fun v _ => v = .bl true) fun _ _ _ => False)
    (hCX : ∀ H e s', L2.CX P w [] H s₁ (fun _ _ _ => False) e s' → False) :
    codeAny (model P w) callerA (.call (.ref fa) ⟨[.ref a], []⟩) (fun r s' => r = .ok (.ret (.bool true)) ∧ OldK s₁.heap s'.heap ∧ s'.os = s₁.os ∧ AllBare s'.gens) s₁ := by
  have lenV := hi.length
  obtain ⟨ts, ets⟩ : ∃ ts, ts = cs.map (·.2) := ⟨_, rfl⟩
  have memT : ∀ p ∈ cs, p.2 ∈ ts := fun p hp => ets ▸ List.mem_map.mpr ⟨p, hp, rfl⟩
  have ofT : ∀ b ∈ ts, ∃ p ∈ cs, p.2 = b := fun b hb => List.mem_map.mp (ets ▸ hb)
  have isT : ∀ b ∈ ts, s₁.heap.get? b = some { cls := .none, data := .fields #[] } := fun b hb => by
    obtain ⟨p, hp, rfl⟩ := ofT b hb
    exact hT p hp
  have aT : a ∉ ts := fun z => by
    have q := (isT a z).symm.trans ha
    cases q
  obtain ⟨H, eH⟩ : ∃ H, H = hp0 K ts a { cls := .type "list", data := .seq vs.toArray } (ns.map V.int) := ⟨_, rfl⟩
  have tabs : ∀ p ∈ cs, H p.2 = some (.tbl #[]) := fun p hp => by rw [eH]; exact hp0_tab (memT p hp)
  have hok : HOk P w H s₁.heap := fun b u hu => by
    rw [eH] at hu
    rcases hp0_cases u hu with ⟨h1, rfl⟩ | ⟨h1, rfl, h2, rfl⟩
    · exact isT b h1
    · exact ⟨ha, by rw [List.length_map]; exact hl, vs, _, vals_ints hi, ha⟩
  have sq : SqL K H a (ns.map V.int) := by
    cases hk : K.lookup a with
    | none => exact .inl (.inr ⟨_, by rw [eH]; exact hp0_scr aT hk⟩)
    | some o =>
      have q := (KX a o hk).symm.trans ha
      cases q
      exact .inr ⟨_, vs.toArray, _, hk, rfl, rfl, rfl, by rw [List.size_toArray, lenV]; exact hl, by simpa using vals_ints hi⟩
  have only : ∀ b ps, H b = some (.tbl ps) → b ∈ cs.map (·.2) := fun b ps h => by
    rw [eH] at h
    rcases hp0_cases _ h with ⟨h1, _⟩ | ⟨_, _, _, z⟩
    · exact ets ▸ h1
    · cases z
  -- nothing else is tracked
  have off : ∀ {b : Addr} {o : Obj}, s₁.heap.get? b = some o → (∀ vs n, o.data ≠ .seq vs n) → o.data ≠ .fields #[] → H b = none := fun {b o} e h1 h2 => by
    rw [eH]
    refine hp0_no (fun z => ?_) fun z => ?_
    · rw [isT b z] at e; cases e; exact h2 rfl
    · rw [z.1, ha] at e; cases e; exact h1 _ _ rfl
  have up : ∀ {b : Addr} {o : Obj}, s₁.heap.get? b = some o → H b = none → (hidT s₁.heap H).get? b = some o := fun e n => hidT_get e n
  have upD : ∀ {b : Addr} {m : Str → Option Value}, s₁.heap.Ns b m → (hidT s₁.heap H).Ns b m := fun {b m} ⟨o, es, ep, e, d, r⟩ => ⟨o, es, ep, up e (off e (fun _ _ z => by rw [d] at z; cases z) fun z => by rw [d] at z; cases z), d, r⟩
  have kin : K.In (hidT s₁.heap H) := fun b o e => up (KX b o e) (by
    rw [eH]
    refine hp0_no (fun z => ?_) fun z => ?_
    · obtain ⟨p, hp, rfl⟩ := ofT b z
      rw [nT p hp] at e; cases e
    · rw [z.1, z.2] at e; cases e)
  have TB : ∀ p ∈ cs, TabB (hidT s₁.heap H) mg p.1 p.2 := fun p hp => by
    obtain ⟨o, us, file, tf, flags, tg, inF, text, tt, e1, r1, r2, r3, r4, r5, r6, r7, r8, hne⟩ := C p hp
    obtain ⟨bm, ob, b1, b2, b3, b4, b5, b6⟩ := hbm
    obtain ⟨oG, esG, epG, eG, dG, _⟩ := id hns
    have tp := hT p hp
    refine ⟨⟨o, us, file, tf, flags, tg, inF, text, tt, up e1 (off e1 (fun _ _ z => by rw [r2] at z; cases z) fun z => ?_), r1, r2, r3, r4, r5, r6, r7, r8, hne⟩, ⟨bm, ob, b1, b2, fun z => ?_, fun z => ?_, up b3 (off b3 (fun _ _ z => by rw [b6] at z; cases z) fun z => by rw [b6] at z; cases z), b4, b5, b6⟩, fun z => ?_⟩
    · rw [r2] at z; cases z; simp at r3
    · rw [z, eG] at b3; cases b3; rw [dG] at b6; cases b6
    · rw [z, tp] at b3; cases b3; cases b6
    · rw [z, tp] at eG; cases eG; cases dG
  have M : L2.Mod K mg (hidT s₁.heap H) := ⟨kin, upD hns, ⟨mb, upD hb, hbb⟩, let ⟨mc, h1, h2⟩ := hlim; ⟨mc, upD h1, h2⟩⟩
  have e0 : Env0 P w K mg (hidT s₁.heap H) callerA [] s₁ H := ⟨rfl, M, fun _ _ z => of_hidT z, Nat.le_of_eq (hidT_size _ _), trivial, fun _ z => absurd z (by simp [frs]), hok, .of_eq hg⟩
  refine codeAny_mono ((F _ kin (upD hns) TB).run callerA [] s₁ H ⟨[.ref a], []⟩ [.ref a] [.ref a] _ _ hr rfl e0 (hbind s₁ (.ref a)) (.cons rfl .nil) (hsp H tabs only sq)) fun r s' h => ?_
  match r, h with
  | .error e, h => exact (hCX H e s' h).elim
  | .ok .next, h => exact h.elim
  | .ok .brk, h => exact h.elim
  | .ok .cont, h => exact h.elim
  | .ok (.ret u), h =>
    obtain ⟨v, H', os, bare, un, hok', ru, q⟩ := h
    have ev : v = .bl true := q
    subst ev
    obtain rfl : u = Value.bool true := ru
    have key : ∀ b o, b ∉ ts → s₁.heap.get? b = some o → s'.heap.get? b = some o := fun b o nb e => by
      cases hu : H b with
      | none => exact un.keep b o e hu (by simp [frs]) (by simp)
      | some u =>
        have z := hu
        rw [eH] at z
        rcases hp0_cases u z with ⟨h1, _⟩ | ⟨_, rfl, _, rfl⟩
        · exact absurd h1 nb
        · obtain ⟨e2, _⟩ := hok' b _ (un.frzs b _ _ hu)
          rw [ha] at e; cases e
          exact e2
    refine ⟨rfl, ⟨fun b o e => ?_, fun b o e => ?_⟩, os, bare⟩
    · by_cases hbt : b ∈ ts
      · obtain ⟨p, hp, rfl⟩ := ofT b hbt
        obtain ⟨more, z⟩ := un.tbls p.2 #[] (tabs p hp)
        have z2 : s'.heap.get? p.2 = some { cls := .none, data := .fields (#[] ++ more) } := hok' p.2 _ z
        rw [hT p hp] at e; cases e
        exact .inr (.inl ⟨((C p hp).tab (hT p hp)).isCodeTable, rfl, #[], more, rfl, z2⟩)
      · exact .inl (key b o hbt e)
    · by_cases hbt : b ∈ ts
      · obtain ⟨p, hp, rfl⟩ := ofT b hbt
        obtain ⟨more, z⟩ := un.tbls p.2 #[] (tabs p hp)
        exact ⟨_, (hok' p.2 _ z : s'.heap.get? p.2 = some { cls := .none, data := .fields (#[] ++ more) })⟩
      · exact ⟨o, key b o hbt e⟩
/-- what is to be shown of the law's def, behind the head -/
def LawIs (l : PySem.W.OpenLaw) (w : World) (K : PySem.W.Frag) (k n : Nat) (x : Str) (mg : Str → Option Value) (fa : Addr) (h : Heap) : Prop :=
  ∃ (fd : FuncData) (cs : List (Addr × Addr)) (sp : Sp), (∀ p ∈ cs, h.get? p.2 = some { cls := .none, data := .fields #[] }) ∧ (∀ p ∈ cs, K.lookup p.2 = none) ∧ (∀ p ∈ cs, PySem.W.CodeHd h p.1 p.2) ∧ (∀ (s : Shared) (u : Value), BindsTo s fd ⟨[u], []⟩ [(x, u)]) ∧
    (∀ (H : Hp) (a : Addr) (ns : List Int), ns.length ≤ n → (∀ p ∈ cs, H p.2 = some (.tbl #[])) → (∀ b ps, H b = some (.tbl ps) → b ∈ cs.map (·.2)) → SqL K H a (ns.map V.int) → sp [.ref a] H (fun v _ => v = .bl true) fun _ _ _ => False) ∧
    ∀ base : Heap, K.In base → base.Ns mainGlobals mg → (∀ p ∈ cs, TabB base mg p.1 p.2) → FnG l.prog w K mg base (L2.CX l.prog w) k fa fd [x] sp
theorem walk_G {l : PySem.W.OpenLaw} {n k : Nat} {q : Program} {loose : List Str} {XP : (Str → Option Value) → Heap → Prop} {YP : World → Heap → Prop} {d : DefRec} {x : Str}
    (hn : l.most = some n) (hn2 : n ≤ sizeLine) (hdf : d.params.defaults = []) (hr : Room k callerA)
    (F : ∀ (w : World) (mg : Str → Option Value) (fa : Addr) (h : Heap), YP w h → h.Ns mainGlobals mg → mg d.name = some (.ref fa) → ∃ K : PySem.W.Frag, K.In h ∧ LawIs l w K k n x mg fa h) :
    PySem.W.WalkO q loose XP YP l.row.toRowW d [] (fun f vs => PySem.call f vs) := by
  refine Att.attach_callB hn hdf fun w s₀ s₁ mg mb fa o pm cd doc a vs ns G Y ho hd hcd hmg hobj hints hlen hbits hg => ?_
  obtain ⟨K, KX, fd, cs, sp, hT, nT, C, hb, hsp, hF⟩ := F w mg fa _ Y G.T.g hmg
  exact law_run KX G.T.g G.T.b G.T.builtins G.T.nolimit hg hT nT C G.T.bmain hobj hints (Nat.le_trans hlen hn2) hr hF hb (fun H hH hO hS => hsp H a ns hlen hH hO hS) fun H e s' z => by
    obtain ⟨_, _, _, _, _, _, _, _, _, _, _, _, _, z⟩ := z
end Gw

set_option Elab.async false
set_option linter.all false
set_option maxRecDepth 100000
set_option maxHeartbeats 1000000
/-! Gd1: dicts whose keys are whole numbers and texts, or tuples, by their raw object. -/
namespace Gw
open PySem PySem.Spec PyProof.Rows L2
abbrev Ent := NestedKey × V × V
def EntR (w : World) : Ent → DictEntry → Prop := fun p e => e.hash = p.1.hash w ∧ RelV p.2.1 e.key ∧ RelV p.2.2 e.val
/-- the dict at a has these entries -/
def DxP (w : World) (a : Addr) (kvs : List Ent) (o : Obj) (h : Heap) : Prop := (a == sysModules) = false ∧ kvs.length ≤ sizeLine ∧ (kvs.map (·.1)).Nodup ∧ h.get? a = some o ∧ o.ExactDict ∧ ∃ es ep, o.data = .dict es ep ∧ Paired (EntR w) kvs es.toList
def DxO (w : World) (a : Addr) (kvs : List Ent) (o : Obj) : HO := .ext (DxP w a kvs o)
theorem DxP.keep {w : World} {a : Addr} {kvs : List Ent} {ob : Obj} {h h' : Heap} (x : DxP w a kvs ob h) (k : ∀ o, h.get? a = some o → h'.get? a = some o) : DxP w a kvs ob h' :=
  let ⟨q1, q2, q3, e, r⟩ := x; ⟨q1, q2, q3, k _ e, r⟩
theorem DxP.ok {P : Program} {w : World} {H : Hp} {a : Addr} {kvs : List Ent} {ob : Obj} {h : Heap} (x : DxP w a kvs ob h) : ObjOk P w H h a (DxO w a kvs ob) :=
  ⟨x, let ⟨_, _, _, e, _⟩ := x; ⟨_, e⟩, fun _ _ z k => z.keep k⟩
mutual
/-- a value that is a key -/
inductive KeyV (K : PySem.W.Frag) (H : Hp) : NestedKey → V → Prop
  | non : KeyV K H .none .non
  | bl (b : Bool) : KeyV K H (.num (if b = true then 1 else 0)) (.bl b)
  | int (i : Int) : KeyV K H (.num i) (.int i)
  | text (x : Str) : KeyV K H (.text x) (.str x)
  | tup {a : Addr} {vs : List V} {ks : List NestedKey} : SqT K H a vs → KeyVs K H ks vs → KeyV K H (.tup ks) (.ref a)
inductive KeyVs (K : PySem.W.Frag) (H : Hp) : List NestedKey → List V → Prop
  | nil : KeyVs K H [] []
  | cons {k : NestedKey} {v : V} {ks : List NestedKey} {vs : List V} : KeyV K H k v → KeyVs K H ks vs → KeyVs K H (k :: ks) (v :: vs)
end
section
variable {X : Cx} {pins : List (Addr × Obj)} {σ : L2.St} {H : Hp} {s : Shared}
mutual
theorem KeyV.is (I : Inv X pins σ H s) : ∀ (k : NestedKey) (v : V) (u : Value), KeyV X.K H k v → RelV v u → NestedIs s.heap k u
  | .none, _, u, h, r => by cases h; cases (show u = Value.none from r); exact .none
  | .num i, _, u, h, r => by
    cases h with
    | bl b => cases (show u = Value.bool b from r); exact .bool rfl
    | int i => obtain ⟨t, e⟩ := (show ∃ t, u = Value.int i t from r); subst e; exact .int i t
  | .text x, _, u, h, r => by cases h; obtain ⟨t, e⟩ := (show ∃ t, u = Value.str x t from r); subst e; exact .text x t
  | .tup ks, _, u, h, r => by
    cases h with
    | @tup a vs _ h1 h2 =>
      cases (show u = Value.ref a from r)
      obtain ⟨its, q1, ⟨o, g1, g2, n, g3⟩, _⟩ := I.tuple h1
      exact .tup g1 g2 g3 (by rw [List.toList_toArray]; exact KeyVs.is I ks vs its h2 q1)
theorem KeyVs.is (I : Inv X pins σ H s) : ∀ (ks : List NestedKey) (vs : List V) (us : List Value), KeyVs X.K H ks vs → Vals vs us → NestedAll s.heap ks us
  | [], _, _, h, r => by cases h; cases r; exact .nil
  | k :: ks, _, _, h, r => by
    cases h with
    | cons a b => cases r with | cons c d => exact .cons (KeyV.is I k _ _ a c) (KeyVs.is I ks _ _ b d)
end
/-! ### tuples as keys -/
abbrev KTup (K : PySem.W.Frag) (H : Hp) (p : Ent) : Prop := (∃ ks, p.1 = .tup ks) ∧ p.1.depth ≤ 8 ∧ KeyV K H p.1 p.2.1
abbrev XR : List Ent → List (NestedKey × Addr × Value) → Prop := Paired fun p x => p.1 = x.1 ∧ p.2.1 = .ref x.2.1 ∧ RelV p.2.2 x.2.2
theorem dxH_aux (I : Inv X pins σ H s) : ∀ {kvs : List Ent} {es : List DictEntry}, Paired (EntR X.w) kvs es → (∀ p ∈ kvs, KTup X.K H p) → ∃ xs, XR kvs xs ∧ es = xs.map (entryOfKey (nestedKind X.prog X.w)) ∧ (∀ x ∈ xs, (nestedKind X.prog X.w).is s.heap x.1 x.2.1) ∧ kvs.map (·.1) = xs.map (·.1)
  | _, _, .nil, _ => ⟨[], .nil, rfl, fun _ h => (by cases h), rfl⟩
  | _, _, .cons (a := p) (b := e) r t, hk => by
    obtain ⟨xs, h1, h2, h3, h4⟩ := dxH_aux I t fun p hp => hk p (List.mem_cons_of_mem _ hp)
    obtain ⟨⟨ks, k1⟩, k2, k3⟩ := hk p List.mem_cons_self
    obtain ⟨e1, e2, e3⟩ := r
    obtain ⟨pk, pv, pw⟩ := p
    cases k1
    cases k3 with
    | @tup b vs _ g1 g2 =>
      have ek : e.key = .ref b := e2
      refine ⟨(.tup ks, b, e.val) :: xs, .cons ⟨rfl, rfl, e3⟩ h1, ?_, fun x hx => ?_, by rw [List.map_cons, List.map_cons, h4]⟩
      · rw [List.map_cons, ← h2]
        obtain ⟨eh, ekk, ev⟩ := e
        cases ek
        cases e1
        rfl
      · rcases List.mem_cons.mp hx with z | z
        · rw [z]; exact ⟨KeyV.is I _ _ _ (.tup g1 g2) rfl, k2⟩
        · exact h3 x z
theorem dxH {a : Addr} {kvs : List Ent} {ob : Obj} (I : Inv X pins σ H s) (e : H a = some (DxO X.w a kvs ob)) (hk : ∀ p ∈ kvs, KTup X.K H p) : (a == sysModules) = false ∧ kvs.length ≤ sizeLine ∧ ∃ xs, XR kvs xs ∧ s.heap.DictOfH (nestedKind X.prog X.w) a xs := by
  obtain ⟨⟨q1, q2, q3, g1, g2, es, ep, g3, g4⟩, _, _⟩ := (show ObjOk X.prog X.w H s.heap a (DxO X.w a kvs ob) from I.hok a _ e)
  obtain ⟨xs, h1, h2, h3, h4⟩ := dxH_aux I g4 hk
  exact ⟨q1, q2, xs, h1, ob, es, ep, g1, g2, g3, h2, h3, h4 ▸ q3⟩
/-- the raw object of what the library made -/
theorem dxH_back {w : World} {P : Program} : ∀ {kvs : List Ent} {xs : List (NestedKey × Addr × Value)}, XR kvs xs → Paired (EntR w) kvs (xs.map (entryOfKey (nestedKind P w)))
  | _, _, .nil => .nil
  | _, _, .cons r t => .cons ⟨by rw [r.1]; rfl, by rw [r.2.1]; rfl, r.2.2⟩ (dxH_back t)
theorem XR.keys : ∀ {kvs : List Ent} {xs : List (NestedKey × Addr × Value)}, XR kvs xs → kvs.map (·.1) = xs.map (·.1)
  | _, _, .nil => rfl
  | _, _, .cons r t => by rw [List.map_cons, List.map_cons, r.1, XR.keys t]
theorem DxP.ofH {a : Addr} {kvs : List Ent} {xs : List (NestedKey × Addr × Value)} {h : Heap} (q1 : (a == sysModules) = false) (q2 : kvs.length ≤ sizeLine) (r : XR kvs xs) (d : h.DictOfH (nestedKind X.prog X.w) a xs) : ∃ ob, DxP X.w a kvs ob h := by
  obtain ⟨o, es, ep, g1, g2, g3, g4, g5, g6⟩ := d
  exact ⟨o, q1, q2, by rw [r.keys]; exact g6, g1, g2, es, ep, g3, by rw [g4]; exact dxH_back r⟩
/-! ### numbers and texts as keys -/
def keyN : Key → NestedKey
  | .inl i => .num i
  | .inr x => .text x
theorem keyN_inj {a b : Key} (h : keyN a = keyN b) : a = b := by cases a <;> cases b <;> cases h <;> rfl
theorem keyN_hash (w : World) (k : Key) : keyH w k = (keyN k).hash w := by cases k <;> rfl
/-- the entry's key is this number, this text -/
abbrev KAtm (p : Ent) : Prop := ∃ k : Key, p.1 = keyN k ∧ p.2.1 = kV k
abbrev XK' : List Ent → List (Key × Value) → Prop := Paired fun p x => p.1 = keyN x.1 ∧ p.2.1 = kV x.1 ∧ RelV p.2.2 x.2
theorem kV_rel {P : Program} {w : World} {k : Key} {u : Value} (h : (mixKind P w).is k u = true) : RelV (kV k) u := by
  rcases keyIs_shape (show keyIs k u = true from h) with ⟨i, t, rfl, rfl⟩ | ⟨x, t, rfl, rfl⟩
  · exact ⟨t, rfl⟩
  · exact ⟨t, rfl⟩
theorem dxK_aux {P : Program} {w : World} : ∀ {kvs : List Ent} {es : List DictEntry}, Paired (EntR w) kvs es → (∀ p ∈ kvs, KAtm p) → ∃ xs, XK' kvs xs ∧ Pairs (mixKind P w) es xs ∧ (∀ e ∈ es, ∃ k, (mixKind P w).is k e.key = true ∧ e.hash = (mixKind P w).hash k)
  | _, _, .nil, _ => ⟨[], .nil, .nil, fun _ h => (by cases h)⟩
  | _, _, .cons (a := p) (b := e) r t, hk => by
    obtain ⟨xs, h1, h2, h3⟩ := dxK_aux (P := P) t fun p hp => hk p (List.mem_cons_of_mem _ hp)
    obtain ⟨k, k1, k2⟩ := hk p List.mem_cons_self
    obtain ⟨e1, e2, e3⟩ := r
    have ik : (mixKind P w).is k e.key = true := kV_is (by rw [← k2]; exact e2)
    refine ⟨(k, e.val) :: xs, .cons ⟨k1, k2, e3⟩ h1, .cons ik rfl h2, fun x hx => ?_⟩
    rcases List.mem_cons.mp hx with z | z
    · rw [z]; exact ⟨k, ik, by rw [e1, k1]; exact (keyN_hash w k).symm⟩
    · exact h3 x z
theorem XK'.keys : ∀ {kvs : List Ent} {xs : List (Key × Value)}, XK' kvs xs → kvs.map (·.1) = (xs.map (·.1)).map keyN
  | _, _, .nil => rfl
  | _, _, .cons r t => by rw [List.map_cons, List.map_cons, List.map_cons, r.1, XK'.keys t]
theorem dxK {a : Addr} {kvs : List Ent} {ob : Obj} (I : Inv X pins σ H s) (e : H a = some (DxO X.w a kvs ob)) (hk : ∀ p ∈ kvs, KAtm p) : (a == sysModules) = false ∧ kvs.length ≤ sizeLine ∧ ∃ xs, XK' kvs xs ∧ s.heap.DictOf (mixKind X.prog X.w) a xs := by
  obtain ⟨⟨q1, q2, q3, g1, g2, es, ep, g3, g4⟩, _, _⟩ := (show ObjOk X.prog X.w H s.heap a (DxO X.w a kvs ob) from I.hok a _ e)
  obtain ⟨xs, h1, h2, h3⟩ := dxK_aux (P := X.prog) g4 hk
  refine ⟨q1, q2, xs, h1, ob, es, ep, g1, g2, g3, fun e he => h3 e (Array.mem_def.mp he), h2, ?_⟩
  rw [h1.keys] at q3
  exact (List.pairwise_map.mp q3).imp fun hab z => hab (congrArg keyN z)
theorem dxK_back {P : Program} {w : World} : ∀ {kvs : List Ent} {xs : List (Key × Value)} {es : List DictEntry}, XK' kvs xs → Pairs (mixKind P w) es xs → (∀ e ∈ es, ∃ k, (mixKind P w).is k e.key = true ∧ e.hash = (mixKind P w).hash k) → Paired (EntR w) kvs es
  | _, _, _, .nil, h, _ => by cases h; exact .nil
  | _, _, _, .cons r t, h, hk => by
    cases h with
    | cons a b c =>
      refine .cons ⟨?_, by rw [r.2.1]; exact kV_rel a, by rw [b]; exact r.2.2⟩ (dxK_back t c fun e he => hk e (List.mem_cons_of_mem _ he))
      obtain ⟨k', q1, q2⟩ := hk _ List.mem_cons_self
      have ee := (mixKind P w).inj _ _ _ q1 a
      rw [q2, ee, r.1]
      exact keyN_hash w _
theorem DxP.ofK {a : Addr} {kvs : List Ent} {xs : List (Key × Value)} {h : Heap} (q1 : (a == sysModules) = false) (q2 : kvs.length ≤ sizeLine) (r : XK' kvs xs) (d : h.DictOf (mixKind X.prog X.w) a xs) : ∃ ob, DxP X.w a kvs ob h := by
  obtain ⟨o, es, ep, g1, g2, g3, g4, g5, g6⟩ := d
  refine ⟨o, q1, q2, ?_, g1, g2, es, ep, g3, dxK_back r g5 fun e he => g4 e (Array.mem_def.mpr he)⟩
  rw [r.keys]
  exact List.Pairwise.map keyN (fun _ _ hab z => hab (keyN_inj z)) g6
end
end Gw

set_option Elab.async false
set_option linter.all false
set_option maxRecDepth 100000
set_option maxHeartbeats 1000000
/-! Gd2: what is done with such a dict: in, [], get, []=, a comprehension's store. -/
namespace Gw
open PySem PySem.Spec PyProof.Rows L2
def valE (kvs : List Ent) (k : NestedKey) : Option V := (kvs.find? fun p => decide (p.1 = k)).map (·.2.2)
def setE (k : NestedKey) (v : V) (p : Ent) : Ent := if p.1 = k then (p.1, p.2.1, v) else p
def putE (kvs : List Ent) (k : NestedKey) (y v : V) : List Ent := if (valE kvs k).isSome then kvs.map (setE k v) else kvs ++ [(k, y, v)]
theorem valE_nil (k : NestedKey) : valE [] k = none := rfl
theorem valE_yes {p : Ent} {r : List Ent} {k : NestedKey} (e : p.1 = k) : valE (p :: r) k = some p.2.2 := by simp [valE, List.find?_cons, e]
theorem valE_no {p : Ent} {r : List Ent} {k : NestedKey} (e : ¬ p.1 = k) : valE (p :: r) k = valE r k := by simp [valE, List.find?_cons, e]
theorem putE_len (kvs : List Ent) (k : NestedKey) (y v : V) : (putE kvs k y v).length ≤ kvs.length + 1 := by
  unfold putE
  split
  · rw [List.length_map]; omega
  · rw [List.length_append]; simp
theorem setE_keys (kvs : List Ent) (k : NestedKey) (v : V) : (kvs.map (setE k v)).map (·.1) = kvs.map (·.1) := by
  rw [List.map_map]
  refine List.map_congr_left fun p _ => ?_
  show (setE k v p).1 = p.1
  unfold setE
  split <;> rfl
theorem XR.val : ∀ {kvs : List Ent} {xs : List (NestedKey × Addr × Value)} (k : NestedKey), XR kvs xs → RelO (valE kvs k) ((atKey xs k).map (·.2))
  | _, _, k, .nil => True.intro
  | _, _, k, .cons (a := p) (b := x) r t => by
    by_cases e : p.1 = k
    · have e' : x.1 = k := r.1.symm.trans e
      rw [valE_yes e, show (atKey (x :: _) k).map (·.2) = some x.2.2 by simp [atKey, List.find?_cons, e']]
      exact r.2.2
    · have e' : ¬ x.1 = k := fun z => e (r.1.trans z)
      rw [valE_no e]
      have q := XR.val k t
      simpa [atKey, List.find?_cons, e'] using q
theorem XR.set {k : NestedKey} {v : V} {u : Value} (rv : RelV v u) : ∀ {kvs : List Ent} {xs : List (NestedKey × Addr × Value)}, XR kvs xs → XR (kvs.map (setE k v)) (xs.map (PySem.putAt k u))
  | _, _, .nil => .nil
  | _, _, .cons (a := p) (b := x) r t => by
    rw [List.map_cons, List.map_cons]
    refine .cons ?_ (XR.set rv t)
    unfold setE PySem.putAt
    by_cases e : p.1 = k
    · rw [if_pos e, if_pos (r.1.symm.trans e)]; exact ⟨r.1, r.2.1, rv⟩
    · rw [if_neg e, if_neg fun z => e (r.1.trans z)]; exact r
theorem XR.put {kvs : List Ent} {xs : List (NestedKey × Addr × Value)} {k : NestedKey} {b : Addr} {v : V} {u : Value} (r : XR kvs xs) (rv : RelV v u) : XR (putE kvs k (.ref b) v) (storedH xs k b u) := by
  have e := (XR.val k r).isSome_eq
  rw [Option.isSome_map] at e
  unfold putE storedH
  rw [e]
  split
  · exact XR.set rv r
  · exact Paired.snoc r ⟨rfl, rfl, rv⟩
theorem XK'.val : ∀ {kvs : List Ent} {xs : List (Key × Value)} (k : Key), XK' kvs xs → RelO (valE kvs (keyN k)) (valueAt xs k)
  | _, _, k, .nil => True.intro
  | _, _, k, .cons (a := p) (b := x) r t => by
    by_cases e : x.1 = k
    · have e' : p.1 = keyN k := by rw [r.1, e]
      rw [valE_yes e', show valueAt (x :: _) k = some x.2 by simp [valueAt, List.find?_cons, e]]
      exact r.2.2
    · have e' : ¬ p.1 = keyN k := fun z => e (keyN_inj (by rw [← r.1]; exact z))
      rw [valE_no e']
      have q := XK'.val k t
      simpa [valueAt, List.find?_cons, e] using q
theorem any_at (xs : List (Key × Value)) (k : Key) : (xs.any fun kv => decide (kv.1 = k)) = (valueAt xs k).isSome := by
  induction xs with
  | nil => rfl
  | cons x xs ih =>
    rw [List.any_cons]
    by_cases e : x.1 = k
    · simp [valueAt, List.find?_cons, e]
    · rw [show valueAt (x :: xs) k = valueAt xs k by simp [valueAt, List.find?_cons, e], ← ih]
      simp [e]
theorem XK'.set {k : Key} {v : V} {u : Value} (rv : RelV v u) : ∀ {kvs : List Ent} {xs : List (Key × Value)}, XK' kvs xs → XK' (kvs.map (setE (keyN k) v)) (xs.map fun kv => if kv.1 = k then (kv.1, u) else kv)
  | _, _, .nil => .nil
  | _, _, .cons (a := p) (b := x) r t => by
    rw [List.map_cons, List.map_cons]
    refine .cons ?_ (XK'.set rv t)
    unfold setE
    by_cases e : x.1 = k
    · rw [if_pos e, if_pos (by rw [r.1, e])]; exact ⟨r.1, r.2.1, rv⟩
    · rw [if_neg e, if_neg fun z => e (keyN_inj (by rw [← r.1]; exact z))]; exact r
theorem XK'.put {kvs : List Ent} {xs : List (Key × Value)} {k : Key} {v : V} {u : Value} (r : XK' kvs xs) (rv : RelV v u) : XK' (putE kvs (keyN k) (kV k) v) (stored xs k u) := by
  have e := (XK'.val k r).isSome_eq
  unfold putE stored
  rw [e, any_at]
  split
  · exact XK'.set rv r
  · exact Paired.snoc r ⟨rfl, rfl, rv⟩
/-- the key y is k, of the dict's own kind -/
def Fit1 (K : PySem.W.Frag) (H : Hp) (kvs : List Ent) (k : NestedKey) (y : V) : Prop :=
  ((∀ p ∈ kvs, KTup K H p) ∧ KTup K H (k, y, .non)) ∨ ((∀ p ∈ kvs, KAtm p) ∧ KAtm (k, y, .non))
section
variable {X : Cx} {pins : List (Addr × Obj)} {σ : L2.St} {H : Hp} {s : Shared} {a : Addr} {kvs : List Ent} {ob : Obj} {k : NestedKey} {y v : V} {u r : Value} {A : Around} {E : Value → Shared → Prop}
theorem tup_ref {K : PySem.W.Frag} {H : Hp} {k : NestedKey} {y w : V} (h : KTup K H (k, y, w)) : ∃ b, y = .ref b := by
  obtain ⟨⟨ks, h1⟩, _, h3⟩ := h
  cases h1
  cases h3 with
  | tup _ _ => exact ⟨_, rfl⟩
theorem dx_in {Q : Value → Shared → Prop} (hu : A.units + 9 < cLine) (I : Inv X pins σ H s) (e : H a = some (DxO X.w a kvs ob)) (hf : Fit1 X.K H kvs k y) (ry : RelV y u) (h : ∀ s', Inv X pins σ H s' → Q (.bool (valE kvs k).isSome) s') :
    wpAny (model X.prog X.w) A (compareOp .In u (.ref a)) Q E s := by
  rcases hf with ⟨h1, h2⟩ | ⟨h1, q, k1, k2⟩
  · obtain ⟨b, rfl⟩ := tup_ref h2
    cases (show u = Value.ref b from ry)
    obtain ⟨z, _, xs, rx, dd⟩ := dxH I e h1
    refine wpAny_in_heap (knd := nestedKind X.prog X.w) (show A.in1.units + 8 < cLine by rw [Around.in1_units]; omega) ⟨KeyV.is I _ _ _ h2.2.2 rfl, h2.2.1⟩ z dd ?_
    have q := (XR.val k rx).isSome_eq
    rw [Option.isSome_map] at q
    rw [← q]
    exact h _ (I.tok _)
  · cases k1; cases k2
    obtain ⟨z, _, xs, rx, dd⟩ := dxK I e h1
    refine wpAny_in_of (kV_is ry) z dd.mapOf ?_
    rw [← (XK'.val q rx).isSome_eq]
    exact h _ (I.tok _)
theorem dx_ni {Q : Value → Shared → Prop} (hu : A.units + 9 < cLine) (I : Inv X pins σ H s) (e : H a = some (DxO X.w a kvs ob)) (hf : Fit1 X.K H kvs k y) (ry : RelV y u) (h : ∀ s', Inv X pins σ H s' → Q (.bool (!(valE kvs k).isSome)) s') :
    wpAny (model X.prog X.w) A (compareOp .NotIn u (.ref a)) Q E s := by
  rcases hf with ⟨h1, h2⟩ | ⟨h1, q, k1, k2⟩
  · obtain ⟨b, rfl⟩ := tup_ref h2
    cases (show u = Value.ref b from ry)
    obtain ⟨z, _, xs, rx, dd⟩ := dxH I e h1
    refine wpAny_notIn_heap (knd := nestedKind X.prog X.w) (show A.in1.units + 8 < cLine by rw [Around.in1_units]; omega) ⟨KeyV.is I _ _ _ h2.2.2 rfl, h2.2.1⟩ z dd ?_
    have q := (XR.val k rx).isSome_eq
    rw [Option.isSome_map] at q
    rw [← q]
    exact h _ (I.tok _)
  · cases k1; cases k2
    obtain ⟨z, _, xs, rx, dd⟩ := dxK I e h1
    refine wpAny_notIn_of (kV_is ry) z dd.mapOf ?_
    rw [← (XK'.val q rx).isSome_eq]
    exact h _ (I.tok _)
theorem dx_get (hu : A.units + 9 < cLine) (I : Inv X pins σ H s) (e : H a = some (DxO X.w a kvs ob)) (hf : Fit1 X.K H kvs k y) (ry : RelV y u) (hv : valE kvs k = some v) :
    s.TypeIs (.ref a) "dict" ∧ ∃ w', RelV v w' ∧ ∀ Q : Value → Shared → Prop, (∀ s', Inv X pins σ H s' → Q w' s') → wpAny (model X.prog X.w) A (getItem (.ref a) u) Q E s := by
  rcases hf with ⟨h1, h2⟩ | ⟨h1, q, k1, k2⟩
  · obtain ⟨b, rfl⟩ := tup_ref h2
    cases (show u = Value.ref b from ry)
    obtain ⟨z, _, xs, rx, dd⟩ := dxH I e h1
    obtain ⟨w', hw, rw'⟩ := RelO.some_of (v := v) (o := (atKey xs k).map (·.2)) (by rw [← hv]; exact XR.val k rx)
    obtain ⟨p, hp, hp2⟩ := Option.map_eq_some_iff.mp hw
    refine ⟨dd.typeIs, w', rw', fun Q h => wpAny_getItem_heap (knd := nestedKind X.prog X.w) (show A.in1.units + 8 < cLine by rw [Around.in1_units]; omega) ⟨KeyV.is I _ _ _ h2.2.2 rfl, h2.2.1⟩ dd hp ?_⟩
    rw [hp2]
    exact h _ (I.tok _)
  · cases k1; cases k2
    obtain ⟨z, _, xs, rx, dd⟩ := dxK I e h1
    obtain ⟨w', hw, rw'⟩ := RelO.some_of (v := v) (o := valueAt xs q) (by rw [← hv]; exact XK'.val q rx)
    exact ⟨dd.typeIs, w', rw', fun Q h => wpAny_getItem_of (kV_is ry) dd.mapOf hw (h _ (I.tok _))⟩
theorem dx_getOr {Q : Value → Shared → Prop} {d : V} {d' : Value} (hu : A.units + 9 < cLine) (I : Inv X pins σ H s) (e : H a = some (DxO X.w a kvs ob)) (hf : Fit1 X.K H kvs k y) (ry : RelV y u) (rd : RelV d d') (h : ∀ w' s', Inv X pins σ H s' → RelV ((valE kvs k).getD d) w' → Q w' s') :
    wpAny (model X.prog X.w) A (call (.builtin "dict.get") [.ref a, u, d']) Q E s := by
  rcases hf with ⟨h1, h2⟩ | ⟨h1, q, k1, k2⟩
  · obtain ⟨b, rfl⟩ := tup_ref h2
    cases (show u = Value.ref b from ry)
    obtain ⟨z, _, xs, rx, dd⟩ := dxH I e h1
    refine call_meetsIn PySem.F.slot_dict_get dd.typeIs PySem.F.entry_dict_get (PySem.F.args_dict_get_3 _ _ _) (meetsH_dict_get_default (nestedKind X.prog X.w) a b z d') ⟨show A.in1.units + 8 < cLine by rw [Around.in1_units]; omega, k, xs, ⟨KeyV.is I _ _ _ h2.2.2 rfl, h2.2.1⟩, dd, ?_⟩
    exact h _ _ (I.tok _) ((XR.val k rx).getD rd)
  · cases k1; cases k2
    obtain ⟨z, _, xs, rx, dd⟩ := dxK I e h1
    refine call_meetsIn PySem.F.slot_dict_get dd.typeIs PySem.F.entry_dict_get (PySem.F.args_dict_get_3 _ _ _) (meets_dict_get_default (mixKind X.prog X.w) a (kV_is ry) z d') ⟨_, dd.mapOf, ?_⟩
    exact h _ _ (I.tok _) ((XK'.val q rx).getD rd)
theorem dx_new {h' : Heap} {t' : Nat} {kvs' : List Ent} {ob' : Obj} (I : Inv X pins σ H s) (e : H a = some (DxO X.w a kvs ob)) (hs : Heap.SameBut a s.heap h') (he : ∃ q, h'.get? a = some q) (new : DxP X.w a kvs' ob' h') : Inv X pins σ (upd H a (DxO X.w a kvs' ob')) { s with heap := h', toks := t' } :=
  d_write I (by rw [e]; exact True.intro) hs he new.ok
theorem DxP.there {w : World} {h : Heap} (x : DxP w a kvs ob h) : ∃ q, h.get? a = some q := let ⟨_, _, _, e, _⟩ := x; ⟨_, e⟩
/-- d[k] = v, by a comprehension -/
theorem dx_store {Q : Unit → Shared → Prop} (hu : A.units + 9 < cLine) (I : Inv X pins σ H s) (e : H a = some (DxO X.w a kvs ob)) (hz : kvs.length < sizeLine) (hf : Fit1 X.K H kvs k y) (ry : RelV y u) (rv : RelV v r)
    (h : ∀ ob' s', Inv X pins σ (upd H a (DxO X.w a (putE kvs k y v) ob')) s' → Q () s') : wpAny (model X.prog X.w) A (dictSet a u r) Q E s := by
  have hl : (putE kvs k y v).length ≤ sizeLine := by have := putE_len kvs k y v; omega
  rcases hf with ⟨h1, h2⟩ | ⟨h1, q, k1, k2⟩
  · obtain ⟨b, rfl⟩ := tup_ref h2
    cases (show u = Value.ref b from ry)
    obtain ⟨z, _, xs, rx, dd⟩ := dxH I e h1
    refine wpAny_dictSet_heap (knd := nestedKind X.prog X.w) (show A.units + 8 < cLine by omega) ⟨KeyV.is I _ _ _ h2.2.2 rfl, h2.2.1⟩ dd (fun h' dd' hs => ?_) (by rw [← Paired.length rx]; omega)
    obtain ⟨ob', p⟩ := DxP.ofH z hl (XR.put rx rv) dd'
    exact h ob' _ (dx_new I e hs p.there p)
  · cases k1; cases k2
    obtain ⟨z, _, xs, rx, dd⟩ := dxK I e h1
    refine wpAny_dictSet_pairs (kV_is ry) dd (fun h' dd' hs => ?_) (by rw [← Paired.length rx]; omega)
    obtain ⟨ob', p⟩ := DxP.ofK z hl (XK'.put rx rv) dd'
    exact h ob' _ (dx_new I e hs p.there p)
/-- d[k] = v -/
theorem dx_setItem {Q : Unit → Shared → Prop} (hu : A.units + 9 < cLine) (I : Inv X pins σ H s) (e : H a = some (DxO X.w a kvs ob)) (hz : kvs.length < sizeLine) (hf : Fit1 X.K H kvs k y) (ry : RelV y u) (rv : RelV v r)
    (h : ∀ ob' s', Inv X pins σ (upd H a (DxO X.w a (putE kvs k y v) ob')) s' → Q () s') : wpAny (model X.prog X.w) A (setItem (.ref a) u r) Q E s := by
  have hl : (putE kvs k y v).length ≤ sizeLine := by have := putE_len kvs k y v; omega
  rcases hf with ⟨h1, h2⟩ | ⟨h1, q, k1, k2⟩
  · obtain ⟨b, rfl⟩ := tup_ref h2
    cases (show u = Value.ref b from ry)
    obtain ⟨z, _, xs, rx, dd⟩ := dxH I e h1
    refine wpAny_setItem_heap (knd := nestedKind X.prog X.w) (show A.in1.units + 8 < cLine by rw [Around.in1_units]; omega) ⟨KeyV.is I _ _ _ h2.2.2 rfl, h2.2.1⟩ dd (fun h' dd' hs => ?_) (by rw [← Paired.length rx]; omega)
    obtain ⟨ob', p⟩ := DxP.ofH z hl (XR.put rx rv) dd'
    exact h ob' _ (dx_new I e hs p.there p)
  · cases k1; cases k2
    obtain ⟨z, _, xs, rx, dd⟩ := dxK I e h1
    refine wpAny_setItem_pairs (kV_is ry) dd (fun h' dd' hs => ?_) (by rw [← Paired.length rx]; omega)
    obtain ⟨ob', p⟩ := DxP.ofK z hl (XK'.put rx rv) dd'
    exact h ob' _ (dx_new I e hs p.there p)
end
end Gw

set_option Elab.async false
set_option linter.all false
set_option maxRecDepth 100000
set_option maxHeartbeats 1000000
/-! Gd3: sorted of such a dict, and of a list, where the items read as alike data. -/
namespace Gw
open PySem PySem.Spec PySem.Calls PyProof.Rows L2 PySem.W
mutual
theorem reads_lt {h : Heap} : ∀ (d : PyData) (v : Value) (as : List Addr), Reads h v d as → ∀ b ∈ as, b < h.objs.size
  | .none, _, _, r => by cases r; intro b hb; cases hb
  | .bool _, _, _, r => by cases r; intro b hb; cases hb
  | .int _, _, _, r => by cases r; intro b hb; cases hb
  | .str _, _, _, r => by cases r; intro b hb; cases hb
  | .list xs, _, _, r => by
    cases r with
    | list h1 _ _ h4 =>
      intro b hb
      rcases List.mem_cons.mp hb with z | z
      · rw [z]; exact Heap.lt_size h1
      · exact readsAll_lt xs _ _ h4 b z
  | .tuple xs, _, _, r => by cases r with | tuple _ _ _ h4 => exact readsAll_lt xs _ _ h4
  | .dict kvs, _, _, r => by
    cases r with
    | dict h1 _ _ h4 h5 =>
      intro b hb
      rcases List.mem_append.mp hb with z | z
      · rcases List.mem_cons.mp z with z | z
        · rw [z]; exact Heap.lt_size h1
        · exact readsKeys_lt kvs _ _ h4 b z
      · exact readsVals_lt kvs _ _ h5 b z
theorem readsAll_lt {h : Heap} : ∀ (ds : List PyData) (vs : List Value) (as : List Addr), ReadsAll h vs ds as → ∀ b ∈ as, b < h.objs.size
  | [], _, _, r => by cases r; intro b hb; cases hb
  | d :: ds, _, _, r => by
    cases r with
    | cons a c =>
      intro b hb
      rcases List.mem_append.mp hb with z | z
      · exact reads_lt d _ _ a b z
      · exact readsAll_lt ds _ _ c b z
theorem readsKeys_lt {h : Heap} : ∀ (ds : List (PyData × PyData)) (vs : List Value) (as : List Addr), ReadsAll h vs (ds.map (·.1)) as → ∀ b ∈ as, b < h.objs.size
  | [], _, _, r => by cases r; intro b hb; cases hb
  | (d, e) :: ds, _, _, r => by
    cases r with
    | cons a c =>
      intro b hb
      rcases List.mem_append.mp hb with z | z
      · exact reads_lt d _ _ a b z
      · exact readsKeys_lt ds _ _ c b z
theorem readsVals_lt {h : Heap} : ∀ (ds : List (PyData × PyData)) (vs : List Value) (as : List Addr), ReadsAll h vs (ds.map (·.2)) as → ∀ b ∈ as, b < h.objs.size
  | [], _, _, r => by cases r; intro b hb; cases hb
  | (d, e) :: ds, _, _, r => by
    cases r with
    | cons a c =>
      intro b hb
      rcases List.mem_append.mp hb with z | z
      · exact reads_lt e _ _ a b z
      · exact readsVals_lt ds _ _ c b z
end
theorem no_get {h : Heap} {b : Addr} (hb : h.objs.size ≤ b) : h.get? b = none := by
  cases q : h.get? b with
  | none => rfl
  | some o => exact absurd (Heap.lt_size q) (Nat.not_lt.mpr hb)
theorem each_vals {β : Type} {val : β → V} : ∀ {bs : List β} {us : List Value}, EachIs (fun u b => RelV (val b) u) us bs → Vals (bs.map val) us
  | _, _, .nil => .nil
  | _, _, .cons r t => .cons r (each_vals t)
theorem vals_each {β : Type} {val : β → V} : ∀ {bs : List β} {us : List Value}, Vals (bs.map val) us → EachIs (fun u b => RelV (val b) u) us bs
  | [], _, r => by cases r; exact .nil
  | b :: bs, _, r => by cases r with | cons a c => exact .cons a (vals_each c)
section
variable {X : Cx} {pins : List (Addr × Obj)} {σ : L2.St} {H : Hp} {s : Shared} {β : Type} {bs : List β} {enc : β → PyData} {val : β → V} {Q : VK}
theorem each_reads (I : Inv X pins σ H s) : ∀ {us : List Value} {bs : List β}, EachIs (fun u b => RelV (val b) u) us bs → (∀ b ∈ bs, Dp X.K H (val b) (enc b)) → EachIs (fun v b => ∃ as, Reads s.heap v (enc b) as) us bs
  | _, _, .nil, _ => .nil
  | _, _, .cons r t, h => .cons (Dp.reads I _ _ _ (h _ List.mem_cons_self) r) (each_reads I t fun b hb => h b (List.mem_cons_of_mem _ hb))
/-- what is sorted is a new list -/
def tSorted (bs : List β) (enc : β → PyData) (val : β → V) (H : Hp) (Q : VK) : Prop := ∀ p, H p = none → Q (.ref p) (upd H p (.lst ((bs.mergeSort (dataLe false enc)).map val)))
theorem sorted_end {h' : Heap} {B : Addr} {out : List Value} {tk c : Nat} (I : Inv X pins σ H s) (k : ∀ b o, s.heap.get? b = some o → h'.get? b = some o) (hB : s.heap.get? B = none) (ho : h'.get? B = some (seqObj "list" out.toArray c)) (hl : out.length ≤ sizeLine)
    (e : EachIs (fun u b => RelV (val b) u) out (bs.mergeSort (dataLe false enc))) (h : tSorted bs enc val H Q) : EP X pins σ Q (.ref B) { s with heap := h', toks := tk } := by
  have hn : H B = none := I.hok.gone hB
  refine ⟨.ref B, _, I.laidN (a := B) (o := .lst ((bs.mergeSort (dataLe false enc)).map val)) k hB hn ⟨?_, out, c, each_vals e, ho⟩, rfl, h B hn⟩
  rw [List.length_map, ← e.length]
  exact hl
theorem sorted_list {a : Addr} (hu : ∀ b ∈ bs, X.A.units + 2 + (enc b).depth < cLine) (I : Inv X pins σ H s) (hs : SqL X.K H a (bs.map val)) (hd : ∀ b ∈ bs, Dp X.K H (val b) (enc b)) (hal : AllAlike (bs.map enc)) (hk : Sortable (bs.map enc)) (h : tSorted bs enc val H Q) :
    wpAny (model X.prog X.w) X.A (call (.builtin "sorted") [.ref a]) (EP X pins σ Q) X.xe s := by
  obtain ⟨its, r, pl, hl⟩ := I.list hs
  have e := vals_each r
  rw [List.length_map] at hl
  refine sorted_data (vs := its) pl.isList e (each_reads I e hd) hal hk hl hu fun out ho eo => ?_
  obtain ⟨c, hc⟩ := sortedAll_at s.heap its out.toArray
  exact sorted_end (tk := s.toks) I (fun _ _ => sortedAll_old) (no_get (Nat.le_succ _)) hc (by rw [ho]; exact hl) eo h
theorem ent_keys {w : World} : ∀ {kvs : List Ent} {es : List DictEntry} {bs : List β}, Paired (EntR w) kvs es → kvs.map (·.2.1) = bs.map val → EachIs (fun u b => RelV (val b) u) (es.map (·.key)) bs
  | _, _, [], .nil, _ => .nil
  | _, _, b :: bs, .nil, h => by cases h
  | _, _, [], .cons r t, h => by cases h
  | _, _, b :: bs, .cons (a := p) (b := e) r t, h => by
    rw [List.map_cons, List.map_cons] at h
    injection h with h1 h2
    exact .cons (by rw [← h1]; exact r.2.1) (ent_keys t h2)
theorem sorted_dict {a : Addr} {kvs : List Ent} {ob : Obj} (hc : X.calm = true) (hu : ∀ b ∈ bs, X.A.units + 2 + (enc b).depth < cLine) (I : Inv X pins σ H s) (he : H a = some (DxO X.w a kvs ob)) (hb : kvs.map (·.2.1) = bs.map val) (hd : ∀ b ∈ bs, Dp X.K H (val b) (enc b)) (hal : AllAlike (bs.map enc)) (hk : Sortable (bs.map enc)) (h : tSorted bs enc val H Q) :
    wpAny (model X.prog X.w) X.A (call (.builtin "sorted") [.ref a]) (EP X pins σ Q) X.xe s := by
  obtain ⟨⟨q1, q2, q3, g1, g2, es, ep, g3, g4⟩, _, _⟩ := (show ObjOk X.prog X.w H s.heap a (DxO X.w a kvs ob) from I.hok a _ he)
  have ek := ent_keys (val := val) g4 hb
  have hn : bs.length ≤ sizeLine := by
    have := congrArg List.length hb
    rw [List.length_map, List.length_map] at this
    omega
  have hes : es.size = bs.length := by rw [← ek.length, List.length_map, Array.length_toList]
  have hd' : s.heap.DictRaw a es ep := ⟨ob, g1, g2, g3⟩
  have hA : X.A.in1.handled = none := by rw [Around.in1_handled]; exact I.ok.hd hc
  refine call_function_entry kind_sorted plain_sorted entry_sorted (args_sorted1 _) ?_
  unfold Builtin.«sorted»
  refine wpAny_bind (m := checkCount "sorted" 1 1 _) (wpAny_pure ?_)
  refine wpAny_bind (kdu_collect (A := X.A.in1) (KdlSrc.rawDict (prog := X.prog) (w := X.w) q1) hA hd' (by rw [hes]; exact hn) fun h' tk acc hk1 hacc => ?_)
  have hl : acc.toList.length = bs.length := by rw [Array.length_toList, ← hes]; exact hacc.1
  have hkeys : acc.toList = es.toList.map (·.key) := by
    refine List.ext_getElem? fun j => ?_
    by_cases hj : j < acc.size
    · obtain ⟨hi, e⟩ := hacc.2 j acc[j] (by rw [Array.getElem?_eq_getElem hj])
      rw [List.getElem?_map, Array.getElem?_toList, Array.getElem?_toList, Array.getElem?_eq_getElem hj, Array.getElem?_eq_getElem hi, e]
      rfl
    · rw [List.getElem?_eq_none (by rw [Array.length_toList]; omega), List.getElem?_eq_none (by rw [List.length_map, Array.length_toList]; have := hacc.1; omega)]
  refine wpAny_bind (wpAny_newList ?_ (by rw [hl]; exact hn))
  have e2 : EachIs (fun u b => RelV (val b) u) acc.toList bs := by rw [hkeys]; exact ek
  have I' : Inv X pins σ H { s with heap := h', toks := tk } := I.kept hk1
  have er := each_reads I' e2 hd
  have er2 : EachIs (fun v b => ∃ as, Reads (h'.push { cls := .type "list", data := .seq acc.toList.toArray }) v (enc b) as ∧ h'.objs.size ∉ as) acc.toList bs := er.mono fun v b z => by
    obtain ⟨as, r⟩ := z
    exact ⟨as, PyProof.Rows.Reads.keeps (fun _ _ q => Heap.get?_push_of_some _ q) r, fun q => absurd (reads_lt _ _ _ r _ q) (Nat.lt_irrefl _)⟩
  have hat : (h'.push { cls := .type "list", data := .seq acc.toList.toArray }).get? h'.objs.size = some (seqObj "list" acc.toList.toArray 0) := Heap.get?_push_size _ rfl
  refine wpAny_bind (wpAny_holding (list_sort_data (s := { s with heap := h'.push { cls := .type "list", data := .seq acc.toList.toArray }, toks := tk }) hat e2 er2 hal hk hn (fun b hb => by have := hu b hb; rw [Around.in1_units]; omega) fun out ho eo => ?_))
  refine wpAny_pure ⟨_, rfl, ?_⟩
  obtain ⟨c, hc'⟩ := sortedHeap_at (out := out.toArray) hat
  refine (show EP X pins σ Q (.ref h'.objs.size) { s with heap := sortedHeap (h'.push { cls := .type "list", data := .seq acc.toList.toArray }) h'.objs.size acc.toList out.toArray, toks := tk } from sorted_end (s := s) (tk := tk) I (fun b o q => ?_) ?_ hc' (by rw [ho]; exact hn) eo h)
  · have q1 := hk1 b o q
    have hlt := Heap.lt_size q1
    rw [sortedHeap_old (Nat.ne_of_lt hlt) (by rw [Heap.size_push]; exact Nat.lt_succ_of_lt hlt)]
    exact Heap.get?_push_of_some _ q1
  · cases q : s.heap.get? h'.objs.size with
    | none => rfl
    | some o => exact absurd (Heap.lt_size (hk1 _ o q)) (Nat.lt_irrefl _)
end
end Gw

set_option Elab.async false
set_option linter.all false
set_option maxRecDepth 100000
set_option maxHeartbeats 1000000
/-! Gd4: dict comprehensions, the dict by its raw object. -/
namespace Gw
open PySem PySem.Spec PyProof.Rows L2
def dict0 : Obj := { cls := .type "dict", data := .dict #[] }
theorem DxP.empty {w : World} (h : Heap) (hb : sysModules < h.objs.size) : DxP w h.objs.size [] dict0 (h.push { cls := .type "dict", data := .dict #[] }) :=
  ⟨beq_eq_false_iff_ne.mpr (Ne.symm (Nat.ne_of_lt hb)), Nat.zero_le _, List.nodup_nil, Heap.get?_push_size _ rfl, ⟨rfl, rfl, rfl⟩, #[], 0, rfl, .nil⟩
section
variable {X : Cx}
/-- what one turn stores, and what holds behind it -/
def tStoreD (K : PySem.W.Frag) (w : World) (Dd : Addr) (tk tv : TE) (Nx : Hp → Prop) (σ : L2.St) (H : Hp) : Prop :=
  tk σ H fun y H4 => tv σ H4 fun z H5 => ∃ kvs ob k, H5 Dd = some (DxO w Dd kvs ob) ∧ kvs.length < sizeLine ∧ Fit1 K H5 kvs k y ∧ ∀ ob', Nx (upd H5 Dd (DxO w Dd (putE kvs k y z) ob'))
/-- one turn of a dict comprehension -/
def tTurn (K : PySem.W.Frag) (w : World) (Dd : Addr) (g : TG) (tt : TT) (tk tv : TE) (own : List Nat) (σ : L2.St) (x : V) (H : Hp) (Nx : Hp → Prop) : Prop :=
  g x (wipe σ own) H fun σ2 H2 => wipe σ2 own = wipe σ own ∧ tt σ2 H2 fun b H3 => if b = true then tStoreD K w Dd tk tv Nx σ2 H3 else Nx H3
def tDx (K : PySem.W.Frag) (w : World) (wi : TI) (g : TG) (tt : TT) (tk tv : TE) (own : List Nat) : TE := fun σ H Q => wi σ H fun J H1 => ∀ Dd, H1 Dd = none →
  ∃ Wk : Nat → Nat → Hp → Prop, (∃ m, Wk 0 m (upd H1 Dd (DxO w Dd [] dict0))) ∧ ∀ i m H2, Wk i m H2 → (J.stop i H2 ∧ Q (.ref Dd) H2) ∨
    (J.go i H2 ∧ ∃ Nx : Hp → Prop, (∀ H', Nx H' → ∃ m', m' < m ∧ Wk (i + 1) m' H') ∧ ∀ x H', J.yld i H2 x H' → tTurn K w Dd g tt tk tv own σ x H' Nx)
theorem dx_core {pins : List (Addr × Obj)} {s : Shared} {σ : L2.St} {H : Hp} {Q : VK} {Qf : Value → Shared → Prop} {use : Option (Value → Sem Unit)} {ek ev tg iter : Expr} {ifs : List Expr} {scope : Scope} {own : List (Str × Nat)} {pos pos' : Pos} {wi : TI} {g : TG} {tt : TT} {tk tv : TE} (hu : X.A.units + 9 < cLine) (hc : X.calm = true) (hN : X.N.Nodup)
    (I : Inv X pins σ H s) (hi : PI X tg iter wi) (ok : BlkOk X.N X.env.scope scope own)
    (hg : ∀ (s : Shared) (H : Hp) (C : Addr) (cl : List (Str × Addr)) (fp : List Addr), PG (X.blk s H scope (compEnvC scope cl C X.env) fp) tg g)
    (ht : ∀ (s : Shared) (H : Hp) (C : Addr) (cl : List (Str × Addr)) (fp : List Addr), PTs (X.blk s H scope (compEnvC scope cl C X.env) fp) ifs tt)
    (hk : ∀ (s : Shared) (H : Hp) (C : Addr) (cl : List (Str × Addr)) (fp : List Addr), PE (X.blk s H scope (compEnvC scope cl C X.env) fp) ek tk)
    (hv : ∀ (s : Shared) (H : Hp) (C : Addr) (cl : List (Str × Addr)) (fp : List Addr), PE (X.blk s H scope (compEnvC scope cl C X.env) fp) ev tv)
    (hs : ∀ x, foldedSetIterable iter X.env x = pure x) (h : tDx X.K X.w wi g tt tk tv (own.map (·.2)) σ H Q)
    (hend : ∀ Dd C s' m H', Inv X pins σ H' s' → Q (.ref Dd) H' → s'.heap.Ns C m → FpOk X pins H' C → compPost (model X.prog X.w) X.A X.xe use Qf (.ref Dd) C (.ok .next) s') :
    wpAny (model X.prog X.w) X.A (comprehension (.DictComp ek ev [⟨tg, iter, ifs, 0⟩] scope pos) scope X.env pos' newDict false (eval iter X.env) use) Qf X.xe s := by
  have hcl : ∀ y ∈ scope.names, y.2 = .free → ∃ c, X.env.cells.lookup y.1 = some c := by
    intro y hy e
    rcases ok.free y hy e with z | z
    · exact I.ok.has _ (.inl z)
    · exact I.ok.has _ (.inr z)
  refine wpAny_comprehension_free (use := use) rfl hs (closure_ok hcl) ok.kind (by intro y hy e; rw [ok.uniq y hy, e]) (thn (hi.run pins s σ H _ I h) fun _ sa hx => thn hx fun _ sb hy => ?_)
  obtain ⟨it, fp, tn, J, Hb, rfl, Ib, Ti, hst, hfp, q⟩ := hy
  refine wpAny_newObj_type (newEnv_comp ?_)
  generalize hDd : sb.heap.objs.size = Dd
  have nD : Hb Dd = none := by rw [← hDd]; exact Ib.hok.fresh (Nat.le_refl _)
  obtain ⟨Wk, ⟨m0, w0⟩, turn⟩ := q Dd nD
  generalize hsc : ({ sb with heap := sb.heap.push { cls := .type "dict", data := .dict #[] } } : Shared) = sc
  have hph : sc.heap = sb.heap.push { cls := .type "dict", data := .dict #[] } := by rw [← hsc]
  have Ic : Inv X pins σ (upd Hb Dd (DxO X.w Dd [] dict0)) sc := by
    rw [← hsc, ← hDd]
    exact Ib.laid (t' := sb.toks) (fun _ _ e => Heap.get?_push_of_some _ e) (Nat.le_refl _) (DxP.empty sb.heap Ib.big).ok
  have below : ∀ b ∈ fp, b < sb.heap.objs.size := by
    intro b hb
    obtain ⟨o, e, _⟩ := Ti.obj _ _ hst b hb
    exact Heap.lt_size e
  have fpc : ∀ b ∈ fp, FpOk X pins (upd Hb Dd (DxO X.w Dd [] dict0)) b ∧ b < sc.heap.objs.size := by
    intro b hb
    have hlt := below b hb
    have ne : b ≠ Dd := by rw [← hDd]; exact Nat.ne_of_lt hlt
    exact ⟨⟨by rw [upd_ne ne]; exact (hfp b hb).1, (hfp b hb).2⟩, by rw [hph, Heap.size_push]; exact Nat.lt_succ_of_lt hlt⟩
  have stc : tn 0 sc.heap := Ti.keep _ _ _ hst (by intro b _ o e; rw [hph]; exact Heap.get?_push_of_some _ e)
  have Id := block_start Ic ok hN fpc
  have kg := hg sc (upd Hb Dd (DxO X.w Dd [] dict0)) sc.heap.objs.size (cellsFrom (sc.heap.objs.size + 1) scope.names (cloFrom X.env.cells scope.names [])) fp
  have kt := ht sc (upd Hb Dd (DxO X.w Dd [] dict0)) sc.heap.objs.size (cellsFrom (sc.heap.objs.size + 1) scope.names (cloFrom X.env.cells scope.names [])) fp
  have kk := hk sc (upd Hb Dd (DxO X.w Dd [] dict0)) sc.heap.objs.size (cellsFrom (sc.heap.objs.size + 1) scope.names (cloFrom X.env.cells scope.names [])) fp
  have kv := hv sc (upd Hb Dd (DxO X.w Dd [] dict0)) sc.heap.objs.size (cellsFrom (sc.heap.objs.size + 1) scope.names (cloFrom X.env.cells scope.names [])) fp
  have npf : ∀ b ∈ fp, upd Hb Dd (DxO X.w Dd [] dict0) b = none := fun b hb => (fpc b hb).1.1
  generalize hHc : upd Hb Dd (DxO X.w Dd [] dict0) = Hc at Ic Id kg kt kk kv w0 npf fpc
  show codeAny (model X.prog X.w) X.A (.compStart (.DictComp ek ev [⟨tg, iter, ifs, 0⟩] scope pos) 0 (.ref it) (.ref Dd)
    (compEnvC scope (cellsFrom (sc.heap.objs.size + 1) scope.names (cloFrom X.env.cells scope.names [])) sc.heap.objs.size X.env))
    (compPost (model X.prog X.w) X.A X.xe use Qf (.ref Dd) sc.heap.objs.size)
    { sc with heap := pushCells (sc.heap.push { cls := .type "dict", data := .dict #[] }) scope.names }
  generalize hce : compEnvC scope (cellsFrom (sc.heap.objs.size + 1) scope.names (cloFrom X.env.cells scope.names [])) sc.heap.objs.size X.env = ce at Id kg kt kk kv ⊢
  have ceL : ce.locals = sc.heap.objs.size := by rw [← hce]; rfl
  generalize hsd : ({ sc with heap := pushCells (sc.heap.push { cls := .type "dict", data := .dict #[] }) scope.names } : Shared) = sd at Id ⊢
  have std : tn 0 sd.heap := Ti.keep _ _ _ stc (by intro b _ o e; rw [← hsd]; exact pushCells_keeps _ _ _ _ (Heap.get?_push_of_some _ e))
  have FpIn : ∀ {σ' : L2.St} {H' : Hp} {s' : Shared}, Inv (X.blk sc Hc scope ce fp) [] σ' H' s' → (∀ b ∈ fp, H' b = none) → ∀ b ∈ fp, FpOk (X.blk sc Hc scope ce fp) [] H' b := by
    intro σ' H' s' I' hn b hb
    exact ⟨hn b hb, (I'.ok.exf b hb).1, I'.ok.exfs b hb, .inl hb, fun x c e => (I'.ok.exf b hb).2 x c e, by intro p hp; simp at hp⟩
  let P : Nat → Shared → Prop := fun n s' => ∃ i H', Inv (X.blk sc Hc scope ce fp) [] (wipe σ (own.map (·.2))) H' s' ∧ tn i s'.heap ∧ (∀ b ∈ fp, H' b = none) ∧ Wk i n H'
  have loop : codeAny (model X.prog X.w) X.A (.compLoop (.DictComp ek ev [⟨tg, iter, ifs, 0⟩] scope pos) 0 (.ref it) (.ref Dd) ce) (compPost (model X.prog X.w) X.A X.xe use Qf (.ref Dd) sc.heap.objs.size) sd := by
    refine compLoop_anyD P (fun n se hP => ?_) m0 ⟨0, Hc, Id, std, npf, w0⟩
    obtain ⟨i, He, Ie, ste, nfe, we⟩ := hP
    rcases turn i n He we with ⟨stop, qq⟩ | ⟨go, Nx, hNx, step⟩
    · refine thnF (Ti.done (X.blk sc Hc scope ce fp) rfl rfl rfl hc i [] se _ He (fun _ _ => False) Ie (FpIn Ie nfe) ste stop) fun r sf hz => ?_
      obtain ⟨rfl, If⟩ := hz
      have Ig : Inv X pins σ He sf := Ic.call' (ch := fp) If.os If.base If.hok If.bare (by intro b hb; exact ⟨(fpc b hb).1.2.2.2.1, (fpc b hb).1.2.1, (fpc b hb).1.2.2.2.2.1, (fpc b hb).1.2.2.2.2.2⟩)
      have nC : He sc.heap.objs.size = none := by have z : He ce.locals = none := If.free; rw [ceL] at z; exact z
      obtain ⟨m, hm, _⟩ := If.loc
      have hm' : sf.heap.Ns ce.locals m := hm
      rw [ceL] at hm'
      exact hend Dd sc.heap.objs.size sf m He Ig qq hm' (Ic.fpOk (Nat.le_refl _) nC)
    · refine thnF (Ti.item (X.blk sc Hc scope ce fp) rfl rfl rfl hc i [] se _ He (fun _ _ => False) Ie (FpIn Ie nfe) ste go) fun r sf hz => ?_
      obtain ⟨u, rfl, hz⟩ := hz
      refine thnF hz fun _ sg hz => ?_
      obtain ⟨x, Hg, Ig, rx, yx, stg, nfg⟩ := hz
      have Igp := Ig.pinned (FpIn Ig nfg) (Ti.obj _ _ stg)
      refine thnF (kg.run _ sg _ Hg x u _ Igp rx (step x Hg yx)) fun _ sh hz => ?_
      obtain ⟨σh, Hh, Ih, hwh, qh⟩ := hz
      refine thnF (kt.run _ sh σh Hh _ Ih qh) fun b si hz => ?_
      obtain ⟨Hi, Ii, qi⟩ := hz
      have again : ∀ {s' : Shared} {H' : Hp}, Inv (X.blk sc Hc scope ce fp) ([] ++ pinsAt fp sg.heap) σh H' s' → Nx H' → ∃ m, m < n ∧ P m s' := by
        intro s' H' I' nx
        obtain ⟨m', hm, wn⟩ := hNx H' nx
        have pin : ∀ b ∈ fp, ∀ o, sg.heap.get? b = some o → s'.heap.get? b = some o ∧ H' b = none := by
          intro b hb o e
          have z := I'.pin (b, o) (List.mem_append_right _ (List.mem_append_right _ (mem_pinsAt hb e)))
          exact ⟨z.1, z.2.1⟩
        refine ⟨m', hm, i + 1, H', (I'.unpinned (pins := [])).weak (by rw [← hwh, wipe_length]) (fun j v e => ?_), Ti.keep _ _ _ stg (by intro b hb o e; exact (pin b hb o e).1), fun b hb => ?_, wn⟩
        · rw [← hwh] at e
          exact (wipe_some e).1
        · obtain ⟨o, e, _⟩ := Ti.obj _ _ stg b hb
          exact (pin b hb o e).2
      cases b with
      | false =>
        rw [if_neg Bool.false_ne_true] at qi ⊢
        exact again Ii qi
      | true =>
        rw [if_pos rfl] at qi ⊢
        refine thnF (kk.run _ si σh Hi _ Ii qi) fun _ sj hz => ?_
        obtain ⟨y, Hj, Ij, ry, qj⟩ := hz
        refine thnF (kv.run _ sj σh Hj _ Ij qj) fun _ sk hz => ?_
        obtain ⟨z, Hk, Ik, rz, kvs, ob, k, hD, hlen, hfit, nx⟩ := hz
        exact dx_store (X := X.blk sc Hc scope ce fp) (A := X.A) hu Ik hD hlen hfit ry rz fun ob' sl Il => again Il (nx ob')
  exact codeAny_compStart_dict loop (Ti.self X.A 0 _ _ _ std loop)
theorem pe_dx {ek ev tg iter : Expr} {ifs : List Expr} {scope : Scope} {own : List (Str × Nat)} {pos : Pos} {wi : TI} {g : TG} {tt : TT} {tk tv : TE} (hu : X.A.units + 9 < cLine) (hc : X.calm = true) (hN : X.N.Nodup) (hi : PI X tg iter wi) (ok : BlkOk X.N X.env.scope scope own)
    (hg : ∀ (s : Shared) (H : Hp) (C : Addr) (cl : List (Str × Addr)) (fp : List Addr), PG (X.blk s H scope (compEnvC scope cl C X.env) fp) tg g)
    (ht : ∀ (s : Shared) (H : Hp) (C : Addr) (cl : List (Str × Addr)) (fp : List Addr), PTs (X.blk s H scope (compEnvC scope cl C X.env) fp) ifs tt)
    (hk : ∀ (s : Shared) (H : Hp) (C : Addr) (cl : List (Str × Addr)) (fp : List Addr), PE (X.blk s H scope (compEnvC scope cl C X.env) fp) ek tk)
    (hv : ∀ (s : Shared) (H : Hp) (C : Addr) (cl : List (Str × Addr)) (fp : List Addr), PE (X.blk s H scope (compEnvC scope cl C X.env) fp) ev tv)
    (hs : ∀ x, foldedSetIterable iter X.env x = pure x) : PE X (.DictComp ek ev [⟨tg, iter, ifs, 0⟩] scope pos) (tDx X.K X.w wi g tt tk tv (own.map (·.2))) := by
  refine ⟨fun pins s σ H Q I h => ?_⟩
  rw [arm_eval_DictComp]
  refine dx_core hu hc hN I hi ok hg ht hk hv hs h fun Dd C s' m H' I' qq hm fo => ⟨m, hm, fun hx sm => ?_⟩
  obtain ⟨f0, f1, f2, f3, f4, f5⟩ := fo
  exact ⟨.ref Dd, H', I'.turned (t' := s'.toks) (fun b o hb e => (sm.2 b hb).trans e) f0 f1 f3 f4 f5, rfl, qq⟩
/-- as a statement x = {..} -/
theorem ps_setDx {i : Nat} {y : Str} {py spos : Pos} {ek ev tg iter : Expr} {ifs : List Expr} {scope : Scope} {own : List (Str × Nat)} {pos : Pos} {wi : TI} {g : TG} {tt : TT} {tk tv : TE} (hu : X.A.units + 9 < cLine) (hc : X.calm = true) (hN : X.N.Nodup)
    (hy : X.N[i]? = some y) (hyl : X.env.scope.names.lookup y = some .local) (hsw : swapsWith (.DictComp ek ev [⟨tg, iter, ifs, 0⟩] scope pos) (some (.Name y py)) spos.line X.env = pure true) (hi : PI X tg iter wi) (ok : BlkOk X.N X.env.scope scope own)
    (hg : ∀ (s : Shared) (H : Hp) (C : Addr) (cl : List (Str × Addr)) (fp : List Addr), PG (X.blk s H scope (compEnvC scope cl C X.env) fp) tg g)
    (ht : ∀ (s : Shared) (H : Hp) (C : Addr) (cl : List (Str × Addr)) (fp : List Addr), PTs (X.blk s H scope (compEnvC scope cl C X.env) fp) ifs tt)
    (hk : ∀ (s : Shared) (H : Hp) (C : Addr) (cl : List (Str × Addr)) (fp : List Addr), PE (X.blk s H scope (compEnvC scope cl C X.env) fp) ek tk)
    (hv : ∀ (s : Shared) (H : Hp) (C : Addr) (cl : List (Str × Addr)) (fp : List Addr), PE (X.blk s H scope (compEnvC scope cl C X.env) fp) ev tv)
    (hs : ∀ x, foldedSetIterable iter X.env x = pure x) : PS X (.Assign [.Name y py] (.DictComp ek ev [⟨tg, iter, ifs, 0⟩] scope pos) spos) (tAsg (tDx X.K X.w wi g tt tk tv (own.map (·.2))) (gName i)) := by
  refine ⟨fun pins s σ H D I h => ?_⟩
  rw [exec_Assign_Name_used _ _ _ _ hsw]
  refine wpAny_bind (wpAny_standAt (wpAny_bind ?_))
  show wpAny _ X.A (do
    let _ ← comprehension (.DictComp ek ev [⟨tg, iter, ifs, 0⟩] scope pos) scope X.env (firstIterPos [⟨tg, iter, ifs, 0⟩] pos) newDict false (eval iter X.env) (some (assign (.Name y py) X.env))) _ _ s
  have hq : tDx X.K X.w wi g tt tk tv (own.map (·.2)) σ H (fun x H1 => gName i x σ H1 D.nx) := h
  refine wpAny_bind (thn (dx_core (Qf := fun _ s' => SP X pins D .next s') hu hc hN I hi ok hg ht hk hv hs hq fun Dd C s' m H' I' qq hm fo => ?_) fun _ _ z => wpAny_pure (wpAny_pure z))
  show wpAny _ _ (assign (.Name y py) X.env (.ref Dd)) _ _ _
  refine wpAny_assign_Name (store_ok2 (v := V.ref Dd) I' hN hy (.inl hyl) rfl (fun sx Ix hb => ?_) (.inr hyl))
  obtain ⟨a, sb, ha⟩ := hb
  obtain ⟨f0, f1, f2, f3, f4, f5⟩ := fo
  have ne : C ≠ a := by
    rcases ha with z | z
    · rw [z]; exact f1
    · exact fun e => f4 y a z e.symm
  exact ⟨m, hm.sameBut sb ne, fun _ sm => ⟨_, H', Ix.turned (t' := sx.toks) (fun b o hb e => (sm.2 b hb).trans e) f0 f1 f3 f4 f5, qq⟩⟩
end
end Gw

set_option Elab.async false
set_option linter.all false
set_option maxRecDepth 100000
set_option maxHeartbeats 1000000
/-! Gd7: get, update and stores of such dicts, as expressions and statements. -/
namespace Gw
open PySem PySem.Spec PyProof.Rows L2
def mergeE (kvs more : List Ent) : List Ent := more.foldl (fun acc p => putE acc p.1 p.2.1 p.2.2) kvs
theorem mergeE_len : ∀ (more kvs : List Ent), (mergeE kvs more).length ≤ kvs.length + more.length
  | [], kvs => Nat.le_refl _
  | p :: r, kvs => by
    have h1 := mergeE_len r (putE kvs p.1 p.2.1 p.2.2)
    have h2 := putE_len kvs p.1 p.2.1 p.2.2
    show (mergeE (putE kvs p.1 p.2.1 p.2.2) r).length ≤ _
    rw [List.length_cons]; omega
theorem XR.merge {more : List Ent} {ys : List (NestedKey × Addr × Value)} (r : XR more ys) : ∀ {kvs : List Ent} {xs : List (NestedKey × Addr × Value)}, XR kvs xs → XR (mergeE kvs more) (storedAllH xs ys) := by
  induction r with
  | nil => intro kvs xs q; exact q
  | @cons p y ps qs h t ih =>
    intro kvs xs q0
    have q : XR (putE kvs p.1 p.2.1 p.2.2) (storedH xs y.1 y.2.1 y.2.2) := by
      rw [h.1, h.2.1]
      exact XR.put q0 h.2.2
    exact ih q
theorem XK'.merge {more : List Ent} {ys : List (Key × Value)} (r : XK' more ys) : ∀ {kvs : List Ent} {xs : List (Key × Value)}, XK' kvs xs → XK' (mergeE kvs more) (merged xs ys) := by
  induction r with
  | nil => intro kvs xs q; exact q
  | @cons p y ps qs h t ih =>
    intro kvs xs q0
    have q : XK' (putE kvs p.1 p.2.1 p.2.2) (stored xs y.1 y.2) := by
      rw [h.1, h.2.1]
      exact XK'.put q0 h.2.2
    exact ih q
section
variable {X : Cx} {pins : List (Addr × Obj)} {σ : L2.St} {H : Hp} {s : Shared} {a b : Addr} {kvs more : List Ent} {ob ob2 : Obj} {A : Around} {E : Value → Shared → Prop}
theorem dx_is (I : Inv X pins σ H s) (e : H a = some (DxO X.w a kvs ob)) : s.TypeIs (.ref a) "dict" ∧ ∀ c, Value.ref a = .ref c → ∃ ob, s.heap.get? c = some ob ∧ ob.dict = none := by
  obtain ⟨⟨_, _, _, g1, g2, _⟩, _, _⟩ := (show ObjOk X.prog X.w H s.heap a (DxO X.w a kvs ob) from I.hok a _ e)
  exact ⟨⟨ob, g1, g2.1⟩, fun c z => by cases z; exact ⟨ob, g1, g2.2.1⟩⟩
/-- both dicts have keys of one kind -/
def Fit2 (K : PySem.W.Frag) (w : World) (H : Hp) (kvs more : List Ent) : Prop := ((∀ p ∈ kvs, KTup K H p) ∧ (∀ p ∈ more, KTup K H p) ∧ (kvs ≠ [] ∨ (more.map fun p => p.1.hash w).Nodup)) ∨ ((∀ p ∈ kvs, KAtm p) ∧ ∀ p ∈ more, KAtm p)
theorem dx_update {Q : Value → Shared → Prop} (hu : A.units + 9 < cLine) (I : Inv X pins σ H s) (e : H a = some (DxO X.w a kvs ob)) (e' : H b = some (DxO X.w b more ob2)) (ne : a ≠ b) (hz : kvs.length + more.length ≤ sizeLine) (hf : Fit2 X.K X.w H kvs more)
    (h : ∀ ob' s', Inv X pins σ (upd H a (DxO X.w a (mergeE kvs more) ob')) s' → Q .none s') : wpAny (model X.prog X.w) A (call (.builtin "dict.update") [.ref a, .ref b]) Q E s := by
  have hl : (mergeE kvs more).length ≤ sizeLine := Nat.le_trans (mergeE_len more kvs) hz
  rcases hf with ⟨h1, h2, hh⟩ | ⟨h1, h2⟩
  · obtain ⟨z, _, xs, rx, dd⟩ := dxH I e h1
    obtain ⟨z', _, ys, ry, dd'⟩ := dxH I e' h2
    refine call_update_dictH (knd := nestedKind X.prog X.w) (show A.in1.units + 8 < cLine by rw [Around.in1_units]; omega) ne z' dd dd' ?_ (by rw [← Paired.length rx, ← Paired.length ry]; exact hz) fun h' hd ho hs => ?_
    · rcases hh with q | q
      · refine .inl fun z => q ?_
        have := Paired.length rx
        rw [z] at this
        exact List.length_eq_zero_iff.mp this
      · refine .inr ⟨keyed_apart nestedKind_stays dd', ?_⟩
        have : (ys.map fun x => (nestedKind X.prog X.w).hash x.1) = more.map fun p => p.1.hash X.w := by
          have := ry.keys
          rw [show (fun x : NestedKey × Addr × Value => (nestedKind X.prog X.w).hash x.1) = (fun k : NestedKey => k.hash X.w) ∘ (·.1) from rfl, ← List.map_map, ← this, List.map_map]
          rfl
        rw [this]
        exact q
    · obtain ⟨ob', p⟩ := DxP.ofH z hl (XR.merge ry rx) hd
      exact h ob' _ (dx_new I e hs p.there p)
  · obtain ⟨z, _, xs, rx, dd⟩ := dxK I e h1
    obtain ⟨z', _, ys, ry, dd'⟩ := dxK I e' h2
    refine call_meetsIn PySem.F.slot_dict_update dd.typeIs PySem.F.entry_dict_update (PySem.F.args_dict_update_2 _ _) (meets_dict_update (mixKind X.prog X.w) a b ne z') ⟨xs, ys, dd, dd', by rw [← Paired.length rx, ← Paired.length ry]; exact hz, fun h' hd ho hs => ?_⟩
    obtain ⟨ob', p⟩ := DxP.ofK z hl (XK'.merge ry rx) hd
    exact h ob' _ (dx_new I e hs p.there p)
/-- {}, by its raw object -/
theorem pe_dnewX {pos : Pos} : PE X (.Dict [] [] pos) (fun _ H Q => ∀ p, H p = none → Q (.ref p) (upd H p (DxO X.w p [] dict0))) := ⟨fun pins s σ H Q I h =>
  wpAny_Dict_empty ⟨.ref s.heap.objs.size, _, I.laid (a := s.heap.objs.size) (o := DxO X.w s.heap.objs.size [] dict0) (t' := s.toks) (fun _ _ e => Heap.get?_push_of_some _ e) (Nat.le_refl _) (DxP.empty s.heap I.big).ok, rfl, h _ (I.hok.fresh (Nat.le_refl _))⟩⟩
/-- a call of a dict's method -/
def tBD (w : World) (r : V → List V → Hp → VK → Prop) (to : TE) (t : TA) : TE := fun σ H Q => to σ H fun x H1 => (∃ a kvs ob, x = .ref a ∧ H1 a = some (DxO w a kvs ob)) ∧ t σ H1 fun xs H2 => r x xs H2 Q
theorem pe_bd {o e : Expr} {es : List Expr} {to : TE} {t : TA} {name : Str} {apos cpos : Pos} {id : String} {r : V → List V → Hp → VK → Prop} (pa : PlainAttrs "dict") (slot : Slot "dict" name id) (hty : typeOf (.builtin id) = pure (.type "method_descriptor")) (hm : MtR X id r) (ho : PE X o to) (ha : PA X (e :: es) t)
    (hbase : attributeBase o name X.env (eval o X.env) = eval o X.env)
    (hfew : ((backTo cpos (starEach (e :: es) X.env)).all (fun x => !x.1) && (backToKw cpos (keywordEach [] X.env)).all (fun x => x.1.isSome) && decide ((e :: es).length + ([] : List Keyword).length + (if ([] : List Keyword).isEmpty then 0 else 1) < 30)) = true)
    (hline : (apos.endLine == cpos.line) = true) (hs : starEach (e :: es) X.env = (false, eval e X.env) :: starEach es X.env) (hplain : (backTo cpos (starEach es X.env)).any (·.1) = false) :
    PE X (.Call (.Attribute o name apos) (e :: es) [] cpos) (tBD X.w r to t) := by
  refine ⟨fun pins s σ H Q I h => wpAny_Call_method_late hbase hfew hline rfl (thn (ho.run pins s σ H _ I h) fun v s1 hv => ?_)⟩
  obtain ⟨x, H1, I1, r1, ⟨a, kvs, ob, rfl, e1⟩, q1⟩ := hv
  cases (show v = Value.ref a from r1)
  obtain ⟨h1, h2⟩ := dx_is I1 e1
  refine ⟨"dict", id, pa, slot, hty, h1, h2, ?_⟩
  have w := ha.run cpos pins s1 σ H1 _ I1 q1
  rw [hs] at w ⊢
  refine Calls.callWith_builtin (by show (false || (backTo cpos (starEach es X.env)).any (·.1)) = false; rw [hplain]; rfl) (Calls.evalArgs_plain (thn w fun us s2 hv => ?_))
  obtain ⟨vs, H2, I2, r2, q2⟩ := hv
  exact hm pins s2 σ H2 (.ref a) vs (.ref a) us Q I2 rfl r2 q2
/-- d.get(k, x) -/
def rGetD (K : PySem.W.Frag) (w : World) : V → List V → Hp → VK → Prop := fun x xs H Q => ∃ a y d kvs ob k, x = .ref a ∧ xs = [y, d] ∧ H a = some (DxO w a kvs ob) ∧ Fit1 K H kvs k y ∧ Q ((valE kvs k).getD d) H
theorem mt_getD (hu : X.A.units + 9 < cLine) : MtR X "dict.get" (rGetD X.K X.w) := by
  intro pins s σ H x xs v us Q I rx rs hh
  obtain ⟨a, y, d, kvs, ob, k, rfl, rfl, e, hf, q⟩ := hh
  cases (show v = Value.ref a from rx)
  cases rs with
  | cons r1 r2 =>
    cases r2 with
    | cons r3 r4 =>
      cases r4
      exact dx_getOr hu I e hf r1 r3 fun w' s' I' rw' => ⟨_, H, I', rw', q⟩
/-- d.update(e) -/
def rUpdD (K : PySem.W.Frag) (w : World) : V → List V → Hp → VK → Prop := fun x xs H Q => ∃ a b kvs more ob ob2, x = .ref a ∧ xs = [.ref b] ∧ H a = some (DxO w a kvs ob) ∧ H b = some (DxO w b more ob2) ∧ a ≠ b ∧ kvs.length + more.length ≤ sizeLine ∧ Fit2 K w H kvs more ∧ ∀ ob', Q .non (upd H a (DxO w a (mergeE kvs more) ob'))
theorem mt_updD (hu : X.A.units + 9 < cLine) : MtR X "dict.update" (rUpdD X.K X.w) := by
  intro pins s σ H x xs v us Q I rx rs hh
  obtain ⟨a, b, kvs, more, ob, ob2, rfl, rfl, e, e', ne, hz, hf, q⟩ := hh
  cases (show v = Value.ref a from rx)
  cases rs with
  | cons r1 r2 =>
    cases r2
    rename_i u
    cases (show u = Value.ref b from r1)
    exact dx_update hu I e e' ne hz hf fun ob' s' I' => ⟨.non, _, I', rfl, q ob'⟩
/-- d[k] = v -/
def sDxPut (K : PySem.W.Frag) (w : World) (td ty tv : TE) : TS := fun D σ H => tv σ H fun v H1 => td σ H1 fun x H2 => ty σ H2 fun y H3 => ∃ a kvs ob k, x = .ref a ∧ H3 a = some (DxO w a kvs ob) ∧ kvs.length < sizeLine ∧ Fit1 K H3 kvs k y ∧ ∀ ob', D.nx σ (upd H3 a (DxO w a (putE kvs k y v) ob'))
theorem ps_dxput {o i value : Expr} {pos pos' : Pos} {td ty tv : TE} (hu : X.A.units + 9 < cLine) (ho : PE X o td) (hi : PE X i ty) (hv : PE X value tv) (hs : swapsWith value (some (.Subscript o i pos')) pos.line X.env = pure false) :
    PS X (.Assign [.Subscript o i pos'] value pos) (sDxPut X.K X.w td ty tv) := by
  refine ⟨fun pins s σ H D I h => wpAny_Assign_Subscript (thn (hv.run pins s σ H _ I h) fun r s1 hr => ?_) hs⟩
  obtain ⟨v, H1, I1, rv, q1⟩ := hr
  refine thn (ho.run pins s1 σ H1 _ I1 q1) fun u s2 hr => ?_
  obtain ⟨x, H2, I2, rx, q2⟩ := hr
  refine thn (hi.run pins s2 σ H2 _ I2 q2) fun iv s3 hr => ?_
  obtain ⟨y, H3, I3, ry, a, kvs, ob, k, rfl, e, hz, hf, q3⟩ := hr
  cases (show u = Value.ref a from rx)
  exact dx_setItem hu I3 e hz hf ry rv fun ob' s4 I4 => ⟨σ, _, I4, q3 ob'⟩
/-- a store by values, in a list or in a dict -/
def rSetD (K : PySem.W.Frag) (w : World) : V → V → V → Hp → (Hp → Prop) → Prop := fun o i v H Q => ∃ a kvs ob k, o = .ref a ∧ H a = some (DxO w a kvs ob) ∧ kvs.length < sizeLine ∧ Fit1 K H kvs k i ∧ ∀ ob', Q (upd H a (DxO w a (putE kvs k i v) ob'))
theorem set_both (hu : X.A.units + 9 < cLine) : PSet X (fun o i v H Q => rSetL o i v H Q ∨ rSetD X.K X.w o i v H Q) := by
  intro pins s σ H o i v ov iv u Q I ro ri rv h
  rcases h with h | ⟨a, kvs, ob, k, rfl, e, hz, hf, q⟩
  · exact set_list pins s σ H o i v ov iv u Q I ro ri rv h
  · cases (show ov = Value.ref a from ro)
    exact dx_setItem hu I e hz hf ri rv fun ob' s' I' => ⟨_, I', q ob'⟩
end
end Gw

set_option Elab.async false
set_option linter.all false
set_option maxRecDepth 100000
set_option maxHeartbeats 1000000
/-! Gd8: walks over such a dict: its keys, its items. -/
namespace Gw
open PySem PySem.Spec PyProof.Rows L2
/-- the keys -/
def ItKx (w : World) (d : Addr) (kvs : List Ent) (ob : Obj) : It :=
  ⟨fun i H => H d = some (DxO w d kvs ob) ∧ i < kvs.length, fun i H x H' => H' = H ∧ ∃ p, kvs[i]? = some p ∧ x = p.2.1, fun i H => H d = some (DxO w d kvs ob) ∧ kvs.length ≤ i⟩
/-- the items, each a new tuple -/
def ItIx (w : World) (d : Addr) (kvs : List Ent) (ob : Obj) : It :=
  ⟨fun i H => H d = some (DxO w d kvs ob) ∧ i < kvs.length, fun i H x H' => ∃ T p, kvs[i]? = some p ∧ x = .ref T ∧ H T = none ∧ H' = upd H T (.tup [p.2.1, p.2.2]), fun i H => H d = some (DxO w d kvs ob) ∧ kvs.length ≤ i⟩
theorem ent_get {w : World} : ∀ {kvs : List Ent} {es : List DictEntry}, Paired (EntR w) kvs es → ∀ {i : Nat} {p : Ent}, kvs[i]? = some p → ∃ e, es[i]? = some e ∧ EntR w p e
  | _, _, .nil, i, p, h => by simp at h
  | _, _, .cons r t, 0, p, h => by simp at h; subst h; exact ⟨_, rfl, r⟩
  | _, _, .cons r t, i + 1, p, h => by
    obtain ⟨e, h1, h2⟩ := ent_get t (i := i) (by simpa using h)
    exact ⟨e, by simpa using h1, h2⟩
section
variable {X : Cx} {pins : List (Addr × Obj)} {σ : L2.St} {H : Hp} {s : Shared} {d : Addr} {kvs : List Ent} {ob : Obj} {es : Array DictEntry} {ep : Nat}
theorem dx_raw (I : Inv X pins σ H s) (e : H d = some (DxO X.w d kvs ob)) (hod : ob.data = .dict es ep) : (d == sysModules) = false ∧ kvs.length ≤ sizeLine ∧ s.heap.DictRaw d es ep ∧ es.size = kvs.length ∧ Paired (EntR X.w) kvs es.toList := by
  obtain ⟨⟨q1, q2, _, g1, g2, es', ep', g3, g4⟩, _, _⟩ := (show ObjOk X.prog X.w H s.heap d (DxO X.w d kvs ob) from I.hok d _ e)
  rw [hod] at g3
  cases g3
  exact ⟨q1, q2, ⟨ob, g1, g2, hod⟩, by rw [← Array.length_toList, ← Paired.length g4], g4⟩
theorem dx_data (I : Inv X pins σ H s) (e : H d = some (DxO X.w d kvs ob)) : ∃ es ep, ob.data = .dict es ep := by
  obtain ⟨⟨_, _, _, _, _, es', ep', g3, _⟩, _, _⟩ := (show ObjOk X.prog X.w H s.heap d (DxO X.w d kvs ob) from I.hok d _ e)
  exact ⟨es', ep', g3⟩
theorem arr_at {es : Array DictEntry} {i : Nat} {e : DictEntry} (h : es.toList[i]? = some e) : ∃ hi : i < es.size, es[i] = e := by
  rw [Array.getElem?_toList] at h
  obtain ⟨hi, e'⟩ := Array.getElem?_eq_some_iff.mp h
  exact ⟨hi, e'⟩
variable {P : Program} {w : World} {K : PySem.W.Frag} {tg : Expr}
theorem turn_kx (it : Addr) (hod : ob.data = .dict es ep) : Turn P w K tg (ItKx w d kvs ob) [it] it (fun i h => h.IsKeyIter it d i kvs.length ep) where
  mem := List.mem_cons_self
  obj := by
    intro i h st b hb
    rw [List.mem_singleton.mp hb]
    obtain ⟨oi, e, c, dd⟩ := st
    exact ⟨oi, e, fun v z => by rw [dd] at z; cases z⟩
  keep := fun i h h' st k => st.at fun oi e => k it List.mem_cons_self oi e
  item := by
    intro X hP hw hK hc i pins s σ H E I hf st hg
    subst hP hw hK
    obtain ⟨hd, hi⟩ := hg
    obtain ⟨f0, f1, f2, f3, f4, f5⟩ := hf it List.mem_cons_self
    obtain ⟨hs, hz, hm, hsz, he⟩ := dx_raw I hd hod
    obtain ⟨e, e1, e2⟩ := ent_get he (List.getElem?_eq_getElem hi)
    obtain ⟨hlt, e3⟩ := arr_at e1
    rw [← hsz] at st
    refine wpAny_pyNext_keys_item_raw st hm hlt fun h' st' sb => ?_
    rw [e3]
    have I1 : Inv X pins σ H { s with heap := h' } := I.turned (t' := s.toks) (fun b o hb q => (sb.2 b hb).trans q) f0 f1 f3 f4 f5
    obtain ⟨oi, q, c, dd⟩ := id st'
    refine ⟨_, rfl, go_of (s := { s with heap := h' }) q c dd (by decide) ⟨_, H, I1, e2.2.1, ⟨rfl, _, List.getElem?_eq_getElem hi, rfl⟩, ?_, fun b hb => (hf b hb).1⟩⟩
    show h'.IsKeyIter it d (i + 1) kvs.length _
    rw [← hsz]
    exact st'
  done := by
    intro X hP hw hK hc i pins s σ H E I hf st hg
    subst hP hw hK
    obtain ⟨hd, hi⟩ := hg
    obtain ⟨f0, f1, f2, f3, f4, f5⟩ := hf it List.mem_cons_self
    obtain ⟨hs, hz, hm, hsz, he⟩ := dx_raw I hd hod
    rw [← hsz] at st
    exact wpAny_pyNext_keys_end_raw (I.ok.hd hc) st hm (by omega) fun h' eb => ⟨rfl, I.turned (t' := s.toks) (fun b o hb q => eb b o hb q) f0 f1 f3 f4 f5⟩
  self := fun A i s Q E st h => wpAny_pyIter_keyiter st h
theorem turn_ix {elts : List Expr} {kk : Nat} {tpos : Pos} (it : Addr) (hod : ob.data = .dict es ep) : Turn P w K (.Tuple elts kk tpos) (ItIx w d kvs ob) [it] it (fun i h => ∃ ok ov, IsItemIter h it d i kvs.length ep ok ov) where
  mem := List.mem_cons_self
  obj := by
    intro i h st b hb
    rw [List.mem_singleton.mp hb]
    obtain ⟨ok, ov, e⟩ := st
    exact ⟨_, e, fun v z => nomatch z⟩
  keep := fun i h h' st k => let ⟨ok, ov, e⟩ := st; ⟨ok, ov, k it List.mem_cons_self _ e⟩
  item := by
    intro X hP hw hK hc i pins s σ H E I hf st hg
    subst hP hw hK
    obtain ⟨hd, hi⟩ := hg
    obtain ⟨hs, hz, hm, hsz, he⟩ := dx_raw I hd hod
    obtain ⟨e, e1, e2⟩ := ent_get he (List.getElem?_eq_getElem hi)
    obtain ⟨hlt, e3⟩ := arr_at e1
    obtain ⟨ok, ov, hit⟩ := st
    rw [← hsz] at hit
    have ilt : it < s.heap.objs.size := Heap.lt_size hit
    refine wpAny_pyNext_items_item_raw hit hm hlt fun h' ho hT hzz hk => ?_
    rw [e3] at ho hT
    refine ⟨_, rfl, wpAny_letOwnedTupleGo_items (s := { s with heap := h' }) ho fun h2 he2 sb => ?_⟩
    have hT2 : h2.get? s.heap.objs.size = some { cls := .type "tuple", data := .seq #[e.key, e.val] } := (sb.2 _ (Nat.ne_of_gt ilt)).trans hT
    have new : ObjOk X.prog X.w (upd H s.heap.objs.size (.tup [kvs[i].2.1, kvs[i].2.2])) h2 s.heap.objs.size (.tup [kvs[i].2.1, kvs[i].2.2]) :=
      ⟨by show 2 ≤ sizeLine; decide, [e.key, e.val], .cons e2.2.1 (.cons e2.2.2 .nil), ⟨_, hT2, rfl, _, rfl⟩⟩
    have I1 : Inv X pins σ (upd H s.heap.objs.size (.tup [kvs[i].2.1, kvs[i].2.2])) { s with heap := h2 } :=
      I.turnedNew (t' := s.toks) (ch := [it]) (fun b o hb q => (sb.2 b fun z => hb (by rw [z]; exact List.mem_cons_self)).trans (hk b o (fun z => hb (by rw [z]; exact List.mem_cons_self)) q)) hf (Nat.le_refl _) new
    refine ⟨.ref s.heap.objs.size, _, I1, rfl, ⟨_, _, List.getElem?_eq_getElem hi, rfl, I.hok.fresh (Nat.le_refl _), rfl⟩, ⟨e.key, e.val, ?_⟩, fun b hb => ?_⟩
    · rw [← hsz]; exact he2
    · rw [List.mem_singleton.mp hb, upd_ne (Nat.ne_of_lt ilt)]
      exact (hf it List.mem_cons_self).1
  done := by
    intro X hP hw hK hc i pins s σ H E I hf st hg
    subst hP hw hK
    obtain ⟨hd, hi⟩ := hg
    obtain ⟨f0, f1, f2, f3, f4, f5⟩ := hf it List.mem_cons_self
    obtain ⟨hs, hz, hm, hsz, he⟩ := dx_raw I hd hod
    obtain ⟨ok, ov, hit⟩ := st
    rw [← hsz] at hit
    exact wpAny_pyNext_items_end_raw (I.ok.hd hc) hit hm (by omega) fun h' eb => ⟨rfl, I.turned (t' := s.toks) (fun b o hb q => eb b o hb q) f0 f1 f3 f4 f5⟩
  self := fun A i s Q E st h => let ⟨_, _, e⟩ := st; PySem.W.kcp_self e h
variable {e : Expr} {td : TE} {apos cpos : Pos}
def iKx (w : World) (td : TE) : TI := fun σ H R => td σ H fun x H1 => ∃ d kvs ob, x = .ref d ∧ H1 d = some (DxO w d kvs ob) ∧ R (ItKx w d kvs ob) H1
def iIx (w : World) (td : TE) : TI := fun σ H R => td σ H fun x H1 => ∃ d kvs ob, x = .ref d ∧ H1 d = some (DxO w d kvs ob) ∧ R (ItIx w d kvs ob) H1
theorem pi_kx (he : PE X e td) : PI X tg e (iKx X.w td) := by
  refine ⟨fun pins s σ H R I h => thn (he.run pins s σ H _ I h) fun u s1 hx => ?_⟩
  obtain ⟨x, H1, I1, rx, d, kvs, ob, rfl, hd, q⟩ := hx
  cases (show u = Value.ref d from rx)
  obtain ⟨es, ep, hod⟩ := dx_data I1 hd
  obtain ⟨hs, hz, hm, hsz, _⟩ := dx_raw I1 hd hod
  refine wpAny_pyIter_dict_raw hs hm (pi_one (tk := s1.toks) I1 _ (turn_kx _ hod) ⟨_, Heap.get?_push_size _ rfl, rfl, ?_⟩ q)
  rw [hsz]; rfl
theorem pi_ix {elts : List Expr} {kk : Nat} {tpos : Pos} (he : PE X e td) (hbase : attributeBase e "items" X.env (eval e X.env) = eval e X.env) (hline : (apos.endLine == cpos.line) = true) : PI X (.Tuple elts kk tpos) (.Call (.Attribute e "items" apos) [] [] cpos) (iIx X.w td) := by
  refine ⟨fun pins s σ H R I h => wpAny_Call_method (T := "dict") (id := "dict.items") hbase rfl hline PySem.F.plainAttrs_dict PySem.F.slot_dict_items PySem.F.type_dict_items (thn (he.run pins s σ H _ I h) fun u s1 hx => ?_)⟩
  obtain ⟨x, H1, I1, rx, d, kvs, ob, rfl, hd, q⟩ := hx
  cases (show u = Value.ref d from rx)
  obtain ⟨es, ep, hod⟩ := dx_data I1 hd
  obtain ⟨hs, hz, hm, hsz, _⟩ := dx_raw I1 hd hod
  obtain ⟨ht, hn⟩ := dx_is I1 hd
  refine ⟨ht, hn, ?_⟩
  have I2 : Inv X pins σ H1 { s1 with heap := s1.heap.push { cls := .type "dict_items", data := .fields #[.ref d] } } := I1.kept (t' := s1.toks) fun b o q => Heap.get?_push_of_some _ q
  have hm2 : (s1.heap.push { cls := .type "dict_items", data := .fields #[.ref d] }).DictRaw d es ep := hm.at fun o q => Heap.get?_push_of_some _ q
  have fin : wpAny (model X.prog X.w) X.A (pyIter (.ref s1.heap.objs.size)) (PIE X pins σ (.Tuple elts kk tpos) R) X.xe { s1 with heap := s1.heap.push { cls := .type "dict_items", data := .fields #[.ref d] } } := by
    refine wpAny_pyIter_items_raw (d := d) ⟨_, Heap.get?_push_size _ rfl, rfl, rfl⟩ hm2 (pi_one (tk := s1.toks) I2 _ (turn_ix _ hod) ⟨.none, .none, ?_⟩ q)
    rw [← hsz]
    exact Heap.get?_push_size _ rfl
  show wpAny _ _ (callWith cpos (.builtin "dict.items") [.ref d] [] []) _ X.xe s1
  exact method_meetsIn PySem.F.slot_dict_items PySem.F.entry_dict_items rfl (PySem.evalArgs_none ⟨rfl, ht, PySem.F.args_dict_items_1 _, _, meets_dict_items_raw d hs, ⟨es, ep, hm⟩, fin⟩)
/-- {k: v}, the key a number or a text; the new dict stands empty while both are made -/
def tDx1 (w : World) (tk tv : TE) : TE := fun σ H Q => ∀ p, H p = none → tk σ (upd H p (DxO w p [] dict0)) fun x H1 => tv σ H1 fun y H2 => H2 p = some (DxO w p [] dict0) ∧ ∃ k : Key, x = kV k ∧ ∀ ob', Q (.ref p) (upd H2 p (DxO w p [(keyN k, kV k, y)] ob'))
def one1 (P : V → V → Hp → Prop) : List (V × V) → Hp → Prop
  | [(x, y)], H => P x y H
  | _, _ => False
theorem pe_dx1 {ek ev' : Expr} {tk tv : TE} {pos : Pos} (hk : PE X ek tk) (hv : PE X ev' tv) : PE X (.Dict [some ek] [ev'] pos) (tDx1 X.w tk tv) := by
  refine ⟨fun pins s σ H Q I q => ?_⟩
  have hn := I.hok.fresh (Nat.le_refl s.heap.objs.size)
  have I1 := I.laid (a := s.heap.objs.size) (o := DxO X.w s.heap.objs.size [] dict0) (h' := s.heap.push { cls := .type "dict", data := .dict #[] }) (t' := s.toks) (fun _ _ q => Heap.get?_push_of_some _ q) (Nat.le_refl _) (DxP.empty s.heap I.big).ok
  have pp : PPs X pos [some ek] [ev'] [(tk, tv)] := pps_cons hk hv pps_nil
  have q' : tPairs [(tk, tv)] σ (upd H s.heap.objs.size (DxO X.w s.heap.objs.size [] dict0)) (one1 fun x y H2 => H2 s.heap.objs.size = some (DxO X.w s.heap.objs.size [] dict0) ∧ ∃ k : Key, x = kV k ∧ ∀ ob', Q (.ref s.heap.objs.size) (upd H2 s.heap.objs.size (DxO X.w s.heap.objs.size [(keyN k, kV k, y)] ob'))) :=
    q s.heap.objs.size hn
  refine wpAny_Dict_walk (knd := mixKind X.prog X.w) rfl rfl (by simp) (by simp) (thn (pp.run pins _ σ _ _ I1 q') fun ws s2 hx => ?_)
  obtain ⟨ps, H2, I2, rel, qq⟩ := hx
  match ps, rel, qq with
  | [], _, qq => exact qq.elim
  | _ :: _ :: _, _, qq => exact qq.elim
  | [(x, y)], rel, qq =>
  obtain ⟨e, k, rfl, q2⟩ := qq
  obtain ⟨z, _, xs, rx, dd⟩ := dxK I2 e (fun p hp => by cases hp)
  cases rx
  cases rel with
  | @cons _ b _ bs h1 h2 =>
    cases h2
    obtain ⟨u, v⟩ := b
    refine ⟨[(k, v)], ⟨kV_is h1.1, rfl, True.intro⟩, dd, fun h' dd' hs => ?_⟩
    obtain ⟨ob', p⟩ := DxP.ofK z (kvs := [(keyN k, kV k, y)]) (by show 1 ≤ sizeLine; decide) (.cons ⟨rfl, rfl, h1.2⟩ .nil) dd'
    exact ⟨.ref s.heap.objs.size, _, dx_new I2 e hs p.there p, rfl, q2 ob'⟩
end
end Gw

set_option Elab.async false
set_option linter.all false
set_option maxRecDepth 100000
set_option maxHeartbeats 1000000
/-! Gl1: the key function lambda c: (len(c), c), called by a sort. -/
namespace Gw
open PySem PySem.Spec PyProof.Rows L2
/-- the body (len(c), c) -/
def lenBody (c : Str) : Expr → Bool
  | .Tuple [.Call (.Name f _) [.Name a _] [] _, .Name b _] _ _ => decide (f = "len") && decide (a = c) && decide (b = c)
  | _ => false
def lenScope (c : Str) (sc : Scope) : Bool := decide (sc.kind = .function) && !sc.isCoroutine && !sc.isGenerator && (sc.names.all fun y => !decide (y.2 = .cell) && !decide (y.2 = .free)) && decide (sc.names.lookup c = some .local) && decide (sc.names.lookup ("len" : Str) = some .globalImplicit) && decide (c = "_law_cell")
def lenParams (c : Str) : Arguments → Bool
  | ⟨[], [⟨a, none, _⟩], none, [], [], none, []⟩ => decide (a = c)
  | _ => false
section
variable {P : Program} {w : World} {K : PySem.W.Frag} {mg : Str → Option Value} {base : Heap} {A : Around} {s : Shared}
theorem len_key {c q : Str} {params : Arguments} {body : Expr} {sc : Scope} {f c' t : Addr} {pm ctv : Value} {its : Array Value} {d : PyData} (hb : lenBody c body = true) (hs : lenScope c sc = true) (hp : lenParams c params = true) (md : Mod K mg base) (bk : ∀ b o, base.get? b = some o → s.heap.get? b = some o)
    (hm : mg "len" = none) (lim : s.heap.NoLimit) (hr : A.depth < recursionLimit) (hf : s.heap.get? f = some (PySem.W.kla_obj "<lambda>" q params body sc [] pm c' ctv))
    (hc : ∃ (oc : Obj) (vs : Array Value) (t : Tok), s.heap.get? c' = some oc ∧ oc.data = .fields vs ∧ vs[1]? = some (.str q t)) (ht : IsTup s.heap t its) (hz : its.size ≤ sizeLine) (rd : Reads s.heap (.ref t) d []) :
    wpAny (model P w) A (call (.ref f) [.ref t]) (PySem.W.KeyPure (.tuple [.int its.size, d]) s) (fun _ _ => False) s := by
  obtain ⟨oc, vs, tk, hoc, hdc, hvc⟩ := hc
  -- the text
  unfold lenBody at hb
  split at hb
  case h_2 => cases hb
  rename_i f0 p1 a p2 p3 b p4 kk pos
  simp only [Bool.and_eq_true, decide_eq_true_eq] at hb
  obtain ⟨⟨rfl, rfl⟩, rfl⟩ := hb
  unfold lenParams at hp
  split at hp
  case h_2 => cases hp
  rename_i a0 p5
  have e0 := of_decide_eq_true hp
  subst e0
  have hs : (decide (sc.kind = .function) && !sc.isCoroutine && !sc.isGenerator && (sc.names.all fun y => !decide (y.2 = .cell) && !decide (y.2 = .free)) && decide (sc.names.lookup a0 = some .local) && decide (sc.names.lookup ("len" : Str) = some .globalImplicit) && decide (a0 = "_law_cell")) = true := hs
  simp only [Bool.and_eq_true, decide_eq_true_eq, Bool.not_eq_true', List.all_eq_true, decide_eq_false_iff_not] at hs
  obtain ⟨⟨⟨⟨⟨⟨s1, s2⟩, s3⟩, s4⟩, s5⟩, s6⟩, s7⟩ := hs
  subst s7
  have s7' : (("_law_cell" : Str) == ("__debug__" : Str)) = false := by decide
  refine wpAny_call ?_
  refine PySem.W.kla_callFunE hr hf rfl s2 s3 rfl ⟨c', oc, vs, tk, rfl, hoc, hdc, hvc⟩ ?_
  have hbind : bindArgs (PySem.W.kla_fn "<lambda>" q ⟨[], [⟨"_law_cell", none, p5⟩], none, [], [], none, []⟩ (.Tuple [.Call (.Name "len" p1) [.Name "_law_cell" p2] [] p3, .Name "_law_cell" p4] kk pos) sc [] pm (.ref c') ctv) ⟨[.ref t], []⟩ = pure [(("_law_cell" : Str), Value.ref t)] := by
    rfl
  rw [hbind]
  refine wpAny_pure (wpAny_newFunctionEnv (fun y hy => (s4 y hy).1) (fun y hy => by rw [List.mem_singleton.mp hy]; exact s5) (fun h₁ hns hsb => ⟨lim.fresh _ hsb, ?_⟩) s1)
  have kp : ∀ b o, s.heap.get? b = some o → h₁.get? b = some o := fun b o e => hsb.extBut b o (Nat.ne_of_lt (Heap.lt_size e)) (Heap.get?_push_of_some _ e)
  refine PySem.W.kla_codeExpr ?_
  have var : ∀ {A' : Around} {E : Value → Shared → Prop} {p : Pos} {s' : Shared} {Q : Value → Shared → Prop}, s'.heap = h₁ → Q (.ref t) s' → wpAny (model P w) A' (eval (.Name "_law_cell" p) (PySem.W.envX q sc s.heap.objs.size f (.ref c') [])) Q E s' := by
    intro A' E p s' Q e h
    refine wpAny_Name (wpAny_loadName_local s1 (show sc.names.lookup ("_law_cell" : Str) = some .local from s5) (by rw [e]; exact hns) ?_ h) s7'
    simp
  refine wpAny_Tuple_spliced (Calls.spliced_cons ?_)
  refine wpAny_Call_Name_kw ?_
  obtain ⟨mb, g1, g2⟩ := md.blt
  refine Calls.Name_function_global s1 (show sc.names.lookup ("len" : Str) = some .globalImplicit from s6) (Calls.loadGlobal_builtin (md.glob.keeps fun b o e => kp b o (bk b o e)) hm (g1.keeps fun b o e => kp b o (bk b o e)) ((g2 "len" (by decide)).trans (show bootBuiltins "len" = some (.builtin "len") by decide +kernel)) ?_) (by decide)
  refine PyProof.Rows.callWith_builtin1 (Calls.spliced_cons (var rfl (Calls.spliced_nil ?_))) rfl rfl
  refine PyProof.Rows.len_tuple (ht.keeps kp) (by have := sizeLine_eq; omega) ?_
  refine Calls.spliced_cons (var rfl (Calls.spliced_nil ⟨by simp [sizeLine_eq], ?_⟩))
  refine ⟨_, _, rfl, fun b o e => Heap.get?_push_of_some _ (kp b o e), ?_⟩
  have r1 : Reads (h₁.push { cls := .type "tuple", data := .seq [Value.int (↑its.size) (s.toks + 1 + 1), .ref t].toArray }) (.ref t) d [] := PyProof.Rows.Reads.keeps (fun b o e => Heap.get?_push_of_some _ (kp b o e)) rd
  exact .tuple (as := []) (Heap.get?_push_size _ rfl) rfl rfl (.cons (as := []) (bs := []) (.int _ _) (.cons (as := []) (bs := []) r1 .nil))
end
end Gw

set_option Elab.async false
set_option linter.all false
set_option maxRecDepth 100000
set_option maxHeartbeats 1000000
/-! Gl4: dict(a list of pairs), the keys tuples. -/
namespace Gw
open PySem PySem.Spec PyProof.Rows L2
theorem paired_at {α β : Type} {F : α → β → Prop} : ∀ {l : List α} {m : List β}, Paired F l m → ∀ (j : Nat) (x : β), m[j]? = some x → ∃ u, l[j]? = some u ∧ F u x
  | _, _, .nil, j, x, h => by simp at h
  | _, _, .cons r t, 0, x, h => by
    rw [List.getElem?_cons_zero] at h
    cases h
    exact ⟨_, List.getElem?_cons_zero, r⟩
  | _, _, .cons r t, j + 1, x, h => by
    rw [List.getElem?_cons_succ] at h
    obtain ⟨u, h1, h2⟩ := paired_at t j x h
    exact ⟨u, by rw [List.getElem?_cons_succ]; exact h1, h2⟩
section
variable {X : Cx} {pins : List (Addr × Obj)} {σ : L2.St} {H : Hp} {s : Shared}
abbrev PairV (K : PySem.W.Frag) (H : Hp) (t : V) (p : Ent) : Prop := ∃ b, t = .ref b ∧ SqT K H b [p.2.1, p.2.2]
theorem pair_vals (I : Inv X pins σ H s) : ∀ {ts : List V} {ps : List Ent} {us : List Value}, Paired (PairV X.K H) ts ps → Vals ts us → (∀ p ∈ ps, KTup X.K H p) →
    ∃ xs, XR ps xs ∧ Paired (fun (u : Value) (x : NestedKey × Addr × Value) => ∃ b, u = .ref b ∧ s.heap.IsTuple b #[.ref x.2.1, x.2.2]) us xs
  | _, _, _, .nil, .nil, _ => ⟨[], .nil, .nil⟩
  | _, _, _, .cons (b := p) r t, .cons (b := u) v w, hk => by
    obtain ⟨xs, h1, h2⟩ := pair_vals I t w fun q hq => hk q (List.mem_cons_of_mem _ hq)
    obtain ⟨b, e, hs⟩ := r
    subst e
    cases (show u = Value.ref b from v)
    obtain ⟨c, hc⟩ := tup_ref (w := p.2.2) (hk p List.mem_cons_self)
    obtain ⟨its, q1, q2, _⟩ := I.tuple hs
    cases q1 with
    | @cons _ k' _ _ a1 a2 =>
      cases a2 with
      | @cons _ v' _ _ b1 b2 =>
        cases b2
        rw [hc] at a1
        cases (show k' = Value.ref c from a1)
        exact ⟨(p.1, c, v') :: xs, .cons ⟨rfl, hc, b1⟩ h1, .cons ⟨b, rfl, q2⟩ h2⟩
theorem dict_pairs {a : Addr} {ts : List V} {ps : List Ent} {Q : VK} (hc : X.calm = true) (hu : X.A.units + 11 < cLine) (I : Inv X pins σ H s) (hs : SqL X.K H a ts) (hp : Paired (PairV X.K H) ts ps) (hk : ∀ p ∈ ps, KTup X.K H p)
    (h : ∀ d ob, H d = none → Q (.ref d) (upd H d (DxO X.w d (mergeE [] ps) ob))) : wpAny (model X.prog X.w) X.A (call (.type "dict") [.ref a]) (EP X pins σ Q) X.xe s := by
  obtain ⟨its, r, pl, hl⟩ := I.list hs
  obtain ⟨xs, rx, rt⟩ := pair_vals I hp r hk
  have hpx : ps.length = xs.length := Paired.length rx
  have htx : its.length = xs.length := Paired.length rt
  have htl : ts.length = its.length := r.length
  let Ts : Nat → Addr := fun j => match its[j]? with
    | some (.ref b) => b
    | _ => 0
  let qs : List (Value × Value) := xs.map fun x => (.ref x.2.1, x.2.2)
  have hql : qs.length = xs.length := List.length_map _
  have hget : ∀ {j : Nat} {k v : Value}, qs[j]? = some (k, v) → ∃ x, xs[j]? = some x ∧ k = .ref x.2.1 ∧ v = x.2.2 := by
    intro j k v e
    rw [List.getElem?_map] at e
    cases hx : xs[j]? with
    | none => rw [hx] at e; cases e
    | some x =>
      rw [hx] at e
      cases e
      exact ⟨x, rfl, rfl, rfl⟩
  have ok : PlainSeq "list" s.heap a its.toArray ∧ PairItems s.heap its.toArray Ts qs := by
    refine ⟨pl, by rw [List.size_toArray, hql]; exact htx, fun j k v e => ?_⟩
    obtain ⟨x, hx, rfl, rfl⟩ := hget e
    obtain ⟨u, hu', b, rfl, ht⟩ := paired_at rt j x hx
    have hT : Ts j = b := by
      show (match its[j]? with | some (.ref b) => b | _ => 0) = b
      rw [hu']
    rw [hT]
    exact ⟨by rw [List.getElem?_toArray]; exact hu', .inl ht⟩
  have hA : X.A.handled = none := I.ok.hd hc
  have hn : s.heap.get? s.heap.objs.size = none := no_get (Nat.le_refl _)
  have hbig : (s.heap.objs.size == sysModules) = false := by
    have := I.big
    simp only [beq_eq_false_iff_ne, ne_eq]
    exact Nat.ne_of_gt this
  refine call_dict_pairsH (knd := nestedKind X.prog X.w) (ps := xs) (PairArg.list a its.toArray Ts qs) hA (show X.A.in1.in1.units + 8 < cLine by rw [Around.in1_units, Around.in1_units]; omega) ok ⟨hql.symm, fun i key v hr => ?_⟩ ?_ (by rw [hql, ← htx, ← htl]; exact hl) ?_
  · obtain ⟨x, hx, rfl, rfl⟩ := hget hr
    exact ⟨x.1, x.2.1, hx, rfl⟩
  · intro h' hk' x hx
    obtain ⟨j, hj, rfl⟩ := List.getElem_of_mem hx
    obtain ⟨p, hp', e1, e2, _⟩ := paired_at rx j xs[j] (List.getElem?_eq_getElem hj)
    have I' : Inv X pins σ H { s with heap := h', toks := s.toks } := I.kept fun b o e => hk' b o (fun z => by rw [z, hn] at e; cases e) (by simp) e
    have hkt := hk p (List.mem_of_getElem? hp')
    rw [← e1]
    exact ⟨KeyV.is I' _ _ _ hkt.2.2 (by rw [e2]; rfl), hkt.2.1⟩
  · intro h' tk hd hk'
    have hm : (mergeE [] ps).length ≤ sizeLine := by
      have := mergeE_len ps []
      rw [List.length_nil] at this
      omega
    obtain ⟨ob, p⟩ := DxP.ofH hbig hm (XR.merge rx .nil) hd
    have hH : H s.heap.objs.size = none := I.hok.gone hn
    exact ⟨.ref s.heap.objs.size, _, I.laidN (a := s.heap.objs.size) (o := DxO X.w s.heap.objs.size (mergeE [] ps) ob) (fun b o e => hk' b o (by simp) e) hn hH p.ok, rfl, h _ ob hH⟩
end
end Gw

set_option Elab.async false
set_option linter.all false
set_option maxRecDepth 100000
set_option maxHeartbeats 1000000
/-! Gl5: a number times a list. -/
namespace Gw
open PySem PySem.Spec PyProof.Rows L2
theorem rep_fold (l : List Value) (m : Nat) : List.foldl (fun a b => a ++ b) #[] (List.replicate (if l.toArray.isEmpty = true then 0 else m) l.toArray) = (List.replicate m l).flatten.toArray := by
  have f0 : ∀ j : Nat, List.foldl (fun a b => a ++ b) #[] (List.replicate j l.toArray) = (List.replicate j l).flatten.toArray := fun j => by
    have q := foldl_rep l j []
    rwa [List.nil_append] at q
  cases l with
  | nil => rw [f0]; simp
  | cons a r => rw [f0, if_neg (by simp)]
def rRepR : R2 := fun x y H Q => ∃ l k xs, x = .int k ∧ y = .ref l ∧ H l = some (.lst xs) ∧ -1000 ≤ k ∧ k ≤ 1000 ∧ xs.length ≤ 1000 ∧ ∀ p, H p = none → Q (.ref p) (upd H p (.lst (List.replicate k.toNat xs).flatten))
theorem op_repR {X : Cx} : OpR X (binaryOp .Mult) rRepR := by
  intro pins s σ H x y v u Q I rx ry h
  obtain ⟨l, k, xs, rfl, rfl, hH, h1, h2, hz, q⟩ := h
  cases ry
  obtain ⟨t, rfl⟩ := rx
  obtain ⟨z, its, n, r, hl, e⟩ := I.lstM hH
  have hb : its.toArray.size * k.toNat ≤ 1000 * 1000 := by rw [List.size_toArray, ← hl]; exact Nat.mul_le_mul hz (by omega)
  have hle : its.toArray.size * k.toNat ≤ sizeLine := Nat.le_trans hb (by rw [sizeLine_eq]; decide)
  have c1 : ¬ (its.toArray.size * k.toNat > (2 ^ 63 - 1) / 8) := by omega
  have c0 : ¬ ((!Builtin.List.listFitsIndex k) = true) := by rw [fitsIndex_both (by omega) (by omega)]; decide
  have c2 : ¬ (Builtin.List.listTooLong (its.toArray.size * k.toNat) = true) := by rw [notLongL hle]; decide
  have en : xs.length * k.toNat ≤ sizeLine := by rw [hl]; rwa [List.size_toArray] at hle
  refine lm_binaryOp_repeat_right (T := "list") (U := "int") (by decide) (fun s' => typeIs_int s' k t) ⟨_, e, rfl⟩ F.fills_int_mul noFill_list_mul F.slot_int_mul lm_noRepeat_int repeat_list F.slot_int_index.lookup ?_
  refine call_meets F.slot_int_mul (typeIs_int s k t) F.entry_int_mul (F.args_int_mul_2 _ _) (int___mul___int_list k t l its.toArray n) ⟨e, rfl, ⟨_, e, rfl⟩, ?_⟩
  refine call_meets F.slot_list_mul ⟨_, e, rfl⟩ F.entry_list_mul (F.args_list_mul_2 _ _) (AutoListH.list___mul___list_int_3 l its.toArray n k t c0 c1 c2) ⟨e, ?_⟩
  rw [rep_fold]
  exact ⟨.ref _, _, I.lnew (t' := s.toks) (r.rep k.toNat) (by rw [PyProof.Rows.lm_len_rep_flat, Nat.mul_comm]; exact en), rfl, q _ I.fresh⟩
end Gw

set_option Elab.async false
set_option linter.all false
set_option maxRecDepth 100000
/-! Gw2: how plain values lie in the heap; readings by trees. -/
namespace Gw
open PySem PySem.Spec PyProof.Rows L2

structure Glo where
  K : PySem.W.Frag
  w : World
  mg : Str → Option Value
  fld : Str → Option Str
  /-- the tables of code objects, the first things in the store -/
  T : List Addr := []
/-- which addresses may change (all of them, and those at hand by number) -/
structure Mp where
  M : List Addr
  m : List Addr
def LsM (_G : Glo) (μ : Mp) (H : Hp) (a : Addr) (vs : List V) : Prop := a ∉ μ.M ∧ H a = some (.lst vs)
def ScM (G : Glo) (μ : Mp) (H : Hp) (a : Addr) (vs : List V) : Prop :=
  (a ∉ μ.M ∧ Rd H a (.lst vs)) ∨ ∃ (o : Obj) (its : Array Value) (n : Nat), G.K.lookup a = some o ∧ o.cls = .type "list" ∧ o.dict = none ∧ o.data = .seq its n ∧ its.size ≤ sizeLine ∧ Vals vs its.toList
def TpM (G : Glo) (μ : Mp) (H : Hp) (a : Addr) (vs : List V) : Prop :=
  (a ∉ μ.M ∧ Rd H a (.tup vs)) ∨ ∃ (o : Obj) (its : Array Value) (n : Nat), G.K.lookup a = some o ∧ o.cls = .type "tuple" ∧ o.data = .seq its n ∧ its.size ≤ sizeLine ∧ Vals vs its.toList
theorem LsM.sq {G : Glo} {μ : Mp} {H : Hp} {a : Addr} {vs : List V} (h : LsM G μ H a vs) : SqL G.K H a vs := .inl (.inl h.2)
theorem ScM.sq {G : Glo} {μ : Mp} {H : Hp} {a : Addr} {vs : List V} (h : ScM G μ H a vs) : SqL G.K H a vs := h.elim (fun z => .inl z.2) .inr
theorem TpM.sq {G : Glo} {μ : Mp} {H : Hp} {a : Addr} {vs : List V} (h : TpM G μ H a vs) : SqT G.K H a vs := h.elim (fun z => .inl z.2) .inr
/-- how a dict's keys stand -/
def KRel (ks : List D) (kvs : List Ent) : Prop := ks.map kD = kvs.map (fun p => some p.1) ∧ ∃ b, ks.all (clsB b) = true
mutual
inductive Rep (G : Glo) (μ : Mp) (H : Hp) : D → V → Prop
  | non : Rep G μ H .non .non
  | bl (b : Bool) : Rep G μ H (.bl b) (.bl b)
  | int (i : Int) : Rep G μ H (.int i) (.int i)
  | str (x : Str) : Rep G μ H (.str x) (.str x)
  | ty (n : String) : Rep G μ H (.ty n) (.ty n)
  | fn {x : Str} {f : Addr} : G.mg x = some (.ref f) → Rep G μ H (.fn x) (.ref f)
  | ref {i : Nat} {a : Addr} : μ.m[i]? = some a → Rep G μ H (.ref i) (.ref a)
  | tup {a : Addr} {vs : List V} {xs : List D} : TpM G μ H a vs → Reps G μ H xs vs → Rep G μ H (.tup xs) (.ref a)
  | scr {a : Addr} {ns : List Int} : ScM G μ H a (ns.map V.int) → Rep G μ H (.scr ns) (.ref a)
  | lst {a : Addr} {vs : List V} {xs : List D} : LsM G μ H a vs → Reps G μ H xs vs → Rep G μ H (.lst xs) (.ref a)
  | emp {a : Addr} : a ∉ μ.M → Rd H a (.dK []) → Rep G μ H .emp (.ref a)
  | dct {a : Addr} {kvs : List Ent} {ob : Obj} {us ws : List V} {ks vs : List D} : a ∉ μ.M → H a = some (DxO G.w a kvs ob) → KRel ks kvs → us = kvs.map (fun p => p.2.1) → ws = kvs.map (fun p => p.2.2) → Reps G μ H ks us → Reps G μ H vs ws → Rep G μ H (.dct ks vs) (.ref a)
inductive Reps (G : Glo) (μ : Mp) (H : Hp) : List D → List V → Prop
  | nil : Reps G μ H [] []
  | cons {d : D} {v : V} {ds : List D} {vs : List V} : Rep G μ H d v → Reps G μ H ds vs → Reps G μ H (d :: ds) (v :: vs)
end
structure Gr (μ : Mp) (H : Hp) (μ' : Mp) (H' : Hp) : Prop where
  keep : ∀ a o, H a = some o → a ∉ μ.m → (∀ ps, o ≠ .tbl ps) → H' a = some o
  there : ∀ a, H' a = none → H a = none
  pre : ∃ r, μ'.m = μ.m ++ r ∧ ∀ a ∈ r, H a = none
  sub : ∀ a ∈ μ.M, a ∈ μ'.M
  new : ∀ a ∈ μ'.M, a ∈ μ.M ∨ H a = none
  ms : ∀ a ∈ μ.m, a ∈ μ.M
  tbl : ∀ a ps, H' a = some (.tbl ps) → ∃ ps', H a = some (.tbl ps')
theorem Gr.refl {μ : Mp} {H : Hp} (s : ∀ a ∈ μ.m, a ∈ μ.M) : Gr μ H μ H := ⟨fun _ _ e _ _ => e, fun _ e => e, ⟨[], by simp, by simp⟩, fun _ h => h, fun _ h => .inl h, s, fun _ ps h => ⟨ps, h⟩⟩
theorem Gr.trans {μ μ1 μ2 : Mp} {H H1 H2 : Hp} (a : Gr μ H μ1 H1) (b : Gr μ1 H1 μ2 H2) : Gr μ H μ2 H2 := by
  obtain ⟨r, e, hr⟩ := a.pre
  obtain ⟨r', e', hr'⟩ := b.pre
  refine ⟨fun x o h n k => b.keep x o (a.keep x o h n k) (fun z => ?_) k, fun x h => a.there x (b.there x h), ⟨r ++ r', by rw [e', e, List.append_assoc], fun x hx => ?_⟩, fun x h => b.sub x (a.sub x h), fun x h => ?_, a.ms, fun x ps h => let ⟨_, z⟩ := b.tbl x ps h; a.tbl x _ z⟩
  · rw [e] at z
    rcases List.mem_append.mp z with z | z
    · exact n z
    · rw [hr x z] at h; cases h
  · rcases List.mem_append.mp hx with z | z
    · exact hr x z
    · exact a.there x (hr' x z)
  · rcases b.new x h with z | z
    · exact a.new x z
    · exact .inr (a.there x z)
/-- what is not forbidden stays -/
structure GrW (μ : Mp) (H : Hp) (μ' : Mp) (H' : Hp) : Prop where
  keep : ∀ a o, H a = some o → a ∉ μ.M → (∀ ps, o ≠ .tbl ps) → H' a = some o
  pre : ∃ r, μ'.m = μ.m ++ r ∧ ∀ a ∈ r, H a = none
  sub : ∀ a ∈ μ.M, a ∈ μ'.M
  new : ∀ a ∈ μ'.M, a ∈ μ.M ∨ H a = none
  there : ∀ a, H' a = none → H a = none
  ms : ∀ a ∈ μ.m, a ∈ μ.M
theorem Gr.w {μ μ' : Mp} {H H' : Hp} (g : Gr μ H μ' H') : GrW μ H μ' H' := ⟨fun a o e n k => g.keep a o e (fun z => n (g.ms a z)) k, g.pre, g.sub, g.new, g.there, g.ms⟩
theorem GrW.trans {μ μ1 μ2 : Mp} {H H1 H2 : Hp} (a : GrW μ H μ1 H1) (b : GrW μ1 H1 μ2 H2) : GrW μ H μ2 H2 := by
  obtain ⟨r, e, hr⟩ := a.pre
  obtain ⟨r', e', hr'⟩ := b.pre
  refine ⟨fun x o h n k => b.keep x o (a.keep x o h n k) (fun z => (a.new x z).elim n fun y => by rw [h] at y; cases y) k, ⟨r ++ r', by rw [e', e, List.append_assoc], fun x hx => ?_⟩, fun x h => b.sub x (a.sub x h), fun x h => ?_, fun x h => a.there x (b.there x h), a.ms⟩
  · rcases List.mem_append.mp hx with z | z
    · exact hr x z
    · exact a.there x (hr' x z)
  · rcases b.new x h with z | z
    · exact a.new x z
    · exact .inr (a.there x z)
/-- a forbidden one changes -/
theorem GrW.upd_ {μ μ' : Mp} {H H' : Hp} {p : Addr} {o : HO} (g : GrW μ H μ' H') (hp : p ∈ μ.M) : GrW μ H μ' (upd H' p o) := by
  refine ⟨fun a u e n k => by rw [upd_ne fun z => n (by rw [z]; exact hp)]; exact g.keep a u e n k, g.pre, g.sub, g.new, fun a e => ?_, g.ms⟩
  by_cases z : a = p
  · rw [z, upd_same] at e; cases e
  · rw [upd_ne z] at e; exact g.there a e
theorem Rd.grw {μ μ' : Mp} {H H' : Hp} {a : Addr} {u : HO} (g : GrW μ H μ' H') (n : a ∉ μ.M) (h : Rd H a u) (nt : ∀ ps, u ≠ .tbl ps) : a ∉ μ'.M ∧ Rd H' a u := by
  have ht : H a ≠ none := by rcases h with h | ⟨o, h⟩ <;> rw [h] <;> simp
  refine ⟨fun z => (g.new a z).elim n ht, ?_⟩
  rcases h with h | ⟨o, h⟩
  · exact .inl (g.keep a _ h n nt)
  · exact .inr ⟨o, g.keep a _ h n fun _ z => by cases z⟩
theorem LsM.grw {G : Glo} {μ μ' : Mp} {H H' : Hp} {a : Addr} {vs : List V} (g : GrW μ H μ' H') (h : LsM G μ H a vs) : LsM G μ' H' a vs :=
  ⟨(Rd.grw g h.1 (.inl h.2) fun _ z => by cases z).1, g.keep a _ h.2 h.1 fun _ z => by cases z⟩
theorem ScM.grw {G : Glo} {μ μ' : Mp} {H H' : Hp} {a : Addr} {vs : List V} (g : GrW μ H μ' H') (h : ScM G μ H a vs) : ScM G μ' H' a vs := h.elim (fun z => .inl (Rd.grw g z.1 z.2 fun _ y => by cases y)) .inr
theorem TpM.grw {G : Glo} {μ μ' : Mp} {H H' : Hp} {a : Addr} {vs : List V} (g : GrW μ H μ' H') (h : TpM G μ H a vs) : TpM G μ' H' a vs := h.elim (fun z => .inl (Rd.grw g z.1 z.2 fun _ y => by cases y)) .inr
mutual
theorem Rep.grw {G : Glo} {μ μ' : Mp} {H H' : Hp} (g : GrW μ H μ' H') : ∀ (d : D) (v : V), Rep G μ H d v → Rep G μ' H' d v
  | .non, _, h => by cases h; exact .non
  | .bl b, _, h => by cases h; exact .bl b
  | .int i, _, h => by cases h; exact .int i
  | .str x, _, h => by cases h; exact .str x
  | .ty n, _, h => by cases h; exact .ty n
  | .fn x, _, h => by cases h with | fn e => exact .fn e
  | .ref i, _, h => by
    cases h with
    | ref e =>
      obtain ⟨r, q, _⟩ := g.pre
      refine .ref ?_
      rw [q, List.getElem?_append_left (List.getElem?_eq_some_iff.mp e).1]
      exact e
  | .tup xs, _, h => by cases h with | tup a b => exact .tup (a.grw g) (Reps.grw g xs _ b)
  | .lst xs, _, h => by cases h with | lst a b => exact .lst (a.grw g) (Reps.grw g xs _ b)
  | .scr ns, _, h => by cases h with | scr a => exact .scr (a.grw g)
  | .emp, _, h => by cases h with | emp n r => exact .emp (Rd.grw g n r fun _ y => by cases y).1 (Rd.grw g n r fun _ y => by cases y).2
  | .dct ks vs, _, h => by
    cases h with
    | dct n e k u w r1 r2 => exact .dct (Rd.grw g n (.inl e) fun _ z => by cases z).1 (g.keep _ _ e n fun _ z => by cases z) k u w (Reps.grw g ks _ r1) (Reps.grw g vs _ r2)
theorem Reps.grw {G : Glo} {μ μ' : Mp} {H H' : Hp} (g : GrW μ H μ' H') : ∀ (ds : List D) (vs : List V), Reps G μ H ds vs → Reps G μ' H' ds vs
  | [], _, h => by cases h; exact .nil
  | d :: ds, _, h => by cases h with | cons a b => exact .cons (Rep.grw g d _ a) (Reps.grw g ds _ b)
end
theorem LsM.gr {G : Glo} {μ μ' : Mp} {H H' : Hp} {a : Addr} {vs : List V} (g : Gr μ H μ' H') (h : LsM G μ H a vs) : LsM G μ' H' a vs := h.grw g.w
theorem ScM.gr {G : Glo} {μ μ' : Mp} {H H' : Hp} {a : Addr} {vs : List V} (g : Gr μ H μ' H') (h : ScM G μ H a vs) : ScM G μ' H' a vs := h.grw g.w
theorem TpM.gr {G : Glo} {μ μ' : Mp} {H H' : Hp} {a : Addr} {vs : List V} (g : Gr μ H μ' H') (h : TpM G μ H a vs) : TpM G μ' H' a vs := h.grw g.w
theorem Rep.gr {G : Glo} {μ μ' : Mp} {H H' : Hp} (g : Gr μ H μ' H') (d : D) (v : V) (h : Rep G μ H d v) : Rep G μ' H' d v := Rep.grw g.w d v h
theorem Reps.gr {G : Glo} {μ μ' : Mp} {H H' : Hp} (g : Gr μ H μ' H') (ds : List D) (vs : List V) (h : Reps G μ H ds vs) : Reps G μ' H' ds vs := Reps.grw g.w ds vs h
section
variable {G : Glo} {μ μ' : Mp} {H H' : Hp}
theorem Reps.length : ∀ {ds : List D} {vs : List V}, Reps G μ H ds vs → ds.length = vs.length
  | [], _, h => by cases h; rfl
  | d :: ds, _, h => by cases h with | cons a b => rw [List.length_cons, List.length_cons, Reps.length b]
theorem Reps.get : ∀ {ds : List D} {vs : List V} {i : Nat} {d : D}, Reps G μ H ds vs → ds[i]? = some d → ∃ v, vs[i]? = some v ∧ Rep G μ H d v
  | [], _, _, _, _, e => by simp at e
  | d :: ds, _, 0, _, h, e => by
    cases h with
    | cons a b => simp at e; subst e; exact ⟨_, rfl, a⟩
  | d :: ds, _, i + 1, _, h, e => by
    cases h with
    | cons a b =>
      obtain ⟨v, h1, h2⟩ := Reps.get (i := i) b (by simpa using e)
      exact ⟨v, by simpa using h1, h2⟩
theorem Reps.getV : ∀ {ds : List D} {vs : List V} {i : Nat} {v : V}, Reps G μ H ds vs → vs[i]? = some v → ∃ d, ds[i]? = some d ∧ Rep G μ H d v
  | [], _, _, _, h, e => by cases h; simp at e
  | d :: ds, _, 0, _, h, e => by
    cases h with
    | cons a b => simp at e; subst e; exact ⟨_, rfl, a⟩
  | d :: ds, _, i + 1, _, h, e => by
    cases h with
    | cons a b =>
      obtain ⟨v, h1, h2⟩ := Reps.getV (i := i) b (by simpa using e)
      exact ⟨v, by simpa using h1, h2⟩
theorem Reps.append : ∀ {ds ds' : List D} {vs vs' : List V}, Reps G μ H ds vs → Reps G μ H ds' vs' → Reps G μ H (ds ++ ds') (vs ++ vs')
  | [], _, _, _, h, k => by cases h; exact k
  | d :: ds, _, _, _, h, k => by cases h with | cons a b => exact .cons a (Reps.append b k)
theorem Reps.rep {ds : List D} {vs : List V} (h : Reps G μ H ds vs) : ∀ n : Nat, Reps G μ H (List.replicate n ds).flatten (List.replicate n vs).flatten
  | 0 => .nil
  | n + 1 => by
    rw [List.replicate_succ, List.replicate_succ, List.flatten_cons, List.flatten_cons]
    exact h.append (Reps.rep h n)
theorem Reps.take : ∀ {ds : List D} {vs : List V} (n : Nat), Reps G μ H ds vs → Reps G μ H (ds.take n) (vs.take n)
  | _, _, 0, _ => by simp; exact .nil
  | [], _, _, h => by cases h; simp; exact .nil
  | d :: ds, _, n + 1, h => by cases h with | cons a b => simp; exact .cons a (Reps.take n b)
theorem Reps.drop : ∀ {ds : List D} {vs : List V} (n : Nat), Reps G μ H ds vs → Reps G μ H (ds.drop n) (vs.drop n)
  | _, _, 0, h => by simpa using h
  | [], _, _, h => by cases h; simp; exact .nil
  | d :: ds, _, n + 1, h => by cases h with | cons a b => simp; exact Reps.drop n b
theorem Reps.set {d : D} {v : V} (r : Rep G μ H d v) : ∀ {ds : List D} {vs : List V} (i : Nat), Reps G μ H ds vs → Reps G μ H (ds.set i d) (vs.set i v)
  | [], _, _, h => by cases h; simp; exact .nil
  | x :: ds, _, 0, h => by cases h with | cons a b => simp; exact .cons r b
  | x :: ds, _, i + 1, h => by cases h with | cons a b => simp; exact .cons a (Reps.set r i b)
theorem Reps.isEmpty {ds : List D} {vs : List V} (h : Reps G μ H ds vs) : ds.isEmpty = vs.isEmpty := by
  have := h.length
  cases ds <;> cases vs <;> simp at * 
theorem Reps.cut {ds : List D} {vs : List V} (h : Reps G μ H ds vs) (lo hi : Option Int) : Reps G μ H (cutD ds lo hi) (cutV vs lo hi) := by
  unfold cutD cutV
  rw [h.length]
  exact (h.drop _).take _
theorem Reps.at {ds : List D} {vs : List V} {k : Int} {d : D} (h : Reps G μ H ds vs) (e : atI ds k = some d) : ∃ v, atI vs k = some v ∧ Rep G μ H d v := by
  unfold atI at e ⊢
  rw [h.length] at e
  cases q : ixN vs.length k with
  | none => rw [q] at e; cases e
  | some j =>
    rw [q] at e
    exact h.get e
mutual
theorem Rep.data : ∀ (d : D) (v : V) (p : PyData), Rep G μ H d v → d.data = some p → Dp G.K H v p
  | .non, _, _, h, e => by cases h; cases e; exact .non
  | .bl b, _, _, h, e => by cases h; cases e; exact .bl b
  | .int i, _, _, h, e => by cases h; cases e; exact .int i
  | .str x, _, _, h, e => by cases h; cases e; exact .str x
  | .ty n, _, _, h, e => by cases e
  | .fn x, _, _, h, e => by cases e
  | .ref i, _, _, h, e => by cases e
  | .scr ns, _, _, h, e => by cases e
  | .emp, _, _, h, e => by cases e
  | .dct _ _, _, _, h, e => by cases e
  | .tup xs, _, p, h, e => by
    cases h with
    | tup a b =>
      unfold D.data at e
      cases q : D.datas xs with
      | none => rw [q] at e; cases e
      | some ps => rw [q] at e; cases e; exact .tup a.sq (Reps.datas xs _ ps b q)
  | .lst xs, _, p, h, e => by
    cases h with
    | lst a b =>
      unfold D.data at e
      cases q : D.datas xs with
      | none => rw [q] at e; cases e
      | some ps => rw [q] at e; cases e; exact .lst a.sq (Reps.datas xs _ ps b q)
theorem Reps.datas : ∀ (ds : List D) (vs : List V) (ps : List PyData), Reps G μ H ds vs → D.datas ds = some ps → DpAll G.K H vs ps
  | [], _, _, h, e => by cases h; cases e; exact .nil
  | d :: ds, _, _, h, e => by
    cases h with
    | cons a b =>
      unfold D.datas at e
      cases q : d.data with
      | none => rw [q] at e; cases e
      | some p =>
        cases q2 : D.datas ds with
        | none => rw [q, q2] at e; cases e
        | some ps => rw [q, q2] at e; cases e; exact .cons (Rep.data d _ p a q) (Reps.datas ds _ ps b q2)
end
end
/-! ### the changing objects, the slots -/
def HatOk (g s c : Int) : Prop := 0 ≤ g ∧ g < 2 ^ 1400 ∧ 0 ≤ s ∧ s < 2 ^ 62
def ORep (G : Glo) (μ : Mp) (H : Hp) (a : Addr) : MO → Prop
  | .lst xs => ∃ vs, H a = some (.lst vs) ∧ Reps G μ H xs vs
  | .hat => ∃ g s c, H a = some (.lst [.int g, .int s, .int c]) ∧ HatOk g s c
  | .dct ks vs => ∃ kvs ob us ws, H a = some (DxO G.w a kvs ob) ∧ KRel ks kvs ∧ us = kvs.map (fun p => p.2.1) ∧ ws = kvs.map (fun p => p.2.2) ∧ Reps G μ H ks us ∧ Reps G μ H vs ws
  | .tab q => ∃ ps : Array Value, H a = some (.tbl ps) ∧ TriplesOk ps.toList ∧ ∀ (pos : Pos) (cv : Value), codeAmong pos ps.toList = some cv → ∃ c, cv = .ref c ∧ c ∉ μ.M ∧ H c = some (LamX.CodeO c q)
structure STR (G : Glo) (μ : Mp) (st : Sto) (H : Hp) : Prop where
  len : μ.m.length = st.length
  at_ : ∀ (i : Nat) (o : MO), st[i]? = some o → ∃ a, μ.m[i]? = some a ∧ ORep G μ H a o
  sub : ∀ a ∈ μ.m, a ∈ μ.M
  nd : μ.m.Nodup
  lt : ∀ a ∈ μ.M, a ∈ μ.m ∨ ∃ o, H a = some o ∧ ∀ ps, o ≠ .tbl ps
  tb : ∀ (r : Nat) (P : Addr), G.T[r]? = some P → μ.m[r]? = some P
  tin : ∀ a ps, H a = some (.tbl ps) → a ∈ μ.m
theorem ORep.some_ {G : Glo} {μ : Mp} {H : Hp} {a : Addr} {o : MO} (h : ORep G μ H a o) : (∃ vs, H a = some (.lst vs)) ∨ (∃ ps, H a = some (.tbl ps)) ∨ ∃ w kvs ob, H a = some (DxO w a kvs ob) := by
  cases o with
  | dct ks vs => obtain ⟨kvs, _, _, _, h, _⟩ := h; exact .inr (.inr ⟨_, _, _, h⟩)
  | lst xs => obtain ⟨vs, h, _⟩ := h; exact .inl ⟨vs, h⟩
  | hat => obtain ⟨_, _, _, h, _⟩ := h; exact .inl ⟨_, h⟩
  | tab q => obtain ⟨ps, h, _⟩ := h; exact .inr (.inl ⟨ps, h⟩)
theorem STR.mem {G : Glo} {μ : Mp} {st : Sto} {H : Hp} (s : STR G μ st H) {a : Addr} (h : a ∈ μ.m) : (∃ vs, H a = some (.lst vs)) ∨ (∃ ps, H a = some (.tbl ps)) ∨ ∃ w kvs ob, H a = some (DxO w a kvs ob) := by
  obtain ⟨i, hi, e⟩ := List.mem_iff_getElem.mp h
  have hl : i < st.length := by rw [← s.len]; exact hi
  obtain ⟨b, h1, h2⟩ := s.at_ i _ (List.getElem?_eq_getElem hl)
  rw [List.getElem?_eq_getElem hi, e] at h1
  cases h1
  exact h2.some_
theorem STR.tr {G : Glo} {μ : Mp} {st : Sto} {H : Hp} (s : STR G μ st H) : ∀ a ∈ μ.M, H a ≠ none := fun a h z => by
  rcases s.lt a h with y | ⟨o, y, _⟩
  · rcases s.mem y with ⟨_, q⟩ | ⟨_, q⟩ | ⟨_, _, _, q⟩ <;> rw [z] at q <;> cases q
  · rw [z] at y; cases y
structure SR (G : Glo) (μ : Mp) (e : Ev) (σ : L2.St) (H : Hp) : Prop where
  len : e.length = σ.length
  slot : ∀ (i : Nat) (d : D), e[i]? = some (some d) → ∃ v, σ[i]? = some (some v) ∧ Rep G μ H d v
theorem SR.gr {G : Glo} {μ μ' : Mp} {H H' : Hp} {e : Ev} {σ : L2.St} (s : SR G μ e σ H) (g : Gr μ H μ' H') : SR G μ' e σ H' :=
  ⟨s.len, fun i d h => let ⟨v, h1, h2⟩ := s.slot i d h; ⟨v, h1, h2.gr g⟩⟩
theorem SR.set {G : Glo} {μ : Mp} {H : Hp} {e : Ev} {σ : L2.St} {d : D} {v : V} (s : SR G μ e σ H) (i : Nat) (r : Rep G μ H d v) : SR G μ (e.set i (some d)) (σ.set i (some v)) H := by
  refine ⟨by simp [s.len], fun j x h => ?_⟩
  by_cases hj : i = j
  · subst hj
    have hl : i < e.length := by
      have := (List.getElem?_eq_some_iff.mp h).1
      simpa using this
    rw [List.getElem?_set_self hl] at h
    cases h
    exact ⟨v, by rw [List.getElem?_set_self (by rw [← s.len]; exact hl)], r⟩
  · rw [List.getElem?_set_ne hj] at h ⊢
    exact s.slot j x h
theorem codeO_ne_ {c : Addr} {q : Str} (ps : Array Value) : LamX.CodeO c q ≠ .tbl ps := LamX.codeO_ne ps
theorem ORep.same {G : Glo} {μ μ' : Mp} {H H' : Hp} {a : Addr} {o : MO} (h : ORep G μ H a o) (g : Gr μ H μ' H') (e : H' a = H a) : ORep G μ' H' a o := by
  cases o with
  | lst xs => obtain ⟨vs, h1, h2⟩ := h; exact ⟨vs, e.trans h1, h2.gr g⟩
  | hat => obtain ⟨x, y, z, h1, h2⟩ := h; exact ⟨x, y, z, e.trans h1, h2⟩
  | dct ks vs => obtain ⟨kvs, ob, us, ws, h1, k, hu, hw, r1, r2⟩ := h; exact ⟨kvs, ob, us, ws, e.trans h1, k, hu, hw, r1.gr g, r2.gr g⟩
  | tab q =>
    obtain ⟨ps, h1, h2, h3⟩ := h
    refine ⟨ps, e.trans h1, h2, fun pos cv hc => ?_⟩
    obtain ⟨c, k1, k2, k3⟩ := h3 pos cv hc
    refine ⟨c, k1, fun z => ?_, g.keep c _ k3 (fun z => k2 (g.ms c z)) codeO_ne_⟩
    rcases g.new c z with y | y
    · exact k2 y
    · rw [k3] at y; cases y
theorem STR.same {G : Glo} {μ : Mp} {H H' : Hp} {st : Sto} (s : STR G μ st H) (g : Gr μ H μ H') (e : ∀ a ∈ μ.m, H' a = H a) : STR G μ st H' := by
  refine ⟨s.len, fun i o h => ?_, s.sub, s.nd, fun a h => ?_, s.tb, fun a ps h => let ⟨_, z⟩ := g.tbl a ps h; s.tin a _ z⟩
  · obtain ⟨a, h1, h2⟩ := s.at_ i o h
    exact ⟨a, h1, h2.same g (e a (List.mem_of_getElem? h1))⟩
  · by_cases hm : a ∈ μ.m
    · exact .inl hm
    · obtain ⟨o, z, nt⟩ := (s.lt a h).resolve_left hm
      exact .inr ⟨o, g.keep a _ z hm nt, nt⟩
theorem tbl_upd {H : Hp} {p : Addr} {o : HO} (hn : ∀ ps, o ≠ .tbl ps) (a : Addr) (ps : Array Value) (h : upd H p o a = some (.tbl ps)) : ∃ ps', H a = some (.tbl ps') := by
  by_cases z : a = p
  · rw [z, upd_same] at h; cases h; exact absurd rfl (hn ps)
  · rw [upd_ne z] at h; exact ⟨ps, h⟩
theorem Gr.new_ {μ : Mp} {H : Hp} {p : Addr} {o : HO} (s : ∀ a ∈ μ.m, a ∈ μ.M) (h : H p = none) (hn : ∀ ps, o ≠ .tbl ps := by intro _ z; cases z) : Gr μ H μ (upd H p o) := by
  refine ⟨fun a u e _ _ => by rw [upd_ne (ne_of_none e h)]; exact e, fun a e => ?_, ⟨[], by simp, by simp⟩, fun _ h => h, fun _ h => .inl h, s, tbl_upd hn⟩
  by_cases z : a = p
  · subst z; exact h
  · rw [upd_ne z] at e; exact e
theorem STR.new_ {G : Glo} {μ : Mp} {H : Hp} {st : Sto} {p : Addr} {o : HO} (s : STR G μ st H) (h : H p = none) (hn : ∀ ps, o ≠ .tbl ps := by intro _ z; cases z) : STR G μ st (upd H p o) :=
  s.same (Gr.new_ s.sub h hn) fun a ha => upd_ne fun z => by subst z; exact s.tr _ (s.sub _ ha) h
/-- a new tuple, a new list -/
theorem Rep.tup_new {G : Glo} {μ : Mp} {H : Hp} {st : Sto} {p : Addr} {xs : List D} {vs : List V} (s : STR G μ st H) (h : H p = none) (r : Reps G μ H xs vs) : Rep G μ (upd H p (.tup vs)) (.tup xs) (.ref p) :=
  .tup (.inl ⟨fun z => s.tr _ z h, .inl upd_same⟩) (r.gr (Gr.new_ s.sub h))
theorem Rep.lst_new {G : Glo} {μ : Mp} {H : Hp} {st : Sto} {p : Addr} {xs : List D} {vs : List V} (s : STR G μ st H) (h : H p = none) (r : Reps G μ H xs vs) : Rep G μ (upd H p (.lst vs)) (.lst xs) (.ref p) :=
  .lst ⟨fun z => s.tr _ z h, upd_same⟩ (r.gr (Gr.new_ s.sub h))

/-! ### a value, or a changing list as it is now -/
inductive RV (G : Glo) (μ : Mp) (H : Hp) : D → V → Prop
  | rep {d : D} {v : V} : Rep G μ H d v → RV G μ H d v
  | lst {a : Addr} {vs : List V} {xs : List D} : H a = some (.lst vs) → Reps G μ H xs vs → RV G μ H (.lst xs) (.ref a)
  | dct {a : Addr} {kvs : List Ent} {ob : Obj} {us ws : List V} {ks vs : List D} : H a = some (DxO G.w a kvs ob) → KRel ks kvs → us = kvs.map (fun p => p.2.1) → ws = kvs.map (fun p => p.2.2) → Reps G μ H ks us → Reps G μ H vs ws → RV G μ H (.dct ks vs) (.ref a)
inductive RVs (G : Glo) (μ : Mp) (H : Hp) : List D → List V → Prop
  | nil : RVs G μ H [] []
  | cons {d : D} {v : V} {ds : List D} {vs : List V} : RV G μ H d v → RVs G μ H ds vs → RVs G μ H (d :: ds) (v :: vs)
theorem RVs.one {G : Glo} {μ : Mp} {H : Hp} {x : D} {vs : List V} (h : RVs G μ H [x] vs) : ∃ v, vs = [v] ∧ RV G μ H x v := by
  cases h with
  | cons a b => cases b; exact ⟨_, rfl, a⟩
theorem RVs.two {G : Glo} {μ : Mp} {H : Hp} {x y : D} {vs : List V} (h : RVs G μ H [x, y] vs) : ∃ v w, vs = [v, w] ∧ RV G μ H x v ∧ RV G μ H y w := by
  cases h with
  | cons a b =>
    obtain ⟨w, rfl, c⟩ := b.one
    exact ⟨_, _, rfl, a, c⟩
theorem STR.drf {G : Glo} {μ : Mp} {H : Hp} {st : Sto} {x : D} {v : V} (t : STR G μ st H) (r : Rep G μ H x v) : RV G μ H (Gw.drf st x) v := by
  cases x <;> first | exact .rep r | skip
  rename_i i
  cases r with
  | ref e =>
    show RV G μ H (match st[i]? with
      | some (.lst xs) => .lst xs
      | some (.dct ks vs) => .dct ks vs
      | _ => .ref i) _
    cases hs : st[i]? with
    | none => exact .rep (.ref e)
    | some o =>
      cases o with
      | hat => exact .rep (.ref e)
      | tab _ => exact .rep (.ref e)
      | dct ks vs =>
        obtain ⟨a, h1, kvs, ob, us, ws, h2, k, hu, hw, r1, r2⟩ := t.at_ i _ hs
        rw [e] at h1
        cases h1
        exact .dct h2 k hu hw r1 r2
      | lst xs =>
        obtain ⟨a, h1, vs, h2, h3⟩ := t.at_ i _ hs
        rw [e] at h1
        cases h1
        exact .lst h2 h3
theorem STR.drfs {G : Glo} {μ : Mp} {H : Hp} {st : Sto} (t : STR G μ st H) : ∀ {ds : List D} {vs : List V}, Reps G μ H ds vs → RVs G μ H (ds.map (Gw.drf st)) vs
  | [], _, h => by cases h; exact .nil
  | _ :: _, _, h => by cases h with | cons a b => exact .cons (t.drf a) (t.drfs b)
section
variable {G : Glo} {μ : Mp} {H : Hp} {v : V}
theorem RV.int {i : Int} (r : RV G μ H (.int i) v) : v = .int i := by cases r with | rep r => cases r; rfl
theorem RV.bl {i : Bool} (r : RV G μ H (.bl i) v) : v = .bl i := by cases r with | rep r => cases r; rfl
theorem RV.str {i : Str} (r : RV G μ H (.str i) v) : v = .str i := by cases r with | rep r => cases r; rfl
theorem RV.non (r : RV G μ H .non v) : v = .non := by cases r with | rep r => cases r; rfl
theorem RV.ty {n : String} (r : RV G μ H (.ty n) v) : v = .ty n := by cases r with | rep r => cases r; rfl
theorem RV.tup {xs : List D} (r : RV G μ H (.tup xs) v) : ∃ a vs, v = .ref a ∧ TpM G μ H a vs ∧ Reps G μ H xs vs := by cases r with | rep r => cases r with | tup a b => exact ⟨_, _, rfl, a, b⟩
theorem RV.scr {ns : List Int} (r : RV G μ H (.scr ns) v) : ∃ a, v = .ref a ∧ ScM G μ H a (ns.map V.int) := by cases r with | rep r => cases r with | scr a => exact ⟨_, rfl, a⟩
theorem RV.lstE {xs : List D} (r : RV G μ H (.lst xs) v) : ∃ a vs, v = .ref a ∧ H a = some (.lst vs) ∧ Reps G μ H xs vs := by
  cases r with
  | rep r => cases r with | lst a b => exact ⟨_, _, rfl, a.2, b⟩
  | lst a b => exact ⟨_, _, rfl, a, b⟩
theorem RV.emp (r : RV G μ H .emp v) : ∃ a, v = .ref a ∧ Rd H a (.dK []) := by cases r with | rep r => cases r with | emp a b => exact ⟨_, rfl, b⟩
theorem RV.dctE {ks vs : List D} (r : RV G μ H (.dct ks vs) v) : ∃ a kvs ob us ws, v = .ref a ∧ H a = some (DxO G.w a kvs ob) ∧ KRel ks kvs ∧ us = kvs.map (fun p => p.2.1) ∧ ws = kvs.map (fun p => p.2.2) ∧ Reps G μ H ks us ∧ Reps G μ H vs ws := by
  cases r with
  | rep r => cases r with | dct n e k u w r1 r2 => exact ⟨_, _, _, _, _, rfl, e, k, u, w, r1, r2⟩
  | dct e k u w r1 r2 => exact ⟨_, _, _, _, _, rfl, e, k, u, w, r1, r2⟩
theorem RV.data {d : D} {p : PyData} (r : RV G μ H d v) (e : d.data = some p) : Dp G.K H v p := by
  cases r with
  | rep r => exact r.data _ _ _ e
  | @lst a vs xs h q =>
    unfold D.data at e
    cases hq : D.datas xs with
    | none => rw [hq] at e; cases e
    | some ps => rw [hq] at e; cases e; exact .lst (.inl (.inl h)) (Reps.datas xs _ ps q hq)
  | dct => cases e
theorem RV.isNon {d : D} (r : RV G μ H d v) : decide (v = .non) = d.isNon := by
  cases r with
  | rep r => cases r <;> rfl
  | lst a b => rfl
  | dct => rfl
end
/-! ### keys by values -/
mutual
theorem Rep.keyV {G : Glo} {μ : Mp} {H : Hp} : ∀ (d : D) (v : V) (k : NestedKey), Rep G μ H d v → kD d = some k → KeyV G.K H k v
  | .non, _, _, h, e => by cases h; cases e; exact .non
  | .bl b, _, _, h, e => by cases h; cases e; exact .bl b
  | .int i, _, _, h, e => by cases h; cases e; exact .int i
  | .str x, _, _, h, e => by cases h; cases e; exact .text x
  | .tup xs, _, k, h, e => by
    cases h with
    | tup a b =>
      unfold kD at e
      obtain ⟨ks, e1, rfl⟩ := Option.map_eq_some_iff.mp e
      exact .tup a.sq (Reps.keyVs xs _ ks b e1)
  | .lst _, _, _, _, e | .ref _, _, _, _, e | .fn _, _, _, _, e | .ty _, _, _, _, e | .scr _, _, _, _, e | .emp, _, _, _, e | .dct _ _, _, _, _, e => by cases e
theorem Reps.keyVs {G : Glo} {μ : Mp} {H : Hp} : ∀ (ds : List D) (vs : List V) (ks : List NestedKey), Reps G μ H ds vs → kDs ds = some ks → KeyVs G.K H ks vs
  | [], _, _, h, e => by cases h; cases e; exact .nil
  | d :: ds, _, _, h, e => by
    cases h with
    | cons a b =>
      unfold kDs at e
      obtain ⟨k, e1, e2⟩ := Option.bind_eq_some_iff.mp e
      obtain ⟨ks, e3, rfl⟩ := Option.map_eq_some_iff.mp e2
      exact .cons (Rep.keyV d _ k a e1) (Reps.keyVs ds _ ks b e3)
end
theorem clsB_iff {b : Bool} {y : D} : clsB b y = true ↔ kcls y = some b := by
  unfold clsB
  cases kcls y with
  | none => simp
  | some c => simp
theorem kcls_t {y : D} (h : kcls y = some true) : ∃ xs k, y = .tup xs ∧ kD y = some k ∧ (∃ ks, k = .tup ks) ∧ k.depth ≤ 8 := by
  cases y <;> first | (cases h; done) | skip
  rename_i xs
  dsimp only [kcls] at h
  cases hk : kD (.tup xs) with
  | none => rw [hk] at h; cases h
  | some k =>
    rw [hk] at h
    by_cases hd : k.depth ≤ 8
    · refine ⟨xs, k, rfl, rfl, ?_, hd⟩
      unfold kD at hk
      obtain ⟨ks, _, rfl⟩ := Option.map_eq_some_iff.mp hk
      exact ⟨ks, rfl⟩
    · simp [hd] at h
theorem kcls_f {y : D} (h : kcls y = some false) : ∃ k : Key, kD y = some (keyN k) ∧ ∀ G μ H v, Rep G μ H y v → v = kV k := by
  cases y <;> first | (cases h; done) | skip
  · exact ⟨.inl _, rfl, fun _ _ _ _ r => by cases r; rfl⟩
  · exact ⟨.inr _, rfl, fun _ _ _ _ r => by cases r; rfl⟩
  · rename_i xs
    dsimp only [kcls] at h
    cases hk : kD (.tup xs) with
    | none => rw [hk] at h; cases h
    | some k =>
      rw [hk] at h
      by_cases hd : k.depth ≤ 8
      · simp [hd] at h
      · simp [hd] at h
/-- a key of the kind of the keys there -/
theorem fit_one {G : Glo} {μ : Mp} {H : Hp} {b : Bool} {y : D} {v w : V} {k : NestedKey} (h : kcls y = some b) (e : kD y = some k) (r : Rep G μ H y v) : if b = true then KTup G.K H (k, v, w) else KAtm (k, v, w) := by
  cases b with
  | true =>
    obtain ⟨xs, k', rfl, e', hk, hd⟩ := kcls_t h
    rw [e] at e'
    cases e'
    rw [if_pos rfl]
    exact ⟨hk, hd, Rep.keyV _ _ _ r e⟩
  | false =>
    obtain ⟨q, e', hv⟩ := kcls_f h
    rw [e] at e'
    cases e'
    rw [if_neg Bool.false_ne_true]
    exact ⟨q, rfl, hv _ _ _ _ r⟩
theorem fit_all {G : Glo} {μ : Mp} {H : Hp} {b : Bool} : ∀ {ks : List D} {kvs : List Ent}, ks.map kD = kvs.map (fun p => some p.1) → ks.all (clsB b) = true → Reps G μ H ks (kvs.map fun p => p.2.1) → ∀ p ∈ kvs, if b = true then KTup G.K H p else KAtm p
  | [], [], _, _, _ => fun p hp => by cases hp
  | [], p :: kvs, h, _, _ => by cases h
  | y :: ks, [], h, _, _ => by cases h
  | y :: ks, p :: kvs, h, hc, r => by
    rw [List.map_cons, List.map_cons] at h
    injection h with h1 h2
    rw [List.all_cons, Bool.and_eq_true] at hc
    rw [List.map_cons] at r
    cases r with
    | cons r1 r2 =>
      intro q hq
      rcases List.mem_cons.mp hq with z | z
      · rw [z]; exact fit_one (w := p.2.2) (clsB_iff.mp hc.1) h1 r1
      · exact fit_all h2 hc.2 r2 q z
theorem fitK_ok {G : Glo} {μ : Mp} {H : Hp} {ks : List D} {kvs : List Ent} {x : D} {k : NestedKey} {v : V} (hk : KRel ks kvs) (r : Reps G μ H ks (kvs.map fun p => p.2.1)) (h : fitK ks x = some k) (rx : Rep G μ H x v) : Fit1 G.K H kvs k v ∧ kD x = some k ∧ ∃ b, kcls x = some b ∧ ks.all (clsB b) = true := by
  unfold fitK at h
  cases hc : kcls x with
  | none => rw [hc] at h; cases h
  | some b =>
    rw [hc] at h
    by_cases ha : ks.all (clsB b) = true
    · have h' : kD x = some k := by simpa [ha] using h
      have q1 := fit_all hk.1 ha r
      have q2 := fit_one (w := .non) hc h' rx
      refine ⟨?_, h', b, rfl, ha⟩
      cases b with
      | true => exact .inl ⟨fun p hp => by have := q1 p hp; rwa [if_pos rfl] at this, by rwa [if_pos rfl] at q2⟩
      | false => exact .inr ⟨fun p hp => by have := q1 p hp; rwa [if_neg Bool.false_ne_true] at this, by rwa [if_neg Bool.false_ne_true] at q2⟩
    · simp only [if_neg ha] at h
      cases h
theorem kIs_eq {k : NestedKey} {y : D} {n : NestedKey} (h : kD y = some n) : kIs k y = decide (n = k) := by
  unfold kIs
  rw [h]
  exact (NestedKey.decide_eq n k).symm
theorem getK_ok {G : Glo} {μ : Mp} {H : Hp} {k : NestedKey} : ∀ {ks vs : List D} {kvs : List Ent}, ks.map kD = kvs.map (fun p => some p.1) → Reps G μ H vs (kvs.map fun p => p.2.2) →
    match getK ks vs k with
    | some d => ∃ v, valE kvs k = some v ∧ Rep G μ H d v
    | none => valE kvs k = none
  | [], vs, [], _, _ => by cases vs <;> exact rfl
  | [], _, p :: kvs, h, _ => by cases h
  | y :: ks, _, [], h, _ => by cases h
  | y :: ks, [], p :: kvs, _, r => by cases r
  | y :: ks, d :: vs, p :: kvs, h, r => by
    rw [List.map_cons, List.map_cons] at h
    injection h with h1 h2
    rw [List.map_cons] at r
    cases r with
    | cons r1 r2 =>
      unfold getK
      rw [kIs_eq h1]
      by_cases e : p.1 = k
      · rw [if_pos (decide_eq_true e), valE_yes e]
        exact ⟨_, rfl, r1⟩
      · rw [if_neg (by simp [e]), valE_no e]
        exact getK_ok h2 r2
theorem getK_some {G : Glo} {μ : Mp} {H : Hp} {k : NestedKey} {ks vs : List D} {kvs : List Ent} (h : ks.map kD = kvs.map (fun p => some p.1)) (r : Reps G μ H vs (kvs.map fun p => p.2.2)) : (getK ks vs k).isSome = (valE kvs k).isSome := by
  have := getK_ok (k := k) h r
  cases e : getK ks vs k with
  | none => rw [e] at this; rw [show valE kvs k = none from this]; rfl
  | some d => rw [e] at this; obtain ⟨v, q, _⟩ := this; rw [q]; rfl
theorem setK_ok {G : Glo} {μ : Mp} {H : Hp} {k : NestedKey} {x : D} {u : V} (rx : Rep G μ H x u) : ∀ {ks vs : List D} {kvs : List Ent}, ks.map kD = kvs.map (fun p => some p.1) → Reps G μ H vs (kvs.map fun p => p.2.2) →
    Reps G μ H (setK ks vs k x) ((kvs.map (setE k u)).map fun p => p.2.2)
  | [], vs, [], _, r => by cases r; exact .nil
  | [], _, p :: kvs, h, _ => by cases h
  | y :: ks, _, [], h, _ => by cases h
  | y :: ks, [], p :: kvs, _, r => by cases r
  | y :: ks, d :: vs, p :: kvs, h, r => by
    rw [List.map_cons, List.map_cons] at h
    injection h with h1 h2
    rw [List.map_cons] at r
    cases r with
    | cons r1 r2 =>
      rw [List.map_cons, List.map_cons]
      unfold setK
      rw [kIs_eq h1]
      unfold setE
      by_cases e : p.1 = k
      · rw [if_pos (decide_eq_true e), if_pos e]
        exact .cons rx (setK_ok rx h2 r2)
      · rw [if_neg (by simp [e]), if_neg e]
        exact .cons r1 (setK_ok rx h2 r2)
theorem setE_fst (kvs : List Ent) (k : NestedKey) (v : V) : (kvs.map (setE k v)).map (fun p => p.2.1) = kvs.map fun p => p.2.1 := by
  rw [List.map_map]
  refine List.map_congr_left fun p _ => ?_
  show (setE k v p).2.1 = p.2.1
  unfold setE
  split <;> rfl
theorem setE_fst' (kvs : List Ent) (k : NestedKey) (v : V) : (kvs.map (setE k v)).map (fun p => some p.1) = kvs.map fun p => some p.1 := by
  rw [List.map_map]
  refine List.map_congr_left fun p _ => ?_
  show some (setE k v p).1 = some p.1
  unfold setE
  split <;> rfl
/-- one more entry -/
theorem putK_ok {G : Glo} {μ : Mp} {H : Hp} {ks vs : List D} {kvs : List Ent} {x y : D} {k : NestedKey} {u v : V} (hk : KRel ks kvs) (r1 : Reps G μ H ks (kvs.map fun p => p.2.1)) (r2 : Reps G μ H vs (kvs.map fun p => p.2.2)) (h : fitK ks x = some k) (rx : Rep G μ H x u) (ry : Rep G μ H y v) :
    KRel (putK2 ks vs x k y).1 (putE kvs k u v) ∧ Reps G μ H (putK2 ks vs x k y).1 ((putE kvs k u v).map fun p => p.2.1) ∧ Reps G μ H (putK2 ks vs x k y).2 ((putE kvs k u v).map fun p => p.2.2) := by
  obtain ⟨_, hx, b, hb, ha⟩ := fitK_ok hk r1 h rx
  unfold putK2 putE
  rw [getK_some (k := k) hk.1 r2]
  by_cases e : (valE kvs k).isSome = true
  · rw [if_pos e, if_pos e]
    exact ⟨⟨by rw [setE_fst']; exact hk.1, hk.2⟩, by rw [setE_fst]; exact r1, setK_ok ry hk.1 r2⟩
  · rw [if_neg e, if_neg e]
    refine ⟨⟨by rw [List.map_append, List.map_append, hk.1]; simp [hx], b, by rw [List.all_append, ha]; simp [clsB_iff.mpr hb]⟩, ?_, ?_⟩
    · rw [List.map_append]; exact r1.append (.cons rx .nil)
    · rw [List.map_append]; exact r2.append (.cons ry .nil)

/-! ### readings by trees -/
def RepX (G : Glo) (μ : Mp) (H : Hp) (x : Str) (d : D) (cls : Value) (dd : Option Addr) : Prop :=
  ∃ C, G.mg x = some (.ref C) ∧ cls = .ref C ∧ match G.fld x with
    | none => dd = none
    | some f => ∃ dx v, dd = some dx ∧ H dx = some (.xd [(f, v)]) ∧ Rep G μ H d v
def KE {α β : Type} (G : Glo) (R : Mp → Hp → α → β → Prop) (μ : Mp) (H : Hp) (Q : β → Hp → Prop) : α → Sto → Prop :=
  fun d st' => ∀ μ' H' x, Gr μ H μ' H' → STR G μ' st' H' → R μ' H' d x → Q x H'
def KX (G : Glo) (W : WX) (σ : L2.St) (μ : Mp) (H : Hp) : Str → D → Sto → Prop :=
  fun e d st' => ∀ μ' H' cls dd, Gr μ H μ' H' → STR G μ' st' H' → RepX G μ' H' e d cls dd → W cls dd σ H'
/-- the reading of a tree of α, told as β -/
def tG {α β : Type} (G : Glo) (R : Mp → Hp → α → β → Prop) (W : WX) (den : Ev → M α) : L2.St → Hp → (β → Hp → Prop) → Prop :=
  fun σ H Q => ∃ μ e st, SR G μ e σ H ∧ STR G μ st H ∧ (den e st).All (KE G R μ H Q) (KX G W σ μ H)
abbrev tE (G : Glo) (W : WX) (den : Ev → M D) : TE := tG G (Rep G) W den
abbrev tL (G : Glo) (W : WX) (den : Ev → M (List D)) : TA := tG G (Reps G) W den
abbrev tB (G : Glo) (W : WX) (den : Ev → M Bool) : TT := tG G (fun _ _ a b => a = b) W den
theorem KE.gr {α β : Type} {G : Glo} {R : Mp → Hp → α → β → Prop} {μ μ1 : Mp} {H H1 : Hp} {Q : β → Hp → Prop} {a : α} {st : Sto} (g : Gr μ H μ1 H1) (h : KE G R μ H Q a st) : KE G R μ1 H1 Q a st :=
  fun μ' H' x g' s r => h μ' H' x (g.trans g') s r
theorem KX.gr {G : Glo} {W : WX} {σ : L2.St} {μ μ1 : Mp} {H H1 : Hp} {x : Str} {d : D} {st : Sto} (g : Gr μ H μ1 H1) (h : KX G W σ μ H x d st) : KX G W σ μ1 H1 x d st :=
  fun μ' H' c dd g' s r => h μ' H' c dd (g.trans g') s r
/-- one part, then the rest -/
theorem tG_then {α β γ δ : Type} {G : Glo} {R : Mp → Hp → α → β → Prop} {R' : Mp → Hp → γ → δ → Prop} {W : WX} {da : Ev → M α} {f : α → Sto → Tr γ} {μ : Mp} {e : Ev} {st : Sto} {σ : L2.St} {H : Hp} {Q : δ → Hp → Prop} {P : β → Hp → Prop}
    (s : SR G μ e σ H) (t : STR G μ st H) (h : ((da e st).bind f).All (KE G R' μ H Q) (KX G W σ μ H))
    (k : ∀ μ1 H1 d st1 x, Gr μ H μ1 H1 → SR G μ1 e σ H1 → STR G μ1 st1 H1 → R μ1 H1 d x → (f d st1).All (KE G R' μ1 H1 Q) (KX G W σ μ1 H1) → P x H1) : tG G R W da σ H P := by
  refine ⟨μ, e, st, s, t, Tr.All_mono (fun d st1 hq μ1 H1 x g t1 r => ?_) (fun _ _ _ z => z) _ ((Tr.All_bind _).mp h)⟩
  exact k μ1 H1 d st1 x g (s.gr g) t1 r (Tr.All_mono (fun _ _ z => KE.gr g z) (fun _ _ _ z => KX.gr g z) _ hq)
theorem KE.here {α β : Type} {G : Glo} {R : Mp → Hp → α → β → Prop} {μ : Mp} {H : Hp} {Q : β → Hp → Prop} {a : α} {st : Sto} {x : β} (h : KE G R μ H Q a st) (t : STR G μ st H) (r : R μ H a x) : Q x H :=
  h μ H x (Gr.refl t.sub) t r
theorem optM_some {α : Type} {o : Option α} {st : Sto} {P : α → Sto → Prop} {E : Str → D → Sto → Prop} (h : (optM o st).All P E) : ∃ a, o = some a ∧ P a st := by
  cases o with
  | none => exact h.elim
  | some a => exact ⟨a, rfl, h⟩
theorem PE.conv {X : Cx} {e : Expr} {t t' : TE} (h : PE X e t) (k : ∀ σ H Q, t' σ H Q → t σ H Q) : PE X e t' := ⟨fun pins s σ H Q I q => h.run pins s σ H Q I (k σ H Q q)⟩
theorem PT.conv {X : Cx} {e : Expr} {t t' : TT} (h : PT X e t) (k : ∀ σ H Q, t' σ H Q → t σ H Q) : PT X e t' := ⟨fun pins s σ H Q I q => h.run pins s σ H Q I (k σ H Q q)⟩
theorem PA.conv {X : Cx} {e : List Expr} {t t' : TA} (h : PA X e t) (k : ∀ σ H Q, t' σ H Q → t σ H Q) : PA X e t' := ⟨fun pos pins s σ H Q I q => h.run pos pins s σ H Q I (k σ H Q q)⟩
theorem PS.conv {X : Cx} {e : Stmt} {t t' : TS} (h : PS X e t) (k : ∀ D σ H, t' D σ H → t D σ H) : PS X e t' := ⟨fun pins s σ H D I q => h.run pins s σ H D I (k D σ H q)⟩
theorem PSs.conv {X : Cx} {e : List Stmt} {t t' : TS} (h : PSs X e t) (k : ∀ D σ H, t' D σ H → t D σ H) : PSs X e t' := ⟨fun pins s σ H D I q => h.run pins s σ H D I (k D σ H q)⟩
theorem puts_ok {G : Glo} {μ : Mp} {H : Hp} : ∀ {ls ws ks vs : List D} {kvs more : List Ent} {p : List D × List D}, KRel ks kvs → Reps G μ H ks (kvs.map fun p => p.2.1) → Reps G μ H vs (kvs.map fun p => p.2.2) → ls.map kD = more.map (fun p => some p.1) →
    Reps G μ H ls (more.map fun p => p.2.1) → Reps G μ H ws (more.map fun p => p.2.2) → putsK ks vs ls ws = some p → KRel p.1 (mergeE kvs more) ∧ Reps G μ H p.1 ((mergeE kvs more).map fun p => p.2.1) ∧ Reps G μ H p.2 ((mergeE kvs more).map fun p => p.2.2)
  | [], ws, ks, vs, kvs, [], p, hk, r1, r2, _, _, _, h => by
    have h' : some (ks, vs) = some p := by cases ws <;> exact h
    cases h'
    exact ⟨hk, r1, r2⟩
  | [], _, _, _, _, _ :: _, _, _, _, _, e, _, _, _ => by cases e
  | _ :: _, _, _, _, _, [], _, _, _, _, e, _, _, _ => by cases e
  | x :: ls, ws, ks, vs, kvs, q :: more, p, hk, r1, r2, e, rl, rw, h => by
    rw [List.map_cons, List.map_cons] at e
    injection e with e1 e2
    rw [List.map_cons] at rl rw
    cases rw with
    | @cons y _ ws _ rw1 rw2 =>
      cases rl with
      | cons rl1 rl2 =>
        obtain ⟨n, hn, h2⟩ := Option.bind_eq_some_iff.mp (show ((fitK ks x).bind fun n => putsK (putK2 ks vs x n y).1 (putK2 ks vs x n y).2 ls ws) = some p from h)
        obtain ⟨_, hx, _⟩ := fitK_ok hk r1 hn rl1
        rw [e1] at hx
        cases hx
        obtain ⟨p1, p2, p3⟩ := putK_ok hk r1 r2 hn rl1 rw1
        have z := puts_ok (more := more) p1 p2 p3 e2 rl2 rw2 h2
        exact z
end Gw

set_option Elab.async false
set_option linter.all false
set_option maxRecDepth 100000
set_option maxHeartbeats 1000000
/-! Gw3: operators and built-ins by values. -/
namespace Gw
open PySem PySem.Spec PyProof.Rows L2
set_option maxHeartbeats 4000000 in
theorem tuple_mul_same (l : Addr) (items : Array Value) (n : Nat) (dd : Option Addr) (sl : Array (Option Value)) (x : Int) (u : Tok) (c0 : (decide (x < -(2 ^ 63)) || decide (x ≥ 2 ^ 63)) = false) (c1 : (items.isEmpty || x == 1) = true) :
    Meets (Builtin.«tuple.__mul__» ⟨[.ref l, .int x u], []⟩) (fun _ R s => s.heap.get? l = some { cls := .type "tuple", dict := dd, data := .seq items n, slots := sl } ∧ R (.ok (.ret (Value.ref l))) s) :=
  .of_wp fun prog w A R s h => by
    obtain ⟨hp, g, d, tk, os⟩ := s
    obtain ⟨hl, h⟩ := h
    have f1 := AutoSeq1.idx_int
    wp_walk using wpAny_loadPart' hl
    repeat (first
      | (refine wpAny_ite_false (decide_eq_false (by rw [c0]; exact Bool.false_ne_true)) ?_; wp_walk using wpAny_loadPart' hl)
      | (refine wpAny_ite_true (decide_eq_true c1) ?_; wp_walk using wpAny_loadPart' hl))
    exact ⟨_, rfl, h⟩
theorem tuple_mul_none (l : Addr) (items : Array Value) (n : Nat) (dd : Option Addr) (sl : Array (Option Value)) (x : Int) (u : Tok) (c0 : (decide (x < -(2 ^ 63)) || decide (x ≥ 2 ^ 63)) = false) (c1 : (items.isEmpty || x == 1) = false) (c2 : (decide (x ≤ 0) || items.isEmpty) = true) :
    Meets (Builtin.«tuple.__mul__» ⟨[.ref l, .int x u], []⟩) (fun _ R s => s.heap.get? l = some { cls := .type "tuple", dict := dd, data := .seq items n, slots := sl } ∧ R (.ok (.ret (Value.ref s.heap.objs.size))) { s with heap := s.heap.push { cls := Value.type "tuple", data := Data.seq #[] }, toks := s.toks }) :=
  .of_wp fun prog w A R s h => by
    obtain ⟨hp, g, d, tk, os⟩ := s
    obtain ⟨hl, h⟩ := h
    have f1 := AutoSeq1.idx_int
    wp_walk using wpAny_loadPart' hl
    repeat (first
      | (refine wpAny_ite_false (decide_eq_false (by rw [c0]; exact Bool.false_ne_true)) ?_; wp_walk using wpAny_loadPart' hl)
      | (refine wpAny_ite_false (decide_eq_false (by rw [c1]; exact Bool.false_ne_true)) ?_; wp_walk using wpAny_loadPart' hl)
      | (refine wpAny_ite_true (decide_eq_true c2) ?_; wp_walk using wpAny_loadPart' hl))
    exact ⟨_, rfl, h⟩
def rRepS (K : PySem.W.Frag) : R2 := fun x y H Q => ∃ l k xs, x = .ref l ∧ y = .int k ∧ SqT K H l xs ∧ (xs = [] ∨ k = 1) ∧ -1000 ≤ k ∧ k ≤ 1000 ∧ Q (.ref l) H
def rRep0 (K : PySem.W.Frag) : R2 := fun x y H Q => ∃ l k xs, x = .ref l ∧ y = .int k ∧ SqT K H l xs ∧ xs ≠ [] ∧ -1000 ≤ k ∧ k ≤ 0 ∧ ∀ p, H p = none → Q (.ref p) (upd H p (.tup []))
theorem op_repS {X : Cx} : OpR X (binaryOp .Mult) (rRepS X.K) := by
  intro pins s σ H x y v u Q I rx ry h
  obtain ⟨l, k, xs, rfl, rfl, hT, hne, h1, h2, q⟩ := h
  cases rx
  obtain ⟨t, rfl⟩ := ry
  obtain ⟨its, r, ⟨⟨cls, dd, data, sl⟩, ho, hc, n, hd⟩, hs⟩ := I.tuple hT
  simp only at hc hd
  subst hc hd
  have hle : its.length = xs.length := r.length.symm
  have c0 : (decide (k < -(2 ^ 63)) || decide (k ≥ 2 ^ 63)) = false := by
    rw [decide_eq_false (by omega), decide_eq_false (by omega)] <;> rfl
  have c1 : (its.toArray.isEmpty || k == 1) = true := by
    rcases hne with rfl | rfl
    · have : its = [] := List.eq_nil_of_length_eq_zero hle
      rw [this]; rfl
    · rw [show ((1 : Int) == 1) = true from rfl, Bool.or_true]
  exact wpAny_binaryOp_repeat_ref (T := "tuple") (U := "int") (by decide) ⟨_, ho, rfl⟩ (fun s' => typeIs_int s' k t) noFill_tuple_mul F.fills_int_mul F.slot_int_rmul repeat_tuple F.slot_int_index.lookup
    (call_meets F.slot_int_rmul (typeIs_int s k t) F.entry_int_rmul (F.args_int_rmul_2 _ _) (int_rmul_tuple k t l its.toArray n dd sl)
      ⟨ho, rfl, ⟨_, ho, rfl⟩, call_meets F.slot_tuple_mul ⟨_, ho, rfl⟩ F.entry_tuple_mul (F.args_tuple_mul_2 _ _) (tuple_mul_same l its.toArray n dd sl k t c0 c1) ⟨ho, ⟨.ref l, H, I, rfl, q⟩⟩⟩)
theorem op_rep0 {X : Cx} : OpR X (binaryOp .Mult) (rRep0 X.K) := by
  intro pins s σ H x y v u Q I rx ry h
  obtain ⟨l, k, xs, rfl, rfl, hT, hne, h1, h2, q⟩ := h
  cases rx
  obtain ⟨t, rfl⟩ := ry
  obtain ⟨its, r, ⟨⟨cls, dd, data, sl⟩, ho, hc, n, hd⟩, hs⟩ := I.tuple hT
  simp only at hc hd
  subst hc hd
  have hle : its.length = xs.length := r.length.symm
  have hn : its ≠ [] := fun e => hne (by
    rw [e] at hle
    exact List.eq_nil_of_length_eq_zero hle.symm)
  have hi : its.toArray.isEmpty = false := by
    cases its with
    | nil => exact absurd rfl hn
    | cons a b => rfl
  have c0 : (decide (k < -(2 ^ 63)) || decide (k ≥ 2 ^ 63)) = false := by
    rw [decide_eq_false (by omega), decide_eq_false (by omega)] <;> rfl
  have c1 : (its.toArray.isEmpty || k == 1) = false := by
    rw [hi, Bool.false_or]
    exact beq_eq_false_iff_ne.mpr (by omega)
  have c2 : (decide (k ≤ 0) || its.toArray.isEmpty) = true := by rw [decide_eq_true h2]; rfl
  refine wpAny_binaryOp_repeat_ref (T := "tuple") (U := "int") (by decide) ⟨_, ho, rfl⟩ (fun s' => typeIs_int s' k t) noFill_tuple_mul F.fills_int_mul F.slot_int_rmul repeat_tuple F.slot_int_index.lookup
    (call_meets F.slot_int_rmul (typeIs_int s k t) F.entry_int_rmul (F.args_int_rmul_2 _ _) (int_rmul_tuple k t l its.toArray n dd sl)
      ⟨ho, rfl, ⟨_, ho, rfl⟩, call_meets F.slot_tuple_mul ⟨_, ho, rfl⟩ F.entry_tuple_mul (F.args_tuple_mul_2 _ _) (tuple_mul_none l its.toArray n dd sl k t c0 c1 c2) ⟨ho, ?_⟩⟩)
  refine ⟨.ref s.heap.objs.size, _, I.laid (t' := s.toks) (o := .tup []) (fun b ob q => Heap.get?_push_of_some _ q) (Nat.le_refl _) ?_, rfl, q _ (I.hok.fresh (Nat.le_refl _))⟩
  exact ⟨Nat.zero_le _, [], .nil, IsTup.new _ _⟩
section
variable {G : Glo} {X : Cx} {W : WX}
/-- what an operator over plain values asks -/
def rD (G : Glo) (f : D → D → Option D) : R2 := fun v w H Q => ∃ μ st x y z, STR G μ st H ∧ RV G μ H x v ∧ RV G μ H y w ∧ f x y = some z ∧ KE G (Rep G) μ H Q z st
theorem KE.tup {μ : Mp} {H : Hp} {Q : VK} {st : Sto} {xs : List D} {vs : List V} {p : Addr} (k : KE G (Rep G) μ H Q (.tup xs) st) (t : STR G μ st H) (r : Reps G μ H xs vs) (h : H p = none) : Q (.ref p) (upd H p (.tup vs)) :=
  k μ _ _ (Gr.new_ t.sub h) (t.new_ h) (Rep.tup_new t h r)
theorem KE.lst {μ : Mp} {H : Hp} {Q : VK} {st : Sto} {xs : List D} {vs : List V} {p : Addr} (k : KE G (Rep G) μ H Q (.lst xs) st) (t : STR G μ st H) (r : Reps G μ H xs vs) (h : H p = none) : Q (.ref p) (upd H p (.lst vs)) :=
  k μ _ _ (Gr.new_ t.sub h) (t.new_ h) (Rep.lst_new t h r)
theorem if_some {α : Type} {c : Prop} [Decidable c] {a z : α} (h : (if c then some a else none) = some z) : c ∧ a = z := by
  split at h
  · rename_i hc; exact ⟨hc, Option.some.inj h⟩
  · cases h
theorem okMul_ok {i j : Int} (h : okMul i j = true) : IntMulOk i j := by
  unfold okMul at h
  simp only [Bool.or_eq_true, decide_eq_true_eq] at h
  rcases h with (h | h) | h
  · exact CMul.ok (.inl (by omega))
  · exact CMul.ok (.inr (by omega))
  · exact CMulW.ok h
theorem op_mulO : OpR X (binaryOp .Mult) (rI (fun i j => okMul i j = true) fun i j => .int (i * j)) := opI fun i j _ _ _ _ _ hc q => by
  exact mul_int q (okMul_ok hc)
theorem op_fdivO : OpR X (binaryOp .FloorDiv) (rI (fun _ j => okDiv j = true) fun i j => .int (i.fdiv j)) := opI fun _ j _ _ _ _ _ hc q => by
  obtain ⟨h1, h2⟩ := Bool.and_eq_true_iff.mp (show (decide (j ≠ 0) && decide (j.natAbs.log2 < 9000)) = true from hc)
  exact floordiv_int (of_decide_eq_true h1) q (.inl (PyProof.noPylong_of_log2 (of_decide_eq_true h2)))
theorem op_powO : OpR X (binaryOp .Pow) (rI (fun i j => okPow i j = true) fun i j => .int (i ^ j.toNat)) := opI fun i j _ _ _ _ _ hc q => by
  obtain ⟨h1, h2⟩ := Bool.and_eq_true_iff.mp (show (decide (0 ≤ j) && decide ((Builtin.Int.intBits i : Int) * j ≤ 2 ^ 27)) = true from hc)
  exact pow_int (of_decide_eq_true h1) (of_decide_eq_true h2) q
theorem flat_nil {α : Type} (n : Nat) : (List.replicate n ([] : List α)).flatten = [] := by
  induction n with
  | zero => rfl
  | succ n ih => rw [List.replicate_succ, List.flatten_cons, ih]; rfl
theorem bin_ok (hK : G.K = X.K) : ∀ (o : Operator), OpR X (binaryOp o) (rD G (binD o)) := by
  intro o pins s σ H v w u1 u2 Q I q1 q2 ⟨μ, st, x, y, z, t, rx, ry, e, k⟩
  cases o with
  | Add =>
    cases x <;> cases y <;> first | (cases e; done) | skip
    · cases e; cases rx.int; cases ry.int
      exact op_add pins s σ H _ _ u1 u2 Q I q1 q2 ⟨_, _, rfl, rfl, k.here t (.int _)⟩
    · obtain ⟨hc, rfl⟩ := if_some e
      cases rx.str; cases ry.str
      exact op_add_str pins s σ H _ _ u1 u2 Q I q1 q2 ⟨_, _, rfl, rfl, of_decide_eq_true hc, k.here t (.str _)⟩
    · obtain ⟨hc, rfl⟩ := if_some e
      obtain ⟨a, vs, rfl, a1, r1⟩ := rx.tup
      obtain ⟨b, ws, rfl, a2, r2⟩ := ry.tup
      refine op_catA pins s σ H _ _ u1 u2 Q I q1 q2 ⟨a, b, vs, ws, rfl, rfl, hK ▸ a1.sq, hK ▸ a2.sq, by rw [← r1.length, ← r2.length]; exact of_decide_eq_true hc, fun z => ?_, fun _ z => ?_, fun _ _ p hp => k.tup t (r1.append r2) hp⟩
      · subst z
        cases r1
        exact k.here t (.tup a2 r2)
      · subst z
        cases r2
        rw [List.append_nil] at k
        exact k.here t (.tup a1 r1)
    · obtain ⟨hc, rfl⟩ := if_some e
      obtain ⟨a, vs, rfl, a1, r1⟩ := rx.lstE
      obtain ⟨b, ws, rfl, a2, r2⟩ := ry.lstE
      exact op_cat pins s σ H _ _ u1 u2 Q I q1 q2 ⟨a, b, vs, ws, rfl, rfl, a1, a2, by rw [← r1.length, ← r2.length]; exact of_decide_eq_true hc, fun p hp => k.lst t (r1.append r2) hp⟩
  | Sub =>
    cases x <;> cases y <;> first | (cases e; done) | skip
    cases e; cases rx.int; cases ry.int
    exact op_sub pins s σ H _ _ u1 u2 Q I q1 q2 ⟨_, _, rfl, rfl, k.here t (.int _)⟩
  | Mult =>
    cases x <;> cases y <;> first | (cases e; done) | skip
    · obtain ⟨hc, rfl⟩ := if_some e
      cases rx.int; cases ry.int
      exact op_mulO pins s σ H _ _ u1 u2 Q I q1 q2 ⟨_, _, rfl, rfl, hc, k.here t (.int _)⟩
    · obtain ⟨hc, rfl⟩ := if_some e
      simp only [Bool.and_eq_true, decide_eq_true_eq] at hc
      cases rx.int
      rename_i n xs
      obtain ⟨a, vs, rfl, a1, r1⟩ := ry.lstE
      exact op_repR pins s σ H _ _ u1 u2 Q I q1 q2 ⟨a, n, vs, rfl, rfl, a1, hc.1, hc.2.1, by rw [← r1.length]; exact hc.2.2, fun p hp => k.lst t (r1.rep _) hp⟩
    · obtain ⟨hc, rfl⟩ := if_some e
      simp only [Bool.and_eq_true, decide_eq_true_eq] at hc
      cases ry.int
      rename_i xs n
      obtain ⟨a, vs, rfl, a1, r1⟩ := rx.tup
      by_cases c : vs = [] ∨ n = 1
      · refine op_repS pins s σ H _ _ u1 u2 Q I q1 q2 ⟨a, n, vs, rfl, rfl, hK ▸ a1.sq, c, hc.1, hc.2.1, ?_⟩
        have e2 : (List.replicate n.toNat xs).flatten = xs := by
          rcases c with c | c
          · subst c
            cases r1
            exact flat_nil _
          · subst c
            show (List.replicate 1 xs).flatten = xs
            simp
        rw [e2] at k
        exact k.here t (.tup a1 r1)
      · by_cases c2 : n ≤ 0
        · refine op_rep0 pins s σ H _ _ u1 u2 Q I q1 q2 ⟨a, n, vs, rfl, rfl, hK ▸ a1.sq, fun z => c (.inl z), hc.1, c2, fun p hp => ?_⟩
          have e2 : (List.replicate n.toNat xs).flatten = [] := by rw [show n.toNat = 0 by omega]; rfl
          rw [e2] at k
          exact k.tup t .nil hp
        · exact op_repT pins s σ H _ _ u1 u2 Q I q1 q2 ⟨a, n, vs, rfl, rfl, hK ▸ a1.sq, fun z => c (.inl z), by omega, hc.2.1, by rw [← r1.length]; exact hc.2.2, fun p hp => k.tup t (r1.rep _) hp⟩
    · obtain ⟨hc, rfl⟩ := if_some e
      simp only [Bool.and_eq_true, decide_eq_true_eq] at hc
      cases ry.int
      rename_i xs n
      obtain ⟨a, vs, rfl, a1, r1⟩ := rx.lstE
      have hb : vs.length * n.toNat ≤ 1000 * 1000 := Nat.mul_le_mul (by rw [← r1.length]; exact hc.2.2) (by omega)
      exact op_rep pins s σ H _ _ u1 u2 Q I q1 q2 ⟨a, n, vs, rfl, rfl, a1, by omega, by omega, Nat.le_trans hb (by rw [sizeLine_eq]; decide), fun p hp => k.lst t (r1.rep _) hp⟩
  | FloorDiv =>
    cases x <;> cases y <;> first | (cases e; done) | skip
    obtain ⟨hc, rfl⟩ := if_some e
    cases rx.int; cases ry.int
    exact op_fdivO pins s σ H _ _ u1 u2 Q I q1 q2 ⟨_, _, rfl, rfl, hc, k.here t (.int _)⟩
  | Mod =>
    cases x <;> cases y <;> first | (cases e; done) | skip
    obtain ⟨hc, rfl⟩ := if_some e
    cases rx.int; cases ry.int
    exact op_modN pins s σ H _ _ u1 u2 Q I q1 q2 ⟨_, _, rfl, rfl, of_decide_eq_true hc, k.here t (.int _)⟩
  | Pow =>
    cases x <;> cases y <;> first | (cases e; done) | skip
    obtain ⟨hc, rfl⟩ := if_some e
    cases rx.int; cases ry.int
    exact op_powO pins s σ H _ _ u1 u2 Q I q1 q2 ⟨_, _, rfl, rfl, hc, k.here t (.int _)⟩
  | _ => cases x <;> cases y <;> cases e
/-- x in a tuple, in a list, by data -/
theorem in_dat {x : D} {ys : List D} {v : V} {a : Addr} {vs : List V} {b : Bool} (hK : G.K = X.K) (rx : RV G μ H x v) (ry : Reps G μ H ys vs) (h : inD x ys = some b) : ∃ d ds, Dp X.K H v d ∧ DpAll X.K H vs ds ∧ SeqAt.shaped d = true ∧ SeqAt.shaped (.list ds) = true ∧ (ds.any fun z => PyData.eqv z d) = b := by
  unfold inD at h
  cases hx : x.data with
  | none => rw [hx] at h; cases h
  | some p =>
    cases hy : D.datas ys with
    | none => rw [hx, hy] at h; cases h
    | some qs =>
      rw [hx, hy] at h
      obtain ⟨hc, e⟩ := if_some h
      obtain ⟨h1, h2⟩ := Bool.and_eq_true_iff.mp hc
      exact ⟨p, qs, hK ▸ rx.data hx, hK ▸ Reps.datas _ _ _ ry hy, h1, h2, e⟩
def rInT (K : PySem.W.Frag) (neg : Bool) : R2 := fun x y H Q => ∃ d ds, Dp K H x d ∧ Dp K H y (.tuple ds) ∧ SeqAt.shaped d = true ∧ SeqAt.shaped (.list ds) = true ∧ Q (.bl (if neg then !(ds.any fun z => PyData.eqv z d) else ds.any fun z => PyData.eqv z d)) H
theorem op_inT {X : Cx} (hu : X.A.units + 65 < cLine) : OpR X (compareOp .In) (rInT X.K false) := by
  intro pins s σ H x y v u Q I rx ry h
  obtain ⟨d, ds, hd, he, sd, se, q⟩ := h
  obtain ⟨as, r1⟩ := Dp.reads I d x v hd rx
  obtain ⟨bs, r2⟩ := Dp.reads I (.tuple ds) y u he ry
  exact SeqAt.in_tuple_reads r2 r1 (SeqAt.canLay_of_shaped se) (SeqAt.canLay_of_shaped sd) (room_in_shaped sd hu) ⟨.bl _, H, I, rfl, q⟩
theorem op_niT {X : Cx} (hu : X.A.units + 65 < cLine) : OpR X (compareOp .NotIn) (rInT X.K true) := by
  intro pins s σ H x y v u Q I rx ry h
  obtain ⟨d, ds, hd, he, sd, se, q⟩ := h
  obtain ⟨as, r1⟩ := Dp.reads I d x v hd rx
  obtain ⟨bs, r2⟩ := Dp.reads I (.tuple ds) y u he ry
  exact SeqAt.notIn_tuple_reads r2 r1 (SeqAt.canLay_of_shaped se) (SeqAt.canLay_of_shaped sd) (room_in_shaped sd hu) ⟨.bl _, H, I, rfl, q⟩
theorem _root_.Gw.RV.rep_of {μ : Mp} {H : Hp} {x : D} {v : V} {ks : List D} {n : NestedKey} (r : RV G μ H x v) (h : fitK ks x = some n) : Rep G μ H x v := by
  cases r with
  | rep r => exact r
  | lst _ _ => cases h
  | dct => cases h
theorem cmp_ok (hK : G.K = X.K) (hw : G.w = X.w) (hu5 : X.A.units + 65 < cLine) : ∀ (o : CmpOp), OpR X (compareOp o) (rD G (cmpD o)) := by
  intro o pins s σ H v w u1 u2 Q I q1 q2 ⟨μ, st, x, y, z, t, rx, ry, e, k⟩
  have hu : X.A.units + 64 < cLine := by omega
  have eqs : ∀ b, x.eq? y = some b → ∃ p q, Dp X.K H v p ∧ Dp X.K H w q ∧ SeqAt.shaped p = true ∧ SeqAt.shaped q = true ∧ PyData.eqv p q = b := by
    intro b hb
    unfold D.eq? at hb
    cases hx : x.data with
    | none => rw [hx] at hb; cases hb
    | some p =>
      cases hy : y.data with
      | none => rw [hx, hy] at hb; cases hb
      | some q =>
        rw [hx, hy] at hb
        obtain ⟨hc, e⟩ := if_some hb
        obtain ⟨h1, h2⟩ := Bool.and_eq_true_iff.mp hc
        exact ⟨p, q, hK ▸ rx.data hx, hK ▸ ry.data hy, h1, h2, e⟩
  cases o with
  | Eq =>
    obtain ⟨b, hb, rfl⟩ := Option.map_eq_some_iff.mp e
    obtain ⟨p, q, h1, h2, h3, h4, rfl⟩ := eqs b hb
    exact op_eqD hu pins s σ H _ _ u1 u2 Q I q1 q2 ⟨p, q, h1, h2, h3, h4, k.here t (.bl _)⟩
  | NotEq =>
    obtain ⟨b, hb, rfl⟩ := Option.map_eq_some_iff.mp e
    obtain ⟨p, q, h1, h2, h3, h4, rfl⟩ := eqs b hb
    exact op_neD hu pins s σ H _ _ u1 u2 Q I q1 q2 ⟨p, q, h1, h2, h3, h4, k.here t (.bl _)⟩
  | Lt =>
    cases x <;> cases y <;> first | (cases e; done) | skip
    cases e; cases rx.int; cases ry.int
    exact op_lt pins s σ H _ _ u1 u2 Q I q1 q2 ⟨_, _, rfl, rfl, k.here t (.bl _)⟩
  | LtE =>
    cases x <;> cases y <;> first | (cases e; done) | skip
    cases e; cases rx.int; cases ry.int
    exact op_le pins s σ H _ _ u1 u2 Q I q1 q2 ⟨_, _, rfl, rfl, k.here t (.bl _)⟩
  | Gt =>
    cases x <;> cases y <;> first | (cases e; done) | skip
    cases e; cases rx.int; cases ry.int
    exact op_gt pins s σ H _ _ u1 u2 Q I q1 q2 ⟨_, _, rfl, rfl, k.here t (.bl _)⟩
  | GtE =>
    cases x <;> cases y <;> first | (cases e; done) | skip
    cases e; cases rx.int; cases ry.int
    exact op_ge pins s σ H _ _ u1 u2 Q I q1 q2 ⟨_, _, rfl, rfl, k.here t (.bl _)⟩
  | Is =>
    cases y <;> first | (cases x <;> cases e; done) | skip
    · have e' : z = .bl x.isNon := by cases x <;> cases e <;> rfl
      subst e'
      cases ry.non
      refine op_isN pins s σ H _ _ u1 u2 Q I q1 q2 ⟨rfl, ?_⟩
      rw [rx.isNon]
      exact k.here t (.bl _)
    · cases x <;> first | (cases e; done) | skip
      cases e; cases rx.bl; cases ry.bl
      exact op_is_bl pins s σ H _ _ u1 u2 Q I q1 q2 ⟨_, _, rfl, rfl, k.here t (.bl _)⟩
  | IsNot =>
    cases y <;> first | (cases x <;> cases e; done) | skip
    · have e' : z = .bl (!x.isNon) := by cases x <;> cases e <;> rfl
      subst e'
      cases ry.non
      refine op_notN pins s σ H _ _ u1 u2 Q I q1 q2 ⟨rfl, ?_⟩
      rw [rx.isNon]
      exact k.here t (.bl _)
    · cases x <;> first | (cases e; done) | skip
      cases e; cases rx.bl; cases ry.bl
      exact op_isnot_bl pins s σ H _ _ u1 u2 Q I q1 q2 ⟨_, _, rfl, rfl, k.here t (.bl _)⟩
  | In =>
    cases y with
    | tup ys =>
      obtain ⟨b, hb, rfl⟩ := Option.map_eq_some_iff.mp (show (inD x ys).map (fun b => D.bl b) = some z from e)
      obtain ⟨a, vs, rfl, a1, r1⟩ := ry.tup
      obtain ⟨d, ds, h1, h2, h3, h4, rfl⟩ := in_dat (a := a) hK rx r1 hb
      exact op_inT hu5 pins s σ H _ _ u1 u2 Q I q1 q2 ⟨d, ds, h1, .tup (hK ▸ a1.sq) h2, h3, h4, k.here t (.bl _)⟩
    | lst ys =>
      obtain ⟨b, hb, rfl⟩ := Option.map_eq_some_iff.mp (show (inD x ys).map (fun b => D.bl b) = some z from e)
      obtain ⟨a, vs, rfl, a1, r1⟩ := ry.lstE
      obtain ⟨d, ds, h1, h2, h3, h4, rfl⟩ := in_dat (a := a) hK rx r1 hb
      exact op_inD hu5 pins s σ H _ _ u1 u2 Q I q1 q2 ⟨d, ds, h1, .lst (.inl (.inl a1)) h2, h3, h4, k.here t (.bl _)⟩
    | dct ks vs =>
      obtain ⟨n, hn, rfl⟩ := Option.map_eq_some_iff.mp (show (fitK ks x).map (fun k => D.bl (getK ks vs k).isSome) = some z from e)
      obtain ⟨a, kvs, ob, us, ws, rfl, e1, hk, rfl, rfl, r1, r2⟩ := ry.dctE
      obtain ⟨hf, _, _⟩ := fitK_ok hk r1 hn (rx.rep_of hn)
      cases q2
      rw [getK_some hk.1 r2] at k
      exact dx_in (by omega) I (hw ▸ e1) (hK ▸ hf) q1 fun s' I' => ⟨.bl _, H, I', rfl, k.here t (.bl _)⟩
    | _ => cases e
  | NotIn =>
    cases y with
    | tup ys =>
      obtain ⟨b, hb, rfl⟩ := Option.map_eq_some_iff.mp (show (inD x ys).map (fun b => D.bl (!b)) = some z from e)
      obtain ⟨a, vs, rfl, a1, r1⟩ := ry.tup
      obtain ⟨d, ds, h1, h2, h3, h4, rfl⟩ := in_dat (a := a) hK rx r1 hb
      exact op_niT hu5 pins s σ H _ _ u1 u2 Q I q1 q2 ⟨d, ds, h1, .tup (hK ▸ a1.sq) h2, h3, h4, k.here t (.bl _)⟩
    | lst ys =>
      obtain ⟨b, hb, rfl⟩ := Option.map_eq_some_iff.mp (show (inD x ys).map (fun b => D.bl (!b)) = some z from e)
      obtain ⟨a, vs, rfl, a1, r1⟩ := ry.lstE
      obtain ⟨d, ds, h1, h2, h3, h4, rfl⟩ := in_dat (a := a) hK rx r1 hb
      exact op_notInD hu5 pins s σ H _ _ u1 u2 Q I q1 q2 ⟨d, ds, h1, .lst (.inl (.inl a1)) h2, h3, h4, k.here t (.bl _)⟩
    | dct ks vs =>
      obtain ⟨n, hn, rfl⟩ := Option.map_eq_some_iff.mp (show (fitK ks x).map (fun k => D.bl (!(getK ks vs k).isSome)) = some z from e)
      obtain ⟨a, kvs, ob, us, ws, rfl, e1, hk, rfl, rfl, r1, r2⟩ := ry.dctE
      obtain ⟨hf, _, _⟩ := fitK_ok hk r1 hn (rx.rep_of hn)
      cases q2
      rw [getK_some hk.1 r2] at k
      exact dx_ni (by omega) I (hw ▸ e1) (hK ▸ hf) q1 fun s' I' => ⟨.bl _, H, I', rfl, k.here t (.bl _)⟩
    | _ => cases e
/-- one argument -/
def rD1 (G : Glo) (f : D → Option D) : V → Hp → VK → Prop := fun v H Q => ∃ μ st x z, STR G μ st H ∧ RV G μ H x v ∧ f x = some z ∧ KE G (Rep G) μ H Q z st
theorem neg_ok : UnR X (unaryOp .USub) (rD1 G negD) := by
  intro pins s σ H v u Q I q hh
  obtain ⟨μ, st, x, z, t, rx, e, k⟩ := hh
  cases x <;> first | (cases e; done) | skip
  cases e; cases rx.int
  exact un_neg pins s σ H _ u Q I q ⟨_, rfl, k.here t (.int _)⟩
theorem atI_map {α β : Type} (f : α → β) (xs : List α) (k : Int) : atI (xs.map f) k = (atI xs k).map f := by
  unfold atI
  rw [List.length_map]
  cases ixN xs.length k with
  | none => rfl
  | some j => exact List.getElem?_map
theorem ix_ok (hK : G.K = X.K) (hw : G.w = X.w) (hu : X.A.units + 65 < cLine) : IxR X (rD G ixD) := by
  intro value slice pins s σ H v w u1 u2 Q I q1 q2 hh hp
  obtain ⟨μ, st, x, y, z, t, rx, ry, e, k⟩ := hh
  by_cases hd : ∃ ks vs, x = .dct ks vs
  · obtain ⟨ks, vs, rfl⟩ := hd
    obtain ⟨n, hn, hg⟩ := Option.bind_eq_some_iff.mp (show ((fitK ks y).bind fun n => getK ks vs n) = some z by cases y <;> exact e)
    obtain ⟨a, kvs, ob, us, ws, rfl, e1, hk, rfl, rfl, r1, r2⟩ := rx.dctE
    obtain ⟨hf, _, _⟩ := fitK_ok hk r1 hn (ry.rep_of hn)
    have q := getK_ok (k := n) hk.1 r2
    rw [hg] at q
    obtain ⟨v', hv, rv⟩ := q
    cases q1
    obtain ⟨ht, w', rw', hh⟩ := dx_get (E := X.xe) (show X.A.units + 9 < cLine by omega) I (hw ▸ e1) (hK ▸ hf) q2 hv
    exact subscriptTail_builtinR (x := w') ht PySem.F.slot_dict_getitem.lookup (hh _ fun s' I' => ⟨rfl, v', H, I', rw', k.here t rv⟩) hp
  cases x <;> cases y <;> first | (cases e; done) | (exact absurd ⟨_, _, rfl⟩ hd) | skip
  · cases ry.int
    obtain ⟨a, vs, rfl, a1, r1⟩ := rx.tup
    obtain ⟨v, h1, h2⟩ := r1.at e
    exact ix_tup value slice pins s σ H _ _ u1 u2 Q I q1 q2 ⟨a, vs, _, v, rfl, rfl, hK ▸ a1.sq, h1, k.here t h2⟩ hp
  · cases ry.int
    obtain ⟨a, vs, rfl, a1, r1⟩ := rx.lstE
    obtain ⟨v, h1, h2⟩ := r1.at e
    exact ix_list value slice pins s σ H _ _ u1 u2 Q I q1 q2 ⟨a, vs, _, v, rfl, rfl, .inl (.inl a1), h1, k.here t h2⟩ hp
  · cases ry.int
    obtain ⟨a, rfl, a1⟩ := rx.scr
    obtain ⟨n, h1, rfl⟩ := Option.map_eq_some_iff.mp e
    refine ix_list value slice pins s σ H _ _ u1 u2 Q I q1 q2 ⟨a, _, _, .int n, rfl, rfl, hK ▸ a1.sq, ?_, k.here t (.int _)⟩ hp
    rw [atI_map, h1]
    rfl
theorem truth_ok (hK : G.K = X.K) {μ : Mp} {H : Hp} {x : D} {v : V} {b : Bool} (r : RV G μ H x v) (e : x.truth = some b) : TruV X.K v H b := by
  cases x with
  | non => cases e; cases r.non; rfl
  | bl b => cases e; cases r.bl; rfl
  | int i => cases e; cases r.int; rfl
  | str y =>
    obtain ⟨hc, rfl⟩ := if_some e
    cases r.str
    exact ⟨hc, rfl⟩
  | tup xs =>
    obtain ⟨a, vs, rfl, a1, r1⟩ := r.tup
    cases e
    exact .inr (.inl ⟨vs, hK ▸ a1.sq, by rw [r1.isEmpty]⟩)
  | lst xs =>
    obtain ⟨a, vs, rfl, a1, r1⟩ := r.lstE
    cases e
    exact .inl ⟨vs, .inl (.inl a1), by rw [r1.isEmpty]⟩
  | _ => cases e
theorem sl_lstT : SlR X (fun x lo hi H Q => rSlA X.K x lo hi H Q ∨ rSlL X.K x lo hi H Q) := sl_tupA.or sl_list
theorem cut_whole {α : Type} (xs : List α) : (xs.drop 0).take xs.length = xs := by rw [List.drop_zero, List.take_length]
/-- slices by values -/
theorem sl_of (hK : G.K = X.K) {μ : Mp} {H : Hp} {st : Sto} {x l h z : D} {v : V} {lo hi : Option Int} {Q : VK} (t : STR G μ st H) (r : RV G μ H x v) (el : partD l = some lo) (eh : partD h = some hi) (e : slD x l h = some z) (k : KE G (Rep G) μ H Q z st) :
    rSlA X.K v lo hi H Q ∨ rSlL X.K v lo hi H Q := by
  unfold slD at e
  rw [el, eh] at e
  cases x with
  | tup xs =>
    obtain ⟨a, vs, rfl, a1, r1⟩ := r.tup
    cases e
    refine .inl ⟨a, vs, rfl, hK ▸ a1.sq, fun hw => ?_, fun _ p hp => k.tup t (r1.cut lo hi) hp⟩
    have ec : cutD xs lo hi = xs := by
      unfold cutD
      rw [r1.length, hw.1, hw.2, Nat.sub_zero, ← r1.length]
      exact cut_whole xs
    rw [ec] at k
    exact k.here t (.tup a1 r1)
  | lst xs =>
    obtain ⟨a, vs, rfl, a1, r1⟩ := r.lstE
    cases e
    exact .inr ⟨a, vs, rfl, .inl (.inl a1), fun p hp => k.lst t (r1.cut lo hi) hp⟩
  | _ => cases e
end
end Gw

set_option Elab.async false
set_option linter.all false
set_option maxRecDepth 100000
/-! Gd5: sorting values, in plain words and as the library has it. -/
namespace Gw
open PySem PySem.Spec PySem.Calls PySem.W PyProof.Rows L2
def keyD (x : D) : PyData := x.data.getD .none
def leD (x y : D) : Bool := dataLe false keyD x y
def insD (x : D) : List D → List D
  | [] => [x]
  | y :: ys => if leD x y then x :: y :: ys else y :: insD x ys
def sortL : List D → List D
  | [] => []
  | x :: xs => insD x (sortL xs)
theorem insD_perm (x : D) : ∀ l : List D, (insD x l).Perm (x :: l)
  | [] => .refl _
  | y :: ys => by
    unfold insD
    split
    · exact .refl _
    · exact (List.Perm.cons y (insD_perm x ys)).trans (List.Perm.swap x y ys)
theorem sortL_perm : ∀ l : List D, (sortL l).Perm l
  | [] => .refl _
  | x :: xs => (insD_perm x _).trans (List.Perm.cons x (sortL_perm xs))
theorem leD_trans (a b c : D) (h : leD a b = true) (k : leD b c = true) : leD a c = true := (sortLe_total (PyProof.Rows.listOrd PyProof.Rows.itemOrd) false fun b : D => keyToks (keyD b)).trans a b c h k
theorem leD_total (a b : D) : (leD a b || leD b a) = true := Bool.or_eq_true_iff.mpr ((sortLe_total (PyProof.Rows.listOrd PyProof.Rows.itemOrd) false fun b : D => keyToks (keyD b)).total a b)
theorem insD_sorted (x : D) : ∀ l : List D, l.Pairwise (fun a b => leD a b = true) → (insD x l).Pairwise fun a b => leD a b = true
  | [], _ => by simp [insD]
  | y :: ys, h => by
    unfold insD
    rw [List.pairwise_cons] at h
    split
    · rename_i hc
      rw [List.pairwise_cons, List.pairwise_cons]
      refine ⟨fun z hz => ?_, h⟩
      rcases List.mem_cons.mp hz with e | e
      · rw [e]; exact hc
      · exact leD_trans _ _ _ hc (h.1 z e)
    · rename_i hc
      rw [List.pairwise_cons]
      refine ⟨fun z hz => ?_, insD_sorted x ys h.2⟩
      rcases List.mem_cons.mp ((insD_perm x ys).mem_iff.mp hz) with e | e
      · rw [e]
        have t := leD_total x y
        rw [Bool.not_eq_true] at hc
        rw [hc] at t
        simpa using t
      · exact h.1 z e
theorem sortL_sorted : ∀ l : List D, (sortL l).Pairwise fun a b => leD a b = true
  | [] => List.Pairwise.nil
  | x :: xs => insD_sorted x _ (sortL_sorted xs)
/-- it is the library's sort, where equal keys are equal values -/
theorem sortL_eq {l : List D} (h : ∀ a b, a ∈ l → b ∈ l → leD a b = true → leD b a = true → a = b) : l.mergeSort leD = sortL l := by
  refine List.Perm.eq_of_pairwise (le := fun a b => leD a b = true) (fun a b ha hb => h a b ((List.mergeSort_perm l leD).mem_iff.mp ha) ((sortL_perm l).mem_iff.mp hb)) (List.pairwise_mergeSort leD_trans leD_total l) (sortL_sorted l) ((List.mergeSort_perm l leD).trans (sortL_perm l).symm)

/-! ### alike data with equal keys are equal -/
mutual
theorem eqv_same : ∀ (x y : PyData), alike x y = true → PyData.eqv x y = true → x = y
  | .none, y, h, _ => by cases y <;> first | rfl | cases h
  | .bool a, y, h, e => by
    cases y <;> first | (cases h; done) | skip
    simp only [PyData.eqv, beq_iff_eq] at e
    rw [e]
  | .int a, y, h, e => by
    cases y <;> first | (cases h; done) | skip
    simp only [PyData.eqv, beq_iff_eq] at e
    rw [e]
  | .str a, y, h, e => by
    cases y <;> first | (cases h; done) | skip
    simp only [PyData.eqv, beq_iff_eq, decide_eq_true_eq] at e
    rw [e]
  | .list xs, y, h, e => by
    cases y <;> first | (cases h; done) | skip
    rename_i ys
    simp only [PyData.eqv] at e
    rw [eqvs_same xs ys (by simpa only [alike] using h) e]
  | .tuple xs, y, h, e => by
    cases y <;> first | (cases h; done) | skip
    rename_i ys
    simp only [PyData.eqv] at e
    rw [eqvs_same xs ys (by simpa only [alike] using h) e]
  | .dict _, y, h, _ => by cases y <;> cases h
theorem eqvs_same : ∀ (xs ys : List PyData), alikeAll xs ys = true → PyData.eqvAll xs ys = true → xs = ys
  | [], [], _, _ => rfl
  | [], _ :: _, _, e => by simp [PyData.eqvAll] at e
  | _ :: _, [], _, e => by simp [PyData.eqvAll] at e
  | x :: xs, y :: ys, h, e => by
    rw [eqv_all_cons, Bool.and_eq_true] at e
    obtain ⟨h1, h2⟩ := alike_all_cons h
    rw [eqv_same x y h1 e.1, eqvs_same xs ys h2 e.2]
end
mutual
theorem data_inj : ∀ (x y : D) (p : PyData), x.data = some p → y.data = some p → x = y
  | .non, y, p, h, k => by cases h; cases y <;> first | rfl | cases k | (obtain ⟨_, _, z⟩ := Option.map_eq_some_iff.mp (show (D.datas _).map _ = some PyData.none from k); cases z)
  | .bl a, y, p, h, k => by cases h; cases y <;> first | (cases k; rfl) | cases k | (obtain ⟨_, _, z⟩ := Option.map_eq_some_iff.mp (show (D.datas _).map _ = some (PyData.bool a) from k); cases z)
  | .int a, y, p, h, k => by cases h; cases y <;> first | (cases k; rfl) | cases k | (obtain ⟨_, _, z⟩ := Option.map_eq_some_iff.mp (show (D.datas _).map _ = some (PyData.int a) from k); cases z)
  | .str a, y, p, h, k => by cases h; cases y <;> first | (cases k; rfl) | cases k | (obtain ⟨_, _, z⟩ := Option.map_eq_some_iff.mp (show (D.datas _).map _ = some (PyData.str a) from k); cases z)
  | .tup xs, y, p, h, k => by
    obtain ⟨ps, h1, rfl⟩ := Option.map_eq_some_iff.mp (show (D.datas xs).map PyData.tuple = some p from h)
    cases y <;> first | (cases k; done) | skip
    · rename_i ys
      obtain ⟨qs, k1, e⟩ := Option.map_eq_some_iff.mp (show (D.datas ys).map PyData.tuple = some (.tuple ps) from k)
      cases e
      rw [datas_inj xs ys ps h1 k1]
    · rename_i ys
      obtain ⟨qs, k1, e⟩ := Option.map_eq_some_iff.mp (show (D.datas ys).map PyData.list = some (.tuple ps) from k)
      cases e
  | .lst xs, y, p, h, k => by
    obtain ⟨ps, h1, rfl⟩ := Option.map_eq_some_iff.mp (show (D.datas xs).map PyData.list = some p from h)
    cases y <;> first | (cases k; done) | skip
    · rename_i ys
      obtain ⟨qs, k1, e⟩ := Option.map_eq_some_iff.mp (show (D.datas ys).map PyData.tuple = some (.list ps) from k)
      cases e
    · rename_i ys
      obtain ⟨qs, k1, e⟩ := Option.map_eq_some_iff.mp (show (D.datas ys).map PyData.list = some (.list ps) from k)
      cases e
      rw [datas_inj xs ys ps h1 k1]
  | .ref _, _, _, h, _ | .fn _, _, _, h, _ | .ty _, _, _, h, _ | .scr _, _, _, h, _ | .emp, _, _, h, _ | .dct _ _, _, _, h, _ => by cases h
theorem datas_inj : ∀ (xs ys : List D) (ps : List PyData), D.datas xs = some ps → D.datas ys = some ps → xs = ys
  | [], [], _, _, _ => rfl
  | [], y :: ys, ps, h, k => by
    cases h
    obtain ⟨d, _, k2⟩ := Option.bind_eq_some_iff.mp (show ((D.data y).bind fun d => (D.datas ys).map fun ds => d :: ds) = some [] from k)
    obtain ⟨_, _, e⟩ := Option.map_eq_some_iff.mp k2
    cases e
  | x :: xs, ys, ps, h, k => by
    obtain ⟨d, h1, h2⟩ := Option.bind_eq_some_iff.mp (show ((D.data x).bind fun d => (D.datas xs).map fun ds => d :: ds) = some ps from h)
    obtain ⟨ds, h3, rfl⟩ := Option.map_eq_some_iff.mp h2
    cases ys with
    | nil => cases k
    | cons y ys =>
      obtain ⟨d', k1, k2⟩ := Option.bind_eq_some_iff.mp (show ((D.data y).bind fun d => (D.datas ys).map fun ds => d :: ds) = some (d :: ds) from k)
      obtain ⟨ds', k3, e⟩ := Option.map_eq_some_iff.mp k2
      cases e
      rw [data_inj x y d h1 k1, datas_inj xs ys ds h3 k3]
end
theorem toks_inj {x y : PyData} (h : alike x y = true) (e : keyToks x = keyToks y) : x = y := by
  refine eqv_same x y h ?_
  cases hq : PyData.eqv x y with
  | true => rfl
  | false =>
    have q := (toks_eqv x y h).2 hq [] [.inl 0]
    rw [e, lex_pre, lex_irrefl] at q
    cases q
/-- what can be sorted -/
def tupNE : PyData → Bool
  | .tuple (_ :: _) => true
  | _ => false
def notTN : PyData → Bool
  | .tuple _ => false
  | .none => false
  | _ => true
def sOkP (ps : List PyData) : Bool := (ps.all fun a => ps.all fun b => alike a b) && ((ps.all tupNE || ps.all notTN) && ps.all fun a => decide (a.depth ≤ 60))
def sortO (xs : List D) : Option D := match D.datas xs with
  | some ps => if sOkP ps = true then some (.lst (sortL xs)) else none
  | none => none
def sortedD : List D → Option D
  | [.lst xs] => sortO xs
  | [.dct ks _] => sortO ks
  | _ => none
theorem datas_get : ∀ {xs : List D} {ps : List PyData}, D.datas xs = some ps → ps = xs.map keyD ∧ ∀ x ∈ xs, x.data = some (keyD x)
  | [], ps, h => by cases h; exact ⟨rfl, fun x hx => by cases hx⟩
  | x :: xs, ps, h => by
    obtain ⟨d, h1, h2⟩ := Option.bind_eq_some_iff.mp (show ((D.data x).bind fun d => (D.datas xs).map fun ds => d :: ds) = some ps from h)
    obtain ⟨ds, h3, rfl⟩ := Option.map_eq_some_iff.mp h2
    obtain ⟨q1, q2⟩ := datas_get h3
    have hx : keyD x = d := by unfold keyD; rw [h1]; rfl
    refine ⟨by rw [List.map_cons, hx, ← q1], fun y hy => ?_⟩
    rcases List.mem_cons.mp hy with z | z
    · rw [z, hx]; exact h1
    · exact q2 y z
section
variable {G : Glo} {X : Cx} {μ : Mp} {H : Hp}
def entsOf {α β : Type} (xs : List α) (ys : List β) : List (α × β) := xs.zip ys
theorem sort_pairs {xs : List D} {vs : List V} (r : Reps G μ H xs vs) (ho : (∀ x ∈ xs, x.data = some (keyD x)) ∧ sOkP (xs.map keyD) = true) :
    Reps G μ H (sortL xs) (((xs.zip vs).mergeSort (dataLe false fun b => keyD b.1)).map (·.2)) := by
  obtain ⟨hd, hs⟩ := ho
  have hal : ∀ a ∈ xs, ∀ b ∈ xs, alike (keyD a) (keyD b) = true := fun a ha b hb => by
    have h1 := (Bool.and_eq_true_iff.mp hs).1
    exact List.all_eq_true.mp (List.all_eq_true.mp h1 _ (List.mem_map_of_mem ha)) _ (List.mem_map_of_mem hb)
  have h1 : (xs.zip vs).map (·.1) = xs := List.map_fst_zip (Nat.le_of_eq r.length)
  have e : ((xs.zip vs).mergeSort (dataLe false fun b => keyD b.1)).map (·.1) = sortL xs := by
    refine (List.map_mergeSort (r := dataLe false fun b : D × V => keyD b.1) (s := leD) (f := fun b => b.1) (fun a _ b _ => rfl)).trans ?_
    rw [h1]
    refine sortL_eq fun a b ha hb h k => ?_
    refine data_inj a b _ (hd a ha) ?_
    rw [toks_inj (hal a ha b hb) ?_]
    · exact hd b hb
    · have k1 : lexLt itemOrd (keyToks (keyD b)) (keyToks (keyD a)) = false := Bool.not_eq_true' _ ▸ (show (!PyProof.Rows.lexLt itemOrd (keyToks (keyD b)) (keyToks (keyD a))) = true from h)
      have k2 : lexLt itemOrd (keyToks (keyD a)) (keyToks (keyD b)) = false := Bool.not_eq_true' _ ▸ (show (!PyProof.Rows.lexLt itemOrd (keyToks (keyD a)) (keyToks (keyD b))) = true from k)
      exact lex_total _ _ k2 k1
  rw [← e]
  have hm : ∀ p ∈ (xs.zip vs).mergeSort (dataLe false fun b => keyD b.1), Rep G μ H p.1 p.2 := fun p hp => by
    have hp' := (List.mergeSort_perm _ _).mem_iff.mp hp
    have zz : ∀ {xs : List D} {vs : List V}, Reps G μ H xs vs → ∀ p ∈ xs.zip vs, Rep G μ H p.1 p.2 := by
      intro xs
      induction xs with
      | nil => intro vs _ p hp; simp at hp
      | cons x xs ih =>
        intro vs r p hp
        cases r with
        | cons a b =>
          rw [List.zip_cons_cons] at hp
          rcases List.mem_cons.mp hp with z | z
          · rw [z]; exact a
          · exact ih b p z
    exact zz r p hp'
  generalize (xs.zip vs).mergeSort (dataLe false fun b => keyD b.1) = L at hm
  induction L with
  | nil => exact .nil
  | cons p L ih => exact .cons (hm p List.mem_cons_self) (ih fun q hq => hm q (List.mem_cons_of_mem _ hq))
end
end Gw

set_option Elab.async false
set_option linter.all false
set_option maxRecDepth 100000
set_option maxHeartbeats 1000000
/-! Gl2: sorted(d, key=lambda c: (len(c), c)) of a dict whose keys are tuples. -/
namespace Gw
open PySem PySem.Spec PySem.Calls PyProof.Rows L2 PySem.W LamX
mutual
/-- no list within -/
def flatP : PyData → Bool
  | .list _ => false
  | .dict _ => false
  | .tuple xs => flatPs xs
  | _ => true
def flatPs : List PyData → Bool
  | [] => true
  | x :: xs => flatP x && flatPs xs
end
mutual
theorem flat_reads {h : Heap} : ∀ (d : PyData) (v : Value) (as : List Addr), Reads h v d as → flatP d = true → as = []
  | .none, _, _, r, _ => by cases r; rfl
  | .bool _, _, _, r, _ => by cases r; rfl
  | .int _, _, _, r, _ => by cases r; rfl
  | .str _, _, _, r, _ => by cases r; rfl
  | .list _, _, _, _, e => by cases e
  | .dict _, _, _, _, e => by cases e
  | .tuple xs, _, _, r, e => by cases r with | tuple _ _ _ h4 => exact flats_reads xs _ _ h4 (by unfold flatP at e; exact e)
theorem flats_reads {h : Heap} : ∀ (ds : List PyData) (vs : List Value) (as : List Addr), ReadsAll h vs ds as → flatPs ds = true → as = []
  | [], _, _, r, _ => by cases r; rfl
  | d :: ds, _, _, r, e => by
    unfold flatPs at e
    obtain ⟨e1, e2⟩ := Bool.and_eq_true_iff.mp e
    cases r with
    | cons a b => rw [flat_reads d _ _ a e1, flats_reads ds _ _ b e2]; rfl
end
/-- with its length ahead -/
def keyed : D → D
  | .tup ys => .tup [.int ys.length, .tup ys]
  | x => x
def keyP (b : D × V) : PyData := keyD (keyed b.1)
def one0 (P : V → Hp → Prop) : List V → Hp → Prop
  | [x], H => P x H
  | _, _ => False
/-- what is asked of one item -/
def ItmOk (K : PySem.W.Frag) (H : Hp) (b : D × V) : Prop := ∃ t vs d, b.2 = .ref t ∧ SqT K H t vs ∧ Dp K H (.ref t) d ∧ flatP d = true ∧ keyP b = .tuple [.int vs.length, d]
def tSortLc (K : PySem.W.Frag) (w : World) (P : Addr) (q : Str) (ta : TE) : TE := fun σ H Q => ta σ H fun x H1 => TabS H1 P q ∧ ∀ H2, Made H1 H2 P q → ∃ d kvs ob, ∃ bs : List (D × V), x = .ref d ∧ H2 d = some (DxO w d kvs ob) ∧ kvs.map (·.2.1) = bs.map (·.2) ∧
  (∀ b ∈ bs, ItmOk K H2 b) ∧ AllAlike (bs.map keyP) ∧ Sortable (bs.map keyP) ∧ (∀ b ∈ bs, (keyP b).depth ≤ 60) ∧ ∀ p, H2 p = none → Q (.ref p) (upd H2 p (.lst ((bs.mergeSort (dataLe false keyP)).map (·.2))))
theorem clo_nil {cells : List (Str × Addr)} : ∀ {l : List (Str × NameKind)} {acc : List (Str × Addr)}, (∀ y ∈ l, y.2 ≠ .free) → cloFrom cells l acc = acc
  | [], _, _ => rfl
  | (y, k) :: l, acc, h => by
    have hk := h (y, k) List.mem_cons_self
    have hr := clo_nil (cells := cells) (l := l) (acc := acc) fun z hz => h z (List.mem_cons_of_mem _ hz)
    cases k <;> first | exact absurd rfl hk | exact hr
section
variable {X : Cx}
theorem pe_sortLc {a : Expr} {ta : TE} {c : Str} {cc P : Addr} {params : Arguments} {body : Expr} {lsc : Scope} {p lpos kpos pos : Pos} (hcalm : X.calm = true) (hu : X.A.units + 64 < cLine) (hr : X.A.depth < recursionLimit) (hg : Gl X "sorted") (hm : X.mg "sorted" = none) (hml : X.mg "len" = none)
    (ha : PE X a ta) (hst : starEach [a] X.env = [(false, eval a X.env)]) (hb : lenBody c body = true) (hs : lenScope c lsc = true) (hp : lenParams c params = true) (TB : TabB X.base X.mg cc P) (hcode : X.env.code = .ref cc) :
    PE X (.Call (.Name "sorted" p) [a] [⟨some "key", .Lambda params body lsc lpos, kpos⟩] pos) (tSortLc X.K X.w P (X.env.qual ++ "<lambda>") ta) := by
  have hs' := hs
  unfold lenScope at hs'
  simp only [Bool.and_eq_true, decide_eq_true_eq, Bool.not_eq_true', List.all_eq_true, decide_eq_false_iff_not] at hs'
  obtain ⟨⟨⟨⟨⟨⟨s1, s2⟩, s3⟩, s4⟩, s5⟩, s6⟩, s7⟩ := hs'
  have hclo : cloFrom X.env.cells lsc.names [] = [] := by
    exact clo_nil fun y hy => (s4 y hy).2
  have hdef : defaultsOf params X.env = ([], []) := by
    unfold lenParams at hp
    split at hp
    · rfl
    · cases hp
  refine ⟨fun pins s σ H Q I h => wpAny_Call_Name_kw (ld_blt I hg hm (show bootBuiltins "sorted" = some (.builtin "sorted") by decide +kernel) ?_)⟩
  refine PyProof.Rows.callWith_kw (thn ((pa_cons ha pa_nil (by rw [hst]; rfl)).run pos pins s σ H (one0 _) I h) fun us sa hx => ?_) (by rw [hst]; rfl) (by rw [hst]; rfl)
  obtain ⟨vs, Ha, Ia, ra, hq⟩ := hx
  match vs, ra, hq with
  | [], _, hq => exact hq.elim
  | _ :: _ :: _, _, hq => exact hq.elim
  | [x], ra, hq =>
  cases ra with
  | @cons _ u _ _ rx rn =>
  cases rn
  obtain ⟨hT, hq⟩ := hq
  show wpAny _ _ (evalAll [(do let v ← eval (.Lambda params body lsc lpos) X.env; standAt pos; pure v)]) _ _ sa
  refine wpAny_evalAll_cons (wpAny_bind (lam_made Ia TB hcode hT hdef (fun y hy e => absurd e (s4 y hy).2) fun f c' pm ctv Hb sb Ib md hf hfn hfr hco => wpAny_bind (wpAny_standAt (wpAny_pure (wpAny_evalAll_nil ?_)))))
  obtain ⟨d, kvs, ob, bs, rfl, he, hkv, hit, hal, hk, hdp, hQ⟩ := hq Hb md
  cases (show u = Value.ref d from rx)
  rw [hclo] at hf
  obtain ⟨⟨q1, q2, q3, g1, g2, es, ep, g3, g4⟩, _, _⟩ := (show ObjOk X.prog X.w Hb sb.heap d (DxO X.w d kvs ob) from Ib.hok d _ he)
  have ek := ent_keys (val := fun b : D × V => b.2) g4 hkv
  have hn : bs.length ≤ sizeLine := by
    have := congrArg List.length hkv
    rw [List.length_map, List.length_map] at this
    omega
  have hes : es.size = bs.length := by rw [← ek.length, List.length_map, Array.length_toList]
  have hd' : sb.heap.DictRaw d es ep := ⟨ob, g1, g2, g3⟩
  have hA : X.A.in1.handled = none := by rw [Around.in1_handled]; exact Ib.ok.hd hcalm
  show wpAny _ _ (call (.builtin "sorted") [.ref d] [(Str.ofString "key", .ref f)]) _ _ sb
  refine call_function_entry_kw kind_sorted plain_sorted entry_sorted (ksk_s1 _ _) ?_
  unfold Builtin.«sorted»
  refine wpAny_bind (m := checkCount "sorted" 1 1 _) (wpAny_pure ?_)
  refine wpAny_bind (kdu_collect (A := X.A.in1) (KdlSrc.rawDict (prog := X.prog) (w := X.w) q1) hA hd' (by rw [hes]; exact hn) fun h' tk acc hk1 hacc => ?_)
  have hl : acc.toList.length = bs.length := by rw [Array.length_toList, ← hes]; exact hacc.1
  have hkeys : acc.toList = es.toList.map (·.key) := by
    refine List.ext_getElem? fun j => ?_
    by_cases hj : j < acc.size
    · obtain ⟨hi, e⟩ := hacc.2 j acc[j] (by rw [Array.getElem?_eq_getElem hj])
      rw [List.getElem?_map, Array.getElem?_toList, Array.getElem?_toList, Array.getElem?_eq_getElem hj, Array.getElem?_eq_getElem hi, e]
      rfl
    · rw [List.getElem?_eq_none (by rw [Array.length_toList]; omega), List.getElem?_eq_none (by rw [List.length_map, Array.length_toList]; have := hacc.1; omega)]
  refine wpAny_bind (wpAny_newList ?_ (by rw [hl]; exact hn))
  have e2 : EachIs (fun u (b : D × V) => RelV b.2 u) acc.toList bs := by rw [hkeys]; exact ek
  have hat : (h'.push { cls := .type "list", data := .seq acc.toList.toArray }).get? h'.objs.size = some (seqObj "list" acc.toList.toArray 0) := Heap.get?_push_size _ rfl
  have up : ∀ {g : Heap}, KeepsBut h'.objs.size (h'.push { cls := .type "list", data := .seq acc.toList.toArray }) g → ∀ b o, sb.heap.get? b = some o → g.get? b = some o := fun {g} kp b o q =>
    kp b o (Nat.ne_of_lt (Heap.lt_size (hk1 b o q))) (Heap.get?_push_of_some _ (hk1 b o q))
  refine wpAny_bind (wpAny_holding (list_sort_key_data (b := false) (s := { sb with heap := h'.push { cls := .type "list", data := .seq acc.toList.toArray }, toks := tk }) keyP hat e2 hal hk hn (fun b hb => by have := hdp b hb; rw [Around.in1_units]; omega) (ksk_l1 _ _) (ksk_t1 f h'.objs.size)
    (fun v b hR hb' hh tk' kp => ?_) fun out c1 hh tk' kp hD ho eo => ?_))
  · obtain ⟨t, vs, dd, ev, sq, dp, fl, ekk⟩ := hit b hb'
    rw [ev] at hR
    cases (show v = Value.ref t from hR)
    have Ih : Inv X pins σ Hb { sb with heap := hh, toks := tk' } := Ib.kept (up kp)
    obtain ⟨its, r, ht, hz⟩ := Ih.tuple sq
    obtain ⟨as, rd⟩ := Dp.reads Ih dd (.ref t) (.ref t) dp rfl
    have ea := flat_reads dd _ _ rd fl
    subst ea
    obtain ⟨⟨oc, vv, tt, x1, x2, x3⟩, _, _⟩ := Ih.hok c' _ hco
    have key := len_key (P := X.prog) (w := X.w) (A := X.A.in1.in1) (s := { sb with heap := hh, toks := tk' }) hb hs hp Ih.mod Ih.bk hml Ih.nolimit hr (up kp f _ hf) ⟨oc, vv, tt, x1, x2, x3⟩ ht (by rw [List.size_toArray, ← r.length]; exact hz) rd
    rw [ekk, r.length]
    rw [List.size_toArray] at key
    exact key
  · refine wpAny_pure ⟨_, rfl, ?_⟩
    have hB : sb.heap.get? h'.objs.size = none := by
      cases q : sb.heap.get? h'.objs.size with
      | none => rfl
      | some o => exact absurd (Heap.lt_size (hk1 _ o q)) (Nat.lt_irrefl _)
    have hnB : Hb h'.objs.size = none := Ib.hok.gone hB
    refine ⟨.ref h'.objs.size, _, Ib.laidN (h' := hh) (t' := tk') (a := h'.objs.size) (o := .lst ((bs.mergeSort (dataLe false keyP)).map (·.2))) (up kp) hB hnB ⟨?_, out, c1, each_vals eo, hD⟩, rfl, hQ _ hnB⟩
    rw [List.length_map, ← eo.length, ho]
    exact hn
end
end Gw

set_option Elab.async false
set_option linter.all false
set_option maxRecDepth 100000
set_option maxHeartbeats 1000000
/-! Gw4: built-ins by values. -/
namespace Gw
open PySem PySem.Spec PyProof.Rows L2
def D.ints : List D → Option (List Int)
  | [] => some []
  | .int i :: r => (D.ints r).map fun l => i :: l
  | _ => none
def D.bools : List D → Option (List Bool)
  | [] => some []
  | .bl i :: r => (D.bools r).map fun l => i :: l
  | _ => none
def D.tyName : D → Option String
  | .non => some "NoneType"
  | .bl _ => some "bool"
  | .int _ => some "int"
  | .str _ => some "str"
  | .tup _ => some "tuple"
  | .lst _ => some "list"
  | .scr _ => some "list"
  | .emp => some "dict"
  | _ => none
def tyIs : String → String → Option Bool
  | "int", "int" => some true | "bool", "int" => some true | "str", "int" => some false | "tuple", "int" => some false | "list", "int" => some false | "NoneType", "int" => some false
  | "bool", "bool" => some true | "int", "bool" => some false | "str", "bool" => some false | "tuple", "bool" => some false | "list", "bool" => some false | "NoneType", "bool" => some false
  | "tuple", "tuple" => some true | "int", "tuple" => some false | "bool", "tuple" => some false | "str", "tuple" => some false | "list", "tuple" => some false | "NoneType", "tuple" => some false
  | "str", "str" => some true | "int", "str" => some false | "bool", "str" => some false | "tuple", "str" => some false | "list", "str" => some false | "NoneType", "str" => some false
  | "list", "list" => some true | "int", "list" => some false | "bool", "list" => some false | "tuple", "list" => some false | "str", "list" => some false | "NoneType", "list" => some false
  | "dict", "int" => some false | "dict", "bool" => some false | "dict", "tuple" => some false | "dict", "str" => some false | "dict", "list" => some false
  | _, _ => none
def lenD : List D → Option D
  | [.tup xs] => some (.int xs.length)
  | [.lst xs] => some (.int xs.length)
  | [.scr ns] => some (.int ns.length)
  | [.str s] => if decide (s.length ≤ sizeLine) then some (.int s.length) else none
  | _ => none
def absD : List D → Option D
  | [.int i] => some (.int (if i < 0 then -i else i))
  | _ => none
def maxD : List D → Option D
  | [.int i, .int j] => some (.int (if j > i then j else i))
  | _ => none
def minD : List D → Option D
  | [.int i, .int j] => some (.int (if j < i then j else i))
  | _ => none
def intD : List D → Option D
  | [.int i] => some (.int i)
  | [.bl k] => some (.int (if k then 1 else 0))
  | _ => none
def tupleD : List D → Option D
  | [.tup xs] => some (.tup xs)
  | [.lst xs] => some (.tup xs)
  | _ => none
def listD : List D → Option D
  | [.tup xs] => some (.lst xs)
  | [.lst xs] => some (.lst xs)
  | _ => none
def sumD : List D → Option D
  | [.lst xs] => (D.ints xs).map fun ns => .int ns.sum
  | _ => none
def allD : List D → Option D
  | [.lst xs] => (D.bools xs).map fun bs => .bl (bs.all id)
  | _ => none
def anyD : List D → Option D
  | [.lst xs] => (D.bools xs).map fun bs => .bl (bs.any id)
  | _ => none
def prsD : List D → Option (List D × List D)
  | [] => some ([], [])
  | .tup [k, v] :: r => (prsD r).map fun p => (k :: p.1, v :: p.2)
  | _ => none
/-- dict(pairs), the keys tuples -/
def dictD : List D → Option D
  | [.lst xs] => (prsD xs).bind fun p => if p.1.all (clsB true) then (putsK [] [] p.1 p.2).map fun q => .dct q.1 q.2 else none
  | _ => none
def isiD : List D → Option D
  | [x, .ty n] => (x.tyName.bind fun t => tyIs t n).map .bl
  | _ => none
section
variable {G : Glo} {X : Cx} {μ : Mp} {H : Hp}
theorem ints_eq : ∀ {xs : List D} {ns : List Int}, D.ints xs = some ns → xs = ns.map .int
  | [], _, h => by cases h; rfl
  | .int i :: r, _, h => by
    obtain ⟨l, h1, rfl⟩ := Option.map_eq_some_iff.mp h
    rw [ints_eq h1]
    rfl
  | .non :: _, _, h | .bl _ :: _, _, h | .str _ :: _, _, h | .tup _ :: _, _, h | .lst _ :: _, _, h | .ref _ :: _, _, h | .fn _ :: _, _, h | .ty _ :: _, _, h | .scr _ :: _, _, h | .emp :: _, _, h | .dct _ _ :: _, _, h => by cases h
theorem bools_eq : ∀ {xs : List D} {ns : List Bool}, D.bools xs = some ns → xs = ns.map .bl
  | [], _, h => by cases h; rfl
  | .bl i :: r, _, h => by
    obtain ⟨l, h1, rfl⟩ := Option.map_eq_some_iff.mp h
    rw [bools_eq h1]
    rfl
  | .non :: _, _, h | .int _ :: _, _, h | .str _ :: _, _, h | .tup _ :: _, _, h | .lst _ :: _, _, h | .ref _ :: _, _, h | .fn _ :: _, _, h | .ty _ :: _, _, h | .scr _ :: _, _, h | .emp :: _, _, h | .dct _ _ :: _, _, h => by cases h
theorem ints_map : ∀ ns : List Int, D.ints (ns.map .int) = some ns
  | [] => rfl
  | i :: r => by
    show (D.ints (r.map .int)).map _ = _
    rw [ints_map r]
    rfl
theorem bools_map : ∀ ns : List Bool, D.bools (ns.map .bl) = some ns
  | [] => rfl
  | i :: r => by
    show (D.bools (r.map .bl)).map _ = _
    rw [bools_map r]
    rfl
theorem Reps.ints : ∀ {ns : List Int} {vs : List V}, Reps G μ H (ns.map .int) vs → vs = ns.map V.int
  | [], _, h => by cases h; rfl
  | n :: ns, _, h => by
    cases h with
    | cons a b => cases a; rw [Reps.ints b]; rfl
theorem Reps.bools : ∀ {ns : List Bool} {vs : List V}, Reps G μ H (ns.map .bl) vs → vs = ns.map V.bl
  | [], _, h => by cases h; rfl
  | n :: ns, _, h => by
    cases h with
    | cons a b => cases a; rw [Reps.bools b]; rfl
theorem Reps.one {x : D} {vs : List V} (h : Reps G μ H [x] vs) : ∃ v, vs = [v] ∧ Rep G μ H x v := by
  cases h with
  | cons a b => cases b; exact ⟨_, rfl, a⟩
theorem Reps.two {x y : D} {vs : List V} (h : Reps G μ H [x, y] vs) : ∃ v w, vs = [v, w] ∧ Rep G μ H x v ∧ Rep G μ H y w := by
  cases h with
  | cons a b =>
    obtain ⟨w, rfl, c⟩ := b.one
    exact ⟨_, _, rfl, a, c⟩
/-- what a built-in over plain values asks -/
def rL (G : Glo) (f : List D → Option D) : List V → Hp → VK → Prop := fun vs H Q => ∃ μ st ds z, STR G μ st H ∧ RVs G μ H ds vs ∧ f ds = some z ∧ KE G (Rep G) μ H Q z st
theorem one_of {f : List D → Option D} {ds : List D} {z : D} (h : f ds = some z) (h0 : f [] = none) (h2 : ∀ x y r, f (x :: y :: r) = none) : ∃ x, ds = [x] := by
  match ds with
  | [] => rw [h0] at h; cases h
  | [x] => exact ⟨x, rfl⟩
  | x :: y :: r => rw [h2] at h; cases h
theorem two_of {f : List D → Option D} {ds : List D} {z : D} (h : f ds = some z) (h0 : f [] = none) (h1 : ∀ x, f [x] = none) (h2 : ∀ x y w r, f (x :: y :: w :: r) = none) : ∃ x y, ds = [x, y] := by
  match ds with
  | [] => rw [h0] at h; cases h
  | [x] => rw [h1] at h; cases h
  | [x, y] => exact ⟨x, y, rfl⟩
  | x :: y :: w :: r => rw [h2] at h; cases h
theorem len_ok (hK : G.K = X.K) : CallR X (.builtin "len") (rL G lenD) := by
  intro pins s σ H xs us Q I r hh
  obtain ⟨μ, st, ds, z, t, rs, e, k⟩ := hh
  obtain ⟨x, rfl⟩ := one_of e rfl (fun x y r => by cases x <;> rfl)
  obtain ⟨v, rfl, rx⟩ := rs.one
  cases x with
  | str y =>
    obtain ⟨hc, rfl⟩ := if_some e
    cases rx.str
    exact call_len pins s σ H _ us Q I r ⟨_, _, rfl, ⟨of_decide_eq_true hc, rfl⟩, k.here t (.int _)⟩
  | tup xs =>
    obtain ⟨a, vs, rfl, a1, r1⟩ := rx.tup
    cases e
    exact call_len pins s σ H _ us Q I r ⟨_, xs.length, rfl, .inr ⟨vs, hK ▸ a1.sq, r1.length⟩, k.here t (.int _)⟩
  | lst xs =>
    obtain ⟨a, vs, rfl, a1, r1⟩ := rx.lstE
    cases e
    exact call_len pins s σ H _ us Q I r ⟨_, xs.length, rfl, .inl ⟨vs, .inl (.inl a1), r1.length⟩, k.here t (.int _)⟩
  | scr ns =>
    obtain ⟨a, rfl, a1⟩ := rx.scr
    cases e
    exact call_len pins s σ H _ us Q I r ⟨_, ns.length, rfl, .inl ⟨_, hK ▸ a1.sq, by rw [List.length_map]⟩, k.here t (.int _)⟩
  | _ => cases e
theorem abs_ok : CallR X (.builtin "abs") (rL G absD) := by
  intro pins s σ H xs us Q I r hh
  obtain ⟨μ, st, ds, z, t, rs, e, k⟩ := hh
  obtain ⟨x, rfl⟩ := one_of e rfl (fun x y r => by cases x <;> rfl)
  obtain ⟨v, rfl, rx⟩ := rs.one
  cases x with
  | int i => cases e; cases rx.int; exact call_abs pins s σ H _ us Q I r ⟨_, rfl, k.here t (.int _)⟩
  | _ => cases e
theorem max_ok (hc : X.calm = true) : CallR X (.builtin "max") (rL G maxD) := by
  intro pins s σ H xs us Q I r hh
  obtain ⟨μ, st, ds, z, t, rs, e, k⟩ := hh
  obtain ⟨x, y, rfl⟩ := two_of e rfl (fun x => by cases x <;> rfl) (fun x y w r => by cases x <;> cases y <;> rfl)
  obtain ⟨v, w, rfl, rx, ry⟩ := rs.two
  cases x <;> cases y <;> first | (cases e; done) | skip
  cases e; cases rx.int; cases ry.int
  exact call_max2 hc pins s σ H _ us Q I r ⟨_, _, rfl, k.here t (.int _)⟩
theorem min_ok (hc : X.calm = true) : CallR X (.builtin "min") (rL G minD) := by
  intro pins s σ H xs us Q I r hh
  obtain ⟨μ, st, ds, z, t, rs, e, k⟩ := hh
  obtain ⟨x, y, rfl⟩ := two_of e rfl (fun x => by cases x <;> rfl) (fun x y w r => by cases x <;> cases y <;> rfl)
  obtain ⟨v, w, rfl, rx, ry⟩ := rs.two
  cases x <;> cases y <;> first | (cases e; done) | skip
  cases e; cases rx.int; cases ry.int
  exact call_min2 hc pins s σ H _ us Q I r ⟨_, _, rfl, k.here t (.int _)⟩
theorem int_ok : CallR X (.type "int") (rL G intD) := by
  intro pins s σ H xs us Q I r hh
  obtain ⟨μ, st, ds, z, t, rs, e, k⟩ := hh
  obtain ⟨x, rfl⟩ := one_of e rfl (fun x y r => by cases x <;> rfl)
  obtain ⟨v, rfl, rx⟩ := rs.one
  cases x with
  | int i => cases e; cases rx.int; exact call_int1 pins s σ H _ us Q I r (.inl ⟨_, rfl, k.here t (.int _)⟩)
  | bl i => cases e; cases rx.bl; exact call_int1 pins s σ H _ us Q I r (.inr ⟨_, rfl, k.here t (.int _)⟩)
  | _ => cases e
theorem tuple_ok (hK : G.K = X.K) : CallR X (.type "tuple") (rL G tupleD) := by
  intro pins s σ H xs us Q I r hh
  obtain ⟨μ, st, ds, z, t, rs, e, k⟩ := hh
  obtain ⟨x, rfl⟩ := one_of e rfl (fun x y r => by cases x <;> rfl)
  obtain ⟨v, rfl, rx⟩ := rs.one
  cases x with
  | tup xs =>
    obtain ⟨a, vs, rfl, a1, r1⟩ := rx.tup
    cases e
    exact call_tuple_of pins s σ H _ us Q I r ⟨a, vs, rfl, .inr ⟨hK ▸ a1.sq, k.here t (.tup a1 r1)⟩⟩
  | lst xs =>
    obtain ⟨a, vs, rfl, a1, r1⟩ := rx.lstE
    cases e
    exact call_tuple_of pins s σ H _ us Q I r ⟨a, vs, rfl, .inl ⟨.inl (.inl a1), fun p hp => k.tup t r1 hp⟩⟩
  | _ => cases e
theorem list_ok (hK : G.K = X.K) : CallR X (.type "list") (rL G listD) := by
  intro pins s σ H xs us Q I r hh
  obtain ⟨μ, st, ds, z, t, rs, e, k⟩ := hh
  obtain ⟨x, rfl⟩ := one_of e rfl (fun x y r => by cases x <;> rfl)
  obtain ⟨v, rfl, rx⟩ := rs.one
  cases x with
  | tup xs =>
    obtain ⟨a, vs, rfl, a1, r1⟩ := rx.tup
    cases e
    exact call_list_of pins s σ H _ us Q I r ⟨a, vs, rfl, .inr (hK ▸ a1.sq), fun p hp => k.lst t r1 hp⟩
  | lst xs =>
    obtain ⟨a, vs, rfl, a1, r1⟩ := rx.lstE
    cases e
    exact call_list_of pins s σ H _ us Q I r ⟨a, vs, rfl, .inl (.inl (.inl a1)), fun p hp => k.lst t r1 hp⟩
  | _ => cases e
theorem sum_ok (hK : G.K = X.K) (hc : X.calm = true) : CallR X (.builtin "sum") (rL G sumD) := by
  intro pins s σ H xs us Q I r hh
  obtain ⟨μ, st, ds, z, t, rs, e, k⟩ := hh
  obtain ⟨x, rfl⟩ := one_of e rfl (fun x y r => by cases x <;> rfl)
  obtain ⟨v, rfl, rx⟩ := rs.one
  cases x with
  | lst xs =>
    obtain ⟨a, vs, rfl, a1, r1⟩ := rx.lstE
    obtain ⟨ns, h1, rfl⟩ := Option.map_eq_some_iff.mp e
    rw [ints_eq h1] at r1
    refine cr_sum hc pins s σ H _ us Q I r ⟨a, ns, rfl, ?_, k.here t (.int _)⟩
    rw [← r1.ints]
    exact .inl (.inl a1)
  | _ => cases e
theorem all_ok (hK : G.K = X.K) (hc : X.calm = true) : CallR X (.builtin "all") (rL G allD) := by
  intro pins s σ H xs us Q I r hh
  obtain ⟨μ, st, ds, z, t, rs, e, k⟩ := hh
  obtain ⟨x, rfl⟩ := one_of e rfl (fun x y r => by cases x <;> rfl)
  obtain ⟨v, rfl, rx⟩ := rs.one
  cases x with
  | lst xs =>
    obtain ⟨a, vs, rfl, a1, r1⟩ := rx.lstE
    obtain ⟨ns, h1, rfl⟩ := Option.map_eq_some_iff.mp e
    rw [bools_eq h1] at r1
    refine cr_all hc pins s σ H _ us Q I r ⟨a, ns, rfl, ?_, k.here t (.bl _)⟩
    rw [← r1.bools]
    exact .inl (.inl a1)
  | _ => cases e
theorem any_ok (hK : G.K = X.K) (hc : X.calm = true) : CallR X (.builtin "any") (rL G anyD) := by
  intro pins s σ H xs us Q I r hh
  obtain ⟨μ, st, ds, z, t, rs, e, k⟩ := hh
  obtain ⟨x, rfl⟩ := one_of e rfl (fun x y r => by cases x <;> rfl)
  obtain ⟨v, rfl, rx⟩ := rs.one
  cases x with
  | lst xs =>
    obtain ⟨a, vs, rfl, a1, r1⟩ := rx.lstE
    obtain ⟨ns, h1, rfl⟩ := Option.map_eq_some_iff.mp e
    rw [bools_eq h1] at r1
    refine cr_any hc pins s σ H _ us Q I r ⟨a, ns, rfl, ?_, k.here t (.bl _)⟩
    rw [← r1.bools]
    exact .inl (.inl a1)
  | _ => cases e
theorem tyIs_ok {t n : String} {b : Bool} (h : tyIs t n = some b) : kitB t n = some b := by
  unfold tyIs at h
  split at h <;> first | (cases h; decide +kernel) | cases h
theorem tyX_of (hK : G.K = X.K) {x : D} {v : V} {n : String} (r : RV G μ H x v) (e : x.tyName = some n) : TyX X.K H v (.type n) := by
  cases x with
  | non => cases e; cases r.non; exact .base .non
  | bl b => cases e; cases r.bl; exact .base (.bl b)
  | int i => cases e; cases r.int; exact .base (.int i)
  | str y => cases e; cases r.str; exact .base (.str y)
  | tup xs =>
    obtain ⟨a, vs, rfl, a1, r1⟩ := r.tup
    cases e
    rcases a1 with ⟨_, h | ⟨o, h⟩⟩ | ⟨o, its, n, h1, h2, _⟩
    · exact .base (.tup h)
    · exact .fTuple h
    · exact .kTuple (hK ▸ h1) h2
  | lst xs =>
    obtain ⟨a, vs, rfl, a1, r1⟩ := r.lstE
    cases e
    exact .base (.lst a1)
  | scr ns =>
    obtain ⟨a, rfl, a1⟩ := r.scr
    cases e
    rcases a1 with ⟨_, h | ⟨o, h⟩⟩ | ⟨o, its, n, h1, h2, _⟩
    · exact .base (.lst h)
    · exact .base (.frz h)
    · exact .kList (hK ▸ h1) h2
  | emp =>
    obtain ⟨a, rfl, h | ⟨o, h⟩⟩ := r.emp
    · cases e; exact .base (.dK h)
    · cases e; exact .fDict h
  | _ => cases e
theorem isi_ok (hK : G.K = X.K) : CallR X (.builtin "isinstance") (rL G isiD) := by
  intro pins s σ H xs us Q I r hh
  obtain ⟨μ, st, ds, z, t, rs, e, k⟩ := hh
  obtain ⟨x, y, rfl⟩ := two_of e rfl (fun x => by cases x <;> rfl) (fun x y w r => by cases y <;> rfl)
  obtain ⟨v, w, rfl, rx, ry⟩ := rs.two
  cases y with
  | ty n =>
    cases ry.ty
    obtain ⟨b, h1, rfl⟩ := Option.map_eq_some_iff.mp e
    obtain ⟨tn, h2, h3⟩ := Option.bind_eq_some_iff.mp h1
    exact call_isi pins s σ H _ us Q I r ⟨v, _, _, _, b, rfl, .ty n, tyX_of hK rx h2, kit_ty (tyIs_ok h3), k.here t (.bl _)⟩
  | _ => cases e
theorem repr_ok (hK : G.K = X.K) (hg : Quiet X.A) (hu : X.A.units + 64 < cLine) : CallR X (.builtin "repr") (rL G reprD) := by
  intro pins s σ H xs us Q I r hh
  obtain ⟨μ, st, ds, z, t, rs, e, k⟩ := hh
  obtain ⟨x, rfl⟩ := one_of (f := reprD) e rfl (fun x y r => rfl)
  obtain ⟨v, rfl, rx⟩ := rs.one
  have e' : (x.data.bind fun p => if p.showable && (!p.hasDict && (decide (p.shown.length ≤ sizeLine) && decide (p.depth ≤ 60))) then some (D.str p.shown) else none) = some z := e
  obtain ⟨p, h1, h2⟩ := Option.bind_eq_some_iff.mp e'
  split at h2
  case isFalse => cases h2
  rename_i hc
  simp only [Bool.and_eq_true, Bool.not_eq_true', decide_eq_true_eq] at hc
  obtain ⟨c1, c2, c3, c4⟩ := hc
  cases h2
  have q : ∀ {tk : Tok}, EP X pins σ Q (.str p.shown s.toks) { s with toks := tk } := fun {tk} => ⟨.str p.shown, H, I.tok _, ⟨_, rfl⟩, k.here t (.str _)⟩
  cases r with
  | @cons _ u _ ur rv rr =>
    cases rr
    have dp : Dp X.K H v p := hK ▸ rx.data h1
    obtain ⟨as, rd⟩ := Dp.reads I p v u dp rv
    cases p with
    | none => cases dp; cases rv; exact P.repr_of_none q
    | bool b =>
      cases dp; cases rv
      refine P.repr_of_bool ?_
      cases b <;> exact q
    | int i =>
      cases dp
      obtain ⟨tk, rfl⟩ := rv
      exact P.repr_of_int (by simpa [PyData.showable] using c1) q
    | str y =>
      cases dp
      obtain ⟨tk, rfl⟩ := rv
      exact P.repr_of_str q c3
    | list ys =>
      cases dp
      cases rv
      exact repr_of_reads' rd c1 (PyData.noDict_hsm c2) hg (by omega) (fun _ _ z => z) (fun h' u tk hk => ⟨.str _, H, (I.kept (h' := h') (t' := tk) hk), ⟨_, rfl⟩, k.here t (.str _)⟩) c3
    | tuple ys =>
      cases dp
      cases rv
      exact repr_of_reads' rd c1 (PyData.noDict_hsm c2) hg (by omega) (fun _ _ z => z) (fun h' u tk hk => ⟨.str _, H, (I.kept (h' := h') (t' := tk) hk), ⟨_, rfl⟩, k.here t (.str _)⟩) c3
    | dict kvs => cases dp
theorem sort_call {xs : List D} {vs : List V} {z : D} {st : Sto} {Q : VK} (hK : G.K = X.K) (hu : X.A.units + 64 < cLine) (t : STR G μ st H) (e : sortO xs = some z) (r : Reps G μ H xs vs) (k : KE G (Rep G) μ H Q z st) :
    (∀ b ∈ xs.zip vs, X.A.units + 2 + (keyD b.1).depth < cLine) ∧ (∀ b ∈ xs.zip vs, Dp X.K H b.2 (keyD b.1)) ∧ PySem.W.AllAlike ((xs.zip vs).map fun b => keyD b.1) ∧ PySem.W.Sortable ((xs.zip vs).map fun b => keyD b.1) ∧ (xs.zip vs).map (·.2) = vs ∧ tSorted (xs.zip vs) (fun b => keyD b.1) (·.2) H Q := by
  unfold sortO at e
  cases hd : D.datas xs with
  | none => rw [hd] at e; cases e
  | some ps =>
    rw [hd] at e
    obtain ⟨hs, rfl⟩ := if_some e
    obtain ⟨rfl, hq⟩ := datas_get hd
    have h1 : (xs.zip vs).map (fun b => keyD b.1) = xs.map keyD := by
      rw [show (fun b : D × V => keyD b.1) = keyD ∘ Prod.fst from rfl, ← List.map_map, List.map_fst_zip (Nat.le_of_eq r.length)]
    have hm : ∀ b ∈ xs.zip vs, b.1 ∈ xs ∧ Rep G μ H b.1 b.2 := by
      have zz : ∀ {xs : List D} {vs : List V}, Reps G μ H xs vs → ∀ p ∈ xs.zip vs, p.1 ∈ xs ∧ Rep G μ H p.1 p.2 := by
        intro xs
        induction xs with
        | nil => intro vs _ p hp; simp at hp
        | cons x xs ih =>
          intro vs r p hp
          cases r with
          | cons a b =>
            rw [List.zip_cons_cons] at hp
            rcases List.mem_cons.mp hp with z | z
            · rw [z]; exact ⟨List.mem_cons_self, a⟩
            · exact ⟨List.mem_cons_of_mem _ (ih b p z).1, (ih b p z).2⟩
      exact zz r
    have hs' := Bool.and_eq_true_iff.mp hs
    have hs2 := Bool.and_eq_true_iff.mp hs'.2
    refine ⟨fun b hb => ?_, fun b hb => ?_, ?_, ?_, List.map_snd_zip (Nat.le_of_eq r.length.symm), fun p hp => k.lst t (sort_pairs r ⟨hq, hs⟩) hp⟩
    · have := of_decide_eq_true (List.all_eq_true.mp hs2.2 _ (List.mem_map_of_mem (hm b hb).1))
      omega
    · exact hK ▸ Rep.data _ _ _ (hm b hb).2 (hq _ (hm b hb).1)
    · rw [h1]
      exact fun d hd d' hd' => List.all_eq_true.mp (List.all_eq_true.mp hs'.1 d hd) d' hd'
    · rw [h1]
      rcases Bool.or_eq_true_iff.mp hs2.1 with z | z
      · refine .inl fun d hd => ?_
        have q := List.all_eq_true.mp z d hd
        unfold tupNE at q
        split at q
        · exact ⟨_, _, rfl⟩
        · cases q
      · refine .inr fun d hd => ?_
        have q := List.all_eq_true.mp z d hd
        unfold notTN at q
        split at q
        · cases q
        · cases q
        · rename_i a b
          exact ⟨fun e => b e, fun xs e => a xs e⟩
theorem sorted_ok (hK : G.K = X.K) (hw : G.w = X.w) (hc : X.calm = true) (hu : X.A.units + 64 < cLine) : CallR X (.builtin "sorted") (rL G sortedD) := by
  intro pins s σ H xs us Q I r hh
  obtain ⟨μ, st, ds, z, t, rs, e, k⟩ := hh
  obtain ⟨x, rfl⟩ := one_of e rfl (fun x y r => by cases x <;> rfl)
  obtain ⟨v, rfl, rx⟩ := rs.one
  cases x with
  | lst xs =>
    obtain ⟨a, vs, rfl, a1, r1⟩ := rx.lstE
    obtain ⟨q1, q2, q3, q4, q5, q6⟩ := sort_call (X := X) hK hu t e r1 k
    cases r with
    | cons ra rb =>
      cases rb
      cases ra
      exact sorted_list q1 I (.inl (.inl (by rw [q5]; exact a1))) q2 q3 q4 q6
  | dct ks vs =>
    obtain ⟨a, kvs, ob, us', ws, rfl, a1, hk, rfl, rfl, r1, r2⟩ := rx.dctE
    obtain ⟨q1, q2, q3, q4, q5, q6⟩ := sort_call (X := X) hK hu t e r1 k
    cases r with
    | cons ra rb =>
      cases rb
      cases ra
      exact sorted_dict hc q1 I (hw ▸ a1) q5.symm q2 q3 q4 q6
  | _ => cases e
theorem prs_ok {w : V} : ∀ {xs ks ws : List D} {vs : List V}, prsD xs = some (ks, ws) → ks.all (clsB true) = true → Reps G μ H xs vs → G.K = X.K →
    ∃ ps : List Ent, Paired (PairV X.K H) vs ps ∧ (∀ p ∈ ps, KTup X.K H p) ∧ ks.map kD = ps.map (fun p => some p.1) ∧ Reps G μ H ks (ps.map fun p => p.2.1) ∧ Reps G μ H ws (ps.map fun p => p.2.2)
  | [], _, _, _, h, _, r, _ => by
    cases h
    cases r
    exact ⟨[], .nil, fun p hp => (by cases hp), rfl, .nil, .nil⟩
  | x :: xs, _, _, _, h, hc, r, hK => by
    unfold prsD at h
    split at h
    · cases ‹x :: xs = []›
    · rename_i k v r' e
      injection e with e1 e2
      subst e1
      subst e2
      obtain ⟨⟨ks', ws'⟩, h1, h2⟩ := Option.map_eq_some_iff.mp h
      cases h2
      rw [List.all_cons, Bool.and_eq_true] at hc
      cases r with
      | cons ra rb =>
        obtain ⟨ps, p1, p2, p3, p4, p5⟩ := prs_ok (w := w) h1 hc.2 rb hK
        obtain ⟨b, vs', rfl, a1, r1⟩ := (RV.rep ra).tup
        obtain ⟨v1, v2, rfl, q1, q2⟩ := r1.two
        have hk := clsB_iff.mp hc.1
        obtain ⟨_, n, rfl, hn, _⟩ := kcls_t hk
        have hf := fit_one (w := v2) hk hn q1
        rw [if_pos rfl] at hf
        refine ⟨(n, v1, v2) :: ps, .cons ⟨b, rfl, hK ▸ a1.sq⟩ p1, fun p hp => ?_, ?_, .cons q1 p4, .cons q2 p5⟩
        · rcases List.mem_cons.mp hp with z | z
          · rw [z]; exact hK ▸ hf
          · exact p2 p z
        · rw [List.map_cons, List.map_cons, p3, hn]
    · cases h
theorem dict_ok (hK : G.K = X.K) (hw : G.w = X.w) (hc : X.calm = true) (hu : X.A.units + 64 < cLine) : CallR X (.type "dict") (rL G dictD) := by
  intro pins s σ H xs us Q I r hh
  obtain ⟨μ, st, ds, z, t, rs, e, k⟩ := hh
  obtain ⟨x, rfl⟩ := one_of e rfl (fun x y r => by cases x <;> rfl)
  obtain ⟨v, rfl, rx⟩ := rs.one
  cases x with
  | lst xs =>
    obtain ⟨a, vs, rfl, a1, r1⟩ := rx.lstE
    obtain ⟨⟨ks, ws⟩, e1, e2⟩ := Option.bind_eq_some_iff.mp (show (prsD xs).bind _ = some z from e)
    by_cases e3 : ks.all (clsB true) = true
    case neg => rw [if_neg e3] at e2; cases e2
    rw [if_pos e3] at e2
    have e4 := e2
    obtain ⟨q, e5, rfl⟩ := Option.map_eq_some_iff.mp (show (putsK [] [] ks ws).map (fun q => D.dct q.1 q.2) = some z from e4)
    obtain ⟨ps, p1, p2, p3, p4, p5⟩ := prs_ok (X := X) (w := .non) e1 e3 r1 hK
    obtain ⟨m1, m2, m3⟩ := puts_ok (kvs := []) ⟨rfl, true, rfl⟩ .nil .nil p3 p4 p5 e5
    cases r with
    | cons ra rb =>
      cases rb
      cases ra
      refine dict_pairs hc (by omega) I (.inl (.inl a1)) p1 p2 fun d ob hd => ?_
      exact k μ _ _ (Gr.new_ t.sub hd) (t.new_ hd) (.dct (fun z => t.tr _ z hd) (by rw [upd_same, hw]) m1 rfl rfl (m2.gr (Gr.new_ t.sub hd)) (m3.gr (Gr.new_ t.sub hd)))
  | _ => cases e
end
/-- the built-ins that may be called -/
def bis : List (Str × Value × (List D → Option D)) := [("len", .builtin "len", lenD), ("abs", .builtin "abs", absD), ("max", .builtin "max", maxD), ("min", .builtin "min", minD), ("int", .type "int", intD), ("tuple", .type "tuple", tupleD),
  ("list", .type "list", listD), ("sum", .builtin "sum", sumD), ("all", .builtin "all", allD), ("any", .builtin "any", anyD), ("isinstance", .builtin "isinstance", isiD), ("repr", .builtin "repr", reprD), ("sorted", .builtin "sorted", sortedD), ("dict", .type "dict", dictD)]
theorem bis_ok {G : Glo} {X : Cx} (hK : G.K = X.K) (hw : G.w = X.w) (hc : X.calm = true) (hg : Quiet X.A) (hu : X.A.units + 64 < cLine) {x : Str} {f : Value} {φ : List D → Option D} (h : (x, f, φ) ∈ bis) : bootBuiltins x = some f ∧ ((∃ id, f = .builtin id) ∨ ∃ T, f = .type T) ∧ x ≠ "__name__" ∧ (x == ("__debug__" : Str)) = false ∧ CallR X f (rL G φ) := by
  unfold bis at h
  simp only [List.mem_cons, List.not_mem_nil, or_false, Prod.mk.injEq] at h
  rcases h with ⟨rfl, rfl, rfl⟩ | ⟨rfl, rfl, rfl⟩ | ⟨rfl, rfl, rfl⟩ | ⟨rfl, rfl, rfl⟩ | ⟨rfl, rfl, rfl⟩ | ⟨rfl, rfl, rfl⟩ | ⟨rfl, rfl, rfl⟩ | ⟨rfl, rfl, rfl⟩ | ⟨rfl, rfl, rfl⟩ | ⟨rfl, rfl, rfl⟩ | ⟨rfl, rfl, rfl⟩ | ⟨rfl, rfl, rfl⟩ | ⟨rfl, rfl, rfl⟩ | ⟨rfl, rfl, rfl⟩
  · exact ⟨by decide +kernel, .inl ⟨_, rfl⟩, by decide, by decide, len_ok hK⟩
  · exact ⟨by decide +kernel, .inl ⟨_, rfl⟩, by decide, by decide, abs_ok⟩
  · exact ⟨by decide +kernel, .inl ⟨_, rfl⟩, by decide, by decide, max_ok hc⟩
  · exact ⟨by decide +kernel, .inl ⟨_, rfl⟩, by decide, by decide, min_ok hc⟩
  · exact ⟨by decide +kernel, .inr ⟨_, rfl⟩, by decide, by decide, int_ok⟩
  · exact ⟨by decide +kernel, .inr ⟨_, rfl⟩, by decide, by decide, tuple_ok hK⟩
  · exact ⟨by decide +kernel, .inr ⟨_, rfl⟩, by decide, by decide, list_ok hK⟩
  · exact ⟨by decide +kernel, .inl ⟨_, rfl⟩, by decide, by decide, sum_ok hK hc⟩
  · exact ⟨by decide +kernel, .inl ⟨_, rfl⟩, by decide, by decide, all_ok hK hc⟩
  · exact ⟨by decide +kernel, .inl ⟨_, rfl⟩, by decide, by decide, any_ok hK hc⟩
  · exact ⟨by decide +kernel, .inl ⟨_, rfl⟩, by decide, by decide, isi_ok hK⟩
  · exact ⟨by decide +kernel, .inl ⟨_, rfl⟩, by decide, by decide, repr_ok hK hg hu⟩
  · exact ⟨by decide +kernel, .inl ⟨_, rfl⟩, by decide, by decide, sorted_ok hK hw hc hu⟩
  · exact ⟨by decide +kernel, .inr ⟨_, rfl⟩, by decide, by decide, dict_ok hK hw hc hu⟩
end Gw

set_option Elab.async false
set_option linter.all false
set_option maxRecDepth 100000
set_option maxHeartbeats 1000000
/-! Gl3: sorted by (len(c), c), on values. -/
namespace Gw
open PySem PySem.Spec PySem.Calls PyProof.Rows L2 PySem.W LamX
def unkey : D → D
  | .tup [_, x] => x
  | x => x
def flatD (x : D) : Bool := match x with
  | .tup _ => (match x.data with
    | some d => flatP d
    | none => false)
  | _ => false
def sortLcO (xs : List D) : Option D := match D.datas (xs.map keyed) with
  | some ps => if sOkP ps = true ∧ xs.all flatD = true then some (.lst ((sortL (xs.map keyed)).map unkey)) else none
  | none => none
def sortLcD : List D → Option D
  | [.dct ks _] => sortLcO ks
  | _ => none
theorem flatD_tup {x : D} (h : flatD x = true) : ∃ ys d, x = .tup ys ∧ x.data = some d ∧ flatP d = true := by
  unfold flatD at h
  cases x <;> first | (cases h; done) | skip
  rename_i ys
  dsimp only at h
  cases hd : (D.tup ys).data with
  | none => rw [hd] at h; cases h
  | some d => rw [hd] at h; exact ⟨ys, d, rfl, rfl, h⟩
theorem zip_mem {G : Glo} {μ : Mp} {H : Hp} : ∀ {xs : List D} {vs : List V}, Reps G μ H xs vs → ∀ p ∈ xs.zip vs, p.1 ∈ xs ∧ Rep G μ H p.1 p.2
  | [], _, _, p, hp => by simp at hp
  | x :: xs, _, r, p, hp => by
    cases r with
    | cons a b =>
      rw [List.zip_cons_cons] at hp
      rcases List.mem_cons.mp hp with z | z
      · rw [z]; exact ⟨List.mem_cons_self, a⟩
      · exact ⟨List.mem_cons_of_mem _ (zip_mem b p z).1, (zip_mem b p z).2⟩
theorem reps_of {G : Glo} {μ : Mp} {H : Hp} : ∀ {L : List (D × V)}, (∀ p ∈ L, Rep G μ H p.1 p.2) → Reps G μ H (L.map (·.1)) (L.map (·.2))
  | [], _ => .nil
  | p :: L, h => .cons (h p List.mem_cons_self) (reps_of fun q hq => h q (List.mem_cons_of_mem _ hq))
theorem sortLc_parts {G : Glo} {μ : Mp} {H : Hp} {K : PySem.W.Frag} {xs : List D} {vs : List V} {z : D} (hK : G.K = K) (r : Reps G μ H xs vs) (e : sortLcO xs = some z) :
    (∀ b ∈ xs.zip vs, ItmOk K H b) ∧ AllAlike ((xs.zip vs).map keyP) ∧ Sortable ((xs.zip vs).map keyP) ∧ (∀ b ∈ xs.zip vs, (keyP b).depth ≤ 60) ∧ ∃ zs, z = .lst zs ∧ Reps G μ H zs (((xs.zip vs).mergeSort (dataLe false keyP)).map (·.2)) := by
  unfold sortLcO at e
  cases hd : D.datas (xs.map keyed) with
  | none => rw [hd] at e; cases e
  | some ps =>
    rw [hd] at e
    obtain ⟨⟨hs, hf⟩, rfl⟩ := if_some e
    obtain ⟨rfl, hq⟩ := datas_get hd
    have h1 : (xs.zip vs).map keyP = (xs.map keyed).map keyD := by
      rw [show (keyP : D × V → PyData) = (keyD ∘ keyed) ∘ Prod.fst from rfl, ← List.map_map, List.map_fst_zip (Nat.le_of_eq r.length), List.map_map]
    have hs' := Bool.and_eq_true_iff.mp hs
    have hs2 := Bool.and_eq_true_iff.mp hs'.2
    have hflat : ∀ x ∈ xs, flatD x = true := fun x hx => List.all_eq_true.mp hf x hx
    have hal : ∀ a ∈ xs.map keyed, ∀ b ∈ xs.map keyed, alike (keyD a) (keyD b) = true := fun a ha b hb => List.all_eq_true.mp (List.all_eq_true.mp hs'.1 _ (List.mem_map_of_mem ha)) _ (List.mem_map_of_mem hb)
    refine ⟨fun b hb => ?_, ?_, ?_, fun b hb => ?_, _, rfl, ?_⟩
    · obtain ⟨hx, rb⟩ := zip_mem r b hb
      obtain ⟨ys, d, ex, ed, fd⟩ := flatD_tup (hflat _ hx)
      obtain ⟨x, v⟩ := b
      dsimp only at ex rb ed
      subst ex
      have dp := Rep.data _ _ _ rb ed
      cases rb with
      | @tup t us _ a1 r1 =>
        refine ⟨t, us, d, rfl, hK ▸ a1.sq, hK ▸ dp, fd, ?_⟩
        unfold D.data at ed
        obtain ⟨ds, e1, rfl⟩ := Option.map_eq_some_iff.mp ed
        show keyD (.tup [.int ys.length, .tup ys]) = _
        unfold keyD
        simp only [D.data, D.datas, e1, Option.map_some, Option.bind_some, Option.getD_some, r1.length]
    · rw [h1]
      exact fun d hd d' hd' => List.all_eq_true.mp (List.all_eq_true.mp hs'.1 d hd) d' hd'
    · rw [h1]
      rcases Bool.or_eq_true_iff.mp hs2.1 with z | z
      · refine .inl fun d hd => ?_
        have q := List.all_eq_true.mp z d hd
        unfold tupNE at q
        split at q
        · exact ⟨_, _, rfl⟩
        · cases q
      · refine .inr fun d hd => ?_
        have q := List.all_eq_true.mp z d hd
        unfold notTN at q
        split at q
        · cases q
        · cases q
        · rename_i a b
          exact ⟨fun e => b e, fun xs e => a xs e⟩
    · exact of_decide_eq_true (List.all_eq_true.mp hs2.2 _ (by rw [← h1]; exact List.mem_map_of_mem hb))
    · have eL : ((xs.zip vs).mergeSort (dataLe false keyP)).map (fun b => keyed b.1) = sortL (xs.map keyed) := by
        refine (List.map_mergeSort (r := dataLe false keyP) (s := leD) (f := fun b : D × V => keyed b.1) (fun a _ b _ => rfl)).trans ?_
        rw [show (xs.zip vs).map (fun b => keyed b.1) = xs.map keyed by rw [show (fun b : D × V => keyed b.1) = keyed ∘ Prod.fst from rfl, ← List.map_map, List.map_fst_zip (Nat.le_of_eq r.length)]]
        refine sortL_eq fun a b ha hb h k => ?_
        refine data_inj a b _ (hq a ha) ?_
        rw [toks_inj (hal a ha b hb) ?_]
        · exact hq b hb
        · have k1 : PyProof.Rows.lexLt itemOrd (keyToks (keyD b)) (keyToks (keyD a)) = false := Bool.not_eq_true' _ ▸ (show (!PyProof.Rows.lexLt itemOrd (keyToks (keyD b)) (keyToks (keyD a))) = true from h)
          have k2 : PyProof.Rows.lexLt itemOrd (keyToks (keyD a)) (keyToks (keyD b)) = false := Bool.not_eq_true' _ ▸ (show (!PyProof.Rows.lexLt itemOrd (keyToks (keyD a)) (keyToks (keyD b))) = true from k)
          exact lex_total _ _ k2 k1
      rw [← eL, List.map_map]
      have hm : ∀ p ∈ (xs.zip vs).mergeSort (dataLe false keyP), p.1 ∈ xs ∧ Rep G μ H p.1 p.2 := fun p hp => zip_mem r p ((List.mergeSort_perm _ _).mem_iff.mp hp)
      have eu : ((xs.zip vs).mergeSort (dataLe false keyP)).map (unkey ∘ fun b => keyed b.1) = ((xs.zip vs).mergeSort (dataLe false keyP)).map (·.1) := by
        refine List.map_congr_left fun p hp => ?_
        obtain ⟨ys, d, ex, _⟩ := flatD_tup (hflat _ (hm p hp).1)
        show unkey (keyed p.1) = p.1
        rw [ex]
        rfl
      rw [eu]
      exact reps_of fun p hp => (hm p hp).2
end Gw

set_option Elab.async false
set_option linter.all false
set_option maxRecDepth 100000
set_option maxHeartbeats 1000000
/-! Gw5: targets, walks, comprehensions, loops by readings. -/
namespace Gw
open PySem PySem.Spec PyProof.Rows L2
/-! ### targets -/
def T.slots : T → List Nat
  | .nm i => [i]
  | .nil => []
  | .cons t ts => t.slots ++ ts.slots
def T.len : T → Nat
  | .cons _ ts => ts.len + 1
  | _ => 0
def gT (G : Glo) (t : T) : TG := fun v σ H Q => ∃ μ e st d e', SR G μ e σ H ∧ STR G μ st H ∧ Rep G μ H d v ∧ t.bind d e = some e' ∧
  ∀ σ', σ'.length = σ.length → (∀ j, j ∉ t.slots → σ'[j]? = σ[j]?) → SR G μ e' σ' H → Q σ' H
def gTs (G : Glo) (t : T) : TGs := fun vs σ H Q => ∃ μ e st ds e', SR G μ e σ H ∧ STR G μ st H ∧ Reps G μ H ds vs ∧ t.bind (.tup ds) e = some e' ∧
  ∀ σ', σ'.length = σ.length → (∀ j, j ∉ t.slots → σ'[j]? = σ[j]?) → SR G μ e' σ' H → Q σ' H
def T.isTup : T → Bool
  | .nm _ => false
  | .nil => true
  | .cons _ ts => ts.isTup
theorem T.bind_len : ∀ {t : T} {ds : List D} {e e' : Ev}, t.isTup = true → t.bind (.tup ds) e = some e' → ds.length = t.len
  | .nm _, _, _, _, h, _ => by cases h
  | .nil, [], _, _, _, _ => rfl
  | .nil, _ :: _, _, _, _, h => by cases h
  | .cons t ts, [], _, _, _, h => by cases h
  | .cons t ts, d :: ds, e, e', h, b => by
    have b' : ((t.bind d e).bind fun e1 => ts.bind (.tup ds) e1) = some e' := b
    obtain ⟨e1, h1, h2⟩ := Option.bind_eq_some_iff.mp b'
    show ds.length + 1 = ts.len + 1
    rw [T.bind_len (t := ts) h h2]
theorem PG.conv {X : Cx} {e : Expr} {t t' : TG} (h : PG X e t) (k : ∀ v σ H Q, t' v σ H Q → t v σ H Q) : PG X e t' := ⟨fun pins s σ H v u Q I r q => h.run pins s σ H v u Q I r (k _ _ _ _ q)⟩
theorem PGs.conv {X : Cx} {e : List Expr} {t t' : TGs} (h : PGs X e t) (k : ∀ v σ H Q, t' v σ H Q → t v σ H Q) : PGs X e t' := ⟨fun pins s σ H v u Q I r q => h.run pins s σ H v u Q I r (k _ _ _ _ q)⟩
section
variable {G : Glo} {X : Cx} {W : WX}
theorem nm_ok {i : Nat} {x : Str} {pos : Pos} (h : PG X (.Name x pos) (gName i)) : PG X (.Name x pos) (gT G (.nm i)) := by
  refine PG.conv h fun v σ H Q hh => ?_
  obtain ⟨μ, e, st, d, e', s, t, r, b, k⟩ := hh
  cases b
  refine k _ (by simp) (fun j hj => ?_) (s.set i r)
  rw [List.getElem?_set_ne]
  intro z
  exact hj (by simp [T.slots, z])
theorem tnil_ok : PGs X [] (gTs G .nil) := by
  refine PGs.conv pgs_nil fun vs σ H Q hh => ?_
  obtain ⟨μ, e, st, ds, e', s, t, r, b, k⟩ := hh
  cases ds with
  | nil =>
    cases b
    cases r
    exact ⟨rfl, k σ rfl (fun _ _ => rfl) s⟩
  | cons d ds => cases b
theorem tcons_ok {e0 : Expr} {es : List Expr} {t0 ts : T} (h1 : PG X e0 (gT G t0)) (h2 : PGs X es (gTs G ts)) (hs : (assignEach (e0 :: es) X.env).map (·.2) = assign e0 X.env :: (assignEach es X.env).map (·.2)) : PGs X (e0 :: es) (gTs G (.cons t0 ts)) := by
  refine PGs.conv (pgs_cons h1 h2 hs) fun vs σ H Q hh => ?_
  obtain ⟨μ, e, st, ds, e', s, t, r, b, k⟩ := hh
  cases ds with
  | nil => cases b
  | cons d ds =>
    have b' : ((t0.bind d e).bind fun e1 => ts.bind (.tup ds) e1) = some e' := b
    obtain ⟨e1, b1, b2⟩ := Option.bind_eq_some_iff.mp b'
    cases r with
    | cons r1 r2 =>
      refine ⟨_, _, rfl, μ, e, st, d, e1, s, t, r1, b1, fun σ1 hl1 hj1 s1 => ?_⟩
      refine ⟨μ, e1, st, ds, e', s1, t, r2, b2, fun σ2 hl2 hj2 s2 => k σ2 (hl2.trans hl1) (fun j hj => ?_) s2⟩
      have hj' : j ∉ t0.slots ++ ts.slots := hj
      rw [List.mem_append, not_or] at hj'
      rw [hj2 j hj'.2, hj1 j hj'.1]
theorem T.bind_lst : ∀ {t : T} {ds : List D} {e : Ev}, t.isTup = true → t.bind (.lst ds) e = t.bind (.tup ds) e
  | .nm _, _, _, h => by cases h
  | .nil, [], _, _ => rfl
  | .nil, _ :: _, _, _ => rfl
  | .cons t ts, [], _, _ => rfl
  | .cons t ts, d :: ds, _, _ => rfl
theorem PG.or {X : Cx} {e : Expr} {t t' : TG} (h : PG X e t) (h' : PG X e t') : PG X e fun v σ H Q => t v σ H Q ∨ t' v σ H Q :=
  ⟨fun pins s σ H v u Q I r q => q.elim (fun q => h.run pins s σ H v u Q I r q) fun q => h'.run pins s σ H v u Q I r q⟩
theorem ttup_ok {es : List Expr} {ts : T} {k : Nat} {pos : Pos} (hK : G.K = X.K) (hc : X.calm = true) (ht : ts.isTup = true) (h : PGs X es (gTs G ts)) (hn : (assignEach es X.env).length = ts.len) (hst : (assignEach es X.env).findIdx? (·.1) = none) : PG X (.Tuple es k pos) (gT G ts) := by
  refine PG.conv (Gw.PG.or (pg_tup hc h hn hst) (pg_lst hc h hn hst)) fun v σ H Q hh => ?_
  obtain ⟨μ, e, st, d, e', s, t, r, b, kk⟩ := hh
  have hd : ∃ ds, d = .tup ds ∨ d = .lst ds := by
    cases ts with
    | nm i => cases ht
    | nil => cases d <;> first | exact ⟨_, .inl rfl⟩ | exact ⟨_, .inr rfl⟩ | cases b
    | cons a c => cases d <;> first | exact ⟨_, .inl rfl⟩ | exact ⟨_, .inr rfl⟩ | cases b
  obtain ⟨ds, hd⟩ := hd
  rcases hd with rfl | rfl
  · cases r with
    | @tup a vs _ a1 r1 =>
      exact .inl ⟨a, vs, rfl, hK ▸ a1.sq, by rw [← r1.length]; exact T.bind_len ht b, μ, e, st, ds, e', s, t, r1, b, kk⟩
  · rw [T.bind_lst ht] at b
    cases r with
    | @lst a vs _ a1 r1 =>
      exact .inr ⟨a, vs, rfl, hK ▸ a1.sq, by rw [← r1.length]; exact T.bind_len ht b, μ, e, st, ds, e', s, t, r1, b, kk⟩

/-! ### what is walked -/
/-- a list's items, in whatever state the guard lets -/
def SrcL (G : Glo) (μ : Mp) (H : Hp) (gd : Gd) (a : Addr) (xs : List D) : Prop := ∀ μ2 H2 st2, GrW μ H μ2 H2 → STR G μ2 st2 H2 → gdB gd st2 = true → ∃ vs, H2 a = some (.lst vs) ∧ Reps G μ2 H2 xs vs
/-- J walks the items xs while the heap grows from (μ, H) and the guard holds -/
def ItOk (G : Glo) (μ : Mp) (H : Hp) (xs : List D) (gd : Gd) (J : It) : Prop := ∃ (Wg : Hp → Prop) (Y : Nat → Hp → V → Hp → Prop), Walk J xs.length Wg Y ∧ (∀ μ2 H2 st2, GrW μ H μ2 H2 → STR G μ2 st2 H2 → gdB gd st2 = true → Wg H2) ∧
  ∀ μ2 H2 st2 (i : Nat) v H3, GrW μ H μ2 H2 → STR G μ2 st2 H2 → gdB gd st2 = true → i < xs.length → Y i H2 v H3 → Gr μ2 H2 μ2 H3 ∧ STR G μ2 st2 H3 ∧ (∀ a o, H2 a = some o → H3 a = some o) ∧ ∃ d, xs[i]? = some d ∧ Rep G μ2 H3 d v
def iG (G : Glo) (W : WX) (den : Ev → M (List D × Gd)) : TI := fun σ H R => ∃ μ e st, SR G μ e σ H ∧ STR G μ st H ∧
  (den e st).All (fun p st' => ∀ μ' H' J, Gr μ H μ' H' → STR G μ' st' H' → ItOk G μ' H' p.1 p.2 J → R J H') (KX G W σ μ H)
theorem PI.conv {X : Cx} {tg e : Expr} {t t' : TI} (h : PI X tg e t) (k : ∀ σ H R, t' σ H R → t σ H R) : PI X tg e t' := ⟨fun pins s σ H R I q => h.run pins s σ H R I (k _ _ _ q)⟩
theorem src_imm {μ : Mp} {H : Hp} {a : Addr} {vs : List V} {xs : List D} (h : LsM G μ H a vs) (r : Reps G μ H xs vs) : SrcL G μ H [] a xs := fun μ2 H2 st2 g _ _ => ⟨vs, (h.grw g).2, Reps.grw g _ _ r⟩
theorem src_mut {μ : Mp} {H : Hp} {r : Nat} {a : Addr} {xs : List D} (h : μ.m[r]? = some a) : SrcL G μ H [(r, xs)] a xs := fun μ2 H2 st2 g t b => by
  obtain ⟨z, e, _⟩ := g.pre
  have ha : μ2.m[r]? = some a := by
    rw [e, List.getElem?_append_left (List.getElem?_eq_some_iff.mp h).1]
    exact h
  have hb : gd1 st2 (r, xs) = true := List.all_eq_true.mp b _ List.mem_cons_self
  unfold gd1 at hb
  cases hs : st2[r]? with
  | none => rw [hs] at hb; cases hb
  | some o =>
    rw [hs] at hb
    cases o with
    | lst ys =>
      have ey := D.beqs_eq xs ys hb
      subst ey
      obtain ⟨a', h1, vs, h2, h3⟩ := t.at_ r _ hs
      rw [ha] at h1
      cases h1
      exact ⟨vs, h2, h3⟩
    | hat => cases hb
    | tab q => cases hb
    | dct ks vs => cases hb
theorem SrcL.app {μ : Mp} {H : Hp} {gd gd' : Gd} {a : Addr} {xs : List D} (h : SrcL G μ H gd a xs) : SrcL G μ H (gd ++ gd') a xs := fun μ2 H2 st2 g t b => h μ2 H2 st2 g t (by
  unfold gdB at b ⊢
  rw [List.all_append] at b
  exact (Bool.and_eq_true_iff.mp b).1)
theorem SrcL.app' {μ : Mp} {H : Hp} {gd gd' : Gd} {a : Addr} {xs : List D} (h : SrcL G μ H gd' a xs) : SrcL G μ H (gd ++ gd') a xs := fun μ2 H2 st2 g t b => h μ2 H2 st2 g t (by
  unfold gdB at b ⊢
  rw [List.all_append] at b
  exact (Bool.and_eq_true_iff.mp b).2)
/-- a list of n items lies at a -/
def SzL (K : PySem.W.Frag) (a : Addr) (n : Nat) : Hp → Prop := fun H => ∃ vs, SqL K H a vs ∧ vs.length = n
theorem SrcL.sz {K : PySem.W.Frag} {μ : Mp} {H : Hp} {gd : Gd} {a : Addr} {xs : List D} (h : SrcL G μ H gd a xs) {μ2 : Mp} {H2 : Hp} {st2 : Sto} (g : GrW μ H μ2 H2) (t : STR G μ2 st2 H2) (b : gdB gd st2 = true) : SzL K a xs.length H2 := by
  obtain ⟨vs, h1, h2⟩ := h μ2 H2 st2 g t b
  exact ⟨vs, .inl (.inl h1), h2.length.symm⟩
theorem itok_list {μ : Mp} {H : Hp} {gd : Gd} {a : Addr} {xs : List D} (h : SrcL G μ H gd a xs) : ItOk G μ H xs gd (Itl X.K a) := by
  refine ⟨SzL X.K a xs.length, (Itl X.K a).yld, ⟨fun i H hi q => ?_, fun H q => ?_, fun _ _ _ _ _ _ y => y⟩, fun μ2 H2 st2 g t b => h.sz g t b, fun μ2 H2 st2 i v H3 g t b hi y => ?_⟩
  · obtain ⟨vs, h1, h2⟩ := q
    exact ⟨vs, vs[i]'(by omega), h1, List.getElem?_eq_getElem _⟩
  · obtain ⟨vs, h1, h2⟩ := q
    exact ⟨vs, h1, Nat.le_of_eq h2⟩
  · obtain ⟨rfl, hv⟩ := y
    obtain ⟨vs, h1, h2⟩ := h μ2 _ st2 g t b
    obtain ⟨d, e1, e2⟩ := h2.getV (hv vs (.inl (.inl h1)))
    exact ⟨Gr.refl t.sub, t, fun _ _ z => z, d, e1, e2⟩
theorem itok_tup {μ : Mp} {H : Hp} {a : Addr} {vs : List V} {xs : List D} (hK : G.K = X.K) (h : TpM G μ H a vs) (r : Reps G μ H xs vs) : ItOk G μ H xs [] (Itt X.K a) := by
  refine ⟨fun H => SqT X.K H a vs, YAt vs, by rw [r.length]; exact walk_tup, fun μ2 H2 _ g _ _ => hK ▸ (h.grw g).sq, fun μ2 H2 st2 i v H3 g t _ hi y => ?_⟩
  obtain ⟨rfl, hv⟩ := y
  obtain ⟨d, h1, h2⟩ := (Reps.grw g _ _ r).getV hv
  exact ⟨Gr.refl t.sub, t, fun _ _ z => z, d, h1, h2⟩
theorem itok_range {μ : Mp} {H : Hp} {lo hi : Int} : ItOk G μ H (rangeD lo hi) [] (Itr lo (hi - lo).toNat) := by
  have hl : (rangeD lo hi).length = (hi - lo).toNat := by simp [rangeD]
  refine ⟨fun _ => True, _, by rw [hl]; exact walk_range, fun _ _ _ _ _ _ => True.intro, fun μ2 H2 st2 i v H3 g t _ hi' y => ?_⟩
  obtain ⟨rfl, rfl⟩ := y
  refine ⟨Gr.refl t.sub, t, fun _ _ z => z, .int (lo + i), ?_, .int _⟩
  rw [hl] at hi'
  simp [rangeD, hi']
theorem itok_rangeC {μ : Mp} {H : Hp} {lo c : Int} {n : Nat} : ItOk G μ H (rangeC lo c n) [] (Itc lo c n) := by
  have hl : (rangeC lo c n).length = n := by simp [rangeC]
  refine ⟨fun _ => True, _, by rw [hl]; exact walk_rangeC, fun _ _ _ _ _ _ => True.intro, fun μ2 H2 st2 i v H3 g t _ hi' y => ?_⟩
  obtain ⟨rfl, rfl⟩ := y
  refine ⟨Gr.refl t.sub, t, fun _ _ z => z, .int (lo + (i : Int) * c), ?_, .int _⟩
  rw [hl] at hi'
  simp [rangeC, hi']
theorem pair_new {μ2 : Mp} {H2 : Hp} {st2 : Sto} {p : Addr} {x y : V} {a b : D} (t : STR G μ2 st2 H2) (hp : H2 p = none) (ra : Rep G μ2 H2 a x) (rb : Rep G μ2 H2 b y) :
    Gr μ2 H2 μ2 (upd H2 p (.tup [x, y])) ∧ STR G μ2 st2 (upd H2 p (.tup [x, y])) ∧ (∀ a o, H2 a = some o → (upd H2 p (.tup [x, y])) a = some o) ∧ Rep G μ2 (upd H2 p (.tup [x, y])) (.tup [a, b]) (.ref p) :=
  ⟨Gr.new_ t.sub hp, t.new_ hp, fun c o e => by rw [upd_ne (ne_of_none e hp)]; exact e, Rep.tup_new t hp (.cons ra (.cons rb .nil))⟩
theorem zip_get {xs ys : List D} {i : Nat} {a b : D} (h1 : xs[i]? = some a) (h2 : ys[i]? = some b) : (zipL xs ys)[i]? = some (.tup [a, b]) := by
  unfold zipL
  rw [List.getElem?_map, List.getElem?_zip_eq_some (z := (a, b)) |>.mpr ⟨h1, h2⟩]
  rfl
theorem zip_len (xs ys : List D) : (zipL xs ys).length = min xs.length ys.length := by unfold zipL; rw [List.length_map, List.length_zip]
theorem walk_zipTT {K : PySem.W.Frag} {a b : Addr} {xs ys : List V} {n : Nat} (hn : n = min xs.length ys.length) : Walk (RZ.ItzT K a b) n (fun H => SqT K H a xs ∧ SqT K H b ys) (YPair (fun i => xs[i]?) (fun i => ys[i]?)) := by
  subst hn
  refine ⟨fun i _ hi q => ?_, fun _ q => ⟨xs, ys, q.1, q.2, by omega⟩, fun i H v H' _ q y => ?_⟩
  · have h1 : i < xs.length := by omega
    have h2 : i < ys.length := by omega
    exact ⟨xs, ys, xs[i], ys[i], q.1, q.2, by simp [h1], by simp [h2]⟩
  · obtain ⟨T, x, z, h1, h2, h3, h4, h5⟩ := y
    exact ⟨T, x, z, h1, h2, h3, h4 xs q.1, h5 ys q.2⟩
theorem itok_zipL {μ : Mp} {H : Hp} {gd gd' : Gd} {a b : Addr} {xs ys : List D} (h : SrcL G μ H gd a xs) (h' : SrcL G μ H gd' b ys) : ItOk G μ H (zipL xs ys) (gd ++ gd') (Itz X.K a b) := by
  have k := h.app (gd' := gd')
  have k' := h'.app' (gd := gd)
  refine ⟨fun H => SzL X.K a xs.length H ∧ SzL X.K b ys.length H, (Itz X.K a b).yld, ⟨fun i H hi q => ?_, fun H q => ?_, fun _ _ _ _ _ _ y => y⟩, fun μ2 H2 st2 g t b => ⟨k.sz g t b, k'.sz g t b⟩, fun μ2 H2 st2 i v H3 g t b hi y => ?_⟩
  · obtain ⟨⟨vs, h1, h2⟩, ws, h3, h4⟩ := q
    rw [zip_len] at hi
    exact ⟨vs, ws, vs[i]'(by omega), ws[i]'(by omega), h1, h3, List.getElem?_eq_getElem _, List.getElem?_eq_getElem _⟩
  · obtain ⟨⟨vs, h1, h2⟩, ws, h3, h4⟩ := q
    refine ⟨vs, ws, h1, h3, ?_⟩
    rw [zip_len]
    omega
  · obtain ⟨T, x, z, rfl, hT, rfl, hx, hz⟩ := y
    obtain ⟨vs, h1, h2⟩ := k μ2 _ st2 g t b
    obtain ⟨ws, h3, h4⟩ := k' μ2 _ st2 g t b
    obtain ⟨d1, e1, q1⟩ := h2.getV (hx vs (.inl (.inl h1)))
    obtain ⟨d2, e2, q2⟩ := h4.getV (hz ws (.inl (.inl h3)))
    obtain ⟨g1, g2, g3, g4⟩ := pair_new t hT q1 q2
    exact ⟨g1, g2, g3, _, zip_get e1 e2, g4⟩
theorem itok_zipT {μ : Mp} {H : Hp} {a b : Addr} {vs ws : List V} {xs ys : List D} (hK : G.K = X.K) (h : TpM G μ H a vs) (h' : TpM G μ H b ws) (r : Reps G μ H xs vs) (r' : Reps G μ H ys ws) : ItOk G μ H (zipL xs ys) [] (RZ.ItzT X.K a b) := by
  have hl : (zipL xs ys).length = min vs.length ws.length := by rw [zip_len, r.length, r'.length]
  refine ⟨fun H => SqT X.K H a vs ∧ SqT X.K H b ws, _, walk_zipTT hl, fun μ2 H2 _ g _ _ => ⟨hK ▸ (h.grw g).sq, hK ▸ (h'.grw g).sq⟩, fun μ2 H2 st2 i v H3 g t _ hi y => ?_⟩
  obtain ⟨p, x, y, rfl, hp, rfl, hx, hy⟩ := y
  obtain ⟨d1, e1, q1⟩ := (Reps.grw g _ _ r).getV hx
  obtain ⟨d2, e2, q2⟩ := (Reps.grw g _ _ r').getV hy
  obtain ⟨g1, g2, g3, g4⟩ := pair_new t hp q1 q2
  exact ⟨g1, g2, g3, _, zip_get e1 e2, g4⟩
/-- the items of a dict that stays -/
theorem itok_items {μ : Mp} {H : Hp} {a : Addr} {kvs : List Ent} {ob : Obj} {ks vs : List D} (hw : G.w = X.w) (hn : a ∉ μ.M) (e : H a = some (DxO G.w a kvs ob)) (hk : KRel ks kvs) (r1 : Reps G μ H ks (kvs.map fun p => p.2.1)) (r2 : Reps G μ H vs (kvs.map fun p => p.2.2)) : ItOk G μ H (itmL ks vs) [] (ItIx X.w a kvs ob) := by
  have l1 : ks.length = kvs.length := by have := r1.length; rwa [List.length_map] at this
  have l2 : vs.length = kvs.length := by have := r2.length; rwa [List.length_map] at this
  have hl : (itmL ks vs).length = kvs.length := by unfold itmL; rw [List.length_map, List.length_zip, l1, l2, Nat.min_self]
  refine ⟨fun H => H a = some (DxO X.w a kvs ob), (ItIx X.w a kvs ob).yld, ⟨fun i H hi q => ⟨q, by rw [← hl]; exact hi⟩, fun H q => ⟨q, Nat.le_of_eq hl.symm⟩, fun _ _ _ _ _ _ y => y⟩, fun μ2 H2 st2 g t _ => ?_, fun μ2 H2 st2 i v H3 g t _ hi y => ?_⟩
  · rw [← hw]
    exact g.keep _ _ e hn fun _ z => by cases z
  · obtain ⟨T, p, hp, rfl, hT, rfl⟩ := y
    obtain ⟨d1, e1, q1⟩ := (Reps.grw g _ _ r1).getV (i := i) (v := p.2.1) (by rw [List.getElem?_map, hp]; rfl)
    obtain ⟨d2, e2, q2⟩ := (Reps.grw g _ _ r2).getV (i := i) (v := p.2.2) (by rw [List.getElem?_map, hp]; rfl)
    obtain ⟨g1, g2, g3, g4⟩ := pair_new t hT q1 q2
    exact ⟨g1, g2, g3, _, zip_get e1 e2, g4⟩
theorem enu_len (xs : List D) : (enuL xs).length = xs.length := by unfold enuL; rw [List.length_map, List.length_zip, List.length_range, Nat.min_self]
theorem itok_enum {μ : Mp} {H : Hp} {gd : Gd} {a : Addr} {xs : List D} (h : SrcL G μ H gd a xs) : ItOk G μ H (enuL xs) gd (Ite X.K a) := by
  refine ⟨SzL X.K a xs.length, (Ite X.K a).yld, ⟨fun i H hi q => ?_, fun H q => ?_, fun _ _ _ _ _ _ y => y⟩, fun μ2 H2 st2 g t b => h.sz g t b, fun μ2 H2 st2 i v H3 g t b hi y => ?_⟩
  · obtain ⟨vs, h1, h2⟩ := q
    rw [enu_len] at hi
    exact ⟨vs, vs[i]'(by omega), h1, List.getElem?_eq_getElem _⟩
  · obtain ⟨vs, h1, h2⟩ := q
    exact ⟨vs, h1, by rw [enu_len]; omega⟩
  · obtain ⟨T, x, rfl, hT, rfl, hx⟩ := y
    obtain ⟨vs, h1, h2⟩ := h μ2 _ st2 g t b
    obtain ⟨d2, e2, q2⟩ := h2.getV (hx vs (.inl (.inl h1)))
    obtain ⟨g1, g2, g3, g4⟩ := pair_new t hT (.int (i : Nat)) q2
    refine ⟨g1, g2, g3, _, ?_, g4⟩
    have hi' : i < xs.length := (List.getElem?_eq_some_iff.mp e2).1
    unfold enuL
    rw [List.getElem?_map, List.getElem?_zip_eq_some (z := (i, d2)) |>.mpr ⟨by rw [List.getElem?_range hi'], e2⟩]
    rfl
theorem lsM_eq {d : D} (h : ¬ ∃ xs, d = .tup xs) : lsM d = lsL d := by
  cases d <;> first | rfl | exact absurd ⟨_, rfl⟩ h
/-- a list that is walked: where it lies -/
theorem lsL_all {μ : Mp} {H : Hp} {d : D} {v : V} {st : Sto} {P : List D × Gd → Sto → Prop} {E : Str → D → Sto → Prop} (t : STR G μ st H) (r : Rep G μ H d v) (h : (lsL d st).All P E) : ∃ a xs gd vs, v = .ref a ∧ H a = some (.lst vs) ∧ SrcL G μ H gd a xs ∧ P (xs, gd) st := by
  cases d <;> first | exact h.elim | skip
  · rename_i xs
    cases r with
    | lst a1 r1 => exact ⟨_, xs, [], _, rfl, a1.2, src_imm a1 r1, h⟩
  · rename_i i
    have h' : ((match st[i]? with
      | some (.lst xs) => .ok (xs, [(i, xs)]) st
      | _ => .bad) : Tr (List D × Gd)).All P E := h
    cases hs : st[i]? with
    | none => rw [hs] at h'; exact h'.elim
    | some o =>
      rw [hs] at h'
      cases o with
      | lst xs =>
        cases r with
        | ref e =>
          obtain ⟨a', h1, vs, h2, h3⟩ := t.at_ i _ hs
          rw [e] at h1
          cases h1
          exact ⟨_, xs, [(i, xs)], vs, rfl, h2, src_mut e, h'⟩
      | hat => exact h'.elim
      | tab q => exact h'.elim
      | dct ks vs => exact h'.elim
theorem chk_all {α : Type} {gd : Gd} {m : M α} {st : Sto} {P : α → Sto → Prop} {E : Str → D → Sto → Prop} (h : (chk gd m st).All P E) : gdB gd st = true ∧ (m st).All P E := by
  unfold chk at h
  split at h
  · rename_i b; exact ⟨b, h⟩
  · exact h.elim
theorem chk_bind {α β : Type} {gd : Gd} {m : M α} {k : α → Sto → Tr β} {st : Sto} {P : β → Sto → Prop} {E : Str → D → Sto → Prop} (h : ((chk gd m st).bind k).All P E) : gdB gd st = true ∧ ((m st).bind k).All P E := by
  unfold chk at h
  split at h
  · rename_i b; exact ⟨b, h⟩
  · exact h.elim
theorem lc_cons (f : D → M (Option D)) (gd : Gd) (acc : List D) (x : D) (xs : List D) : lcGo f gd acc (x :: xs) = chk gd (andThen (f x) fun o => match o with
    | some y => if acc.length < sizeLine then lcGo f gd (acc ++ [y]) xs else badM
    | none => lcGo f gd acc xs) := rfl
theorem lc2_cons (fo : D → M (Option Ev)) (fit : Ev → M (List D × Gd)) (fi : Ev → D → M (Option D)) (gd : Gd) (acc : List D) (x : D) (xs : List D) : lc2Go fo fit fi gd acc (x :: xs) = chk gd (andThen (fo x) fun o => match o with
    | none => lc2Go fo fit fi gd acc xs
    | some e => andThen (fit e) fun ys => andThen (lcGo (fi e) ys.2 acc ys.1) fun acc' => lc2Go fo fit fi gd acc' xs) := rfl
theorem lc_gd {f : D → M (Option D)} {gd : Gd} {acc l : List D} {β : Type} {k : List D → Sto → Tr β} {st : Sto} {P : β → Sto → Prop} {E : Str → D → Sto → Prop} (h : ((lcGo f gd acc l st).bind k).All P E) : gdB gd st = true := by
  cases l with
  | nil => exact (chk_bind (m := ret acc) h).1
  | cons x l => exact (chk_bind h).1
theorem lc2_gd {fo : D → M (Option Ev)} {fit : Ev → M (List D × Gd)} {fi : Ev → D → M (Option D)} {gd : Gd} {acc l : List D} {β : Type} {k : List D → Sto → Tr β} {st : Sto} {P : β → Sto → Prop} {E : Str → D → Sto → Prop} (h : ((lc2Go fo fit fi gd acc l st).bind k).All P E) : gdB gd st = true := by
  cases l with
  | nil => exact (chk_bind (m := ret acc) h).1
  | cons x l => exact (chk_bind h).1
theorem for_gd {g : T} {b : Ev → M (Fl × Ev)} {gd : Gd} {l : List D} {e : Ev} {st : Sto} {P : Fl × Ev → Sto → Prop} {E : Str → D → Sto → Prop} (h : (forGo g b gd l e st).All P E) : gdB gd st = true := by
  cases l with
  | nil => exact (chk_all (m := ret (Fl.nx, e)) h).1
  | cons x l => exact (chk_all h).1

/-! ### less is forbidden; what is forbidden may change -/
theorem TpM.less {μ μ' : Mp} {H : Hp} {a : Addr} {vs : List V} (hs : ∀ a ∈ μ'.M, a ∈ μ.M) (h : TpM G μ H a vs) : TpM G μ' H a vs := h.elim (fun z => .inl ⟨fun q => z.1 (hs _ q), z.2⟩) .inr
theorem ScM.less {μ μ' : Mp} {H : Hp} {a : Addr} {vs : List V} (hs : ∀ a ∈ μ'.M, a ∈ μ.M) (h : ScM G μ H a vs) : ScM G μ' H a vs := h.elim (fun z => .inl ⟨fun q => z.1 (hs _ q), z.2⟩) .inr
mutual
theorem Rep.less {μ μ' : Mp} {H : Hp} (hs : ∀ a ∈ μ'.M, a ∈ μ.M) (hm : ∃ r, μ'.m = μ.m ++ r) : ∀ (d : D) (v : V), Rep G μ H d v → Rep G μ' H d v
  | .non, _, h => by cases h; exact .non
  | .bl b, _, h => by cases h; exact .bl b
  | .int i, _, h => by cases h; exact .int i
  | .str x, _, h => by cases h; exact .str x
  | .ty n, _, h => by cases h; exact .ty n
  | .fn x, _, h => by cases h with | fn e => exact .fn e
  | .ref i, _, h => by
    cases h with
    | ref e =>
      obtain ⟨r, hr⟩ := hm
      refine .ref ?_
      rw [hr, List.getElem?_append_left (List.getElem?_eq_some_iff.mp e).1]
      exact e
  | .tup xs, _, h => by cases h with | tup a b => exact .tup (a.less hs) (Reps.less hs hm xs _ b)
  | .lst xs, _, h => by cases h with | lst a b => exact .lst ⟨fun q => a.1 (hs _ q), a.2⟩ (Reps.less hs hm xs _ b)
  | .scr ns, _, h => by cases h with | scr a => exact .scr (a.less hs)
  | .emp, _, h => by cases h with | emp n r => exact .emp (fun q => n (hs _ q)) r
  | .dct ks vs, _, h => by cases h with | dct n e k u w r1 r2 => exact .dct (fun q => n (hs _ q)) e k u w (Reps.less hs hm ks _ r1) (Reps.less hs hm vs _ r2)
theorem Reps.less {μ μ' : Mp} {H : Hp} (hs : ∀ a ∈ μ'.M, a ∈ μ.M) (hm : ∃ r, μ'.m = μ.m ++ r) : ∀ (ds : List D) (vs : List V), Reps G μ H ds vs → Reps G μ' H ds vs
  | [], _, h => by cases h; exact .nil
  | d :: ds, _, h => by cases h with | cons a b => exact .cons (Rep.less hs hm d _ a) (Reps.less hs hm ds _ b)
end
theorem rd_upd {μ : Mp} {H : Hp} {a p : Addr} {o u : HO} (hp : p ∈ μ.M) (n : a ∉ μ.M) (h : Rd H a u) : Rd (upd H p o) a u := by
  have ne : a ≠ p := fun z => n (by rw [z]; exact hp)
  rcases h with h | ⟨q, h⟩
  · exact .inl (by rw [upd_ne ne]; exact h)
  · exact .inr ⟨q, by rw [upd_ne ne]; exact h⟩
mutual
theorem Rep.upd_ {μ : Mp} {H : Hp} {p : Addr} {o : HO} (hp : p ∈ μ.M) : ∀ (d : D) (v : V), Rep G μ H d v → Rep G μ (upd H p o) d v
  | .non, _, h => by cases h; exact .non
  | .bl b, _, h => by cases h; exact .bl b
  | .int i, _, h => by cases h; exact .int i
  | .str x, _, h => by cases h; exact .str x
  | .ty n, _, h => by cases h; exact .ty n
  | .fn x, _, h => by cases h with | fn e => exact .fn e
  | .ref i, _, h => by cases h with | ref e => exact .ref e
  | .tup xs, _, h => by cases h with | tup a b => exact .tup (a.elim (fun z => .inl ⟨z.1, rd_upd hp z.1 z.2⟩) .inr) (Reps.upd_ hp xs _ b)
  | .lst xs, _, h => by cases h with | lst a b => exact .lst ⟨a.1, by rw [upd_ne fun z => a.1 (by rw [z]; exact hp)]; exact a.2⟩ (Reps.upd_ hp xs _ b)
  | .scr ns, _, h => by cases h with | scr a => exact .scr (a.elim (fun z => .inl ⟨z.1, rd_upd hp z.1 z.2⟩) .inr)
  | .emp, _, h => by cases h with | emp n r => exact .emp n (rd_upd hp n r)
  | .dct ks vs, _, h => by cases h with | dct n e k u w r1 r2 => exact .dct n (by rw [upd_ne fun z => n (by rw [z]; exact hp)]; exact e) k u w (Reps.upd_ hp ks _ r1) (Reps.upd_ hp vs _ r2)
theorem Reps.upd_ {μ : Mp} {H : Hp} {p : Addr} {o : HO} (hp : p ∈ μ.M) : ∀ (ds : List D) (vs : List V), Reps G μ H ds vs → Reps G μ (upd H p o) ds vs
  | [], _, h => by cases h; exact .nil
  | d :: ds, _, h => by cases h with | cons a b => exact .cons (Rep.upd_ hp d _ a) (Reps.upd_ hp ds _ b)
end
theorem ORep.less {μ μ' : Mp} {H : Hp} {a : Addr} {o : MO} (hs : ∀ a ∈ μ'.M, a ∈ μ.M) (hm : ∃ r, μ'.m = μ.m ++ r) (h : ORep G μ H a o) : ORep G μ' H a o := by
  cases o with
  | lst xs => obtain ⟨vs, h1, h2⟩ := h; exact ⟨vs, h1, h2.less hs hm⟩
  | hat => exact h
  | dct ks vs => obtain ⟨kvs, ob, us, ws, h1, k, hu, hw, r1, r2⟩ := h; exact ⟨kvs, ob, us, ws, h1, k, hu, hw, r1.less hs hm, r2.less hs hm⟩
  | tab q =>
    obtain ⟨ps, h1, h2, h3⟩ := h
    refine ⟨ps, h1, h2, fun pos cv hc => ?_⟩
    obtain ⟨c, k1, k2, k3⟩ := h3 pos cv hc
    exact ⟨c, k1, fun z => k2 (hs c z), k3⟩
/-- an address that is forbidden, but not at hand, changes -/
theorem STR.upd_ {μ : Mp} {H : Hp} {st : Sto} {p : Addr} {o : HO} (t : STR G μ st H) (hp : p ∈ μ.M) (hn : p ∉ μ.m) (nt : ∀ ps, o ≠ .tbl ps := by intro _ z; cases z) : STR G μ st (upd H p o) := by
  refine ⟨t.len, fun i x h => ?_, t.sub, t.nd, fun a h => ?_, t.tb, fun a ps h => let ⟨_, z⟩ := tbl_upd nt a ps h; t.tin a _ z⟩
  · obtain ⟨a, h1, h2⟩ := t.at_ i x h
    have ne : a ≠ p := fun z => hn (by rw [← z]; exact List.mem_of_getElem? h1)
    refine ⟨a, h1, ?_⟩
    cases x with
    | lst xs => obtain ⟨vs, q1, q2⟩ := h2; exact ⟨vs, by rw [upd_ne ne]; exact q1, q2.upd_ hp⟩
    | dct ks vs => obtain ⟨kvs, ob, us, vs', q1, k, hu, hw, r1, r2⟩ := h2; exact ⟨kvs, ob, us, vs', by rw [upd_ne ne]; exact q1, k, hu, hw, r1.upd_ hp, r2.upd_ hp⟩
    | hat => obtain ⟨x, y, z, q1, q2⟩ := h2; exact ⟨x, y, z, by rw [upd_ne ne]; exact q1, q2⟩
    | tab q =>
      obtain ⟨ps, q1, q2, q3⟩ := h2
      refine ⟨ps, by rw [upd_ne ne]; exact q1, q2, fun pos cv hc => ?_⟩
      obtain ⟨c, k1, k2, k3⟩ := q3 pos cv hc
      exact ⟨c, k1, k2, by rw [upd_ne fun z => k2 (by rw [z]; exact hp)]; exact k3⟩
  · by_cases z : a = p
    · exact .inr ⟨o, by rw [z, upd_same], nt⟩
    · rcases t.lt a h with y | ⟨u, y, nu⟩
      · exact .inl y
      · exact .inr ⟨u, by rw [upd_ne z]; exact y, nu⟩
theorem SR.wipe {μ : Mp} {e : Ev} {σ : L2.St} {H : Hp} (s : SR G μ e σ H) : ∀ vs : List Nat, SR G μ (wipeE e vs) (wipe σ vs) H
  | [] => s
  | v :: vs => by
    have ih := SR.wipe s vs
    refine ⟨by show ((wipeE e vs).set v none).length = ((L2.wipe σ vs).set v none).length; simp [ih.len], fun j d h => ?_⟩
    have h' : ((wipeE e vs).set v none)[j]? = some (some d) := h
    by_cases hj : v = j
    · subst hj
      by_cases hl : v < (wipeE e vs).length
      · rw [List.getElem?_set_self hl] at h'; cases h'
      · rw [List.getElem?_eq_none (by simpa using hl)] at h'; cases h'
    · rw [List.getElem?_set_ne hj] at h'
      obtain ⟨v', h1, h2⟩ := ih.slot j d h'
      exact ⟨v', by show ((L2.wipe σ vs).set v none)[j]? = _; rw [List.getElem?_set_ne hj]; exact h1, h2⟩
theorem wipe_get (σ : L2.St) : ∀ (vs : List Nat) (j : Nat), j < σ.length → (wipe σ vs)[j]? = if j ∈ vs then some none else σ[j]?
  | [], j, _ => by simp [wipe]
  | v :: vs, j, hl => by
    have ih := wipe_get σ vs j hl
    show ((wipe σ vs).set v none)[j]? = _
    by_cases hj : v = j
    · subst hj
      rw [List.getElem?_set_self (by rw [wipe_length]; exact hl)]
      simp
    · rw [List.getElem?_set_ne hj, ih]
      by_cases hm : j ∈ vs
      · simp [hm]
      · simp [hm, show j ≠ v from fun z => hj z.symm]
theorem wipe_same {σ σ' : L2.St} {vs : List Nat} (hl : σ'.length = σ.length) (h : ∀ j, j ∉ vs → σ'[j]? = (wipe σ vs)[j]?) : wipe σ' vs = wipe σ vs := by
  apply List.ext_getElem?
  intro j
  by_cases hj : j < σ.length
  · rw [wipe_get σ' vs j (by omega), wipe_get σ vs j hj]
    by_cases hm : j ∈ vs
    · simp [hm]
    · rw [if_neg hm, if_neg hm, h j hm, wipe_get σ vs j hj, if_neg hm]
  · rw [List.getElem?_eq_none (by rw [wipe_length]; omega), List.getElem?_eq_none (by rw [wipe_length]; omega)]
theorem Gr.upd_ {μ μ' : Mp} {H H' : Hp} {p : Addr} {o : HO} (g : Gr μ H μ' H') (h : H p = none) (nt : ∀ ps, o ≠ .tbl ps := by intro _ z; cases z) : Gr μ H μ' (upd H' p o) := by
  refine ⟨fun a u e n k => ?_, fun a e => ?_, g.pre, g.sub, g.new, g.ms, fun a ps h => let ⟨_, z⟩ := tbl_upd nt a ps h; g.tbl a _ z⟩
  · rw [upd_ne (ne_of_none e h)]; exact g.keep a u e n k
  · by_cases z : a = p
    · rw [z]; exact h
    · rw [upd_ne z] at e; exact g.there a e
theorem Gr.nom {μ μ' : Mp} {H H' : Hp} {p : Addr} (g : Gr μ H μ' H') (h : H p ≠ none) (n : p ∉ μ.m) : p ∉ μ'.m := by
  obtain ⟨r, e, hr⟩ := g.pre
  rw [e, List.mem_append]
  rintro (z | z)
  · exact n z
  · exact h (hr p z)
theorem tr_asc {α β γ : Type} {f : α → Sto → Tr β} {g : β → Sto → Tr γ} : ∀ t : Tr α, (t.bind f).bind g = t.bind fun a s => (f a s).bind g
  | .ok a s => rfl
  | .ex x v s => rfl
  | .pick n k => congrArg (Tr.pick n) (funext fun i => tr_asc (k i))
  | .bad => rfl
/-- a new list that grows by itself: forbidden, not at hand -/
theorem acc_start {μ1 : Mp} {H1 : Hp} {st1 : Sto} {Dd : Addr} {o : HO} (t1 : STR G μ1 st1 H1) (hD : H1 Dd = none) (nt : ∀ ps, o ≠ .tbl ps := by intro _ z; cases z) : Gr μ1 H1 ⟨Dd :: μ1.M, μ1.m⟩ (upd H1 Dd o) ∧ STR G ⟨Dd :: μ1.M, μ1.m⟩ st1 (upd H1 Dd o) := by
  have nm : ∀ a ∈ μ1.m, a ≠ Dd := fun a ha z => t1.tr _ (t1.sub _ ha) (by rw [z]; exact hD)
  have gr : Gr μ1 H1 ⟨Dd :: μ1.M, μ1.m⟩ (upd H1 Dd o) := by
    refine ⟨fun a u ha _ _ => by rw [upd_ne (ne_of_none ha hD)]; exact ha, fun a ha => ?_, ⟨[], by simp, by simp⟩, fun a ha => List.mem_cons_of_mem _ ha, fun a ha => ?_, t1.sub, tbl_upd nt⟩
    · by_cases z : a = Dd
      · rw [z]; exact hD
      · rw [upd_ne z] at ha; exact ha
    · rcases List.mem_cons.mp ha with z | z
      · exact .inr (by rw [z]; exact hD)
      · exact .inl z
  refine ⟨gr, ⟨t1.len, fun i x ho => ?_, fun a ha => List.mem_cons_of_mem _ (t1.sub a ha), t1.nd, fun a ha => ?_, t1.tb, fun a ps h => let ⟨_, z⟩ := tbl_upd nt a ps h; t1.tin a _ z⟩⟩
  · obtain ⟨a, h1, h2⟩ := t1.at_ i x ho
    exact ⟨a, h1, h2.same gr (upd_ne (nm a (List.mem_of_getElem? h1)))⟩
  · rcases List.mem_cons.mp ha with z | z
    · exact .inr ⟨o, by rw [z, upd_same], nt⟩
    · rw [upd_ne fun q => t1.tr _ z (by rw [q]; exact hD)]
      exact t1.lt a z
/-- it does not grow any more: it is a value .. -/
theorem acc_imm {μ1 μ2 : Mp} {H1 H2 : Hp} {st1 st2 : Sto} {Dd : Addr} (t1 : STR G μ1 st1 H1) (hD : H1 Dd = none) (gr : Gr μ1 H1 μ2 H2) (t2 : STR G μ2 st2 H2) (hm : Dd ∉ μ2.m) : ∃ μ, Gr μ1 H1 μ H2 ∧ STR G μ st2 H2 ∧ Dd ∉ μ.M ∧ (∀ a ∈ μ.M, a ∈ μ2.M) ∧ ∃ r, μ.m = μ2.m ++ r := by
  have hD1 : Dd ∉ μ1.M := fun z => t1.tr _ z hD
  have hs : ∀ a ∈ (⟨μ2.M.filter fun a => decide (a ≠ Dd), μ2.m⟩ : Mp).M, a ∈ μ2.M := fun a ha => (List.mem_filter.mp ha).1
  have h0 : ∃ r, (⟨μ2.M.filter fun a => decide (a ≠ Dd), μ2.m⟩ : Mp).m = μ2.m ++ r := ⟨[], (List.append_nil _).symm⟩
  refine ⟨⟨μ2.M.filter fun a => decide (a ≠ Dd), μ2.m⟩, ⟨gr.keep, gr.there, gr.pre, fun a ha => List.mem_filter.mpr ⟨gr.sub a ha, decide_eq_true fun z => hD1 (by rw [← z]; exact ha)⟩, fun a ha => gr.new a (hs a ha), gr.ms, gr.tbl⟩,
    ⟨t2.len, fun i o ho => ?_, fun a ha => List.mem_filter.mpr ⟨t2.sub a ha, decide_eq_true fun z => hm (by rw [← z]; exact ha)⟩, t2.nd, fun a ha => t2.lt a (hs a ha), t2.tb, t2.tin⟩, fun z => ?_, hs, h0⟩
  · obtain ⟨a, h1, h2⟩ := t2.at_ i o ho
    exact ⟨a, h1, h2.less hs h0⟩
  · exact of_decide_eq_true (List.mem_filter.mp z).2 rfl
/-- .. or an object at hand -/
theorem acc_mut {μ1 μ2 : Mp} {H1 H2 : Hp} {st1 st2 : Sto} {Dd : Addr} {o : MO} (t1 : STR G μ1 st1 H1) (hD : H1 Dd = none) (gr : Gr μ1 H1 μ2 H2) (t2 : STR G μ2 st2 H2) (hM : Dd ∈ μ2.M) (hm : Dd ∉ μ2.m) (ho : ∀ μ, (∀ a ∈ μ.M, a ∈ μ2.M) → (∃ r, μ.m = μ2.m ++ r) → ORep G μ H2 Dd o) :
    ∃ μ, Gr μ1 H1 μ H2 ∧ STR G μ (st2 ++ [o]) H2 ∧ μ.m[st2.length]? = some Dd := by
  have hs : ∀ a ∈ (⟨μ2.M, μ2.m ++ [Dd]⟩ : Mp).M, a ∈ μ2.M := fun a ha => ha
  have h0 : ∃ r, (⟨μ2.M, μ2.m ++ [Dd]⟩ : Mp).m = μ2.m ++ r := ⟨[Dd], rfl⟩
  have hl : (μ2.m ++ [Dd])[st2.length]? = some Dd := by rw [← t2.len, List.getElem?_append_right (Nat.le_refl _), Nat.sub_self]; rfl
  refine ⟨⟨μ2.M, μ2.m ++ [Dd]⟩, ⟨gr.keep, gr.there, ?_, gr.sub, gr.new, gr.ms, gr.tbl⟩, ⟨by simp [t2.len], fun i x hx => ?_, fun a ha => ?_, ?_, fun a ha => ?_, fun r P hr => ?_, fun a ps h => List.mem_append_left _ (t2.tin a ps h)⟩, hl⟩
  · obtain ⟨r, e, hr⟩ := gr.pre
    refine ⟨r ++ [Dd], by show μ2.m ++ [Dd] = _; rw [e, List.append_assoc], fun a ha => ?_⟩
    rcases List.mem_append.mp ha with z | z
    · exact hr a z
    · rw [List.mem_singleton.mp z]; exact hD
  · by_cases hi : i < st2.length
    · rw [List.getElem?_append_left hi] at hx
      obtain ⟨a, h1, h2⟩ := t2.at_ i x hx
      exact ⟨a, by show (μ2.m ++ [Dd])[i]? = _; rw [List.getElem?_append_left (by rw [t2.len]; exact hi)]; exact h1, h2.less hs h0⟩
    · rw [List.getElem?_append_right (Nat.le_of_not_lt hi)] at hx
      have hi' : i = st2.length := by
        have := (List.getElem?_eq_some_iff.mp hx).1
        simp at this
        omega
      subst hi'
      rw [Nat.sub_self] at hx
      cases hx
      exact ⟨Dd, hl, ho _ hs h0⟩
  · rcases List.mem_append.mp ha with z | z
    · exact t2.sub a z
    · rw [List.mem_singleton.mp z]; exact hM
  · refine List.nodup_append.mpr ⟨t2.nd, by simp, fun a ha b hb z => ?_⟩
    rw [List.mem_singleton.mp hb] at z
    exact hm (by rw [← z]; exact ha)
  · rcases t2.lt a ha with y | y
    · exact .inl (List.mem_append_left _ y)
    · exact .inr y
  · have q := t2.tb r P hr
    show (μ2.m ++ [Dd])[r]? = _
    rw [List.getElem?_append_left (List.getElem?_eq_some_iff.mp q).1]
    exact q
/-- what becomes of a list that has grown -/
structure FzOk (G : Glo) (fz : List D → M D) : Prop where
  run : ∀ {μ1 μ2 : Mp} {H1 H2 : Hp} {st1 st2 : Sto} {Dd : Addr} {acc : List D} {vs : List V} {Q : VK} {E : Str → D → Sto → Prop}, STR G μ1 st1 H1 → H1 Dd = none → Gr μ1 H1 μ2 H2 → STR G μ2 st2 H2 → H2 Dd = some (.lst vs) → Dd ∈ μ2.M → Dd ∉ μ2.m → Reps G μ2 H2 acc vs →
    (fz acc st2).All (KE G (Rep G) μ1 H1 Q) E → Q (.ref Dd) H2
theorem fz_imm : FzOk G fun ys => ret (.lst ys) := ⟨fun t1 hD gr t2 hL hM hm ra hq => by
  obtain ⟨μ, g, t, n, hs, h0⟩ := acc_imm t1 hD gr t2 hm
  exact hq μ _ _ g t (.lst ⟨n, hL⟩ (ra.less hs h0))⟩
theorem fz_mut : FzOk G newLM := ⟨fun t1 hD gr t2 hL hM hm ra hq => by
  obtain ⟨μ, g, t, e⟩ := acc_mut (o := .lst _) t1 hD gr t2 hM hm fun μ hs h0 => ⟨_, hL, ra.less hs h0⟩
  exact hq μ _ _ g t (.ref e)⟩
theorem acc_end {μ1 μ2 : Mp} {H1 H2 : Hp} {st1 st2 : Sto} {Dd : Addr} {acc : List D} {vs : List V} {Q : VK} (t1 : STR G μ1 st1 H1) (hD : H1 Dd = none) (gr : Gr μ1 H1 μ2 H2) (t2 : STR G μ2 st2 H2) (hL : H2 Dd = some (.lst vs)) (hM : Dd ∈ μ2.M) (hm : Dd ∉ μ2.m) (ra : Reps G μ2 H2 acc vs)
    (hq : KE G (Rep G) μ1 H1 Q (.lst acc) st2) : Q (.ref Dd) H2 := fz_imm.run (E := fun _ _ _ => True) t1 hD gr t2 hL hM hm ra hq
/-- a comprehension's reading -/
theorem lc_okZ {fz : List D → M D} (hfz : FzOk G fz) {wi : TI} {g : TG} {tt : TT} {te : TE} {own : List Nat} {gt : T} {dit : Ev → M (List D × Gd)} {dc : Ev → M Bool} {de : Ev → M D} {σ : L2.St} {H : Hp} {Q : VK} (hsl : ∀ j ∈ gt.slots, j ∈ own)
    (hi : ∀ σ H R, iG G W dit σ H R → wi σ H R) (hg : ∀ v σ H Q, gT G gt v σ H Q → g v σ H Q) (hc : ∀ σ H Q, tB G (fun _ _ _ _ => False) dc σ H Q → tt σ H Q) (he : ∀ σ H Q, tE G (fun _ _ _ _ => False) de σ H Q → te σ H Q)
    (h : tE G W (fun e => andThen (dit e) fun xs => andThen (lcGo (fun x => match gt.bind x (wipeE e own) with
      | none => badM
      | some e' => andThen (noXM (dc e')) fun t => if t = true then andThen (noXM (de e')) fun y => ret (some y) else ret none) xs.2 [] xs.1) fz) σ H Q) : tLc wi g tt te own σ H Q := by
  obtain ⟨μ, e, st, s, t, hA⟩ := h
  refine hi _ _ _ ⟨μ, e, st, s, t, Tr.All_mono (fun pp st1 hq μ1 H1 J g1 t1 hJ Dd hD => ?_) (fun _ _ _ z => z) _ ((Tr.All_bind _).mp hA)⟩
  obtain ⟨xs, gd⟩ := pp
  obtain ⟨Wg, Y, w, hG, hY⟩ := hJ
  have s1 := s.gr g1
  have hq1 := Tr.All_mono (P' := KE G (Rep G) μ1 H1 Q) (E' := KX G W σ μ1 H1) (fun _ _ z => KE.gr g1 z) (fun _ _ _ z => KX.gr g1 z) _ hq
  clear hq
  generalize hf : (fun x => match gt.bind x (wipeE e own) with
      | none => badM
      | some e' => andThen (noXM (dc e')) fun t => if t = true then andThen (noXM (de e')) fun y => ret (some y) else ret none) = f at hq1
  let Pv : Nat → Hp → Prop := fun i H2 => ∃ μ2 st2 acc vs, Gr μ1 H1 μ2 H2 ∧ STR G μ2 st2 H2 ∧ H2 Dd = some (.lst vs) ∧ Dd ∈ μ2.M ∧ Dd ∉ μ2.m ∧ Reps G μ2 H2 acc vs ∧
    ((lcGo f gd acc (xs.drop i) st2).bind fz).All (KE G (Rep G) μ1 H1 Q) (KX G W σ μ1 H1)
  refine lc_it w Pv ?_ (fun i H2 _ p => ?_) (fun i x H2 H3 hi' p y => ?_) (fun H2 p => ?_)
  · obtain ⟨g0, t0⟩ := acc_start (o := .lst []) t1 hD
    exact ⟨_, st1, [], [], g0, t0, upd_same, List.mem_cons_self, fun z => t1.tr _ (t1.sub _ z) hD, .nil, hq1⟩
  · obtain ⟨μ2, st2, acc, vs, gr, t2, _, _, _, _, hq⟩ := p
    exact hG μ2 H2 st2 gr.w t2 (lc_gd hq)
  · obtain ⟨μ2, st2, acc, vs, gr, t2, hL, hM, hm, ra, hq⟩ := p
    obtain ⟨g3, t3, k3, d, hd, rd⟩ := hY μ2 H2 st2 i x H3 gr.w t2 (lc_gd hq) hi' y
    have hL3 : H3 Dd = some (.lst vs) := k3 _ _ hL
    have hdr : xs.drop i = d :: xs.drop (i + 1) := by
      have hi2 : i < xs.length := hi'
      rw [List.getElem?_eq_getElem hi2] at hd
      cases hd
      exact List.drop_eq_getElem_cons hi2
    rw [hdr, lc_cons] at hq
    have hq := (chk_bind hq).2
    have hq2 : ((f d st2).bind fun o st3 => ((match o with
        | some y => if acc.length < sizeLine then lcGo f gd (acc ++ [y]) (xs.drop (i + 1)) else badM
        | none => lcGo f gd acc (xs.drop (i + 1))) st3).bind fz).All (KE G (Rep G) μ1 H1 Q) (KX G W σ μ1 H1) := by
      have := (Tr.All_bind _).mp hq
      refine (Tr.All_bind _).mpr ?_
      have h2 : ((f d st2).bind fun o st3 => (match o with
        | some y => if acc.length < sizeLine then lcGo f gd (acc ++ [y]) (xs.drop (i + 1)) else badM
        | none => lcGo f gd acc (xs.drop (i + 1))) st3).All _ _ := this
      exact Tr.All_mono (fun o st3 z => (Tr.All_bind _).mpr z) (fun _ _ _ z => z) _ ((Tr.All_bind _).mp h2)
    rw [← hf] at hq2
    cases hb : gt.bind d (wipeE e own) with
    | none =>
      simp only [hb] at hq2
      exact hq2.elim
    | some e' =>
      simp only [hb] at hq2
      have sw : SR G μ2 (wipeE e own) (wipe σ own) H3 := ((s1.gr gr).gr g3).wipe own
      refine hg _ _ _ _ ⟨μ2, _, st2, d, e', sw, t3, rd, hb, fun σ2 hl hj s2 => ⟨wipe_same (by rw [hl, wipe_length]) fun j hjn => hj j fun z => hjn (hsl j z), ?_⟩⟩
      have hq3 := (Tr.All_bind _).mp hq2
      have hq4 := (Tr.All_bind _).mp (show ((noXM (dc e') st2).bind _).All _ _ from hq3)
      refine hc _ _ _ ⟨μ2, e', st2, s2, t3, Tr.All_mono (fun b st4 hb4 μ4 H4 b' g4 t4 eb => ?_) (fun _ _ _ z => z.elim) _ (Tr.All_noX (E' := fun _ _ _ => False) _ hq4)⟩
      subst eb
      have hL4 : H4 Dd = some (.lst vs) := g4.keep _ _ hL3 hm fun _ z => by cases z
      have hM4 : Dd ∈ μ4.M := g4.sub _ hM
      have hm4 : Dd ∉ μ4.m := g4.nom (by rw [hL3]; simp) hm
      have G4 : Gr μ1 H1 μ4 H4 := (gr.trans g3).trans g4
      cases b with
      | false =>
        rw [if_neg Bool.false_ne_true] at hb4 ⊢
        exact ⟨μ4, st4, acc, vs, G4, t4, hL4, hM4, hm4, (ra.gr g3).gr g4, by rw [← hf]; exact hb4⟩
      | true =>
        rw [if_pos rfl] at hb4 ⊢
        have hb5 := (Tr.All_bind _).mp (show ((noXM (de e') st4).bind _).All _ _ from hb4)
        refine he _ _ _ ⟨μ4, e', st4, s2.gr g4, t4, Tr.All_mono (fun dy st5 hb6 μ5 H5 vy g5 t5 ry => ?_) (fun _ _ _ z => z.elim) _ (Tr.All_noX (E' := fun _ _ _ => False) _ hb5)⟩
        have hL5 : H5 Dd = some (.lst vs) := g5.keep _ _ hL4 hm4 fun _ z => by cases z
        have hM5 : Dd ∈ μ5.M := g5.sub _ hM4
        have hm5 : Dd ∉ μ5.m := g5.nom (by rw [hL4]; simp) hm4
        have G5 : Gr μ1 H1 μ5 H5 := G4.trans g5
        have ra5 : Reps G μ5 H5 acc vs := ((ra.gr g3).gr g4).gr g5
        have hb7 : (((if acc.length < sizeLine then lcGo f gd (acc ++ [dy]) (xs.drop (i + 1)) else badM) st5).bind fz).All (KE G (Rep G) μ1 H1 Q) (KX G W σ μ1 H1) := by
          rw [← hf]; exact hb6
        by_cases hz : acc.length < sizeLine
        · rw [if_pos hz] at hb7
          refine ⟨vs, hL5, by rw [← ra5.length]; exact hz, μ5, st5, acc ++ [dy], vs ++ [vy], G5.upd_ hD, t5.upd_ hM5 hm5, upd_same, hM5, hm5, (ra5.append (.cons ry .nil)).upd_ hM5, hb7⟩
        · rw [if_neg hz] at hb7
          exact hb7.elim
  · obtain ⟨μ2, st2, acc, vs, gr, t2, hL, hM, hm, ra, hq⟩ := p
    rw [List.drop_length] at hq
    exact hfz.run t1 hD gr t2 hL hM hm ra (chk_bind (m := ret acc) hq).2
theorem lc_ok {wi : TI} {g : TG} {tt : TT} {te : TE} {own : List Nat} {gt : T} {dit : Ev → M (List D × Gd)} {dc : Ev → M Bool} {de : Ev → M D} {σ : L2.St} {H : Hp} {Q : VK} (hsl : ∀ j ∈ gt.slots, j ∈ own)
    (hi : ∀ σ H R, iG G W dit σ H R → wi σ H R) (hg : ∀ v σ H Q, gT G gt v σ H Q → g v σ H Q) (hc : ∀ σ H Q, tB G (fun _ _ _ _ => False) dc σ H Q → tt σ H Q) (he : ∀ σ H Q, tE G (fun _ _ _ _ => False) de σ H Q → te σ H Q)
    (h : tE G W (fun e => andThen (dit e) fun xs => andThen (lcGo (fun x => match gt.bind x (wipeE e own) with
      | none => badM
      | some e' => andThen (noXM (dc e')) fun t => if t = true then andThen (noXM (de e')) fun y => ret (some y) else ret none) xs.2 [] xs.1) fun ys => ret (.lst ys)) σ H Q) : tLc wi g tt te own σ H Q := lc_okZ fz_imm hsl hi hg hc he h
theorem SR.grw {μ μ' : Mp} {H H' : Hp} {e : Ev} {σ : L2.St} (s : SR G μ e σ H) (g : GrW μ H μ' H') : SR G μ' e σ H' :=
  ⟨s.len, fun i d h => let ⟨v, h1, h2⟩ := s.slot i d h; ⟨v, h1, Rep.grw g _ _ h2⟩⟩
/-- a walk, whatever is done at each turn -/
theorem walk_it {J : It} {n : Nat} {Gd : Hp → Prop} {Y : Nat → Hp → V → Hp → Prop} (w : Walk J n Gd Y) {St : (Hp → Prop) → V → Hp → Prop} {Hs : Hp} {Qd : Hp → Prop} (Pv : Nat → Hp → Prop) (h0 : Pv 0 Hs) (hG : ∀ i H, i ≤ n → Pv i H → Gd H)
    (hs : ∀ i x H H', i < n → Pv i H → Y i H x H' → St (Pv (i + 1)) x H') (hd : ∀ H, Pv n H → Qd H) :
    ∃ Wv : Nat → Nat → Hp → Prop, (∃ m, Wv 0 m Hs) ∧ ∀ i m H, Wv i m H → (J.stop i H ∧ Qd H) ∨ (J.go i H ∧ ∃ Nx : Hp → Prop, (∀ H', Nx H' → ∃ m', m' < m ∧ Wv (i + 1) m' H') ∧ ∀ x H', J.yld i H x H' → St Nx x H') := by
  refine ⟨fun i m H => m + i = n ∧ Pv i H, ⟨n, by omega, h0⟩, fun i m H hw => ?_⟩
  obtain ⟨e, p⟩ := hw
  by_cases hm : m = 0
  · have ei : i = n := by omega
    subst ei
    exact .inl ⟨w.stops H (hG i H (Nat.le_refl _) p), hd H p⟩
  · have hl : i < n := by omega
    have gd := hG i H (Nat.le_of_lt hl) p
    exact .inr ⟨w.goes i H hl gd, Pv (i + 1), fun H' p' => ⟨m - 1, by omega, by omega, p'⟩, fun x H' y => hs i x H H' hl p (w.yields i H x H' hl gd y)⟩
/-- two fors -/
theorem lc2_ok {wi wi1 : TI} {g g1 : TG} {tt tt1 : TT} {te : TE} {own own1 : List Nat} {gt gt1 : T} {dit dit1 : Ev → M (List D × Gd)} {dc dc1 : Ev → M Bool} {de : Ev → M D} {σ : L2.St} {H : Hp} {Q : VK} (hsl : ∀ j ∈ gt.slots, j ∈ own) (hsl1 : ∀ j ∈ gt1.slots, j ∈ own1)
    (hi : ∀ σ H R, iG G W dit σ H R → wi σ H R) (hg : ∀ v σ H Q, gT G gt v σ H Q → g v σ H Q) (hc : ∀ σ H Q, tB G (fun _ _ _ _ => False) dc σ H Q → tt σ H Q)
    (hi1 : ∀ σ H R, iG G (fun _ _ _ _ => False) dit1 σ H R → wi1 σ H R) (hg1 : ∀ v σ H Q, gT G gt1 v σ H Q → g1 v σ H Q) (hc1 : ∀ σ H Q, tB G (fun _ _ _ _ => False) dc1 σ H Q → tt1 σ H Q) (he : ∀ σ H Q, tE G (fun _ _ _ _ => False) de σ H Q → te σ H Q)
    (h : tE G W (fun e => andThen (dit e) fun xs => andThen (lc2Go (fun x => match gt.bind x (wipeE e own) with
      | none => badM
      | some e' => andThen (noXM (dc e')) fun t => ret (if t = true then some e' else none)) (fun e' => noXM (dit1 e')) (fun e' x => match gt1.bind x (wipeE e' own1) with
      | none => badM
      | some e'' => andThen (noXM (dc1 e'')) fun t => if t = true then andThen (noXM (de e'')) fun y => ret (some y) else ret none) xs.2 [] xs.1) fun ys => ret (.lst ys)) σ H Q) : tLc2 wi g tt wi1 g1 tt1 te own own1 σ H Q := by
  obtain ⟨μ, e, st, s, t, hA⟩ := h
  refine hi _ _ _ ⟨μ, e, st, s, t, Tr.All_mono (fun pp st1 hq μ1 H1 J g1' t1 hJ Dd hD => ?_) (fun _ _ _ z => z) _ ((Tr.All_bind _).mp hA)⟩
  obtain ⟨xs, gd⟩ := pp
  obtain ⟨Wg, Y, w, hG, hY⟩ := hJ
  have s1 := s.gr g1'
  have hq1 := Tr.All_mono (P' := KE G (Rep G) μ1 H1 Q) (E' := KX G W σ μ1 H1) (fun _ _ z => KE.gr g1' z) (fun _ _ _ z => KX.gr g1' z) _ hq
  clear hq
  generalize hfo : (fun x => match gt.bind x (wipeE e own) with
      | none => badM
      | some e' => andThen (noXM (dc e')) fun t => ret (if t = true then some e' else none)) = fo at hq1
  generalize hfit : (fun e' => noXM (dit1 e')) = fit at hq1
  generalize hfi : (fun e' x => match gt1.bind x (wipeE e' own1) with
      | none => badM
      | some e'' => andThen (noXM (dc1 e'')) fun t => if t = true then andThen (noXM (de e'')) fun y => ret (some y) else ret none) = fi at hq1
  let Kp : Nat → Hp → Prop := fun i H2 => ∃ μ2 st2 acc vs, Gr μ1 H1 μ2 H2 ∧ STR G μ2 st2 H2 ∧ H2 Dd = some (.lst vs) ∧ Dd ∈ μ2.M ∧ Dd ∉ μ2.m ∧ Reps G μ2 H2 acc vs ∧
    ((lc2Go fo fit fi gd acc (xs.drop i) st2).bind fun ys st3 => .ok (D.lst ys) st3).All (KE G (Rep G) μ1 H1 Q) (KX G W σ μ1 H1)
  obtain ⟨g0, t0⟩ := acc_start (o := .lst []) t1 hD
  refine walk_it w (St := fun Nx x H' => g x (L2.wipe σ own) H' fun σ2 H2 => L2.wipe σ2 own = L2.wipe σ own ∧ tt σ2 H2 fun b H3 => if b = true then wi1 σ2 H3 fun J1 H4 => ∃ W1 : Nat → Nat → Hp → Prop, (∃ m, W1 0 m H4) ∧ ∀ j k H, W1 j k H →
      (J1.stop j H ∧ Nx H) ∨ (J1.go j H ∧ ∃ Nx1 : Hp → Prop, (∀ H', Nx1 H' → ∃ k', k' < k ∧ W1 (j + 1) k' H') ∧ ∀ x H', J1.yld j H x H' → g1 x (L2.wipe σ2 own1) H' fun σ3 H5 => L2.wipe σ3 own1 = L2.wipe σ2 own1 ∧ tt1 σ3 H5 fun b H6 =>
        if b = true then te σ3 H6 fun y H7 => ∃ acc, H7 Dd = some (.lst acc) ∧ acc.length < sizeLine ∧ Nx1 (upd H7 Dd (.lst (acc ++ [y]))) else Nx1 H6) else Nx H3)
    Kp ⟨_, st1, [], [], g0, t0, upd_same, List.mem_cons_self, fun z => t1.tr _ (t1.sub _ z) hD, .nil, hq1⟩ (fun i H2 _ p => ?_) (fun i x H2 H3 hi' p y => ?_) (fun H2 p => ?_)
  · obtain ⟨μ2, st2, acc, vs, gr, t2, _, _, _, _, hq⟩ := p
    exact hG μ2 H2 st2 gr.w t2 (lc2_gd hq)
  · obtain ⟨μ2, st2, acc, vs, gr, t2, hL, hM, hm, ra, hq⟩ := p
    obtain ⟨g3, t3, k3, d, hd, rd⟩ := hY μ2 H2 st2 i x H3 gr.w t2 (lc2_gd hq) hi' y
    have hL3 : H3 Dd = some (.lst vs) := k3 _ _ hL
    have hdr : xs.drop i = d :: xs.drop (i + 1) := by
      have hi2 : i < xs.length := hi'
      rw [List.getElem?_eq_getElem hi2] at hd
      cases hd
      exact List.drop_eq_getElem_cons hi2
    rw [hdr, lc2_cons] at hq
    have hq := (chk_bind hq).2
    have hq2 : (((fo d st2).bind fun o s3 => (match o with
      | none => lc2Go fo fit fi gd acc (xs.drop (i + 1))
      | some e' => andThen (fit e') fun ys => andThen (lcGo (fi e') ys.2 acc ys.1) fun acc' => lc2Go fo fit fi gd acc' (xs.drop (i + 1))) s3).bind fun ys st3 => .ok (D.lst ys) st3).All (KE G (Rep G) μ1 H1 Q) (KX G W σ μ1 H1) := hq
    have hfd : fo d = match gt.bind d (wipeE e own) with
      | none => badM
      | some e' => andThen (noXM (dc e')) fun t => ret (if t = true then some e' else none) := by rw [← hfo]
    rw [tr_asc, hfd] at hq2
    cases hb : gt.bind d (wipeE e own) with
    | none => rw [hb] at hq2; exact hq2.elim
    | some e' =>
      rw [hb] at hq2
      have sw : SR G μ2 (wipeE e own) (L2.wipe σ own) H3 := ((s1.gr gr).gr g3).wipe own
      refine hg _ _ _ _ ⟨μ2, _, st2, d, e', sw, t3, rd, hb, fun σ2 hl hj s2 => ⟨wipe_same (by rw [hl, wipe_length]) fun j hjn => hj j fun z => hjn (hsl j z), ?_⟩⟩
      have hq3 : ((noXM (dc e') st2).bind fun t s4 => ((match (if t = true then some e' else none : Option Ev) with
        | none => lc2Go fo fit fi gd acc (xs.drop (i + 1))
        | some e' => andThen (fit e') fun ys => andThen (lcGo (fi e') ys.2 acc ys.1) fun acc' => lc2Go fo fit fi gd acc' (xs.drop (i + 1))) s4).bind fun ys st3 => .ok (D.lst ys) st3).All (KE G (Rep G) μ1 H1 Q) (KX G W σ μ1 H1) := by
        have z := hq2
        dsimp only at z
        rw [show (andThen (noXM (dc e')) fun t => ret (if t = true then some e' else none)) st2 = (noXM (dc e') st2).bind fun t s => ret (if t = true then some e' else none) s from rfl, tr_asc] at z
        exact z
      refine hc _ _ _ ⟨μ2, e', st2, s2, t3, Tr.All_mono (fun b st4 hb4 μ4 H4 b' g4 t4 eb => ?_) (fun _ _ _ z => z.elim) _ (Tr.All_noX (E' := fun _ _ _ => False) _ ((Tr.All_bind _).mp hq3))⟩
      subst eb
      have hL4 : H4 Dd = some (.lst vs) := g4.keep _ _ hL3 hm fun _ z => by cases z
      have hM4 : Dd ∈ μ4.M := g4.sub _ hM
      have hm4 : Dd ∉ μ4.m := g4.nom (by rw [hL3]; simp) hm
      have G4 : Gr μ1 H1 μ4 H4 := (gr.trans g3).trans g4
      have ra4 := (ra.gr g3).gr g4
      cases b with
      | false =>
        rw [if_neg Bool.false_ne_true]
        exact ⟨μ4, st4, acc, vs, G4, t4, hL4, hM4, hm4, ra4, hb4⟩
      | true =>
        rw [if_pos rfl]
        have hb5 : ((noXM (dit1 e') st4).bind fun ys s5 => ((lcGo (fi e') ys.2 acc ys.1 s5).bind fun acc' s6 => (lc2Go fo fit fi gd acc' (xs.drop (i + 1)) s6).bind fun ys st3 => .ok (D.lst ys) st3)).All (KE G (Rep G) μ1 H1 Q) (KX G W σ μ1 H1) := by
          have z : (((fit e' st4).bind fun ys s5 => ((lcGo (fi e') ys.2 acc ys.1 s5).bind fun acc' s6 => lc2Go fo fit fi gd acc' (xs.drop (i + 1)) s6)).bind fun ys st3 => .ok (D.lst ys) st3).All (KE G (Rep G) μ1 H1 Q) (KX G W σ μ1 H1) := hb4
          rw [tr_asc, show fit e' = noXM (dit1 e') by rw [← hfit]] at z
          have e2 : (fun (a : List D × Gd) (s : Sto) => ((lcGo (fi e') a.2 acc a.1 s).bind fun acc' s6 => lc2Go fo fit fi gd acc' (xs.drop (i + 1)) s6).bind fun ys st3 => Tr.ok (D.lst ys) st3) = fun (ys : List D × Gd) (s5 : Sto) => ((lcGo (fi e') ys.2 acc ys.1 s5).bind fun acc' s6 => (lc2Go fo fit fi gd acc' (xs.drop (i + 1)) s6).bind fun ys st3 => .ok (D.lst ys) st3) := by
            funext a s
            exact tr_asc _
          rw [e2] at z
          exact z
        refine hi1 _ _ _ ⟨μ4, e', st4, s2.gr g4, t4, Tr.All_mono (fun pq st5 hq5 μ5 H5 J1 g5 t5 hJ1 => ?_) (fun _ _ _ z => z.elim) _ (Tr.All_noX (E' := fun _ _ _ => False) _ ((Tr.All_bind _).mp hb5))⟩
        obtain ⟨ys, gd1⟩ := pq
        obtain ⟨Wg1, Y1, w1, hG1, hY1⟩ := hJ1
        have hL5 : H5 Dd = some (.lst vs) := g5.keep _ _ hL4 hm4 fun _ z => by cases z
        have hM5 : Dd ∈ μ5.M := g5.sub _ hM4
        have hm5 : Dd ∉ μ5.m := g5.nom (by rw [hL4]; simp) hm4
        have s5 := (s2.gr g4).gr g5
        let Pv : Nat → Hp → Prop := fun j Hx => ∃ μx sx accx vx, Gr μ1 H1 μx Hx ∧ GrW μ5 H5 μx Hx ∧ STR G μx sx Hx ∧ Hx Dd = some (.lst vx) ∧ Dd ∈ μx.M ∧ Dd ∉ μx.m ∧ Reps G μx Hx accx vx ∧
          ((lcGo (fi e') gd1 accx (ys.drop j) sx).bind fun acc' s6 => (lc2Go fo fit fi gd acc' (xs.drop (i + 1)) s6).bind fun ys st3 => .ok (D.lst ys) st3).All (KE G (Rep G) μ1 H1 Q) (KX G W σ μ1 H1)
        refine walk_it w1 (St := fun Nx1 x H' => g1 x (L2.wipe σ2 own1) H' fun σ3 H5 => L2.wipe σ3 own1 = L2.wipe σ2 own1 ∧ tt1 σ3 H5 fun b H6 =>
            if b = true then te σ3 H6 fun y H7 => ∃ acc, H7 Dd = some (.lst acc) ∧ acc.length < sizeLine ∧ Nx1 (upd H7 Dd (.lst (acc ++ [y]))) else Nx1 H6)
          Pv ⟨μ5, st5, acc, vs, G4.trans g5, (Gr.refl t5.sub).w, t5, hL5, hM5, hm5, ra4.gr g5, hq5⟩ (fun j Hx _ p => ?_) (fun j x Hx Hy hj' p y => ?_) (fun Hx p => ?_)
        · obtain ⟨μx, sx, accx, vx, _, gw, tx, _, _, _, _, hqx⟩ := p
          exact hG1 μx Hx sx gw tx (lc_gd hqx)
        · obtain ⟨μx, sx, accx, vx, gx, gw, tx, hLx, hMx, hmx, rax, hqx⟩ := p
          obtain ⟨gy, ty, ky, d1, hd1, rd1⟩ := hY1 μx Hx sx j x Hy gw tx (lc_gd hqx) hj' y
          have hLy : Hy Dd = some (.lst vx) := ky _ _ hLx
          have hdr1 : ys.drop j = d1 :: ys.drop (j + 1) := by
            have hj2 : j < ys.length := hj'
            rw [List.getElem?_eq_getElem hj2] at hd1
            cases hd1
            exact List.drop_eq_getElem_cons hj2
          rw [hdr1, lc_cons] at hqx
          have hqx := (chk_bind hqx).2
          have hqy : (((fi e' d1 sx).bind fun o s3 => (match o with
            | some y => if accx.length < sizeLine then lcGo (fi e') gd1 (accx ++ [y]) (ys.drop (j + 1)) else badM
            | none => lcGo (fi e') gd1 accx (ys.drop (j + 1))) s3).bind fun acc' s6 => (lc2Go fo fit fi gd acc' (xs.drop (i + 1)) s6).bind fun ys st3 => .ok (D.lst ys) st3).All (KE G (Rep G) μ1 H1 Q) (KX G W σ μ1 H1) := hqx
          have hf1 : fi e' d1 = match gt1.bind d1 (wipeE e' own1) with
            | none => badM
            | some e'' => andThen (noXM (dc1 e'')) fun t => if t = true then andThen (noXM (de e'')) fun y => ret (some y) else ret none := by rw [← hfi]
          rw [tr_asc, hf1] at hqy
          cases hb1 : gt1.bind d1 (wipeE e' own1) with
          | none => rw [hb1] at hqy; exact hqy.elim
          | some e2 =>
            rw [hb1] at hqy
            have sw1 : SR G μx (wipeE e' own1) (L2.wipe σ2 own1) Hy := ((s5.grw gw).gr gy).wipe own1
            refine hg1 _ _ _ _ ⟨μx, _, sx, d1, e2, sw1, ty, rd1, hb1, fun σ3 hl3 hj3 s3 => ⟨wipe_same (by rw [hl3, wipe_length]) fun j hjn => hj3 j fun z => hjn (hsl1 j z), ?_⟩⟩
            have hqz := (Tr.All_bind _).mp (show ((andThen (noXM (dc1 e2)) fun t => if t = true then andThen (noXM (de e2)) fun y => ret (some y) else ret none) sx |>.bind _).All _ _ from hqy)
            have hqz2 := (Tr.All_bind _).mp (show ((noXM (dc1 e2) sx).bind _).All _ _ from hqz)
            refine hc1 _ _ _ ⟨μx, e2, sx, s3, ty, Tr.All_mono (fun b s7 hb7 μ7 H7 b' g7 t7 eb => ?_) (fun _ _ _ z => z.elim) _ (Tr.All_noX (E' := fun _ _ _ => False) _ hqz2)⟩
            subst eb
            have hL7 : H7 Dd = some (.lst vx) := g7.keep _ _ hLy hmx fun _ z => by cases z
            have hM7 : Dd ∈ μ7.M := g7.sub _ hMx
            have hm7 : Dd ∉ μ7.m := g7.nom (by rw [hLy]; simp) hmx
            have G7 : Gr μ1 H1 μ7 H7 := (gx.trans gy).trans g7
            have W7 : GrW μ5 H5 μ7 H7 := (gw.trans gy.w).trans g7.w
            cases b with
            | false =>
              rw [if_neg Bool.false_ne_true] at hb7 ⊢
              exact ⟨μ7, s7, accx, vx, G7, W7, t7, hL7, hM7, hm7, (rax.gr gy).gr g7, hb7⟩
            | true =>
              rw [if_pos rfl] at hb7 ⊢
              have hb8 := (Tr.All_bind _).mp (show ((noXM (de e2) s7).bind _).All _ _ from hb7)
              refine he _ _ _ ⟨μ7, e2, s7, s3.gr g7, t7, Tr.All_mono (fun dy s8 hb9 μ8 H8 vy g8 t8 ry => ?_) (fun _ _ _ z => z.elim) _ (Tr.All_noX (E' := fun _ _ _ => False) _ hb8)⟩
              have hL8 : H8 Dd = some (.lst vx) := g8.keep _ _ hL7 hm7 fun _ z => by cases z
              have hM8 : Dd ∈ μ8.M := g8.sub _ hM7
              have hm8 : Dd ∉ μ8.m := g8.nom (by rw [hL7]; simp) hm7
              have ra8 : Reps G μ8 H8 accx vx := ((rax.gr gy).gr g7).gr g8
              have hb10 : (((if accx.length < sizeLine then lcGo (fi e') gd1 (accx ++ [dy]) (ys.drop (j + 1)) else badM) s8).bind fun acc' s6 => (lc2Go fo fit fi gd acc' (xs.drop (i + 1)) s6).bind fun ys st3 => .ok (D.lst ys) st3).All (KE G (Rep G) μ1 H1 Q) (KX G W σ μ1 H1) := hb9
              by_cases hz : accx.length < sizeLine
              · rw [if_pos hz] at hb10
                exact ⟨vx, hL8, by rw [← ra8.length]; exact hz, μ8, s8, accx ++ [dy], vx ++ [vy], (G7.trans g8).upd_ hD, (W7.trans g8.w).upd_ hM5, t8.upd_ hM8 hm8, upd_same, hM8, hm8, (ra8.append (.cons ry .nil)).upd_ hM8, hb10⟩
              · rw [if_neg hz] at hb10
                exact hb10.elim
        · obtain ⟨μx, sx, accx, vx, gx, gw, tx, hLx, hMx, hmx, rax, hqx⟩ := p
          rw [List.drop_length] at hqx
          have hqx := (chk_bind (m := ret accx) hqx).2
          exact ⟨μx, sx, accx, vx, gx, tx, hLx, hMx, hmx, rax, hqx⟩
  · obtain ⟨μ2, st2, acc, vs, gr, t2, hL, hM, hm, ra, hq⟩ := p
    rw [List.drop_length] at hq
    exact acc_end t1 hD gr t2 hL hM hm ra (show KE G (Rep G) μ1 H1 Q (.lst acc) st2 from (chk_bind (m := ret acc) hq).2)

/-! ### statements -/
def KS (G : Glo) (μ : Mp) (H : Hp) (D : Ends) : Fl × Ev → Sto → Prop := fun r st' => ∀ μ' H' σ', Gr μ H μ' H' → STR G μ' st' H' → SR G μ' r.2 σ' H' → match r.1 with
  | .nx => D.nx σ' H'
  | .rt d => ∀ x, Rep G μ' H' d x → D.rt x H'
  | .bk => D.bk σ' H'
  | .ct => D.ct σ' H'
def wX (E : XK) : WX := fun c d _ H => E c d H
def tS (G : Glo) (E : XK) (den : Ev → M (Fl × Ev)) : TS := fun D σ H => ∃ μ e st, SR G μ e σ H ∧ STR G μ st H ∧ (den e st).All (KS G μ H D) (KX G (wX E) σ μ H)
theorem KS.gr {μ μ1 : Mp} {H H1 : Hp} {D : Ends} {r : Fl × Ev} {st : Sto} (g : Gr μ H μ1 H1) (h : KS G μ H D r st) : KS G μ1 H1 D r st := fun μ' H' σ' g' t s => h μ' H' σ' (g.trans g') t s
theorem KXw {E : XK} {σ σ' : L2.St} {μ : Mp} {H : Hp} {x : Str} {d : D} {st : Sto} (h : KX G (wX E) σ μ H x d st) : KX G (wX E) σ' μ H x d st := h
theorem KS.here {μ : Mp} {H : Hp} {D : Ends} {r : Fl × Ev} {st : Sto} {σ : L2.St} (h : KS G μ H D r st) (t : STR G μ st H) (s : SR G μ r.2 σ H) : match r.1 with
  | .nx => D.nx σ H
  | .rt d => ∀ x, Rep G μ H d x → D.rt x H
  | .bk => D.bk σ H
  | .ct => D.ct σ H := h μ H σ (Gr.refl t.sub) t s
theorem if_ok {E : XK} {tc : TT} {ta tb : TS} {dc : Ev → M Bool} {da db : Ev → M (Fl × Ev)} (hc : ∀ σ H Q, tB G (wX E) dc σ H Q → tc σ H Q) (ha : ∀ D σ H, tS G E da D σ H → ta D σ H) (hb : ∀ D σ H, tS G E db D σ H → tb D σ H) {D : Ends} {σ : L2.St} {H : Hp}
    (h : tS G E (fun e => andThen (dc e) fun t => if t = true then da e else db e) D σ H) : tIfS tc ta tb D σ H := by
  obtain ⟨μ, e, st, s, t, hA⟩ := h
  refine hc _ _ _ ⟨μ, e, st, s, t, Tr.All_mono (fun b st1 hq μ1 H1 b' g1 t1 eb => ?_) (fun _ _ _ z => z) _ ((Tr.All_bind _).mp hA)⟩
  subst eb
  have hq1 := Tr.All_mono (P' := KS G μ1 H1 D) (E' := KX G (wX E) σ μ1 H1) (fun _ _ z => KS.gr g1 z) (fun _ _ _ z => KX.gr g1 z) _ hq
  cases b with
  | true => rw [if_pos rfl] at hq1 ⊢; exact ha _ _ _ ⟨μ1, e, st1, s.gr g1, t1, hq1⟩
  | false => rw [if_neg Bool.false_ne_true] at hq1 ⊢; exact hb _ _ _ ⟨μ1, e, st1, s.gr g1, t1, hq1⟩
theorem seq_ok {E : XK} {ta tb : TS} {da db : Ev → M (Fl × Ev)} (ha : ∀ D σ H, tS G E da D σ H → ta D σ H) (hb : ∀ D σ H, tS G E db D σ H → tb D σ H) {D : Ends} {σ : L2.St} {H : Hp}
    (h : tS G E (fun e => andThen (da e) fun r => match r.1 with
      | .nx => db r.2
      | f => ret (f, r.2)) D σ H) : tSeq ta tb D σ H := by
  obtain ⟨μ, e, st, s, t, hA⟩ := h
  refine ha _ _ _ ⟨μ, e, st, s, t, Tr.All_mono (fun r st1 hq μ1 H1 σ1 g1 t1 s1 => ?_) (fun _ _ _ z => z) _ ((Tr.All_bind _).mp hA)⟩
  obtain ⟨f, e1⟩ := r
  have hq1 := Tr.All_mono (P' := KS G μ1 H1 D) (E' := KX G (wX E) σ1 μ1 H1) (fun _ _ z => KS.gr g1 z) (fun _ _ _ z => KX.gr g1 z) _ hq
  cases f with
  | nx => exact hb _ _ _ ⟨μ1, e1, st1, s1, t1, hq1⟩
  | rt d => exact (KS.here (show KS G μ1 H1 D (.rt d, e1) st1 from hq1) t1 s1)
  | bk => exact (KS.here (show KS G μ1 H1 D (.bk, e1) st1 from hq1) t1 s1)
  | ct => exact (KS.here (show KS G μ1 H1 D (.ct, e1) st1 from hq1) t1 s1)
theorem whl_ok {E : XK} {tc : TT} {tb : TS} {dc : Ev → M Bool} {db : Ev → M (Fl × Ev)} {n : Nat} (hc : ∀ σ H Q, tB G (wX E) dc σ H Q → tc σ H Q) (hb : ∀ D σ H, tS G E db D σ H → tb D σ H) {D : Ends} {σ : L2.St} {H : Hp}
    (h : tS G E (whlGo dc db n) D σ H) : tWhile tc tb D σ H := by
  obtain ⟨μ, e, st, s, t, hA⟩ := h
  refine ⟨fun n σ2 H2 => ∃ μ2 e2 st2, Gr μ H μ2 H2 ∧ SR G μ2 e2 σ2 H2 ∧ STR G μ2 st2 H2 ∧ (whlGo dc db n e2 st2).All (KS G μ H D) (KX G (wX E) σ μ H), ⟨n, μ, e, st, Gr.refl t.sub, s, t, hA⟩, fun m σ2 H2 hw => ?_⟩
  obtain ⟨μ2, e2, st2, g2, s2, t2, hq⟩ := hw
  cases m with
  | zero => exact hq.elim
  | succ m =>
    refine hc _ _ _ ⟨μ2, e2, st2, s2, t2, Tr.All_mono (fun b st3 hq3 μ3 H3 b' g3 t3 eb => ?_) (fun _ _ _ z => KX.gr g2 z) _ ((Tr.All_bind _).mp hq)⟩
    subst eb
    cases b with
    | false =>
      rw [if_neg Bool.false_ne_true] at hq3 ⊢
      exact KS.here (KS.gr (g2.trans g3) hq3) t3 (s2.gr g3)
    | true =>
      rw [if_pos rfl] at hq3 ⊢
      refine ⟨fun σ4 H4 => ∃ μ4 e4 st4, Gr μ H μ4 H4 ∧ SR G μ4 e4 σ4 H4 ∧ STR G μ4 st4 H4 ∧ (whlGo dc db m e4 st4).All (KS G μ H D) (KX G (wX E) σ μ H), fun σ4 H4 z => ⟨m, Nat.lt_succ_self m, z⟩, ?_⟩
      refine hb _ _ _ ⟨μ3, e2, st3, s2.gr g3, t3, Tr.All_mono (fun r st4 hq4 μ4 H4 σ4 g4 t4 s4 => ?_) (fun _ _ _ z => KX.gr (g2.trans g3) z) _ ((Tr.All_bind _).mp hq3)⟩
      obtain ⟨f, e4⟩ := r
      have g := (g2.trans g3).trans g4
      cases f with
      | nx => exact ⟨μ4, e4, st4, g, s4, t4, hq4⟩
      | ct => exact ⟨μ4, e4, st4, g, s4, t4, hq4⟩
      | bk => exact KS.here (KS.gr g (show KS G μ H D (.nx, e4) st4 from hq4)) t4 s4
      | rt d => exact KS.here (KS.gr g (show KS G μ H D (.rt d, e4) st4 from hq4)) t4 s4
theorem for_ok {E : XK} {wi : TI} {g : TG} {tb : TS} {gt : T} {dit : Ev → M (List D × Gd)} {db : Ev → M (Fl × Ev)} (hi : ∀ σ H R, iG G (wX E) dit σ H R → wi σ H R) (hg : ∀ v σ H Q, gT G gt v σ H Q → g v σ H Q) (hb : ∀ D σ H, tS G E db D σ H → tb D σ H)
    {D : Ends} {σ : L2.St} {H : Hp} (h : tS G E (fun e => andThen (dit e) fun xs => forGo gt db xs.2 xs.1 e) D σ H) : tFor wi g tb D σ H := by
  obtain ⟨μ, e, st, s, t, hA⟩ := h
  refine hi _ _ _ ⟨μ, e, st, s, t, Tr.All_mono (fun pp st1 hq μ1 H1 J g1 t1 hJ => ?_) (fun _ _ _ z => z) _ ((Tr.All_bind _).mp hA)⟩
  obtain ⟨xs, gd⟩ := pp
  obtain ⟨Wg, Y, w, hG, hY⟩ := hJ
  let Pv : Nat → L2.St → Hp → Prop := fun i σ2 H2 => ∃ μ2 e2 st2, Gr μ1 H1 μ2 H2 ∧ SR G μ2 e2 σ2 H2 ∧ STR G μ2 st2 H2 ∧ (forGo gt db gd (xs.drop i) e2 st2).All (KS G μ H D) (KX G (wX E) σ μ H)
  refine for_it w Pv ⟨μ1, e, st1, Gr.refl t1.sub, s.gr g1, t1, hq⟩ (fun i σ2 H2 _ p => ?_) (fun i x σ2 H2 H3 hi' p y => ?_) (fun σ2 H2 p => ?_)
  · obtain ⟨μ2, e2, st2, gr, _, t2, hq2⟩ := p
    exact hG μ2 H2 st2 gr.w t2 (for_gd hq2)
  · obtain ⟨μ2, e2, st2, gr, s2, t2, hq2⟩ := p
    obtain ⟨g3, t3, _, d, hd, rd⟩ := hY μ2 H2 st2 i x H3 gr.w t2 (for_gd hq2) hi' y
    have hdr : xs.drop i = d :: xs.drop (i + 1) := by
      have hi2 : i < xs.length := hi'
      rw [List.getElem?_eq_getElem hi2] at hd
      cases hd
      exact List.drop_eq_getElem_cons hi2
    rw [hdr] at hq2
    have hq2 := (chk_all (gd := gd) hq2).2
    cases hbd : gt.bind d e2 with
    | none =>
      have : (badM st2 : Tr (Fl × Ev)).All (KS G μ H D) (KX G (wX E) σ μ H) := by
        have q := hq2
        rw [hbd] at q
        exact q
      exact this.elim
    | some e' =>
      have hq3 : ((db e' st2).bind fun r s => (match r.1 with
        | .nx => forGo gt db gd (xs.drop (i + 1)) r.2
        | .ct => forGo gt db gd (xs.drop (i + 1)) r.2
        | .bk => ret (.nx, r.2)
        | .rt d => ret (.rt d, r.2)) s).All (KS G μ H D) (KX G (wX E) σ μ H) := by
        have q := hq2
        rw [hbd] at q
        exact q
      refine hg _ _ _ _ ⟨μ2, e2, st2, d, e', s2.gr g3, t3, rd, hbd, fun σ4 _ _ s4 => ?_⟩
      refine hb _ _ _ ⟨μ2, e', st2, s4, t3, Tr.All_mono (fun r st5 hq5 μ5 H5 σ5 g5 t5 s5 => ?_) (fun _ _ _ z => KX.gr ((g1.trans gr).trans g3) z) _ ((Tr.All_bind _).mp hq3)⟩
      obtain ⟨f, e5⟩ := r
      have gg : Gr μ1 H1 μ5 H5 := (gr.trans g3).trans g5
      cases f with
      | nx => exact ⟨μ5, e5, st5, gg, s5, t5, hq5⟩
      | ct => exact ⟨μ5, e5, st5, gg, s5, t5, hq5⟩
      | bk => exact KS.here (KS.gr (g1.trans gg) (show KS G μ H D (.nx, e5) st5 from hq5)) t5 s5
      | rt d => exact KS.here (KS.gr (g1.trans gg) (show KS G μ H D (.rt d, e5) st5 from hq5)) t5 s5
  · obtain ⟨μ2, e2, st2, gr, s2, t2, hq2⟩ := p
    rw [List.drop_length] at hq2
    exact KS.here (KS.gr (g1.trans gr) (show KS G μ H D (.nx, e2) st2 from (chk_all (m := ret (Fl.nx, e2)) hq2).2)) t2 s2
end
end Gw

set_option Elab.async false
set_option linter.all false
set_option maxRecDepth 100000
set_option maxHeartbeats 1000000
/-! Gd6: dict comprehensions by trees. -/
namespace Gw
open PySem PySem.Spec PyProof.Rows L2
section
variable {G : Glo} {X : Cx} {W : WX}
theorem dc_cons (f : D → M (Option (D × D))) (gd : Gd) (ks vs : List D) (x : D) (xs : List D) : dcGo f gd ks vs (x :: xs) = chk gd (andThen (f x) fun o => match o with
    | some p => if ks.length < sizeLine then (match fitK ks p.1 with
      | some n => dcGo f gd (putK2 ks vs p.1 n p.2).1 (putK2 ks vs p.1 n p.2).2 xs
      | none => badM) else badM
    | none => dcGo f gd ks vs xs) := rfl
theorem dc_gd {f : D → M (Option (D × D))} {gd : Gd} {ks vs l : List D} {β : Type} {k : List D × List D → Sto → Tr β} {st : Sto} {P : β → Sto → Prop} {E : Str → D → Sto → Prop} (h : ((dcGo f gd ks vs l st).bind k).All P E) : gdB gd st = true := by
  cases l with
  | nil => exact (chk_bind (m := ret (ks, vs)) h).1
  | cons x l => exact (chk_bind h).1
/-- a dict as it stands while it grows -/
def DAt (G : Glo) (μ : Mp) (H : Hp) (Dd : Addr) (ks vs : List D) : Prop := ∃ kvs ob, H Dd = some (DxO G.w Dd kvs ob) ∧ KRel ks kvs ∧ Reps G μ H ks (kvs.map fun p => p.2.1) ∧ Reps G μ H vs (kvs.map fun p => p.2.2)
theorem DAt.empty {μ : Mp} {H : Hp} {Dd : Addr} {ob : Obj} (h : H Dd = some (DxO G.w Dd [] ob)) : DAt G μ H Dd [] [] := ⟨[], ob, h, ⟨rfl, true, rfl⟩, .nil, .nil⟩
theorem DAt.len {μ : Mp} {H : Hp} {Dd : Addr} {ks vs : List D} {kvs : List Ent} (h : KRel ks kvs) : ks.length = kvs.length := by
  have := congrArg List.length h.1
  rwa [List.length_map, List.length_map] at this
theorem DAt.gr {μ μ' : Mp} {H H' : Hp} {Dd : Addr} {ks vs : List D} (h : DAt G μ H Dd ks vs) (g : Gr μ H μ' H') (hm : Dd ∉ μ.m) : DAt G μ' H' Dd ks vs := by
  obtain ⟨kvs, ob, e, k, r1, r2⟩ := h
  exact ⟨kvs, ob, g.keep _ _ e hm (fun _ z => by cases z), k, r1.gr g, r2.gr g⟩
def fzD (mu : Bool) (p : List D × List D) : M D := if mu = true then newDM p.1 p.2 else ret (.dct p.1 p.2)
theorem fzD_run {mu : Bool} {μ1 μ2 : Mp} {H1 H2 : Hp} {st1 st2 : Sto} {Dd : Addr} {ks vs : List D} {Q : VK} {E : Str → D → Sto → Prop} (t1 : STR G μ1 st1 H1) (hD : H1 Dd = none) (gr : Gr μ1 H1 μ2 H2) (t2 : STR G μ2 st2 H2) (hM : Dd ∈ μ2.M) (hm : Dd ∉ μ2.m) (da : DAt G μ2 H2 Dd ks vs)
    (hq : (fzD mu (ks, vs) st2).All (KE G (Rep G) μ1 H1 Q) E) : Q (.ref Dd) H2 := by
  obtain ⟨kvs, ob, e, k, r1, r2⟩ := da
  unfold fzD at hq
  cases mu with
  | false =>
    rw [if_neg Bool.false_ne_true] at hq
    obtain ⟨μ, g, t, n, hs, h0⟩ := acc_imm t1 hD gr t2 hm
    exact hq μ _ _ g t (.dct n e k rfl rfl (r1.less hs h0) (r2.less hs h0))
  | true =>
    rw [if_pos rfl] at hq
    obtain ⟨μ, g, t, ee⟩ := acc_mut (o := .dct ks vs) t1 hD gr t2 hM hm fun μ hs h0 => ⟨kvs, ob, _, _, e, k, rfl, rfl, r1.less hs h0, r2.less hs h0⟩
    exact hq μ _ _ g t (.ref ee)
theorem dc_ok (hK : G.K = X.K) (hw : G.w = X.w) {mu : Bool} {wi : TI} {g : TG} {tt : TT} {tk tv : TE} {own : List Nat} {gt : T} {dit : Ev → M (List D × Gd)} {dc : Ev → M Bool} {dk dv : Ev → M D} {σ : L2.St} {H : Hp} {Q : VK} (hsl : ∀ j ∈ gt.slots, j ∈ own)
    (hi : ∀ σ H R, iG G W dit σ H R → wi σ H R) (hg : ∀ v σ H Q, gT G gt v σ H Q → g v σ H Q) (hc : ∀ σ H Q, tB G (fun _ _ _ _ => False) dc σ H Q → tt σ H Q) (hk : ∀ σ H Q, tE G (fun _ _ _ _ => False) dk σ H Q → tk σ H Q) (hv : ∀ σ H Q, tE G (fun _ _ _ _ => False) dv σ H Q → tv σ H Q)
    (h : tE G W (fun e => andThen (dit e) fun xs => andThen (dcGo (fun x => match gt.bind x (wipeE e own) with
      | none => badM
      | some e' => andThen (noXM (dc e')) fun t => if t = true then andThen (noXM (dk e')) fun y => andThen (noXM (dv e')) fun z => ret (some (y, z)) else ret none) xs.2 [] [] xs.1) (fzD mu)) σ H Q) : tDx X.K X.w wi g tt tk tv own σ H Q := by
  obtain ⟨μ, e, st, s, t, hA⟩ := h
  refine hi _ _ _ ⟨μ, e, st, s, t, Tr.All_mono (fun pp st1 hq μ1 H1 J g1 t1 hJ Dd hD => ?_) (fun _ _ _ z => z) _ ((Tr.All_bind _).mp hA)⟩
  obtain ⟨xs, gd⟩ := pp
  obtain ⟨Wg, Y, w, hG, hY⟩ := hJ
  have s1 := s.gr g1
  have hq1 := Tr.All_mono (P' := KE G (Rep G) μ1 H1 Q) (E' := KX G W σ μ1 H1) (fun _ _ z => KE.gr g1 z) (fun _ _ _ z => KX.gr g1 z) _ hq
  clear hq
  generalize hf : (fun x => match gt.bind x (wipeE e own) with
      | none => badM
      | some e' => andThen (noXM (dc e')) fun t => if t = true then andThen (noXM (dk e')) fun y => andThen (noXM (dv e')) fun z => ret (some (y, z)) else ret none) = f at hq1
  let Pv : Nat → Hp → Prop := fun i H2 => ∃ μ2 st2 ks vs, Gr μ1 H1 μ2 H2 ∧ STR G μ2 st2 H2 ∧ Dd ∈ μ2.M ∧ Dd ∉ μ2.m ∧ DAt G μ2 H2 Dd ks vs ∧
    ((dcGo f gd ks vs (xs.drop i) st2).bind (fzD mu)).All (KE G (Rep G) μ1 H1 Q) (KX G W σ μ1 H1)
  refine walk_it w (St := fun Nx x H' => tTurn X.K X.w Dd g tt tk tv own σ x H' Nx) Pv ?_ (fun i H2 _ p => ?_) (fun i x H2 H3 hi' p y => ?_) (fun H2 p => ?_)
  · obtain ⟨g0, t0⟩ := acc_start (o := DxO X.w Dd [] dict0) t1 hD
    exact ⟨_, st1, [], [], g0, t0, List.mem_cons_self, fun z => t1.tr _ (t1.sub _ z) hD, DAt.empty (by rw [upd_same, hw]), hq1⟩
  · obtain ⟨μ2, st2, ks, vs, gr, t2, _, _, _, hq⟩ := p
    exact hG μ2 H2 st2 gr.w t2 (dc_gd hq)
  · obtain ⟨μ2, st2, ks, vs, gr, t2, hM, hm, da, hq⟩ := p
    obtain ⟨g3, t3, k3, d, hd, rd⟩ := hY μ2 H2 st2 i x H3 gr.w t2 (dc_gd hq) hi' y
    have da3 := da.gr g3 hm
    have hdr : xs.drop i = d :: xs.drop (i + 1) := by
      have hi2 : i < xs.length := hi'
      rw [List.getElem?_eq_getElem hi2] at hd
      cases hd
      exact List.drop_eq_getElem_cons hi2
    rw [hdr, dc_cons] at hq
    have hq := (chk_bind hq).2
    have hq2 : ((f d st2).bind fun o st3 => ((match o with
        | some p => if ks.length < sizeLine then (match fitK ks p.1 with
          | some n => dcGo f gd (putK2 ks vs p.1 n p.2).1 (putK2 ks vs p.1 n p.2).2 (xs.drop (i + 1))
          | none => badM) else badM
        | none => dcGo f gd ks vs (xs.drop (i + 1))) st3).bind (fzD mu)).All (KE G (Rep G) μ1 H1 Q) (KX G W σ μ1 H1) := by
      have q : ((andThen (f d) fun o => (match o with
        | some p => if ks.length < sizeLine then (match fitK ks p.1 with
          | some n => dcGo f gd (putK2 ks vs p.1 n p.2).1 (putK2 ks vs p.1 n p.2).2 (xs.drop (i + 1))
          | none => badM) else badM
        | none => dcGo f gd ks vs (xs.drop (i + 1)))) st2 |>.bind (fzD mu)).All _ _ := hq
      unfold andThen at q
      rw [tr_asc] at q
      exact q
    rw [← hf] at hq2
    cases hb : gt.bind d (wipeE e own) with
    | none =>
      simp only [hb] at hq2
      exact hq2.elim
    | some e' =>
      simp only [hb] at hq2
      have sw : SR G μ2 (wipeE e own) (L2.wipe σ own) H3 := ((s1.gr gr).gr g3).wipe own
      refine hg _ _ _ _ ⟨μ2, _, st2, d, e', sw, t3, rd, hb, fun σ2 hl hj s2 => ⟨wipe_same (by rw [hl, wipe_length]) fun j hjn => hj j fun z => hjn (hsl j z), ?_⟩⟩
      have hq3 := (Tr.All_bind _).mp hq2
      have hq4 := (Tr.All_bind _).mp (show ((noXM (dc e') st2).bind _).All _ _ from hq3)
      refine hc _ _ _ ⟨μ2, e', st2, s2, t3, Tr.All_mono (fun b st4 hb4 μ4 H4 b' g4 t4 eb => ?_) (fun _ _ _ z => z.elim) _ (Tr.All_noX (E' := fun _ _ _ => False) _ hq4)⟩
      subst eb
      have nn : H3 Dd ≠ none := by obtain ⟨kvs, _, e, _⟩ := da3; rw [e]; simp
      have hM4 : Dd ∈ μ4.M := g4.sub _ hM
      have hm4 : Dd ∉ μ4.m := g4.nom nn hm
      have da4 := da3.gr g4 hm
      have G4 : Gr μ1 H1 μ4 H4 := (gr.trans g3).trans g4
      cases b with
      | false =>
        rw [if_neg Bool.false_ne_true] at hb4 ⊢
        exact ⟨μ4, st4, ks, vs, G4, t4, hM4, hm4, da4, by rw [← hf]; exact hb4⟩
      | true =>
        rw [if_pos rfl] at hb4 ⊢
        have hb5 := (Tr.All_bind _).mp (show ((noXM (dk e') st4).bind _).All _ _ from hb4)
        refine hk _ _ _ ⟨μ4, e', st4, s2.gr g4, t4, Tr.All_mono (fun dy st5 hb6 μ5 H5 vy g5 t5 ry => ?_) (fun _ _ _ z => z.elim) _ (Tr.All_noX (E' := fun _ _ _ => False) _ hb5)⟩
        have nn4 : H4 Dd ≠ none := by obtain ⟨kvs, _, e, _⟩ := da4; rw [e]; simp
        have hM5 : Dd ∈ μ5.M := g5.sub _ hM4
        have hm5 : Dd ∉ μ5.m := g5.nom nn4 hm4
        have da5 := da4.gr g5 hm4
        have hb7 := (Tr.All_bind _).mp (show ((noXM (dv e') st5).bind _).All _ _ from hb6)
        refine hv _ _ _ ⟨μ5, e', st5, (s2.gr g4).gr g5, t5, Tr.All_mono (fun dz st6 hb8 μ6 H6 vz g6 t6 rz => ?_) (fun _ _ _ z => z.elim) _ (Tr.All_noX (E' := fun _ _ _ => False) _ hb7)⟩
        have nn5 : H5 Dd ≠ none := by obtain ⟨kvs, _, e, _⟩ := da5; rw [e]; simp
        have hM6 : Dd ∈ μ6.M := g6.sub _ hM5
        have hm6 : Dd ∉ μ6.m := g6.nom nn5 hm5
        have da6 := da5.gr g6 hm5
        have G6 : Gr μ1 H1 μ6 H6 := (G4.trans g5).trans g6
        have hb9 : (((if ks.length < sizeLine then (match fitK ks dy with
          | some n => dcGo f gd (putK2 ks vs dy n dz).1 (putK2 ks vs dy n dz).2 (xs.drop (i + 1))
          | none => badM) else badM) st6).bind (fzD mu)).All (KE G (Rep G) μ1 H1 Q) (KX G W σ μ1 H1) := by
          rw [← hf]; exact hb8
        by_cases hz : ks.length < sizeLine
        · rw [if_pos hz] at hb9
          cases hfit : fitK ks dy with
          | none => rw [hfit] at hb9; exact hb9.elim
          | some n =>
            rw [hfit] at hb9
            obtain ⟨kvs, ob, e6, kr, r1, r2⟩ := da6
            obtain ⟨f1, _, _⟩ := fitK_ok kr r1 hfit (ry.gr g6)
            obtain ⟨p1, p2, p3⟩ := putK_ok (u := vy) (v := vz) kr r1 r2 hfit (ry.gr g6) rz
            refine ⟨kvs, ob, n, hw ▸ e6, by rw [← DAt.len (μ := μ6) (H := H6) (Dd := Dd) (vs := vs) kr]; exact hz, hK ▸ f1, fun ob' => ⟨μ6, st6, _, _, G6.upd_ hD, t6.upd_ hM6 hm6, hM6, hm6, ⟨_, ob', by rw [upd_same, hw], p1, p2.upd_ hM6, p3.upd_ hM6⟩, hb9⟩⟩
        · rw [if_neg hz] at hb9
          exact hb9.elim
  · obtain ⟨μ2, st2, ks, vs, gr, t2, hM, hm, da, hq⟩ := p
    rw [List.drop_length] at hq
    exact fzD_run t1 hD gr t2 hM hm da (chk_bind (m := ret (ks, vs)) hq).2
/-- {k: v} -/
theorem d1_ok (hw : G.w = X.w) {mu : Bool} {dk dv : Ev → M D} {σ : L2.St} {H : Hp} {Q : VK}
    (h : tE G W (fun e => andThen (dk e) fun x => andThen (dv e) fun y => if kcls x = some false then (if mu = true then newDM [x] [y] else ret (.dct [x] [y])) else badM) σ H Q) : tDx1 X.w (tE G W dk) (tE G W dv) σ H Q := by
  obtain ⟨μ, e, st, s, t, hA⟩ := h
  intro p hp
  obtain ⟨g0, t0⟩ := acc_start (o := DxO X.w p [] dict0) t hp
  refine ⟨⟨p :: μ.M, μ.m⟩, e, st, s.gr g0, t0, Tr.All_mono (fun d1 st1 hq1 μ1 H1 v1 g1 t1 r1 => ?_) (fun _ _ _ z => KX.gr g0 z) _ ((Tr.All_bind _).mp hA)⟩
  refine ⟨μ1, e, st1, (s.gr g0).gr g1, t1, Tr.All_mono (fun d2 st2 hA2 μ2 H2 v2 g2 t2 r2 => ?_) (fun _ _ _ z => KX.gr (g0.trans g1) z) _ ((Tr.All_bind _).mp hq1)⟩
  have hpm : p ∉ μ.m := fun z => t.tr _ (t.sub _ z) hp
  have hM0 : p ∈ (⟨p :: μ.M, μ.m⟩ : Mp).M := List.mem_cons_self
  have e0 : (upd H p (DxO X.w p [] dict0)) p = some (DxO X.w p [] dict0) := upd_same
  have e1 : H1 p = some (DxO X.w p [] dict0) := g1.keep _ _ e0 hpm fun _ z => by cases z
  have m1 : p ∉ μ1.m := g1.nom (by rw [e0]; simp) hpm
  have e2 : H2 p = some (DxO X.w p [] dict0) := g2.keep _ _ e1 m1 fun _ z => by cases z
  have m2 : p ∉ μ2.m := g2.nom (by rw [e1]; simp) m1
  have M2 : p ∈ μ2.M := g2.sub _ (g1.sub _ hM0)
  have hA3 : ((if kcls d1 = some false then (if mu = true then newDM [d1] [d2] else ret (.dct [d1] [d2])) else badM : M D) st2).All (KE G (Rep G) μ H Q) (KX G W σ μ H) := hA2
  by_cases hc : kcls d1 = some false
  · rw [if_pos hc] at hA3
    obtain ⟨k, hk, hv⟩ := kcls_f hc
    have ev1 := hv _ _ _ _ r1
    subst ev1
    refine ⟨e2, k, rfl, fun ob' => ?_⟩
    have G2 : Gr μ H μ2 (upd H2 p (DxO X.w p [(keyN k, kV k, v2)] ob')) := ((g0.trans g1).trans g2).upd_ hp
    have T2 := t2.upd_ (o := DxO X.w p [(keyN k, kV k, v2)] ob') M2 m2
    have da : DAt G μ2 (upd H2 p (DxO X.w p [(keyN k, kV k, v2)] ob')) p [d1] [d2] :=
      ⟨[(keyN k, kV k, v2)], ob', by rw [upd_same, hw], ⟨by rw [List.map_cons, List.map_cons, hk]; rfl, false, by simp [clsB_iff.mpr hc]⟩, (Reps.cons (r1.gr g2) .nil).upd_ M2, (Reps.cons r2 .nil).upd_ M2⟩
    exact fzD_run (mu := mu) t hp G2 T2 M2 m2 da hA3
  · rw [if_neg hc] at hA3
    exact hA3.elim
end
end Gw

set_option Elab.async false
set_option linter.all false
set_option maxRecDepth 100000
set_option maxHeartbeats 1000000
/-! Gw6: from the text to the core language. -/
namespace Gw
open PySem PySem.Spec PyProof.Rows L2
structure FnI where
  lv : Nat
  np : Nat
  φ : List D → M D
/-- a def that calls what it gets and answers errors -/
structure MetI where
  hs : List Hd
  fin : Option HE
structure Gam where
  N : List Str
  sc : Scope
  lv : Nat
  fns : List (Str × FnI)
  cst : List (Str × D)
  free : List Str
  mu : List (Nat × Nat)
  asg : List Str
  /-- defs that are values -/
  vfn : List Str := []
  /-- the def's table of code objects, its lambdas' name -/
  lam : Option (Nat × Str) := none
  mets : List (Str × MetI) := []
  /-- own error classes, with the field that they keep -/
  excs : List (Str × Option Str) := []
def Gam.tab (Γ : Gam) : List (Str × (List D → M D)) := Γ.vfn.filterMap fun x => match Γ.fns.lookup x with
  | some fi => if fi.lv ≤ Γ.lv then some (x, fi.φ) else none
  | none => none
def cellsOf (sc : Scope) : List Str := sc.names.filterMap fun y => match y.2 with
  | .cell => some y.1
  | _ => none
def Gam.inner (Γ : Gam) (sc : Scope) : Gam := { Γ with sc := relS sc Γ.sc, asg := cellsOf sc, lam := none }
/-- within a lambda -/
def Gam.lamIn (Γ : Gam) (sc : Scope) : Gam := { Γ with sc := sc, asg := [], lam := none, lv := Γ.lv - 2 }
def noPar : Arguments → Bool
  | ⟨[], [], none, [], [], none, []⟩ => true
  | _ => false
def envS (sc : Scope) : Env := { (default : Env) with scope := sc }
def semF : Sem Bool → Bool
  | .pure false => true
  | _ => false
def semN : Sem (Option (List Str)) → Bool
  | .pure none => true
  | _ => false
def semS (l : List Str) : Sem (Option (List Str)) → Bool
  | .pure (some k) => decide (k = l)
  | _ => false
def slotOf (N : List Str) (x : Str) : Option Nat := N.idxOf? x
def plainE : Expr → Bool
  | .Starred _ _ => false
  | _ => true
def visB (sc : Scope) (x : Str) : Bool := match sc.names.lookup x with
  | some .local => true
  | some .cell => true
  | some .free => true
  | _ => false
def locB (sc : Scope) (asg : List Str) (x : Str) : Bool := match sc.names.lookup x with
  | some .local => true
  | some .cell => asg.contains x
  | _ => false
def gloB (sc : Scope) (x : Str) : Bool := match sc.names.lookup x with
  | some .globalImplicit => true
  | _ => false
def nmOk (x : Str) : Bool := !(x == ("__debug__" : Str)) && !(x == ("__classdict__" : Str)) && !(x == ("__name__" : Str))
def tys : List (Str × String) := [("int", "int"), ("bool", "bool"), ("tuple", "tuple"), ("str", "str"), ("list", "list")]
def bi (φ : List D → Option D) : List D → M D := fun ds s => optM (φ (ds.map (drf s))) s
def ownOf (N : List Str) (sc : Scope) : List (Str × Nat) := sc.names.filterMap fun y => match y.2 with
  | .local => (slotOf N y.1).map fun i => (y.1, i)
  | .cell => (slotOf N y.1).map fun i => (y.1, i)
  | _ => none
def ownIx (N : List Str) (sc : Scope) : List Nat := (ownOf N sc).map fun p => p.2
def compG : Nat → Gam → Expr → Option T
  | 0, _, _ => none
  | n + 1, Γ, .Name x _ => if locB Γ.sc Γ.asg x then (slotOf Γ.N x).map .nm else none
  | n + 1, Γ, .Tuple [] _ _ => some .nil
  | n + 1, Γ, .Tuple (e :: es) k p => if plainE e then (compG n Γ e).bind fun a => (compG n Γ (.Tuple es k p)).map fun b => .cons a b else none
  | _, _, _ => none
def isTup : Expr → Bool
  | .Tuple .. => true
  | _ => false
def isComp : Expr → Bool
  | .ListComp .. => true
  | .SetComp .. => true
  | .DictComp .. => true
  | _ => false
def lamOf : List Expr → Option (Arguments × Expr × Scope)
  | [.Lambda params body lsc _] => some (params, body, lsc)
  | _ => none
mutual
def comp : Nat → Gam → Expr → Option E
  | 0, _, _ => none
  | n + 1, Γ, .Name x _ => if nmOk x then (if visB Γ.sc x then (slotOf Γ.N x).map .var else if gloB Γ.sc x then (match Γ.cst.lookup x with
      | some d => some (.c d)
      | none => if Γ.vfn.contains x && (Γ.fns.lookup x).isSome then some (.c (.fn x)) else match tys.lookup x with
        | some t => if Γ.free.contains x then some (.c (.ty t)) else none
        | none => none) else none) else none
  | n + 1, Γ, .Constant (.int i) _ _ => some (.c (.int i))
  | n + 1, Γ, .Constant (.str i) _ _ => some (.c (.str i))
  | n + 1, Γ, .Constant (.bool i) _ _ => some (.c (.bl i))
  | n + 1, Γ, .Constant .none _ _ => some (.c .non)
  | n + 1, Γ, .BinOp a o b p => (comp n Γ a).bind fun x => (comp n Γ b).bind fun y => if Γ.mu.contains (p.line, p.col) then (if o = .Add then some (.catL x y) else none) else some (.bin o x y)
  | n + 1, Γ, .UnaryOp .USub a _ => (comp n Γ a).map .neg
  | n + 1, Γ, .UnaryOp .Not a _ => (comp n Γ a).map .not_
  | n + 1, Γ, .Compare a [o] [b] _ => if behindInMarks o b then none else (comp n Γ a).bind fun x => (comp n Γ b).map fun y => .cmp o x y
  | n + 1, Γ, .Compare a [o, p] [b, c] _ => if behindInMarks p c then none else (comp n Γ a).bind fun x => (comp n Γ b).bind fun y => (comp n Γ c).map fun z => .chain o p x y z
  | n + 1, Γ, .BoolOp o [a] _ => comp n Γ a
  | n + 1, Γ, .BoolOp .And (a :: b :: r) p => (comp n Γ a).bind fun x => (comp n Γ (.BoolOp .And (b :: r) p)).map fun y => .and_ x y
  | n + 1, Γ, .BoolOp .Or (a :: b :: r) p => (comp n Γ a).bind fun x => (comp n Γ (.BoolOp .Or (b :: r) p)).map fun y => .or_ x y
  | n + 1, Γ, .IfExp c a b _ => (compT n Γ c).bind fun x => (comp n Γ a).bind fun y => (comp n Γ b).map fun z => .ite x y z
  | n + 1, Γ, .Tuple es _ _ => (comps n Γ es).map .tup
  | n + 1, Γ, .List es p => (comps n Γ es).map fun c => if Γ.mu.contains (p.line, p.col) then .lstM c else .lst c
  | n + 1, Γ, .Subscript a (.Slice lo hi none _) _ => (comp n Γ a).bind fun x => (compO n Γ lo).bind fun l => (compO n Γ hi).map fun h => .sl x l h
  | n + 1, Γ, .Subscript a (.Slice lo hi (some _) _) _ => none
  | n + 1, Γ, .Subscript a i _ => (comp n Γ a).bind fun x => (comp n Γ i).map fun k => .ix x k
  | n + 1, Γ, .ListComp elt [⟨tg, it, ifs, 0⟩] sc p =>
    if blkC Γ.N Γ.sc sc (ownOf Γ.N sc) then (compI n Γ tg it).bind fun ci =>
      (compG n (Γ.inner sc) tg).bind fun ct => if ct.slots.all fun j => decide (j ∈ ownIx Γ.N sc) then
        (match ifs with
          | [] => some (E.c (.bl true))
          | [c] => compT n (Γ.inner sc) c
          | _ => none).bind fun cc => (comp n (Γ.inner sc) elt).map fun ce => if Γ.mu.contains (p.line, p.col) then .lcM (ownIx Γ.N sc) ct ci cc ce else .lc (ownIx Γ.N sc) ct ci cc ce else none else none
  | n + 1, Γ, .DictComp k v [⟨tg, it, ifs, 0⟩] sc p =>
    if blkC Γ.N Γ.sc sc (ownOf Γ.N sc) then (compI n Γ tg it).bind fun ci =>
      (compG n (Γ.inner sc) tg).bind fun ct => if ct.slots.all fun j => decide (j ∈ ownIx Γ.N sc) then
        (match ifs with
          | [] => some (E.c (.bl true))
          | [c] => compT n (Γ.inner sc) c
          | _ => none).bind fun cc => (comp n (Γ.inner sc) k).bind fun ck => (comp n (Γ.inner sc) v).map fun cv => .dc (Γ.mu.contains (p.line, p.col)) (ownIx Γ.N sc) ct ci cc ck cv else none else none
  | n + 1, Γ, .ListComp elt [⟨tg, it, ifs, 0⟩, ⟨tg1, it1, ifs1, 0⟩] sc _ =>
    if blkC Γ.N Γ.sc sc (ownOf Γ.N sc) then (compI n Γ tg it).bind fun ci =>
      (compG n (Γ.inner sc) tg).bind fun ct => if ct.slots.all fun j => decide (j ∈ ownIx Γ.N sc) then
        (match ifs with
          | [] => some (E.c (.bl true))
          | [c] => compT n (Γ.inner sc) c
          | _ => none).bind fun cc => (compI n (Γ.inner sc) tg1 it1).bind fun ci1 => (compG n (Γ.inner sc) tg1).bind fun ct1 => if ct1.slots.all fun j => decide (j ∈ ownIx Γ.N sc) then
        (match ifs1 with
          | [] => some (E.c (.bl true))
          | [c] => compT n (Γ.inner sc) c
          | _ => none).bind fun cc1 => (comp n (Γ.inner sc) elt).map fun ce => .lc2 (ownIx Γ.N sc) ct ci cc ct1.slots ct1 ci1 cc1 ce else none else none else none
  | n + 1, Γ, .Call (.Name f p) (a :: as) [] _ => match lamOf (a :: as) with
    | some (params, body, lsc) => if nmOk f && gloB Γ.sc f && noPar params && LamX.lamSB Γ.sc lsc && decide (2 ≤ Γ.lv) then (match Γ.mets.lookup f, Γ.lam with
      | some mi, some (r, q) => (comp n (Γ.lamIn lsc) body).map fun c => .met r q c mi.hs mi.fin
      | _, _ => none) else none
    | none => if visB Γ.sc f && nmOk f && (a :: as).all plainE then (comp n Γ (.Name f p)).bind fun x => (comps n Γ (a :: as)).map fun c => .callV Γ.tab x c
      else if nmOk f && gloB Γ.sc f && (a :: as).all plainE then (match Γ.fns.lookup f with
      | some fi => if fi.lv ≤ Γ.lv then (comps n Γ (a :: as)).map (.call fi.φ) else none
      | none => match bis.lookup f with
        | some v => if Γ.free.contains f then (comps n Γ (a :: as)).map (.call (bi v.2)) else none
        | none => none) else none
  | n + 1, Γ, .Call (.Name f p) [a] [⟨some k, .Lambda params body lsc lpos, kpos⟩] pos =>
    if decide (f = "sorted") && decide (k = "key") && gloB Γ.sc f && Γ.free.contains f && Γ.free.contains "len" && plainE a && lenBody "_law_cell" body && lenScope "_law_cell" lsc && lenParams "_law_cell" params then (match Γ.lam with
      | some (r, q) => (comp n Γ a).map fun c => .lamB r q sortLcD c
      | none => none) else none
  | n + 1, Γ, .Call (.Attribute (.Name x p) m q) [a] [] r => if decide (m = "append") && plainE a && decide ((q.endLine == r.line) = true) then (comp n Γ (.Name x p)).bind fun o => (comp n Γ a).map fun c => .app o c else if decide (m = "extend") && plainE a && decide ((q.endLine == r.line) = true) then (comp n Γ (.Name x p)).bind fun o => (comp n Γ a).map fun c => .ext o c else if decide (m = "update") && plainE a && decide ((q.endLine == r.line) = true) then (comp n Γ (.Name x p)).bind fun o => (comp n Γ a).map fun c => .dupd o c else none
  | n + 1, Γ, .Call (.Attribute (.Name x p) m q) [a, b] [] r => if decide (m = "get") && plainE a && plainE b && decide ((q.endLine == r.line) = true) then (comp n Γ (.Name x p)).bind fun o => (comp n Γ a).bind fun c => (comp n Γ b).map fun d => .dget o c d else none
  | n + 1, Γ, .Dict [some k] [v] p => (comp n Γ k).bind fun x => (comp n Γ v).map fun y => .d1 (Γ.mu.contains (p.line, p.col)) x y
  | n + 1, Γ, .Dict [] [] p => some (if Γ.mu.contains (p.line, p.col) then .dnewM else .dnew)
  | _, _, _ => none
def compO : Nat → Gam → Option Expr → Option E
  | 0, _, _ => none
  | n + 1, Γ, none => some (.c .non)
  | n + 1, Γ, some e => (comp n Γ e).map .int_
def comps : Nat → Gam → List Expr → Option E
  | 0, _, _ => none
  | n + 1, Γ, [] => some .nil
  | n + 1, Γ, .Starred e _ :: es => (comp n Γ e).bind fun x => (comps n Γ es).map fun y => .star x y
  | n + 1, Γ, e :: es => (comp n Γ e).bind fun x => (comps n Γ es).map fun y => .cons x y
def compT : Nat → Gam → Expr → Option E
  | 0, _, _ => none
  | n + 1, Γ, .UnaryOp .Not a _ => (compT n Γ a).map .not_
  | n + 1, Γ, .BoolOp o [a] _ => compT n Γ a
  | n + 1, Γ, .BoolOp .And (a :: b :: r) p => (compT n Γ a).bind fun x => (compT n Γ (.BoolOp .And (b :: r) p)).map fun y => .and_ x y
  | n + 1, Γ, .BoolOp .Or (a :: b :: r) p => (compT n Γ a).bind fun x => (compT n Γ (.BoolOp .Or (b :: r) p)).map fun y => .or_ x y
  | n + 1, Γ, .Compare a [o] [b] _ => if behindInMarks o b then none else (comp n Γ a).bind fun x => (comp n Γ b).map fun y => .cmp o x y
  | n + 1, Γ, .Compare a [o, p] [b, c] _ => if lastMarks [o, p] [b, c] then none else (comp n Γ a).bind fun x => (comp n Γ b).bind fun y => (comp n Γ c).map fun z => .chain o p x y z
  | n + 1, Γ, .Name x p => comp n Γ (.Name x p)
  | n + 1, Γ, .Call f as ks p => comp n Γ (.Call f as ks p)
  | n + 1, Γ, .Subscript a i p => comp n Γ (.Subscript a i p)
  | n + 1, Γ, .Constant c i p => comp n Γ (.Constant c i p)
  | _, _, _ => none
def compI : Nat → Gam → Expr → Expr → Option E
  | 0, _, _, _ => none
  | n + 1, Γ, tg, .Call (.Name f q) [a] [] p =>
    if f = "range" then (if gloB Γ.sc f && Γ.free.contains f && plainE a then (comp n Γ a).map .rng1 else none)
    else if f = "enumerate" then (if isTup tg && gloB Γ.sc f && Γ.free.contains f && plainE a then (comp n Γ a).map .enum else none)
    else (comp n Γ (.Call (.Name f q) [a] [] p)).map .it1
  | n + 1, Γ, tg, .Call (.Name f q) [a, b] [] p =>
    if f = "range" then (if gloB Γ.sc f && Γ.free.contains f && plainE a && plainE b then (comp n Γ a).bind fun x => (comp n Γ b).map fun y => .rng2 x y else none)
    else if f = "zip" then (if isTup tg && gloB Γ.sc f && Γ.free.contains f && plainE a && plainE b then (comp n Γ a).bind fun x => (comp n Γ b).map fun y => .zip x y else none)
    else (comp n Γ (.Call (.Name f q) [a, b] [] p)).map .it1
  | n + 1, Γ, tg, .Call (.Name f q) [a, b, d] [] p =>
    if f = "range" then (if gloB Γ.sc f && Γ.free.contains f && plainE a && plainE b && plainE d then (comp n Γ a).bind fun x => (comp n Γ b).bind fun y => (comp n Γ d).map fun z => .rng3 x y z else none)
    else (comp n Γ (.Call (.Name f q) [a, b, d] [] p)).map .it1
  | n + 1, Γ, tg, .Call (.Attribute (.Name x p) m q) [] [] r =>
    if decide (m = "items") && isTup tg && decide ((q.endLine == r.line) = true) then (comp n Γ (.Name x p)).map .itms else (comp n Γ (.Call (.Attribute (.Name x p) m q) [] [] r)).map .it1
  | n + 1, Γ, tg, e => (comp n Γ e).map .it1
end

def spD (G : Glo) (φ : List D → M D) (np : Nat) : Sp := fun vs H Q E => vs.length = np ∧ ∃ μ ds st, Reps G μ H ds vs ∧ STR G μ st H ∧ (φ ds st).All (KE G (Rep G) μ H Q) (KX G (wX E) [] μ H)
/-- what becomes of an error in such a def -/
def CatchOk (G : Glo) (hs : List Hd) (cls : Value) (d : Option Addr) (H : Hp) (Q : VK) : Prop :=
  ∃ μ st x v, STR G μ st H ∧ RepX G μ H x v cls d ∧ (catchT x v st hs).All (KE G (Rep G) μ H Q) fun _ _ _ => False
def FinOk (G : Glo) (fin : Option HE) (H : Hp) (v : V) (Q : VK) : Prop := match fin with
  | none => Q v H
  | some h => ∃ μ st, STR G μ st H ∧ ((heM none .non h st).noX).All (KE G (Rep G) μ H Q) fun _ _ _ => False
def TTm (G : Glo) (mi : MetI) : (XK → Hp → VK → Prop) → Hp → VK → Prop := fun tl H Q => ∃ Ech : XK, (∀ cls d H', Ech cls d H' → CatchOk G mi.hs cls d H' Q) ∧ tl Ech H fun v H' => FinOk G mi.fin H' v Q
def MetFact (P : Program) (w : World) (K : PySem.W.Frag) (mg : Str → Option Value) (base : Heap) (G : Glo) (x : Str) (mi : MetI) : Prop :=
  ∃ g pg bg sg cdv a Ng, GotD P K mg x g pg bg sg cdv a ∧ FnScope Ng [a] sg ∧ Ng[0]? = some a ∧ Vis sg a ∧ (a == ("__debug__" : Str)) = false ∧ (a == ("__classdict__" : Str)) = false ∧
    ∀ X : Cx, X.prog = P → X.w = w → X.K = K → X.mg = mg → X.base = base → Quiet X.A → (∃ k, Room k X.A) → LamX.GivesTo X Ng x sg g cdv bg a (X.env.qual ++ "<lambda>") (TTm G mi)
def ExcFact (P : Program) (K : PySem.W.Frag) (mg : Str → Option Value) (G : Glo) (x : Str) (o : Option Str) : Prop := G.fld x = o ∧ (x == ("__debug__" : Str)) = false ∧ match o with
  | none => ∃ C B newId initId bmB, ExcBaseFacts B newId initId bmB ∧ PySem.W.excIn K C bmB newId = true ∧ mg x = some (.ref C) ∧ PySem.W.keepIn K (.ref C) = true ∧ PySem.W.subIn K (.ref C) (.type "BaseException") = some true ∧ PySem.W.typeIn K (.ref C) = some (.type "type")
  | some f => ∃ C fI B newId initId bmB qual params body scope arg, mg x = some (.ref C) ∧ KeepC P K C fI B newId initId bmB qual params body scope f ∧ InitT params body scope arg f
structure Fits (Γ : Gam) (X : Cx) (G : Glo) (W : WX) : Prop where
  N : X.N = Γ.N
  nd : Γ.N.Nodup
  sc : X.env.scope = Γ.sc
  calm : X.calm = true
  K : G.K = X.K
  w : G.w = X.w
  mg : G.mg = X.mg
  tk : Takes X W
  po : PassesOwn (model X.prog X.w) X.A X.env X.xe
  fn : ∀ x ∈ Γ.asg, X.fn x = true
  room : Room Γ.lv X.A
  fns : ∀ x fi, Γ.fns.lookup x = some fi → ∃ f fd ps, X.mg x = some (.ref f) ∧ PySem.W.keepIn X.K (.ref f) = true ∧ Binds X.K fd ps [] ∧ FnG X.prog X.w X.K X.mg X.base (L2.CX X.prog X.w) fi.lv f fd ps (spD G fi.φ fi.np) ∧ ∀ ds st P E, (fi.φ ds st).All P E → ds.length = fi.np
  cst : ∀ x d, Γ.cst.lookup x = some d → ∃ u v, X.mg x = some u ∧ RelV v u ∧ ∀ μ H, Rep G μ H d v
  free : ∀ x ∈ Γ.free, X.mg x = none
  gd : Quiet X.A
  lam : ∀ r q, Γ.lam = some (r, q) → q = X.env.qual ++ "<lambda>" ∧ ∃ c P, LamX.TabB X.base X.mg c P ∧ X.env.code = .ref c ∧ G.T[r]? = some P
  mets : ∀ x mi, Γ.mets.lookup x = some mi → MetFact X.prog X.w X.K X.mg X.base G x mi
  excs : ∀ x o, Γ.excs.lookup x = some o → ExcFact X.prog X.K X.mg G x o
theorem Fits.inner {Γ : Gam} {X : Cx} {G : Glo} {W : WX} (F : Fits Γ X G W) {sc : Scope} {own : List (Str × Nat)} (ok : BlkOk X.N X.env.scope sc own) (s : Shared) (H : Hp) (C : Addr) (cl : List (Str × Addr)) (fp : List Addr) :
    Fits (Γ.inner sc) (X.blk s H sc (compEnvC sc cl C X.env) fp) G (fun _ _ _ _ => False) := by
  refine ⟨F.N, F.nd, ?_, F.calm, F.K, F.w, F.mg, takes0, PassesOwn.never, fun x hx => ?_, F.room, F.fns, F.cst, F.free, F.gd, (fun _ _ z => by cases z), F.mets, F.excs⟩
  · show relS sc X.env.scope = relS sc Γ.sc
    rw [F.sc]
  · obtain ⟨y, hy, e⟩ := List.mem_filterMap.mp (show x ∈ cellsOf sc from hx)
    obtain ⟨z, k⟩ := y
    cases k <;> first | (cases e; done) | skip
    cases e
    show (sc.names.lookup z == some .cell) = true
    rw [ok.uniq _ hy]
    rfl
section
variable {Γ : Gam} {X : Cx} {G : Glo} {W : WX}
theorem slot_get {N : List Str} {x : Str} {i : Nat} (h : slotOf N x = some i) : N[i]? = some x := by
  unfold slotOf at h
  obtain ⟨hl, he, _⟩ := List.idxOf?_eq_some_iff.mp h
  rw [List.getElem?_eq_getElem hl, he]
theorem loc_of {sc : Scope} {asg : List Str} {x : Str} (h : locB sc asg x = true) : Loc sc x ∧ (sc.names.lookup x = some .local ∨ x ∈ asg) := by
  unfold locB at h
  split at h
  · rename_i e; exact ⟨.inl e, .inl e⟩
  · rename_i e; exact ⟨.inr e, .inr (by simpa using h)⟩
  · cases h
theorem vis_of {sc : Scope} {x : Str} (h : visB sc x = true) : Vis sc x := by
  unfold visB at h
  split at h
  · rename_i e; exact .inl e
  · rename_i e; exact .inr (.inl e)
  · rename_i e; exact .inr (.inr e)
  · cases h
theorem glo_of (F : Fits Γ X G W) {x : Str} (h : gloB Γ.sc x = true) : Gl X x := by
  unfold gloB at h
  split at h
  · rename_i e
    show X.env.scope.names.lookup x = _
    rw [F.sc]; exact e
  · cases h
theorem nm_of {x : Str} (h : nmOk x = true) : (x == ("__debug__" : Str)) = false ∧ (x == ("__classdict__" : Str)) = false ∧ x ≠ "__name__" := by
  unfold nmOk at h
  simp only [Bool.and_eq_true, Bool.not_eq_true'] at h
  exact ⟨h.1.1, h.1.2, fun z => by rw [z] at h; exact absurd h.2 (by simp)⟩
theorem star_of {e : Expr} {es : List Expr} {env : Env} (h : plainE e = true) : starEach (e :: es) env = (false, eval e env) :: starEach es env := by
  cases e <;> first | rfl | cases h
theorem anyStar {es : List Expr} {pos : Pos} {env : Env} (h : es.all plainE = true) : (backTo pos (starEach es env)).any (·.1) = false := by
  induction es with
  | nil => rfl
  | cons e es ih =>
    simp only [List.all_cons, Bool.and_eq_true] at h
    rw [star_of h.1]
    show (false || (backTo pos (starEach es env)).any (·.1)) = false
    rw [ih h.2]
    rfl
theorem asg_of {e : Expr} {es : List Expr} {env : Env} (h : plainE e = true) : assignEach (e :: es) env = (false, assign e env) :: assignEach es env := by
  cases e <;> first | rfl | cases h
theorem tup_G : ∀ (n : Nat) (es : List Expr) (k : Nat) (p : Pos) (t : T), compG n Γ (.Tuple es k p) = some t → t.isTup = true ∧ ∀ env : Env, (assignEach es env).length = t.len ∧ (assignEach es env).findIdx? (·.1) = none
  | 0, _, _, _, _, h => by cases h
  | n + 1, [], k, p, t, h => by
    cases h
    exact ⟨rfl, fun _ => ⟨rfl, rfl⟩⟩
  | n + 1, e :: es, k, p, t, h => by
    unfold compG at h
    split at h
    · rename_i he
      obtain ⟨a, _, h2⟩ := Option.bind_eq_some_iff.mp h
      obtain ⟨b, h3, rfl⟩ := Option.map_eq_some_iff.mp h2
      obtain ⟨q1, q2⟩ := tup_G n es k p b h3
      refine ⟨q1, fun env => ?_⟩
      rw [asg_of he]
      obtain ⟨l1, l2⟩ := q2 env
      refine ⟨by show (assignEach es env).length + 1 = b.len + 1; rw [l1], ?_⟩
      rw [List.findIdx?_cons]
      simp [l2]
    · cases h
theorem G_ok (F : Fits Γ X G W) : ∀ (n : Nat), (∀ (e : Expr) (t : T), compG n Γ e = some t → PG X e (gT G t)) ∧ (∀ (es : List Expr) (k : Nat) (p : Pos) (t : T), compG n Γ (.Tuple es k p) = some t → PGs X es (gTs G t))
  | 0 => ⟨fun _ _ h => (by cases h), fun _ _ _ _ h => (by cases h)⟩
  | n + 1 => by
    have ih := G_ok F n
    have ts : ∀ (es : List Expr) (k : Nat) (p : Pos) (t : T), compG (n + 1) Γ (.Tuple es k p) = some t → PGs X es (gTs G t) := by
      intro es k p t h
      cases es with
      | nil => cases h; exact tnil_ok
      | cons e es =>
        unfold compG at h
        split at h
        · rename_i he
          obtain ⟨a, h1, h2⟩ := Option.bind_eq_some_iff.mp h
          obtain ⟨b, h3, rfl⟩ := Option.map_eq_some_iff.mp h2
          exact tcons_ok (ih.1 e a h1) (ih.2 es k p b h3) (by rw [asg_of he]; rfl)
        · cases h
    refine ⟨fun e t h => ?_, ts⟩
    cases e with
    | Name x p =>
      unfold compG at h
      split at h
      · rename_i hl
        obtain ⟨i, h1, rfl⟩ := Option.map_eq_some_iff.mp h
        obtain ⟨l1, l2⟩ := loc_of hl
        refine nm_ok (pg_name (by rw [F.N]; exact F.nd) (by rw [F.N]; exact slot_get h1) (by rw [F.sc]; exact l1) ?_)
        rcases l2 with z | z
        · exact .inr (by rw [F.sc]; exact z)
        · exact .inl (F.fn x z)
      · cases h
    | Tuple es k p =>
      obtain ⟨q1, q2⟩ := tup_G (n + 1) es k p t h
      exact ttup_ok F.K F.calm q1 (ts es k p t h) (q2 X.env).1 (q2 X.env).2
    | _ => cases h
end
/-- what compiles is right, to a depth -/
structure Snd (G : Glo) (n : Nat) : Prop where
  e : ∀ (Γ : Gam) (X : Cx) (W : WX) (e : Expr) (c : E), Fits Γ X G W → comp n Γ e = some c → PE X e (tE G W (ev c))
  o : ∀ (Γ : Gam) (X : Cx) (W : WX) (e : Option Expr) (c : E), Fits Γ X G W → compO n Γ e = some c → (e = none ∧ c = .c .non) ∨ ∃ e' c', e = some e' ∧ c = .int_ c' ∧ PE X e' (tE G W (ev c'))
  a : ∀ (Γ : Gam) (X : Cx) (W : WX) (es : List Expr) (c : E), Fits Γ X G W → comps n Γ es = some c → PA X es (tL G W (evs c))
  t : ∀ (Γ : Gam) (X : Cx) (W : WX) (e : Expr) (c : E), Fits Γ X G W → compT n Γ e = some c → PT X e (tB G W fun v => andThen (ev c v) truthM)
  i : ∀ (Γ : Gam) (X : Cx) (W : WX) (tg e : Expr) (c : E), Fits Γ X G W → compI n Γ tg e = some c → PI X tg e (iG G W (evi c)) ∧ ∀ env v, foldedSetIterable e env v = pure v
section
variable {Γ : Gam} {X : Cx} {G : Glo} {W : WX}
theorem bb {α β : Type} {o : Option α} {f : α → Option β} {b : β} (h : o.bind f = some b) : ∃ a, o = some a ∧ f a = some b := Option.bind_eq_some_iff.mp h
theorem mm {α β : Type} {o : Option α} {f : α → β} {b : β} (h : o.map f = some b) : ∃ a, o = some a ∧ f a = b := Option.map_eq_some_iff.mp h
theorem var_ok {i : Nat} {e : Expr} (h : PE X e (tVar i)) : PE X e (tE G W (ev (.var i))) := by
  refine PE.conv h fun σ H Q hh => ?_
  obtain ⟨μ, v, st, s, t, hA⟩ := hh
  obtain ⟨d, hd, k⟩ := optM_some hA
  obtain ⟨o, h1, h2⟩ := bb hd
  cases h2
  obtain ⟨x, q1, q2⟩ := s.slot i d h1
  exact ⟨x, q1, k.here t q2⟩
theorem con_ok {d : D} {v : V} {e : Expr} (h : PE X e (tC v)) (r : ∀ μ H, Rep G μ H d v) : PE X e (tE G W (ev (.c d))) := by
  refine PE.conv h fun σ H Q hh => ?_
  obtain ⟨μ, e, st, s, t, hA⟩ := hh
  exact KE.here hA t (r μ H)
theorem op2_ok {r : R2} {f : D → D → Option D} {ca cb : E} {σ : L2.St} {H : Hp} {Q : VK} (hr : ∀ v w H Q, rD G f v w H Q → r v w H Q)
    (h : tE G W (fun v => andThen (ev ca v) fun x => andThen (ev cb v) fun y => fun s => optM (f (drf s x) (drf s y)) s) σ H Q) : tOp r (tE G W (ev ca)) (tE G W (ev cb)) σ H Q := by
  obtain ⟨μ, e, st, s, t, hA⟩ := h
  refine tG_then s t hA fun μ1 H1 d1 st1 x g1 s1 t1 r1 hA1 => ?_
  refine tG_then s1 t1 hA1 fun μ2 H2 d2 st2 y g2 s2 t2 r2 hA2 => ?_
  obtain ⟨z, hz, k⟩ := optM_some hA2
  exact hr _ _ _ _ ⟨μ2, st2, _, _, z, t2, t2.drf (r1.gr g2), t2.drf r2, hz, k⟩
theorem truth_then {c : E} {μ : Mp} {e : Ev} {st : Sto} {σ : L2.St} {H : Hp} {γ δ : Type} {R' : Mp → Hp → γ → δ → Prop} {Q : δ → Hp → Prop} {f : D → Bool → Sto → Tr γ} (hK : G.K = X.K)
    (s : SR G μ e σ H) (t : STR G μ st H) (h : ((ev c e st).bind fun x s1 => (truthM x s1).bind fun b s2 => f x b s2).All (KE G R' μ H Q) (KX G W σ μ H)) (P : V → Bool → Hp → Prop)
    (k : ∀ μ1 H1 d st1 x b, Gr μ H μ1 H1 → SR G μ1 e σ H1 → STR G μ1 st1 H1 → Rep G μ1 H1 d x → TruV X.K x H1 b → (f d b st1).All (KE G R' μ1 H1 Q) (KX G W σ μ1 H1) → P x b H1) : tE G W (ev c) σ H fun x H1 => ∃ b, TruV X.K x H1 b ∧ P x b H1 := by
  refine tG_then s t h fun μ1 H1 d st1 x g1 s1 t1 r1 hA => ?_
  cases ht : (drf st1 d).truth with
  | none =>
    have : ((truthM d st1).bind fun b s2 => f d b s2) = .bad := by unfold truthM; rw [ht]; rfl
    rw [this] at hA
    exact hA.elim
  | some b =>
    have : ((truthM d st1).bind fun b s2 => f d b s2) = f d b st1 := by unfold truthM; rw [ht]; rfl
    rw [this] at hA
    exact ⟨b, truth_ok hK (t1.drf r1) ht, k μ1 H1 d st1 x b g1 s1 t1 r1 (truth_ok hK (t1.drf r1) ht) hA⟩
end
end Gw

set_option Elab.async false
set_option linter.all false
set_option maxRecDepth 100000
set_option maxHeartbeats 1000000
/-! Gw7: what compiles is right: expressions. -/
namespace Gw
open PySem PySem.Spec PyProof.Rows L2
section
variable {G : Glo}
theorem Tr.bind_asc {α β γ : Type} {f : α → Sto → Tr β} {g : β → Sto → Tr γ} : ∀ t : Tr α, (t.bind f).bind g = t.bind fun a s => (f a s).bind g
  | .ok a s => rfl
  | .ex x v s => rfl
  | .pick n k => by
    show Tr.pick n _ = Tr.pick n _
    congr 1
    funext i
    exact Tr.bind_asc (k i)
  | .bad => rfl
theorem un1 {W : WX} {r : V → Hp → VK → Prop} {f : D → Option D} {ca : E} {σ : L2.St} {H : Hp} {Q : VK} (hr : ∀ v H Q, rD1 G f v H Q → r v H Q)
    (h : tE G W (fun v => andThen (ev ca v) fun x => optM (f x)) σ H Q) : tUn r (tE G W (ev ca)) σ H Q := by
  obtain ⟨μ, e, st, s, t, hA⟩ := h
  refine tG_then s t hA fun μ1 H1 d1 st1 x g1 s1 t1 r1 hA1 => ?_
  obtain ⟨z, hz, k⟩ := optM_some hA1
  exact hr _ _ _ ⟨μ1, st1, d1, z, t1, .rep r1, hz, k⟩
/-- from args to a call of a built-in -/
theorem bi_ok {W : WX} {φ : List D → Option D} {c : E} {σ : L2.St} {H : Hp} {Q : VK} (h : tE G W (ev (.call (bi φ) c)) σ H Q) : tCB (rL G φ) (tL G W (evs c)) σ H Q := by
  obtain ⟨μ, e, st, s, t, hA⟩ := h
  refine tG_then (da := evs c) s t hA fun μ1 H1 ds st1 vs g1 s1 t1 r1 hA1 => ?_
  obtain ⟨z, hz, k⟩ := optM_some hA1
  exact ⟨μ1, st1, _, z, t1, t1.drfs r1, hz, k⟩
theorem call_ok {W : WX} {φ : List D → M D} {np : Nat} {c : E} {σ : L2.St} {H : Hp} {Q : VK} (hl : ∀ μ H ds vs, Reps G μ H ds vs → ∀ st P E, (φ ds st).All P E → ds.length = np) (h : tE G W (ev (.call φ c)) σ H Q) :
    tCallS (spD G φ np) (WE W) (tL G W (evs c)) σ H Q := by
  obtain ⟨μ, e, st, s, t, hA⟩ := h
  refine tG_then (da := evs c) s t hA fun μ1 H1 ds st1 vs g1 s1 t1 r1 hA1 => ?_
  exact ⟨by rw [← r1.length]; exact hl μ1 H1 ds vs r1 st1 _ _ hA1, μ1, ds, st1, r1, t1, hA1⟩
theorem call_ok' {W : WX} {φ : List D → M D} {np : Nat} {c : E} {σ : L2.St} {H : Hp} {Q : VK} (hl : ∀ ds st P E, (φ ds st).All P E → ds.length = np) (h : tE G W (ev (.call φ c)) σ H Q) :
    tCallS (spD G φ np) (WE W) (tL G W (evs c)) σ H Q := call_ok (fun _ _ ds _ _ st P E => hl ds st P E) h
theorem own_plain {e : Expr} {Γ : Gam} {n : Nat} {c : E} (h : comp n Γ e = some c) : plainE e = true := by
  cases n with
  | zero => cases h
  | succ n => cases e <;> first | rfl | cases h
theorem push_ok {μ : Mp} {H : Hp} {st : Sto} {p : Addr} {ds : List D} {vs : List V} (t : STR G μ st H) (hp : H p = none) (r : Reps G μ H ds vs) :
    STR G ⟨p :: μ.M, μ.m ++ [p]⟩ (st ++ [.lst ds]) (upd H p (.lst vs)) ∧ Gr μ H ⟨p :: μ.M, μ.m ++ [p]⟩ (upd H p (.lst vs)) := by
  have g : Gr μ H ⟨p :: μ.M, μ.m ++ [p]⟩ (upd H p (.lst vs)) := by
    refine ⟨fun a u e _ _ => by rw [upd_ne (ne_of_none e hp)]; exact e, fun a e => ?_, ⟨[p], rfl, fun a ha => by rw [List.mem_singleton.mp ha]; exact hp⟩, fun a ha => List.mem_cons_of_mem _ ha, fun a ha => ?_, t.sub, tbl_upd fun _ z => by cases z⟩
    · by_cases z : a = p
      · rw [z]; exact hp
      · rw [upd_ne z] at e; exact e
    · rcases List.mem_cons.mp ha with z | z
      · exact .inr (by rw [z]; exact hp)
      · exact .inl z
  refine ⟨⟨by simp [t.len], fun i o h => ?_, fun a ha => ?_, ?_, fun a ha => ?_, fun q P hq => ?_, fun a ps h => let ⟨_, z⟩ := g.tbl a ps h; List.mem_append_left _ (t.tin a _ z)⟩, g⟩
  · by_cases hi : i < st.length
    · rw [List.getElem?_append_left hi] at h
      obtain ⟨a, h1, h2⟩ := t.at_ i o h
      refine ⟨a, by show (μ.m ++ [p])[i]? = _; rw [List.getElem?_append_left (by rw [t.len]; exact hi)]; exact h1, h2.same g (upd_ne fun z => ?_)⟩
      exact t.tr a (t.sub a (List.mem_of_getElem? h1)) (by rw [z]; exact hp)
    · have hi2 : i = st.length := by
        have := (List.getElem?_eq_some_iff.mp h).1
        rw [List.length_append] at this
        simp at this
        omega
      subst hi2
      rw [List.getElem?_append_right (Nat.le_refl _), Nat.sub_self] at h
      cases h
      refine ⟨p, by show (μ.m ++ [p])[st.length]? = _; rw [List.getElem?_append_right (by rw [t.len]; exact Nat.le_refl _), t.len, Nat.sub_self]; rfl, vs, upd_same, r.gr g⟩
  · rcases List.mem_append.mp ha with z | z
    · exact List.mem_cons_of_mem _ (t.sub a z)
    · rw [List.mem_singleton.mp z]; exact List.mem_cons_self
  · show (μ.m ++ [p]).Nodup
    rw [List.nodup_append]
    refine ⟨t.nd, by simp, fun a ha b hb z => ?_⟩
    rw [List.mem_singleton.mp hb] at z
    exact t.tr a (t.sub a ha) (by rw [z]; exact hp)
  · rcases List.mem_cons.mp ha with z | z
    · exact .inl (by rw [z]; exact List.mem_append_right _ List.mem_cons_self)
    · rcases t.lt a z with y | ⟨u, y, nu⟩
      · exact .inl (List.mem_append_left _ y)
      · exact .inr ⟨u, by rw [upd_ne fun q => t.tr a z (by rw [q]; exact hp)]; exact y, nu⟩
  · have := t.tb q P hq
    show (μ.m ++ [p])[q]? = _
    rw [List.getElem?_append_left (List.getElem?_eq_some_iff.mp this).1]
    exact this
/-- an object at hand changes -/
theorem chgO_ok {μ : Mp} {H : Hp} {st : Sto} {r : Nat} {p : Addr} {o o' : MO} {u : HO} (t : STR G μ st H) (hp : μ.m[r]? = some p) (hx : st[r]? = some o) (nt : ∀ ps, u ≠ .tbl ps) (ho : ORep G μ (upd H p u) p o') :
    STR G μ (st.set r o') (upd H p u) ∧ Gr μ H μ (upd H p u) := by
  have hm : p ∈ μ.m := List.mem_of_getElem? hp
  have hM := t.sub p hm
  have g : Gr μ H μ (upd H p u) := by
    refine ⟨fun a v e n _ => by rw [upd_ne fun z => n (by rw [z]; exact hm)]; exact e, fun a e => ?_, ⟨[], by simp, by simp⟩, fun _ h => h, fun _ h => .inl h, t.sub, tbl_upd nt⟩
    by_cases z : a = p
    · rw [z, upd_same] at e; cases e
    · rw [upd_ne z] at e; exact e
  refine ⟨⟨by simp [t.len], fun i x h => ?_, t.sub, t.nd, fun a h => ?_, t.tb, fun a ps h => let ⟨_, z⟩ := g.tbl a ps h; t.tin a _ z⟩, g⟩
  · by_cases hi : r = i
    · subst hi
      have hl : r < st.length := (List.getElem?_eq_some_iff.mp hx).1
      rw [List.getElem?_set_self hl] at h
      cases h
      exact ⟨p, hp, ho⟩
    · rw [List.getElem?_set_ne hi] at h
      obtain ⟨a, h1, h2⟩ := t.at_ i x h
      have ne : a ≠ p := fun z => hi (by
        subst z
        obtain ⟨l1, e1⟩ := List.getElem?_eq_some_iff.mp hp
        obtain ⟨l2, e2⟩ := List.getElem?_eq_some_iff.mp h1
        have pw := List.pairwise_iff_getElem.mp t.nd
        rcases Nat.lt_trichotomy r i with z | z | z
        · exact absurd (e1.trans e2.symm) (pw r i l1 l2 z)
        · exact z
        · exact absurd (e1.trans e2.symm).symm (pw i r l2 l1 z))
      exact ⟨a, h1, h2.same g (upd_ne ne)⟩
  · rcases t.lt a h with y | ⟨v, y, nu⟩
    · exact .inl y
    · by_cases z : a = p
      · exact .inl (by rw [z]; exact hm)
      · exact .inr ⟨v, by rw [upd_ne z]; exact y, nu⟩
/-- a list at hand gets other members -/
theorem chg_ok {μ : Mp} {H : Hp} {st : Sto} {r : Nat} {p : Addr} {xs xs' : List D} {vs vs' : List V} (t : STR G μ st H) (hp : μ.m[r]? = some p) (hx : st[r]? = some (.lst xs)) (hv : H p = some (.lst vs)) (rv : Reps G μ H xs' vs') :
    STR G μ (st.set r (.lst xs')) (upd H p (.lst vs')) ∧ Gr μ H μ (upd H p (.lst vs')) :=
  chgO_ok t hp hx (fun _ z => by cases z) ⟨_, upd_same, rv.upd_ (t.sub p (List.mem_of_getElem? hp))⟩
/-- a dict at hand gets other entries -/
theorem chgD_ok {μ : Mp} {H : Hp} {st : Sto} {r : Nat} {p : Addr} {o : MO} {ks vs : List D} {kvs : List Ent} (t : STR G μ st H) (hp : μ.m[r]? = some p) (hx : st[r]? = some o) (hk : KRel ks kvs) (r1 : Reps G μ H ks (kvs.map fun p => p.2.1)) (r2 : Reps G μ H vs (kvs.map fun p => p.2.2)) :
    ∀ ob, STR G μ (st.set r (.dct ks vs)) (upd H p (DxO G.w p kvs ob)) ∧ Gr μ H μ (upd H p (DxO G.w p kvs ob)) := fun ob =>
  have hM := t.sub p (List.mem_of_getElem? hp)
  chgO_ok t hp hx (fun _ z => by cases z) ⟨kvs, ob, _, _, upd_same, hk, rfl, rfl, r1.upd_ hM, r2.upd_ hM⟩
theorem app_ok {X : Cx} {W : WX} {o y : E} {σ : L2.St} {H : Hp} {Q : VK} (hK : G.K = X.K) (h : tE G W (ev (.app o y)) σ H Q) : tBM X.K "list" rAppend (tE G W (ev o)) (tCons (tE G W (ev y)) tNil) σ H Q := by
  obtain ⟨μ, e, st, s, t, hA⟩ := h
  refine tG_then s t hA fun μ1 H1 d st1 v g1 s1 t1 r1 hA1 => ?_
  have hA0 : (if atL st1 d = true then andThen (ev y e) (appX d) st1 else Tr.bad).All (KE G (Rep G) μ1 H1 Q) (KX G W σ μ1 H1) := hA1
  split at hA0
  case isFalse => exact hA0.elim
  rename_i hat
  cases d <;> first | (cases hat; done) | skip
  rename_i r
  cases r1 with
  | @ref _ a ha =>
    have hq : ∃ xs, SqL X.K H1 a xs := by
      have hat' : (match st1[r]? with
        | some (.lst _) => true
        | _ => false) = true := hat
      cases hs : st1[r]? with
      | none => rw [hs] at hat'; cases hat'
      | some ob =>
        rw [hs] at hat'
        cases ob with
        | lst xs =>
          obtain ⟨a', h1, vs, h3, _⟩ := t1.at_ r _ hs
          rw [ha] at h1
          cases h1
          exact ⟨vs, .inl (.inl h3)⟩
        | hat => cases hat'
        | tab q => cases hat'
        | dct ks vs => cases hat'
    refine ⟨.inl ⟨rfl, hq⟩, tG_then s1 t1 hA0 fun μ2 H2 d2 st2 w g2 s2 t2 r2 hA2 => ?_⟩
    have hA3 : ((match st2[r]? with
      | some (.lst xs) => if xs.length < sizeLine then Tr.ok D.non (st2.set r (.lst (xs ++ [d2]))) else Tr.bad
      | _ => Tr.bad) : Tr D).All (KE G (Rep G) μ2 H2 Q) (KX G W σ μ2 H2) := hA2
    cases hs : st2[r]? with
    | none => rw [hs] at hA3; exact hA3.elim
    | some ob =>
      rw [hs] at hA3
      cases ob with
      | hat => exact hA3.elim
      | tab q => exact hA3.elim
      | dct ks vs => exact hA3.elim
      | lst xs =>
        dsimp only at hA3
        split at hA3
        · rename_i hz
          obtain ⟨b, h1, vs, h2, h3⟩ := t2.at_ r _ hs
          have hb : μ2.m[r]? = some a := by
            obtain ⟨z, q, _⟩ := g2.pre
            rw [q, List.getElem?_append_left (List.getElem?_eq_some_iff.mp ha).1]
            exact ha
          rw [hb] at h1
          cases h1
          obtain ⟨t3, g3⟩ := chg_ok (vs' := vs ++ [w]) (xs' := xs ++ [d2]) t2 hb hs h2 (h3.append (.cons r2 .nil))
          exact ⟨a, vs, w, rfl, rfl, h2, by rw [← h3.length]; exact hz, (show KE G (Rep G) μ2 H2 Q .non _ from hA3) μ2 _ _ g3 t3 .non⟩
        · exact hA3.elim
theorem ext_ok {X : Cx} {W : WX} {o y : E} {σ : L2.St} {H : Hp} {Q : VK} (hK : G.K = X.K) (h : tE G W (ev (.ext o y)) σ H Q) : tBM X.K "list" rExtend (tE G W (ev o)) (tCons (tE G W (ev y)) tNil) σ H Q := by
  obtain ⟨μ, e, st, s, t, hA⟩ := h
  refine tG_then s t hA fun μ1 H1 d st1 v g1 s1 t1 r1 hA1 => ?_
  have hA0 : (if atL st1 d = true then andThen (ev y e) (extX d) st1 else Tr.bad).All (KE G (Rep G) μ1 H1 Q) (KX G W σ μ1 H1) := hA1
  split at hA0
  case isFalse => exact hA0.elim
  rename_i hat
  cases d <;> first | (cases hat; done) | skip
  rename_i r
  cases r1 with
  | @ref _ a ha =>
    have hq : ∃ xs, SqL X.K H1 a xs := by
      have hat' : (match st1[r]? with
        | some (.lst _) => true
        | _ => false) = true := hat
      cases hs : st1[r]? with
      | none => rw [hs] at hat'; cases hat'
      | some ob =>
        rw [hs] at hat'
        cases ob with
        | lst xs =>
          obtain ⟨a', h1, vs, h3, _⟩ := t1.at_ r _ hs
          rw [ha] at h1
          cases h1
          exact ⟨vs, .inl (.inl h3)⟩
        | hat => cases hat'
        | tab q => cases hat'
        | dct ks vs => cases hat'
    refine ⟨.inl ⟨rfl, hq⟩, tG_then s1 t1 hA0 fun μ2 H2 d2 st2 w g2 s2 t2 r2 hA2 => ?_⟩
    have hA3 : ((match st2[r]?, drf st2 d2 with
      | some (.lst xs), .lst ys => if xs.length + ys.length ≤ sizeLine then Tr.ok D.non (st2.set r (.lst (xs ++ ys))) else Tr.bad
      | _, _ => Tr.bad) : Tr D).All (KE G (Rep G) μ2 H2 Q) (KX G W σ μ2 H2) := hA2
    have rv := t2.drf r2
    cases hs : st2[r]? with
    | none => rw [hs] at hA3; exact hA3.elim
    | some ob =>
      rw [hs] at hA3
      cases ob with
      | hat => exact hA3.elim
      | tab q => exact hA3.elim
      | dct ks vs => exact hA3.elim
      | lst xs =>
        cases hd : drf st2 d2 <;> rw [hd] at hA3 rv <;> first | exact hA3.elim | skip
        rename_i ys
        dsimp only at hA3
        split at hA3
        · rename_i hz
          obtain ⟨c, ws, rfl, h5, h6⟩ := rv.lstE
          obtain ⟨b, h1, vs, h2, h3⟩ := t2.at_ r _ hs
          have hb : μ2.m[r]? = some a := by
            obtain ⟨z, q, _⟩ := g2.pre
            rw [q, List.getElem?_append_left (List.getElem?_eq_some_iff.mp ha).1]
            exact ha
          rw [hb] at h1
          cases h1
          obtain ⟨t3, g3⟩ := chg_ok (vs' := vs ++ ws) (xs' := xs ++ ys) t2 hb hs h2 (h3.append h6)
          exact ⟨a, c, vs, ws, rfl, rfl, h2, h5, by rw [← h3.length, ← h6.length]; exact hz, (show KE G (Rep G) μ2 H2 Q .non _ from hA3) μ2 _ _ g3 t3 .non⟩
        · exact hA3.elim
theorem idx_ok {n : Nat} (ih : Snd G n) {Γ : Gam} {X : Cx} {W : WX} (F : Fits Γ X G W) {a i : Expr} {p : Pos} {c : E} (hp : PlainIx i) (h' : ((comp n Γ a).bind fun x => (comp n Γ i).map fun k => E.ix x k) = some c) : PE X (.Subscript a i p) (tE G W (ev c)) := by
  obtain ⟨x, h1, h2⟩ := bb h'
  obtain ⟨y, h3, rfl⟩ := mm h2
  exact PE.conv (pe_ix (ix_ok F.K F.w (by have := F.room.un; omega)) (ih.e Γ X W a x F h1) (ih.e Γ X W i y F h3) hp) fun σ H Q q => op2_ok (fun _ _ _ _ z => z) q
/-- a part of a slice: nothing, or an int -/
def PartC (c : E) (o : Option Int → D) : Prop := True
theorem part_then {n : Nat} (ih : Snd G n) {Γ : Gam} {X : Cx} {W : WX} (F : Fits Γ X G W) {o : Option Expr} {c : E} (h : compO n Γ o = some c) : ∃ t : TO, PO X o t ∧
    ∀ (μ : Mp) (e : Ev) (st : Sto) (σ : L2.St) (H : Hp) (γ δ : Type) (R' : Mp → Hp → γ → δ → Prop) (Q : δ → Hp → Prop) (f : D → Sto → Tr γ) (P : Option Int → Hp → Prop), SR G μ e σ H → STR G μ st H → ((ev c e st).bind f).All (KE G R' μ H Q) (KX G W σ μ H) →
      (∀ μ1 H1 d st1 k, Gr μ H μ1 H1 → SR G μ1 e σ H1 → STR G μ1 st1 H1 → partD d = some k → (f d st1).All (KE G R' μ1 H1 Q) (KX G W σ μ1 H1) → P k H1) → t σ H P := by
  cases n with
  | zero => cases h
  | succ n =>
    rcases ih.o Γ X W o c F h with ⟨rfl, rfl⟩ | ⟨e', c', rfl, rfl, pe⟩
    · exact ⟨_, po_none, fun μ e st σ H γ δ R' Q f P s t hA k => k μ H .non st none (Gr.refl t.sub) s t rfl hA⟩
    · refine ⟨_, po_some pe, fun μ e st σ H γ δ R' Q f P s t hA k => ?_⟩
      have hA' : ((ev c' e st).bind fun x s1 => ((match x with
          | .int i => ret (D.int i)
          | _ => badM) s1).bind f).All (KE G R' μ H Q) (KX G W σ μ H) := by
        refine (Tr.All_bind _).mpr ?_
        exact Tr.All_mono (fun d s2 hq => (Tr.All_bind _).mpr hq) (fun _ _ _ q => q) _ ((Tr.All_bind _).mp ((Tr.All_bind _).mp hA))
      refine tG_then s t hA' fun μ1 H1 d st1 x g1 s1 t1 r1 hA1 => ?_
      cases d <;> first | exact hA1.elim | skip
      cases r1
      exact ⟨_, rfl, k μ1 H1 _ st1 _ g1 s1 t1 rfl hA1⟩
theorem atD_some {st : Sto} {d : D} (h : atD st d = true) : ∃ ks vs, drf st d = .dct ks vs := by
  unfold atD at h
  split at h
  · rename_i ks vs e; exact ⟨ks, vs, e⟩
  · cases h
theorem dget_ok {X : Cx} {W : WX} {o y z : E} {σ : L2.St} {H : Hp} {Q : VK} (hK : G.K = X.K) (hw : G.w = X.w) (h : tE G W (ev (.dget o y z)) σ H Q) : tBD X.w (rGetD X.K X.w) (tE G W (ev o)) (tCons (tE G W (ev y)) (tCons (tE G W (ev z)) tNil)) σ H Q := by
  obtain ⟨μ, e, st, s, t, hA⟩ := h
  refine tG_then s t hA fun μ1 H1 d st1 v g1 s1 t1 r1 hA1 => ?_
  have hA0 : (if atD st1 d = true then andThen (ev y e) (fun y => andThen (ev z e) fun z => dgetM d y z) st1 else Tr.bad).All (KE G (Rep G) μ1 H1 Q) (KX G W σ μ1 H1) := hA1
  split at hA0
  case isFalse => exact hA0.elim
  rename_i hat
  obtain ⟨ks, vs, ed⟩ := atD_some hat
  have rv := t1.drf r1
  rw [ed] at rv
  obtain ⟨a, kvs, ob, us, ws, rfl, e1, _⟩ := rv.dctE
  refine ⟨⟨a, kvs, ob, rfl, hw ▸ e1⟩, tG_then (da := ev y) s1 t1 hA0 fun μ2 H2 d2 st2 w2 g2 s2 t2 r2 hA2 => tG_then (da := ev z) s2 t2 hA2 fun μ3 H3 d3 st3 w3 g3 s3 t3 r3 hA3 => ?_⟩
  have hA4 : ((match drf st3 d with
    | .dct ks vs => optM ((fitK ks d2).map fun n => (getK ks vs n).getD d3) st3
    | _ => Tr.bad) : Tr D).All (KE G (Rep G) μ3 H3 Q) (KX G W σ μ3 H3) := hA3
  have rv3 := t3.drf ((r1.gr g2).gr g3)
  cases hd : drf st3 d <;> rw [hd] at hA4 rv3 <;> first | (exact hA4.elim) | skip
  rename_i ks3 vs3
  obtain ⟨zz, hz, k⟩ := optM_some hA4
  obtain ⟨n, hn, rfl⟩ := Option.map_eq_some_iff.mp hz
  obtain ⟨a', kvs3, ob3, us3, ws3, ea, e3, kr, rfl, rfl, q1, q2⟩ := rv3.dctE
  cases ea
  obtain ⟨hf, _, _⟩ := fitK_ok kr q1 hn (r2.gr g3)
  refine ⟨a, w2, w3, kvs3, ob3, n, rfl, rfl, hw ▸ e3, hK ▸ hf, ?_⟩
  have gk := getK_ok (k := n) kr.1 q2
  refine KE.here k t3 ?_
  cases hg : getK ks3 vs3 n with
  | none =>
    rw [hg] at gk
    rw [show valE kvs3 n = none from gk]
    exact r3
  | some dd =>
    rw [hg] at gk
    obtain ⟨vv, e4, r4⟩ := gk
    rw [e4]
    exact r4
theorem dct_apart {μ : Mp} {H : Hp} {st : Sto} {r : Nat} {a : Addr} {d : D} {v : V} {ls ws : List D} (t : STR G μ st H) (rd : Rep G μ H d v) (hd : drf st d = .dct ls ws) (hs : selfB r d = false) (ha : μ.m[r]? = some a) :
    ∃ b more ob, v = .ref b ∧ a ≠ b ∧ H b = some (DxO G.w b more ob) ∧ KRel ls more ∧ Reps G μ H ls (more.map fun p => p.2.1) ∧ Reps G μ H ws (more.map fun p => p.2.2) := by
  cases d <;> first | (cases hd; done) | skip
  · rename_i i
    have hd' : (match st[i]? with
      | some (.lst xs) => D.lst xs
      | some (.dct ks vs) => .dct ks vs
      | _ => .ref i) = .dct ls ws := hd
    cases hx : st[i]? with
    | none => rw [hx] at hd'; cases hd'
    | some ob =>
      rw [hx] at hd'
      cases ob <;> cases hd'
      cases rd with
      | @ref _ b hb =>
        obtain ⟨b', h1, kvs, ob, us, ws', h2, kr, rfl, rfl, q1, q2⟩ := t.at_ i _ hx
        rw [hb] at h1
        cases h1
        refine ⟨b, kvs, ob, rfl, fun z => ?_, h2, kr, q1, q2⟩
        subst z
        obtain ⟨l1, e1⟩ := List.getElem?_eq_some_iff.mp ha
        obtain ⟨l2, e2⟩ := List.getElem?_eq_some_iff.mp hb
        have ne : i ≠ r := fun z => by
          rw [show selfB r (.ref i) = decide (i = r) from rfl, z] at hs
          simp at hs
        have pw := List.pairwise_iff_getElem.mp t.nd
        rcases Nat.lt_trichotomy r i with z | z | z
        · exact absurd (e1.trans e2.symm) (pw r i l1 l2 z)
        · exact ne z.symm
        · exact absurd (e1.trans e2.symm).symm (pw i r l2 l1 z)
  · cases hd
    cases rd with
    | dct n e k u w r1 r2 =>
      subst u w
      exact ⟨_, _, _, rfl, fun z => n (by rw [← z]; exact t.sub _ (List.mem_of_getElem? ha)), e, k, r1, r2⟩
mutual
theorem hash_same (w : World) : ∀ k : NestedKey, noText k = true → k.hash w = hashN k
  | .none, _ => rfl
  | .num _, _ => rfl
  | .text _, h => by cases h
  | .tup ks, h => by
    unfold NestedKey.hash hashN
    rw [hashes_same w ks (by unfold noText at h; exact h)]
theorem hashes_same (w : World) : ∀ ks : List NestedKey, noTexts ks = true → NestedKey.hashes w ks = hashNs ks
  | [], _ => rfl
  | k :: ks, h => by
    unfold noTexts at h
    obtain ⟨h1, h2⟩ := Bool.and_eq_true_iff.mp h
    unfold NestedKey.hashes hashNs
    rw [hash_same w k h1, hashes_same w ks h2]
end
theorem nodupB_ok : ∀ l : List Int, nodupB l = true → l.Nodup
  | [], _ => List.nodup_nil
  | x :: xs, h => by
    obtain ⟨h1, h2⟩ := Bool.and_eq_true_iff.mp (show (!(xs.any fun y => decide (y = x)) && nodupB xs) = true from h)
    refine List.nodup_cons.mpr ⟨fun hm => ?_, nodupB_ok xs h2⟩
    rw [List.any_eq_true.mpr ⟨x, hm, by simp⟩] at h1
    cases h1
theorem hash_list (w : World) : ∀ {ls : List D} {more : List Ent}, ls.map kD = more.map (fun p => some p.1) → ls.all noTextD = true → (more.map fun p => p.1.hash w) = ls.map hashD
  | [], [], _, _ => rfl
  | [], _ :: _, e, _ => by cases e
  | _ :: _, [], e, _ => by cases e
  | x :: ls, q :: more, e, h => by
    rw [List.map_cons, List.map_cons] at e
    injection e with e1 e2
    rw [List.all_cons, Bool.and_eq_true] at h
    rw [List.map_cons, List.map_cons, hash_list w e2 h.2]
    have h1 := h.1
    unfold noTextD at h1
    unfold hashD
    rw [e1] at h1 ⊢
    rw [hash_same w _ h1]
theorem fit2_ok {μ : Mp} {H : Hp} {ks ls : List D} {kvs more : List Ent} (hk : ks.map kD = kvs.map (fun p => some p.1)) (hl : ls.map kD = more.map (fun p => some p.1)) (r1 : Reps G μ H ks (kvs.map fun p => p.2.1)) (r2 : Reps G μ H ls (more.map fun p => p.2.1)) (h : updOk ks ls = true) : Fit2 G.K G.w H kvs more := by
  unfold updOk at h
  rcases Bool.or_eq_true_iff.mp h with z | z
  · obtain ⟨z1, z2⟩ := Bool.and_eq_true_iff.mp z
    exact .inr ⟨fun p hp => by have := fit_all hk z1 r1 p hp; rwa [if_neg Bool.false_ne_true] at this, fun p hp => by have := fit_all hl z2 r2 p hp; rwa [if_neg Bool.false_ne_true] at this⟩
  · obtain ⟨z1, z2⟩ := Bool.and_eq_true_iff.mp z
    obtain ⟨z3, z4⟩ := Bool.and_eq_true_iff.mp z1
    refine .inl ⟨fun p hp => by have := fit_all hk z3 r1 p hp; rwa [if_pos rfl] at this, fun p hp => by have := fit_all hl z4 r2 p hp; rwa [if_pos rfl] at this, ?_⟩
    rcases Bool.or_eq_true_iff.mp z2 with y | y
    · refine .inl fun e => ?_
      subst e
      have : ks = [] := List.map_eq_nil_iff.mp hk
      rw [this] at y
      cases y
    · obtain ⟨y1, y2⟩ := Bool.and_eq_true_iff.mp y
      refine .inr ?_
      rw [hash_list G.w hl y1]
      exact nodupB_ok _ y2
theorem dupd_ok {X : Cx} {W : WX} {o y : E} {σ : L2.St} {H : Hp} {Q : VK} (hK : G.K = X.K) (hw : G.w = X.w) (h : tE G W (ev (.dupd o y)) σ H Q) : tBD X.w (rUpdD X.K X.w) (tE G W (ev o)) (tCons (tE G W (ev y)) tNil) σ H Q := by
  obtain ⟨μ, e, st, s, t, hA⟩ := h
  refine tG_then s t hA fun μ1 H1 d st1 v g1 s1 t1 r1 hA1 => ?_
  have hA0 : (if atD st1 d = true then andThen (ev y e) (updX d) st1 else Tr.bad).All (KE G (Rep G) μ1 H1 Q) (KX G W σ μ1 H1) := hA1
  split at hA0
  case isFalse => exact hA0.elim
  rename_i hat
  obtain ⟨ks, vs, ed⟩ := atD_some hat
  have rv := t1.drf r1
  rw [ed] at rv
  obtain ⟨a, kvs, ob, us, ws, rfl, e1, _⟩ := rv.dctE
  refine ⟨⟨a, kvs, ob, rfl, hw ▸ e1⟩, tG_then (da := ev y) s1 t1 hA0 fun μ2 H2 d2 st2 w2 g2 s2 t2 r2 hA2 => ?_⟩
  cases d <;> first | exact hA2.elim | skip
  rename_i r
  have hA3 : ((match st2[r]?, drf st2 d2 with
    | some (.dct ks vs), .dct ls ws => if !selfB r d2 && (updOk ks ls && decide (ks.length + ls.length ≤ sizeLine)) then (match putsK ks vs ls ws with
      | some p => Tr.ok D.non (st2.set r (.dct p.1 p.2))
      | none => .bad) else .bad
    | _, _ => .bad) : Tr D).All (KE G (Rep G) μ2 H2 Q) (KX G W σ μ2 H2) := hA2
  cases hs : st2[r]? with
  | none => rw [hs] at hA3; exact hA3.elim
  | some ob =>
    rw [hs] at hA3
    cases ob <;> first | exact hA3.elim | skip
    rename_i ks2 vs2
    cases hd2 : drf st2 d2 <;> rw [hd2] at hA3 <;> first | exact hA3.elim | skip
    rename_i ls wl
    dsimp only at hA3
    split at hA3
    case isFalse => exact hA3.elim
    rename_i hc
    simp only [Bool.and_eq_true, Bool.not_eq_true', decide_eq_true_eq] at hc
    obtain ⟨c1, c2, c3⟩ := hc
    cases hp : putsK ks2 vs2 ls wl with
    | none => rw [hp] at hA3; exact hA3.elim
    | some p =>
      rw [hp] at hA3
      have ra := r1.gr g2
      cases ra with
      | ref ha =>
        obtain ⟨a', h1, kvs2, ob2, us2, ws2, h2, kr, rfl, rfl, q1, q2⟩ := t2.at_ r _ hs
        rw [ha] at h1
        cases h1
        obtain ⟨b, more, ob3, rfl, ne, eb, kl, l1, l2⟩ := dct_apart t2 r2 hd2 c1 ha
        obtain ⟨p1, p2, p3⟩ := puts_ok kr q1 q2 kl.1 l1 l2 hp
        have hl1 := DAt.len (μ := μ2) (H := H2) (Dd := a) (vs := vs2) kr
        have hl2 := DAt.len (μ := μ2) (H := H2) (Dd := a) (vs := wl) kl
        refine ⟨a, b, kvs2, more, ob2, ob3, rfl, rfl, hw ▸ h2, hw ▸ eb, ne, by omega, ?_, fun ob' => ?_⟩
        · rw [← hK, ← hw]
          exact fit2_ok kr.1 kl.1 q1 l1 c2
        · rw [← hw]
          obtain ⟨t3, g3⟩ := chgD_ok t2 ha hs p1 p2 p3 ob'
          exact (show KE G (Rep G) μ2 H2 Q .non (st2.set r (.dct p.1 p.2)) from hA3) μ2 _ _ g3 t3 .non
theorem lc_parts {n : Nat} (ih : Snd G n) {Γ : Gam} {X : Cx} {W : WX} (F : Fits Γ X G W) {elt tg it : Expr} {ifs : List Expr} {sc : Scope} {p : Pos} {c : E} (h : comp (n + 1) Γ (.ListComp elt [⟨tg, it, ifs, 0⟩] sc p) = some c) :
    ∃ (wi : TI) (g : TG) (tt : TT) (te : TE), PI X tg it wi ∧ BlkOk X.N X.env.scope sc (ownOf Γ.N sc) ∧ (∀ (s : Shared) (H : Hp) (C : Addr) (cl : List (Str × Addr)) (fp : List Addr), PG (X.blk s H sc (compEnvC sc cl C X.env) fp) tg g) ∧
      (∀ (s : Shared) (H : Hp) (C : Addr) (cl : List (Str × Addr)) (fp : List Addr), PTs (X.blk s H sc (compEnvC sc cl C X.env) fp) ifs tt) ∧ (∀ (s : Shared) (H : Hp) (C : Addr) (cl : List (Str × Addr)) (fp : List Addr), PE (X.blk s H sc (compEnvC sc cl C X.env) fp) elt te) ∧
      (∀ v, foldedSetIterable it X.env v = pure v) ∧ ∀ σ H Q, tE G W (ev c) σ H Q → tLc wi g tt te (ownIx Γ.N sc) σ H Q := by
  have h' : (if blkC Γ.N Γ.sc sc (ownOf Γ.N sc) then (compI n Γ tg it).bind fun ci =>
    (compG n (Γ.inner sc) tg).bind fun ct => if ct.slots.all fun j => decide (j ∈ ownIx Γ.N sc) then
    (match ifs with
      | [] => some (E.c (.bl true))
      | [c] => compT n (Γ.inner sc) c
      | _ => none).bind fun cc => (comp n (Γ.inner sc) elt).map fun ce => if Γ.mu.contains (p.line, p.col) then E.lcM (ownIx Γ.N sc) ct ci cc ce else E.lc (ownIx Γ.N sc) ct ci cc ce else none else none) = some c := h
  split at h'
  · rename_i hb
    obtain ⟨ci, h1, h2⟩ := bb h'
    obtain ⟨ct, h3, h4⟩ := bb h2
    split at h4
    · rename_i hs
      obtain ⟨cc, h5, h6⟩ := bb h4
      obtain ⟨ce, h7, hce⟩ := mm h6
      obtain ⟨pi, hf⟩ := ih.i Γ X W tg it ci F h1
      have ok : BlkOk X.N X.env.scope sc (ownOf Γ.N sc) := by rw [F.N, F.sc]; exact blkOk_by hb
      have tt : ∃ tt : TT, (∀ (s : Shared) (H : Hp) (C : Addr) (cl : List (Str × Addr)) (fp : List Addr), PTs (X.blk s H sc (compEnvC sc cl C X.env) fp) ifs tt) ∧ ∀ σ H Q, tB G (fun _ _ _ _ => False) (fun v => andThen (ev cc v) truthM) σ H Q → tt σ H Q := by
        match ifs, h5 with
        | [], h5 =>
          cases h5
          refine ⟨tYes, fun _ _ _ _ _ => pts_nil, fun σ H Q q => ?_⟩
          obtain ⟨μ, e, st, s, t, hA⟩ := q
          exact KE.here (show KE G (fun _ _ a b => a = b) μ H Q true st from hA) t rfl
        | [k], h5 => exact ⟨_, fun s H C cl fp => pts_one (ih.t _ _ _ k cc (F.inner ok s H C cl fp) h5), fun _ _ _ q => q⟩
      obtain ⟨tt, ht1, ht2⟩ := tt
      refine ⟨_, _, tt, _, pi, ok, (fun s H C cl fp => (G_ok (F.inner ok s H C cl fp) n).1 tg ct h3), ht1, (fun s H C cl fp => ih.e _ _ _ elt ce (F.inner ok s H C cl fp) h7), (hf X.env), fun σ H Q q => ?_⟩
      split at hce
      · subst hce
        exact lc_okZ fz_mut (fun j hj => of_decide_eq_true (List.all_eq_true.mp hs j hj)) (fun _ _ _ z => z) (fun _ _ _ _ z => z) ht2 (fun _ _ _ z => z) q
      · subst hce
        exact lc_ok (fun j hj => of_decide_eq_true (List.all_eq_true.mp hs j hj)) (fun _ _ _ z => z) (fun _ _ _ _ z => z) ht2 (fun _ _ _ z => z) q
    · cases h4
  · cases h'
theorem ifs_parts {n : Nat} (ih : Snd G n) {Γ : Gam} {X : Cx} {W : WX} (F : Fits Γ X G W) {sc : Scope} {ifs : List Expr} {cc : E} (ok : BlkOk X.N X.env.scope sc (ownOf Γ.N sc)) (h : (match ifs with
      | [] => some (E.c (.bl true))
      | [c] => compT n (Γ.inner sc) c
      | _ => none) = some cc) :
    ∃ tt : TT, (∀ (s : Shared) (H : Hp) (C : Addr) (cl : List (Str × Addr)) (fp : List Addr), PTs (X.blk s H sc (compEnvC sc cl C X.env) fp) ifs tt) ∧ ∀ σ H Q, tB G (fun _ _ _ _ => False) (fun v => andThen (ev cc v) truthM) σ H Q → tt σ H Q := by
  match ifs, h with
  | [], h =>
    cases h
    refine ⟨tYes, fun _ _ _ _ _ => pts_nil, fun σ H Q q => ?_⟩
    obtain ⟨μ, e, st, s, t, hA⟩ := q
    exact KE.here (show KE G (fun _ _ a b => a = b) μ H Q true st from hA) t rfl
  | [k], h => exact ⟨_, fun s H C cl fp => pts_one (ih.t _ _ _ k cc (F.inner ok s H C cl fp) h), fun _ _ _ q => q⟩
theorem dc_parts {n : Nat} (ih : Snd G n) {Γ : Gam} {X : Cx} {W : WX} (F : Fits Γ X G W) {k v tg it : Expr} {ifs : List Expr} {sc : Scope} {p : Pos} {c : E} (h : comp (n + 1) Γ (.DictComp k v [⟨tg, it, ifs, 0⟩] sc p) = some c) :
    ∃ (wi : TI) (g : TG) (tt : TT) (tk tv : TE), PI X tg it wi ∧ BlkOk X.N X.env.scope sc (ownOf Γ.N sc) ∧ (∀ (s : Shared) (H : Hp) (C : Addr) (cl : List (Str × Addr)) (fp : List Addr), PG (X.blk s H sc (compEnvC sc cl C X.env) fp) tg g) ∧
      (∀ (s : Shared) (H : Hp) (C : Addr) (cl : List (Str × Addr)) (fp : List Addr), PTs (X.blk s H sc (compEnvC sc cl C X.env) fp) ifs tt) ∧ (∀ (s : Shared) (H : Hp) (C : Addr) (cl : List (Str × Addr)) (fp : List Addr), PE (X.blk s H sc (compEnvC sc cl C X.env) fp) k tk) ∧
      (∀ (s : Shared) (H : Hp) (C : Addr) (cl : List (Str × Addr)) (fp : List Addr), PE (X.blk s H sc (compEnvC sc cl C X.env) fp) v tv) ∧ (∀ v, foldedSetIterable it X.env v = pure v) ∧ ∀ σ H Q, tE G W (ev c) σ H Q → tDx X.K X.w wi g tt tk tv (ownIx Γ.N sc) σ H Q := by
  have h' : (if blkC Γ.N Γ.sc sc (ownOf Γ.N sc) then (compI n Γ tg it).bind fun ci =>
    (compG n (Γ.inner sc) tg).bind fun ct => if ct.slots.all fun j => decide (j ∈ ownIx Γ.N sc) then
    (match ifs with
      | [] => some (E.c (.bl true))
      | [c] => compT n (Γ.inner sc) c
      | _ => none).bind fun cc => (comp n (Γ.inner sc) k).bind fun ck => (comp n (Γ.inner sc) v).map fun cv => E.dc (Γ.mu.contains (p.line, p.col)) (ownIx Γ.N sc) ct ci cc ck cv else none else none) = some c := h
  split at h'
  · rename_i hb
    obtain ⟨ci, h1, h2⟩ := bb h'
    obtain ⟨ct, h3, h4⟩ := bb h2
    split at h4
    · rename_i hs
      obtain ⟨cc, h5, h6⟩ := bb h4
      obtain ⟨ck, h7, h8⟩ := bb h6
      obtain ⟨cv, h9, rfl⟩ := mm h8
      obtain ⟨pi, hf⟩ := ih.i Γ X W tg it ci F h1
      have ok : BlkOk X.N X.env.scope sc (ownOf Γ.N sc) := by rw [F.N, F.sc]; exact blkOk_by hb
      obtain ⟨tt, ht1, ht2⟩ := ifs_parts ih F ok h5
      exact ⟨_, _, tt, _, _, pi, ok, (fun s H C cl fp => (G_ok (F.inner ok s H C cl fp) n).1 tg ct h3), ht1, (fun s H C cl fp => ih.e _ _ _ k ck (F.inner ok s H C cl fp) h7), (fun s H C cl fp => ih.e _ _ _ v cv (F.inner ok s H C cl fp) h9), (hf X.env),
        fun σ H Q q => dc_ok F.K F.w (fun j hj => of_decide_eq_true (List.all_eq_true.mp hs j hj)) (fun _ _ _ z => z) (fun _ _ _ _ z => z) ht2 (fun _ _ _ z => z) (fun _ _ _ z => z) q⟩
    · cases h4
  · cases h'
theorem lc2_parts {n : Nat} (ih : Snd G n) {Γ : Gam} {X : Cx} {W : WX} (F : Fits Γ X G W) {elt tg it tg1 it1 : Expr} {ifs ifs1 : List Expr} {sc : Scope} {p : Pos} {c : E} (h : comp (n + 1) Γ (.ListComp elt [⟨tg, it, ifs, 0⟩, ⟨tg1, it1, ifs1, 0⟩] sc p) = some c) :
    ∃ (wi wi1 : TI) (g g1 : TG) (tt tt1 : TT) (te : TE) (vs1 : List Nat), PI X tg it wi ∧ BlkOk X.N X.env.scope sc (ownOf Γ.N sc) ∧ (∀ i ∈ vs1, i ∈ (ownOf Γ.N sc).map (·.2)) ∧ (∀ (s : Shared) (H : Hp) (C : Addr) (cl : List (Str × Addr)) (fp : List Addr), PG (X.blk s H sc (compEnvC sc cl C X.env) fp) tg g) ∧
      (∀ (s : Shared) (H : Hp) (C : Addr) (cl : List (Str × Addr)) (fp : List Addr), PTs (X.blk s H sc (compEnvC sc cl C X.env) fp) ifs tt) ∧ (∀ (s : Shared) (H : Hp) (C : Addr) (cl : List (Str × Addr)) (fp : List Addr), PI (X.blk s H sc (compEnvC sc cl C X.env) fp) tg1 it1 wi1) ∧
      (∀ (s : Shared) (H : Hp) (C : Addr) (cl : List (Str × Addr)) (fp : List Addr), PG (X.blk s H sc (compEnvC sc cl C X.env) fp) tg1 g1) ∧ (∀ (s : Shared) (H : Hp) (C : Addr) (cl : List (Str × Addr)) (fp : List Addr), PTs (X.blk s H sc (compEnvC sc cl C X.env) fp) ifs1 tt1) ∧
      (∀ (s : Shared) (H : Hp) (C : Addr) (cl : List (Str × Addr)) (fp : List Addr), PE (X.blk s H sc (compEnvC sc cl C X.env) fp) elt te) ∧ (∀ v, foldedSetIterable it X.env v = pure v) ∧ (∀ env v, foldedSetIterable it1 env v = pure v) ∧ ∀ σ H Q, tE G W (ev c) σ H Q → tLc2 wi g tt wi1 g1 tt1 te (ownIx Γ.N sc) vs1 σ H Q := by
  have h' : (if blkC Γ.N Γ.sc sc (ownOf Γ.N sc) then (compI n Γ tg it).bind fun ci =>
    (compG n (Γ.inner sc) tg).bind fun ct => if ct.slots.all fun j => decide (j ∈ ownIx Γ.N sc) then
    (match ifs with
      | [] => some (E.c (.bl true))
      | [c] => compT n (Γ.inner sc) c
      | _ => none).bind fun cc => (compI n (Γ.inner sc) tg1 it1).bind fun ci1 => (compG n (Γ.inner sc) tg1).bind fun ct1 => if ct1.slots.all fun j => decide (j ∈ ownIx Γ.N sc) then
    (match ifs1 with
      | [] => some (E.c (.bl true))
      | [c] => compT n (Γ.inner sc) c
      | _ => none).bind fun cc1 => (comp n (Γ.inner sc) elt).map fun ce => E.lc2 (ownIx Γ.N sc) ct ci cc ct1.slots ct1 ci1 cc1 ce else none else none else none) = some c := h
  split at h'
  case isFalse => cases h'
  rename_i hb
  obtain ⟨ci, h1, h2⟩ := bb h'
  obtain ⟨ct, h3, h4⟩ := bb h2
  split at h4
  case isFalse => cases h4
  rename_i hs
  obtain ⟨cc, h5, h6⟩ := bb h4
  obtain ⟨ci1, h7, h8⟩ := bb h6
  obtain ⟨ct1, h9, h10⟩ := bb h8
  split at h10
  case isFalse => cases h10
  rename_i hs1
  obtain ⟨cc1, h11, h12⟩ := bb h10
  obtain ⟨ce, h13, rfl⟩ := mm h12
  obtain ⟨pi, hf⟩ := ih.i Γ X W tg it ci F h1
  have ok : BlkOk X.N X.env.scope sc (ownOf Γ.N sc) := by rw [F.N, F.sc]; exact blkOk_by hb
  obtain ⟨tt, ht1, ht2⟩ := ifs_parts ih F ok h5
  obtain ⟨tt1, hu1, hu2⟩ := ifs_parts ih F ok h11
  have hv : ∀ j ∈ ct1.slots, j ∈ ownIx Γ.N sc := fun j hj => of_decide_eq_true (List.all_eq_true.mp hs1 j hj)
  refine ⟨_, _, _, _, tt, tt1, _, ct1.slots, pi, ok, hv, (fun s H C cl fp => (G_ok (F.inner ok s H C cl fp) n).1 tg ct h3), ht1, (fun s H C cl fp => (ih.i _ _ _ tg1 it1 ci1 (F.inner ok s H C cl fp) h7).1), (fun s H C cl fp => (G_ok (F.inner ok s H C cl fp) n).1 tg1 ct1 h9), hu1,
    (fun s H C cl fp => ih.e _ _ _ elt ce (F.inner ok s H C cl fp) h13), (hf X.env), (ih.i _ _ _ tg1 it1 ci1 (F.inner ok X.s_0 X.H_0 0 [] []) h7).2, fun σ H Q q => ?_⟩
  exact lc2_ok (fun j hj => of_decide_eq_true (List.all_eq_true.mp hs j hj)) (fun _ h => h) (fun _ _ _ z => z) (fun _ _ _ _ z => z) ht2 (fun _ _ _ z => z) (fun _ _ _ _ z => z) hu2 (fun _ _ _ z => z) q
/-- a sum of lists that will be changed -/
theorem cat_ok {W : WX} {ca cb : E} {σ : L2.St} {H : Hp} {Q : VK} (h : tE G W (ev (.catL ca cb)) σ H Q) : tOp rCat (tE G W (ev ca)) (tE G W (ev cb)) σ H Q := by
  obtain ⟨μ, e, st, s, t, hA⟩ := h
  refine tG_then s t hA fun μ1 H1 d1 st1 x g1 s1 t1 r1 hA1 => ?_
  refine tG_then s1 t1 hA1 fun μ2 H2 d2 st2 y g2 s2 t2 r2 hA2 => ?_
  have q1 := t2.drf (r1.gr g2)
  have q2 := t2.drf r2
  have hA3 : ((match drf st2 d1, drf st2 d2 with
    | .lst xs, .lst ys => if xs.length + ys.length ≤ sizeLine then .ok (.ref st2.length) (st2 ++ [.lst (xs ++ ys)]) else .bad
    | _, _ => .bad) : Tr D).All (KE G (Rep G) μ2 H2 Q) (KX G W σ μ2 H2) := hA2
  cases e1 : drf st2 d1 <;> rw [e1] at hA3 q1 <;> first | exact hA3.elim | skip
  rename_i xs
  cases e2 : drf st2 d2 <;> rw [e2] at hA3 q2 <;> first | exact hA3.elim | skip
  rename_i ys
  dsimp only at hA3
  split at hA3
  case isFalse => exact hA3.elim
  rename_i hz
  obtain ⟨a, vs, rfl, a1, ra⟩ := q1.lstE
  obtain ⟨b, ws, rfl, a2, rb⟩ := q2.lstE
  refine ⟨a, b, vs, ws, rfl, rfl, a1, a2, by rw [← ra.length, ← rb.length]; exact hz, fun p hp => ?_⟩
  obtain ⟨k1, k2⟩ := push_ok t2 hp (ra.append rb)
  refine (show KE G (Rep G) μ2 H2 Q (.ref st2.length) (st2 ++ [.lst (xs ++ ys)]) from hA3) _ _ _ k2 k1 (.ref ?_)
  show (μ2.m ++ [p])[st2.length]? = _
  rw [List.getElem?_append_right (by rw [t2.len]; exact Nat.le_refl _), t2.len, Nat.sub_self]
  rfl
theorem lam_of {params : Arguments} {body : Expr} {lsc : Scope} {a : Expr} {as : List Expr} (h : lamOf (a :: as) = some (params, body, lsc)) : ∃ lp, a = .Lambda params body lsc lp ∧ as = [] := by
  unfold lamOf at h
  split at h
  · rename_i e; cases h; cases e; exact ⟨_, rfl, rfl⟩
  · cases h
theorem tab_mem {Γ : Gam} {x : Str} {φ : List D → M D} (h : Γ.tab.lookup x = some φ) : ∃ fi, Γ.fns.lookup x = some fi ∧ fi.lv ≤ Γ.lv ∧ fi.φ = φ := by
  have hm := PySem.mem_of_lookup h
  unfold Gam.tab at hm
  obtain ⟨y, _, e⟩ := List.mem_filterMap.mp hm
  cases q : Γ.fns.lookup y with
  | none => rw [q] at e; cases e
  | some fi =>
    rw [q] at e
    have e2 : (if fi.lv ≤ Γ.lv then some (y, fi.φ) else none) = some (x, φ) := e
    split at e2
    · rename_i hl; cases e2; exact ⟨fi, q, hl, rfl⟩
    · cases e2
/-- a call of a name that holds a def -/
theorem callV_ok {Γ : Gam} {X : Cx} {W : WX} (F : Fits Γ X G W) {f : Str} {fp p : Pos} {a : Expr} {as : List Expr} {x y : E} (pf : PE X (.Name f fp) (tE G W (ev x))) (pa : PA X (a :: as) (tL G W (evs y)))
    (he : starEach (a :: as) X.env = (false, eval a X.env) :: starEach as X.env) (hpl : (backTo p (starEach as X.env)).any (·.1) = false) : PE X (.Call (.Name f fp) (a :: as) [] p) (tE G W (ev (.callV Γ.tab x y))) := by
  refine ⟨fun pins s σ H Q I h => ?_⟩
  obtain ⟨μ, e, st, sr, t, hA⟩ := h
  refine wpAny_Call_Name_kw (thn (pf.run pins s σ H (fun v H1 => ∃ (g : Addr) (fd : FuncData) (ps : List Str) (fi : FnI), v = .ref g ∧ PySem.W.keepIn X.K (.ref g) = true ∧ L2.Binds X.K fd ps [] ∧ FnG X.prog X.w X.K X.mg X.base (L2.CX X.prog X.w) fi.lv g fd ps (spD G fi.φ fi.np) ∧ fi.lv ≤ Γ.lv ∧ tL G W (evs y) σ H1 fun vs H2 => spD G fi.φ fi.np vs H2 Q (WE W σ)) I ?_) fun u s1 hh => ?_)
  · refine tG_then sr t hA fun μ1 H1 d st1 v g1 s1 t1 r1 hA1 => ?_
    have hA2 : ((match tabG Γ.tab d with
      | some φ => andThen (evs y e) φ
      | none => badM) st1).All (KE G (Rep G) μ1 H1 Q) (KX G W σ μ1 H1) := hA1
    cases hq : tabG Γ.tab d with
    | none => rw [hq] at hA2; exact hA2.elim
    | some φ =>
      rw [hq] at hA2
      cases d <;> first | (cases hq; done) | skip
      rename_i z
      obtain ⟨fi, k1, k2, rfl⟩ := tab_mem (show Γ.tab.lookup z = some φ from hq)
      obtain ⟨g, fd, ps, q1, q2, q3, q4, q5⟩ := F.fns z fi k1
      cases r1 with
      | @fn _ g' hg =>
        rw [F.mg, q1] at hg
        cases hg
        refine ⟨g, fd, ps, fi, rfl, q2, q3, q4, k2, tG_then (da := evs y) s1 t1 hA2 fun μ2 H2 ds st2 vs g2 s2 t2 r2 hA3 => ?_⟩
        exact ⟨by rw [← r2.length]; exact q5 ds st2 _ _ hA3, μ2, ds, st2, r2, t2, hA3⟩
  · obtain ⟨v, H1, I1, rv, g, fd, ps, fi, rfl, q2, q3, q4, k2, q⟩ := hh
    obtain rfl : u = Value.ref g := rv
    exact PySem.W.callWith_K (h₀ := X.base) I.ok.mod.kin q2 (thn (pa.run p pins s1 σ H1 _ I1 q) fun us s2 ⟨vs, H2, I2, r, q⟩ => ⟨I2.kIn, run_fnG q4 (F.room.mono k2) F.gd q3 (passAt F.tk σ) I2 r q⟩) he hpl
theorem no_dup {α : Type} {l : List α} (nd : l.Nodup) {i j : Nat} {a : α} (hi : l[i]? = some a) (hj : l[j]? = some a) : i = j := by
  obtain ⟨l1, e1⟩ := List.getElem?_eq_some_iff.mp hi
  obtain ⟨l2, e2⟩ := List.getElem?_eq_some_iff.mp hj
  have p := List.pairwise_iff_getElem.mp nd
  rcases Nat.lt_trichotomy i j with h | h | h
  · exact absurd (e1.trans e2.symm) (p i j l1 l2 h)
  · exact h
  · exact absurd (e2.trans e1.symm) (p j i l2 l1 h)
/-- behind the making of a lambda -/
theorem STR.lam {μ : Mp} {st : Sto} {H H1 : Hp} {P : Addr} {q : Str} {r : Nat} (t : STR G μ st H) (hr : μ.m[r]? = some P) (hs : st[r]? = some (.tab q)) (md : Made H H1 P q) : STR G μ st H1 ∧ Gr μ H μ H1 := by
  rcases md with rfl | ⟨ps, ps', c, k1, k2, rfl, k3, k4⟩
  · exact ⟨t, Gr.refl t.sub⟩
  have hPm : P ∈ μ.m := List.mem_of_getElem? hr
  have hcP : P ≠ c := ne_of_none k1 k2
  have hcM : c ∉ μ.M := fun z => t.tr c z k2
  have at_ : ∀ a, a ≠ P → a ≠ c → upd (upd H P (.tbl ps')) c (LamX.CodeO c q) a = H a := fun a h1 h2 => by rw [upd_ne h2, upd_ne h1]
  have atP : upd (upd H P (.tbl ps')) c (LamX.CodeO c q) P = some (.tbl ps') := by rw [upd_ne hcP, upd_same]
  have g : Gr μ H μ (upd (upd H P (.tbl ps')) c (LamX.CodeO c q)) := by
    refine ⟨fun a o h n _ => by rw [at_ a (fun z => n (by rw [z]; exact hPm)) (ne_of_none h k2)]; exact h, fun a h => ?_, ⟨[], by simp, by simp⟩, fun _ h => h, fun _ h => .inl h, t.sub, fun a ps h => ?_⟩
    · by_cases z1 : a = c
      · rw [z1]; exact k2
      · by_cases z2 : a = P
        · rw [z2, atP] at h; cases h
        · rw [at_ a z2 z1] at h; exact h
    · by_cases z1 : a = c
      · rw [z1, upd_same] at h; exact absurd (Option.some.inj h) (codeO_ne_ _)
      · by_cases z2 : a = P
        · exact ⟨_, by rw [z2]; exact k1⟩
        · rw [at_ a z2 z1] at h; exact ⟨ps, h⟩
  refine ⟨⟨t.len, fun i o h => ?_, t.sub, t.nd, fun a h => ?_, t.tb, fun a ps h => let ⟨_, z⟩ := g.tbl a ps h; t.tin a _ z⟩, g⟩
  · obtain ⟨a, h1, h2⟩ := t.at_ i o h
    by_cases z : a = P
    · subst z
      have hi := no_dup t.nd h1 hr
      subst hi
      rw [hs] at h
      cases h
      obtain ⟨ps0, e1, _, e3⟩ := h2
      rw [k1] at e1
      cases e1
      refine ⟨a, h1, ps', atP, k3, fun pos cv hc => ?_⟩
      rcases k4 pos cv hc with y | y
      · obtain ⟨c0, f1, f2, f3⟩ := e3 pos cv y
        exact ⟨c0, f1, f2, by rw [at_ c0 (fun z => by rw [z, k1] at f3; exact codeO_ne_ _ (Option.some.inj f3).symm) (ne_of_none f3 k2)]; exact f3⟩
      · exact ⟨c, y, hcM, upd_same⟩
    · exact ⟨a, h1, h2.same g (at_ a z fun y => hcM (by rw [← y]; exact t.sub a (List.mem_of_getElem? h1)))⟩
  · rcases t.lt a h with y | ⟨u, y, nu⟩
    · exact .inl y
    · by_cases z : a = P
      · exact .inl (by rw [z]; exact hPm)
      · exact .inr ⟨u, by rw [at_ a z fun w => hcM (by rw [← w]; exact h)]; exact y, nu⟩
theorem noX_all_ {α : Type} {P : α → Sto → Prop} {E E' : Str → D → Sto → Prop} (t : Tr α) (h : t.noX.All P E) : t.noX.All P E' := by
  induction t with
  | ok a s => exact h
  | ex x v s => exact h.elim
  | pick n k ih => exact fun i hi => ih i (h i hi)
  | bad => exact h.elim
theorem catch_all {x : Str} {v : D} {s : Sto} {P : D → Sto → Prop} {E E' : Str → D → Sto → Prop} : ∀ hs : List Hd, (catchT x v s hs).All P E → (catchT x v s hs).All P E'
  | [], h => h.elim
  | q :: r, h => by
    unfold catchT at h ⊢
    cases hq : q.yes.lookup x with
    | some xf =>
      rw [hq] at h
      exact noX_all_ (E := E) _ h
    | none =>
      rw [hq] at h
      by_cases c : q.no.contains x = true
      · simp only [c, if_true] at h ⊢
        exact catch_all r h
      · simp only [c, Bool.false_eq_true, if_false] at h
        exact h.elim
theorem try_all {hs : List Hd} {fin : Option HE} {P : D → Sto → Prop} {E : Str → D → Sto → Prop} : ∀ t : Tr D, (tryT hs fin t).All P E →
    t.All (fun v s => match fin with
      | none => P v s
      | some h => ((heM none .non h s).noX).All P fun _ _ _ => False) fun x v s => (catchT x v s hs).All P fun _ _ _ => False
  | .ok v s, h => by
    cases fin with
    | none => exact h
    | some q => exact noX_all_ _ h
  | .ex x v s, h => catch_all hs h
  | .pick n k, h => fun i hi => try_all (k i) (h i hi)
  | .bad, h => h
theorem noPar_eq {p : Arguments} (h : noPar p = true) : p = ⟨[], [], none, [], [], none, []⟩ := by
  unfold noPar at h
  split at h
  · rfl
  · cases h
theorem met_case {n : Nat} (ih : Snd G n) {Γ : Gam} {X : Cx} {W : WX} (F : Fits Γ X G W) {f : Str} {fp lp p : Pos} {params : Arguments} {body : Expr} {lsc : Scope} {c : E}
    (h : (if nmOk f && gloB Γ.sc f && noPar params && LamX.lamSB Γ.sc lsc && decide (2 ≤ Γ.lv) then (match Γ.mets.lookup f, Γ.lam with
      | some mi, some (r, q) => (comp n (Γ.lamIn lsc) body).map fun c => E.met r q c mi.hs mi.fin
      | _, _ => none) else none) = some c) : PE X (.Call (.Name f fp) [.Lambda params body lsc lp] [] p) (tE G W (ev c)) := by
  split at h
  case isFalse => cases h
  rename_i hc
  simp only [Bool.and_eq_true, decide_eq_true_eq] at hc
  obtain ⟨⟨⟨⟨c1, c2⟩, c3⟩, c4⟩, c5⟩ := hc
  cases hm : Γ.mets.lookup f with
  | none => rw [hm] at h; cases h
  | some mi =>
    cases hl : Γ.lam with
    | none => rw [hm, hl] at h; cases h
    | some rq =>
      rw [hm, hl] at h
      obtain ⟨r, q⟩ := rq
      obtain ⟨b, hb, rfl⟩ := mm h
      obtain ⟨eq, cc, P, TB, hcode, hP⟩ := F.lam r q hl
      subst eq
      obtain ⟨g, pg, bg, sg, cdv, a, Ng, D, Sg, hN, hv, hd, hcd, hG⟩ := F.mets f mi hm
      have ep := noPar_eq c3
      subst ep
      obtain ⟨k, hk⟩ : ∃ k, Γ.lv = k + 2 := ⟨Γ.lv - 2, by omega⟩
      have room : Room (k + 2) X.A := hk ▸ F.room
      have L : LamX.LamS X.env.scope lsc := by rw [F.sc]; exact LamX.lamS_by c4
      have key := lam_call (pos := p) (lpos := lp) (p := fp) (params := ⟨[], [], none, [], [], none, []⟩) (body := body) (t := fun E => tE G (wX E) (ev b)) (glo_of F c2) D Sg hN hv (hG X rfl rfl rfl rfl rfl F.gd ⟨_, room⟩) TB hcode room F.gd L rfl (fun _ _ _ _ _ => rfl) (fun A outer s H E f c' hr hq => ?_) (nm_of c1).1 hd hcd
      · refine PE.conv key fun σ H Q hh => ?_
        obtain ⟨μ, e, st, sr, t, hA⟩ := hh
        have hA2 : (if tabOk st r (X.env.qual ++ "<lambda>") = true then tryT mi.hs mi.fin (ev b e st) else Tr.bad).All (KE G (Rep G) μ H Q) (KX G W σ μ H) := hA
        split at hA2
        case isFalse => exact hA2.elim
        rename_i htab
        have hs : st[r]? = some (.tab (X.env.qual ++ "<lambda>")) := by
          unfold tabOk at htab
          split at htab
          · rename_i q' e'; rw [e', of_decide_eq_true htab]
          · cases htab
        have hr := t.tb r P hP
        refine ⟨?_, fun H1 md => ?_⟩
        · obtain ⟨a', k1, ps, k2, k3, k4⟩ := t.at_ r _ hs
          rw [hr] at k1
          cases k1
          exact ⟨ps, k2, k3, fun pos cv hc => let ⟨c, e1, _, e3⟩ := k4 pos cv hc; ⟨c, e1, e3⟩⟩
        · obtain ⟨t1, g1⟩ := t.lam hr hs md
          refine ⟨fun cls d H' => CatchOk G mi.hs cls d H' Q, fun _ _ _ z => z, μ, e, st, sr.gr g1, t1, Tr.All_mono (fun v st' z μ' H' x gg tt rr => ?_) (fun y v st' z μ' H' cls dd gg tt rx => ?_) _ (try_all _ hA2)⟩
          · unfold FinOk
            cases hf : mi.fin with
            | none =>
              rw [hf] at z
              exact (show KE G (Rep G) μ H Q v st' from z) μ' H' x (g1.trans gg) tt rr
            | some hh =>
              rw [hf] at z
              exact ⟨μ', st', tt, Tr.All_mono (fun _ _ y => KE.gr (g1.trans gg) y) (fun _ _ _ y => y) _ z⟩
          · exact ⟨μ', st', y, v, tt, rx, Tr.All_mono (fun _ _ y => KE.gr (g1.trans gg) y) (fun _ _ _ y => y) _ z⟩
      · refine ih.e (Γ.lamIn lsc) _ (wX E) body b ⟨F.N, F.nd, rfl, rfl, F.K, F.w, F.mg, takes_of rfl rfl rfl rfl, passes_of rfl, fun x hx => absurd hx (by simp [Gam.lamIn]), ?_, F.fns, F.cst, F.free, hq, (fun _ _ z => by cases z), F.mets, F.excs⟩ hb
        show Room (Γ.lv - 2) _
        rw [hk]
        exact hr
theorem lamB_ok {X : Cx} {W : WX} {x : E} {P : Addr} {r : Nat} {σ : L2.St} {H : Hp} {Q : VK} (hK : G.K = X.K) (hw : G.w = X.w) (hP : G.T[r]? = some P) (h : tE G W (ev (.lamB r (X.env.qual ++ "<lambda>") sortLcD x)) σ H Q) : tSortLc X.K X.w P (X.env.qual ++ "<lambda>") (tE G W (ev x)) σ H Q := by
  obtain ⟨μ, e, st, s, t, hA⟩ := h
  refine tG_then (da := ev x) s t hA fun μ1 H1 d st1 v g1 s1 t1 r1 hA1 => ?_
  have hA2 : (if tabOk st1 r (X.env.qual ++ "<lambda>") = true then optM (sortLcD [drf st1 d]) st1 else Tr.bad).All (KE G (Rep G) μ1 H1 Q) (KX G W σ μ1 H1) := hA1
  split at hA2
  case isFalse => exact hA2.elim
  rename_i htab
  have hs : st1[r]? = some (.tab (X.env.qual ++ "<lambda>")) := by
    unfold tabOk at htab
    split at htab
    · rename_i q' e'; rw [e', of_decide_eq_true htab]
    · cases htab
  have hr := t1.tb r P hP
  refine ⟨?_, fun H2 md => ?_⟩
  · obtain ⟨a', k1, ps, k2, k3, k4⟩ := t1.at_ r _ hs
    rw [hr] at k1
    cases k1
    exact ⟨ps, k2, k3, fun pos cv hc => let ⟨c, e1, _, e3⟩ := k4 pos cv hc; ⟨c, e1, e3⟩⟩
  · obtain ⟨t2, g2⟩ := t1.lam hr hs md
    obtain ⟨z, hz, k⟩ := optM_some hA2
    cases hd : drf st1 d <;> rw [hd] at hz <;> first | (cases hz; done) | skip
    rename_i ks vs
    have rv := t2.drf (r1.gr g2)
    rw [hd] at rv
    obtain ⟨a, kvs, ob, us, ws, rfl, e1, hk, rfl, rfl, q1, q2⟩ := rv.dctE
    obtain ⟨p1, p2, p3, p4, zs, rfl, p5⟩ := sortLc_parts hK q1 (show sortLcO ks = some z from hz)
    refine ⟨a, kvs, ob, _, rfl, hw ▸ e1, (List.map_snd_zip (Nat.le_of_eq q1.length.symm)).symm, p1, p2, p3, p4, fun p hp => ?_⟩
    exact (show KE G (Rep G) μ1 H1 Q (.lst zs) st1 from k) μ1 _ _ (g2.trans (Gr.new_ t2.sub hp)) (t2.new_ hp) (Rep.lst_new t2 hp p5)
theorem snd_e {n : Nat} (ih : Snd G n) {Γ : Gam} {X : Cx} {W : WX} (F : Fits Γ X G W) {e : Expr} {c : E} (h : comp (n + 1) Γ e = some c) : PE X e (tE G W (ev c)) := by
  have hu : X.A.units + 65 < cLine := by have := F.room.un; omega
  cases e with
  | Name x p =>
    have h' : (if nmOk x then (if visB Γ.sc x then (slotOf Γ.N x).map .var else if gloB Γ.sc x then (match Γ.cst.lookup x with
      | some d => some (.c d)
      | none => if Γ.vfn.contains x && (Γ.fns.lookup x).isSome then some (.c (.fn x)) else match tys.lookup x with
        | some t => if Γ.free.contains x then some (.c (.ty t)) else none
        | none => none) else none) else none) = some c := h
    split at h'
    · rename_i hn
      obtain ⟨n1, n2, n3⟩ := nm_of hn
      split at h'
      · rename_i hv
        obtain ⟨i, h1, rfl⟩ := mm h'
        exact var_ok (pe_var (by rw [F.N]; exact slot_get h1) (by rw [F.sc]; exact vis_of hv) n1 n2)
      · split at h'
        · rename_i hg
          cases hc : Γ.cst.lookup x with
          | some d =>
            rw [hc] at h'
            cases h'
            obtain ⟨u, v, q1, q2, q3⟩ := F.cst x d hc
            exact con_ok (pe_glob (glo_of F hg) q1 q2 n1) q3
          | none =>
            rw [hc] at h'
            have h2 : (if (Γ.vfn.contains x && (Γ.fns.lookup x).isSome) = true then some (E.c (.fn x)) else match tys.lookup x with
              | some t => if Γ.free.contains x then some (.c (.ty t)) else none
              | none => none) = some c := h'
            split at h2
            case isTrue =>
              rename_i hv
              cases h2
              obtain ⟨fi, hfi⟩ := Option.isSome_iff_exists.mp (Bool.and_eq_true_iff.mp hv).2
              obtain ⟨f, fd, ps, q1, _⟩ := F.fns x fi hfi
              exact con_ok (v := .ref f) (pe_glob (glo_of F hg) q1 rfl n1) fun _ _ => .fn (by rw [F.mg]; exact q1)
            replace h' := h2
            cases ht : tys.lookup x with
            | none => rw [ht] at h'; cases h'
            | some t =>
              rw [ht] at h'
              obtain ⟨q, rfl⟩ := if_some h'
              have hm := PySem.mem_of_lookup ht
              have hb : bootBuiltins x = some (.type t) := by
                unfold tys at hm
                simp only [List.mem_cons, List.not_mem_nil, or_false, Prod.mk.injEq] at hm
                rcases hm with ⟨rfl, rfl⟩ | ⟨rfl, rfl⟩ | ⟨rfl, rfl⟩ | ⟨rfl, rfl⟩ | ⟨rfl, rfl⟩ <;> decide +kernel
              exact con_ok (pe_bltn (v := .ty t) (glo_of F hg) (F.free x (by simpa using q)) hb rfl n3 n1) fun _ _ => .ty t
        · cases h'
    · cases h'
  | Constant k i p =>
    cases k <;> first | (cases h; done) | skip
    · cases h; exact con_ok pe_non fun _ _ => .non
    · cases h; exact con_ok pe_bl fun _ _ => .bl _
    · cases h; exact con_ok pe_int fun _ _ => .int _
    · cases h; exact con_ok pe_str fun _ _ => .str _
  | BinOp a o b p =>
    have h' : ((comp n Γ a).bind fun x => (comp n Γ b).bind fun y => if Γ.mu.contains (p.line, p.col) then (if o = .Add then some (E.catL x y) else none) else some (E.bin o x y)) = some c := h
    obtain ⟨x, h1, h2⟩ := bb h'
    obtain ⟨y, h3, h4⟩ := bb h2
    split at h4
    · split at h4
      · rename_i ho
        subst ho
        cases h4
        exact PE.conv (pe_op op_cat (ih.e Γ X W a x F h1) (ih.e Γ X W b y F h3)) fun σ H Q q => cat_ok q
      · cases h4
    · cases h4
      exact PE.conv (pe_op (bin_ok F.K o) (ih.e Γ X W a x F h1) (ih.e Γ X W b y F h3)) fun σ H Q q => op2_ok (fun _ _ _ _ z => z) q
  | UnaryOp o a p =>
    cases o <;> first | (cases h; done) | skip
    · have h' : (comp n Γ a).map E.not_ = some c := h
      obtain ⟨x, h1, rfl⟩ := mm h'
      refine PE.conv (pe_notT (ih.e Γ X W a x F h1)) fun σ H Q q => ?_
      obtain ⟨μ, e, st, s, t, hA⟩ := q
      exact truth_then F.K s t hA (fun x b H1 => Q (.bl (!b)) H1) fun μ1 H1 d st1 x b g1 s1 t1 r1 tv hA1 => KE.here hA1 t1 (.bl _)
    · have h' : (comp n Γ a).map E.neg = some c := h
      obtain ⟨x, h1, rfl⟩ := mm h'
      exact PE.conv (pe_un neg_ok (ih.e Γ X W a x F h1)) fun σ H Q q => un1 (fun _ _ _ z => z) q
  | Compare a os bs p =>
    match os, bs with
    | [o], [b] =>
      have h' : (if behindInMarks o b then none else (comp n Γ a).bind fun x => (comp n Γ b).map fun y => E.cmp o x y) = some c := h
      split at h'
      · cases h'
      · rename_i hm
        obtain ⟨x, h1, h2⟩ := bb h'
        obtain ⟨y, h3, rfl⟩ := mm h2
        exact PE.conv (pe_cmpR (cmp_ok F.K F.w hu o) (ih.e Γ X W a x F h1) (ih.e Γ X W b y F h3) (by simpa using hm)) fun σ H Q q => op2_ok (fun _ _ _ _ z => z) q
    | [o, o'], [b, b'] =>
      have h' : (if behindInMarks o' b' then none else (comp n Γ a).bind fun x => (comp n Γ b).bind fun y => (comp n Γ b').map fun z => E.chain o o' x y z) = some c := h
      split at h'
      · cases h'
      · rename_i hm
        obtain ⟨x, h1, h2⟩ := bb h'
        obtain ⟨y, h3, h4⟩ := bb h2
        obtain ⟨z, h5, rfl⟩ := mm h4
        refine PE.conv (pe_chain (cmp_ok F.K F.w hu o) (cmp_ok F.K F.w hu o') (ih.e Γ X W a x F h1) (ih.e Γ X W b y F h3) (ih.e Γ X W b' z F h5) (by show behindInMarks o' b' = false; simpa using hm)) fun σ H Q q => ?_
        obtain ⟨μ, e, st, s, t, hA⟩ := q
        refine tG_then s t hA fun μ1 H1 d1 st1 v1 g1 s1 t1 r1 hA1 => ?_
        refine tG_then s1 t1 hA1 fun μ2 H2 d2 st2 v2 g2 s2 t2 r2 hA2 => ?_
        obtain ⟨d3, hz, k⟩ := optM_some ((Tr.All_bind _).mp hA2)
        refine ⟨μ2, st2, _, _, d3, t2, t2.drf (r1.gr g2), t2.drf r2, hz, fun μ3 H3 v3 g3 t3 r3 => ?_⟩
        have k' := Tr.All_mono (P' := KE G (Rep G) μ3 H3 Q) (E' := KX G W σ μ3 H3) (fun _ _ z => KE.gr g3 z) (fun _ _ _ z => KX.gr g3 z) _ k
        cases d3 <;> first | exact k.elim | skip
        rename_i bv
        cases r3
        refine ⟨bv, rfl, ?_⟩
        cases bv with
        | false =>
          rw [if_neg Bool.false_ne_true]
          exact (show KE G (Rep G) μ2 H2 Q (.bl false) st2 from k) μ3 H3 _ g3 t3 (.bl _)
        | true =>
          rw [if_pos rfl]
          refine tG_then (s2.gr g3) t3 k' fun μ4 H4 d4 st4 v4 g4 s4 t4 r4 hA4 => ?_
          obtain ⟨zz, hz4, k4⟩ := optM_some hA4
          exact ⟨μ4, st4, _, _, zz, t4, t4.drf ((r2.gr g3).gr g4), t4.drf r4, hz4, k4⟩
    | [], _ => cases h
    | [_], [] => cases h
    | [_], _ :: _ :: _ => cases h
    | [_, _], [] => cases h
    | [_, _], [_] => cases h
    | [_, _], _ :: _ :: _ :: _ => cases h
    | _ :: _ :: _ :: _, _ => cases h
  | BoolOp o as p =>
    match as with
    | [] => cases o <;> cases h
    | [a] =>
      have h' : comp n Γ a = some c := by cases o <;> exact h
      exact pe_one (ih.e Γ X W a c F h')
    | a :: b :: r =>
      cases o with
      | And =>
        have h' : ((comp n Γ a).bind fun x => (comp n Γ (.BoolOp .And (b :: r) p)).map fun y => E.and_ x y) = some c := h
        obtain ⟨x, h1, h2⟩ := bb h'
        obtain ⟨y, h3, rfl⟩ := mm h2
        refine PE.conv (pe_andT (ih.e Γ X W a x F h1) (ih.e Γ X W _ y F h3)) fun σ H Q q => ?_
        obtain ⟨μ, e, st, s, t, hA⟩ := q
        refine truth_then F.K s t hA (fun x b H1 => if b = true then tE G W (ev y) σ H1 Q else Q x H1) fun μ1 H1 d st1 x b g1 s1 t1 r1 tv hA1 => ?_
        cases b with
        | true => rw [if_pos rfl] at hA1 ⊢; exact ⟨μ1, e, st1, s1, t1, hA1⟩
        | false => rw [if_neg Bool.false_ne_true] at hA1 ⊢; exact KE.here hA1 t1 r1
      | Or =>
        have h' : ((comp n Γ a).bind fun x => (comp n Γ (.BoolOp .Or (b :: r) p)).map fun y => E.or_ x y) = some c := h
        obtain ⟨x, h1, h2⟩ := bb h'
        obtain ⟨y, h3, rfl⟩ := mm h2
        refine PE.conv (pe_orT (ih.e Γ X W a x F h1) (ih.e Γ X W _ y F h3)) fun σ H Q q => ?_
        obtain ⟨μ, e, st, s, t, hA⟩ := q
        refine truth_then F.K s t hA (fun x b H1 => if b = true then Q x H1 else tE G W (ev y) σ H1 Q) fun μ1 H1 d st1 x b g1 s1 t1 r1 tv hA1 => ?_
        cases b with
        | true => rw [if_pos rfl] at hA1 ⊢; exact KE.here hA1 t1 r1
        | false => rw [if_neg Bool.false_ne_true] at hA1 ⊢; exact ⟨μ1, e, st1, s1, t1, hA1⟩
  | IfExp t a b p =>
    have h' : ((compT n Γ t).bind fun x => (comp n Γ a).bind fun y => (comp n Γ b).map fun z => E.ite x y z) = some c := h
    obtain ⟨x, h1, h2⟩ := bb h'
    obtain ⟨y, h3, h4⟩ := bb h2
    obtain ⟨z, h5, rfl⟩ := mm h4
    refine PE.conv (pe_ifExp (ih.t Γ X W t x F h1) (ih.e Γ X W a y F h3) (ih.e Γ X W b z F h5)) fun σ H Q q => ?_
    obtain ⟨μ, e, st, s, tt, hA⟩ := q
    have hA' : ((andThen (ev x e) truthM st).bind fun b s2 => (if b = true then ev y e else ev z e) s2).All (KE G (Rep G) μ H Q) (KX G W σ μ H) := by
      refine (Tr.All_bind _).mpr ((Tr.All_bind (f := truthM) _).mpr ?_)
      exact Tr.All_mono (fun d s2 hq => (Tr.All_bind _).mp hq) (fun _ _ _ q => q) _ ((Tr.All_bind _).mp hA)
    refine tG_then (da := fun v => andThen (ev x v) truthM) s tt hA' fun μ1 H1 b st1 b' g1 s1 t1 eb hA1 => ?_
    subst eb
    cases b with
    | true => rw [if_pos rfl] at hA1 ⊢; exact ⟨μ1, e, st1, s1, t1, hA1⟩
    | false => rw [if_neg Bool.false_ne_true] at hA1 ⊢; exact ⟨μ1, e, st1, s1, t1, hA1⟩
  | Tuple es k p =>
    have h' : (comps n Γ es).map E.tup = some c := h
    obtain ⟨x, h1, rfl⟩ := mm h'
    refine PE.conv (pe_tup (ih.a Γ X W es x F h1)) fun σ H Q q => ?_
    obtain ⟨μ, e, st, s, t, hA⟩ := q
    refine tG_then (da := evs x) s t hA fun μ1 H1 ds st1 vs g1 s1 t1 r1 hA1 => ?_
    have hA2 : ((lenOk ds st1).bind fun xs s => .ok (D.tup xs) s).All (KE G (Rep G) μ1 H1 Q) (KX G W σ μ1 H1) := hA1
    unfold lenOk at hA2
    split at hA2
    · rename_i hz
      exact ⟨by rw [← r1.length]; exact hz, fun p hp => KE.tup (show KE G (Rep G) μ1 H1 Q (.tup ds) st1 from hA2) t1 r1 hp⟩
    · exact hA2.elim
  | List es p =>
    have h' : ((comps n Γ es).map fun c => if Γ.mu.contains (p.line, p.col) then E.lstM c else E.lst c) = some c := h
    obtain ⟨x, h1, h2⟩ := mm h'
    split at h2
    · subst h2
      refine PE.conv (pe_lst (ih.a Γ X W es x F h1)) fun σ H Q q => ?_
      obtain ⟨μ, e, st, s, t, hA⟩ := q
      refine tG_then (da := evs x) s t hA fun μ1 H1 ds st1 vs g1 s1 t1 r1 hA1 => ?_
      have hA2 : ((lenOk ds st1).bind fun xs s => .ok (D.ref s.length) (s ++ [.lst xs])).All (KE G (Rep G) μ1 H1 Q) (KX G W σ μ1 H1) := hA1
      unfold lenOk at hA2
      split at hA2
      · rename_i hz
        refine ⟨by rw [← r1.length]; exact hz, fun p hp => ?_⟩
        obtain ⟨q1, q2⟩ := push_ok t1 hp r1
        refine (show KE G (Rep G) μ1 H1 Q (.ref st1.length) (st1 ++ [.lst ds]) from hA2) _ _ _ q2 q1 (.ref ?_)
        show (μ1.m ++ [p])[st1.length]? = _
        rw [List.getElem?_append_right (by rw [t1.len]; exact Nat.le_refl _), t1.len, Nat.sub_self]
        rfl
      · exact hA2.elim
    · subst h2
      refine PE.conv (pe_lst (ih.a Γ X W es x F h1)) fun σ H Q q => ?_
      obtain ⟨μ, e, st, s, t, hA⟩ := q
      refine tG_then (da := evs x) s t hA fun μ1 H1 ds st1 vs g1 s1 t1 r1 hA1 => ?_
      have hA2 : ((lenOk ds st1).bind fun xs s => .ok (D.lst xs) s).All (KE G (Rep G) μ1 H1 Q) (KX G W σ μ1 H1) := hA1
      unfold lenOk at hA2
      split at hA2
      · rename_i hz
        exact ⟨by rw [← r1.length]; exact hz, fun p hp => KE.lst (show KE G (Rep G) μ1 H1 Q (.lst ds) st1 from hA2) t1 r1 hp⟩
      · exact hA2.elim
  | Subscript a i p =>
    cases i with
    | Slice lo hi stp p2 =>
      cases stp with
      | some z => cases h
      | none =>
        have h' : ((comp n Γ a).bind fun x => (compO n Γ lo).bind fun l => (compO n Γ hi).map fun h => E.sl x l h) = some c := h
        obtain ⟨x, h1, h2⟩ := bb h'
        obtain ⟨l, h3, h4⟩ := bb h2
        obtain ⟨r, h5, rfl⟩ := mm h4
        obtain ⟨tl, pl, kl⟩ := part_then ih F h3
        obtain ⟨tr, pr, kr⟩ := part_then ih F h5
        refine PE.conv (pe_slice sl_lstT (ih.e Γ X W a x F h1) pl pr) fun σ H Q q => ?_
        obtain ⟨μ, e, st, s, t, hA⟩ := q
        refine tG_then s t hA fun μ1 H1 d st1 v g1 s1 t1 r1 hA1 => ?_
        refine kl μ1 e st1 σ H1 _ _ _ _ _ _ s1 t1 hA1 fun μ2 H2 d2 st2 k2 g2 s2 t2 e2 hA2 => ?_
        refine kr μ2 e st2 σ H2 _ _ _ _ _ _ s2 t2 hA2 fun μ3 H3 d3 st3 k3 g3 s3 t3 e3 hA3 => ?_
        obtain ⟨z, hz, k⟩ := optM_some hA3
        exact sl_of F.K t3 (t3.drf ((r1.gr g2).gr g3)) e2 e3 hz k
    | _ => exact idx_ok ih F (fun _ _ => rfl) h
  | ListComp elt gs sc p =>
    match gs with
    | [] => cases h
    | ⟨_, _, _, .negSucc _⟩ :: _ :: _ => cases h
    | ⟨_, _, _, .ofNat 0⟩ :: ⟨_, _, _, .negSucc _⟩ :: _ => cases h
    | ⟨_, _, _, .ofNat 0⟩ :: ⟨_, _, _, .ofNat (_ + 1)⟩ :: _ => cases h
    | ⟨_, _, _, .ofNat 0⟩ :: ⟨_, _, _, .ofNat 0⟩ :: _ :: _ => cases h
    | [⟨tg, it, ifs, .ofNat 0⟩, ⟨tg1, it1, ifs1, .ofNat 0⟩] =>
      obtain ⟨wi, wi1, g, g1, tt, tt1, te, vs1, q1, q2, q3, q4, q5, q6, q7, q8, q9, q10, q11, q12⟩ := lc2_parts ih F h
      exact PE.conv (pe_lc2 F.calm (by rw [F.N]; exact F.nd) q1 q2 q3 q4 q5 q6 q7 q8 q9 q10 q11) q12
    | ⟨_, _, _, .ofNat (_ + 1)⟩ :: _ :: _ => cases h
    | [⟨tg, it, ifs, .negSucc _⟩] => cases h
    | [⟨tg, it, ifs, .ofNat (_ + 1)⟩] => cases h
    | [⟨tg, it, ifs, .ofNat 0⟩] =>
      obtain ⟨wi, g, tt, te, q1, q2, q3, q4, q5, q6, q7⟩ := lc_parts ih F h
      exact PE.conv (pe_lc F.calm (by rw [F.N]; exact F.nd) q1 q2 q3 q4 q5 q6) q7
  | DictComp k v gs sc p =>
    match gs with
    | [] => cases h
    | ⟨_, _, _, .negSucc _⟩ :: _ :: _ => cases h
    | ⟨_, _, _, .ofNat 0⟩ :: _ :: _ => cases h
    | ⟨_, _, _, .ofNat (_ + 1)⟩ :: _ :: _ => cases h
    | [⟨tg, it, ifs, .negSucc _⟩] => cases h
    | [⟨tg, it, ifs, .ofNat (_ + 1)⟩] => cases h
    | [⟨tg, it, ifs, .ofNat 0⟩] =>
      obtain ⟨wi, g, tt, tk, tv, q1, q2, q3, q4, q5, q5', q6, q7⟩ := dc_parts ih F h
      exact PE.conv (pe_dx (by omega) F.calm (by rw [F.N]; exact F.nd) q1 q2 q3 q4 q5 q5' q6) q7
  | Call f as ks p =>
    cases f with
    | Name f fp =>
     match as, ks with
     | [], _ => cases h
     | _ :: _ :: _, ⟨none, _, _⟩ :: _ => exact absurd (show (none : Option E) = some c from h) nofun
     | _ :: _ :: _, ⟨some _, v, _⟩ :: ks' => cases v <;> cases ks' <;> exact absurd (show (none : Option E) = some c from h) nofun
     | [_], ⟨none, _, _⟩ :: _ :: _ => exact absurd (show (none : Option E) = some c from h) nofun
     | [_], ⟨some _, v, _⟩ :: _ :: _ => cases v <;> exact absurd (show (none : Option E) = some c from h) nofun
     | [_], [⟨none, _, _⟩] => exact absurd (show (none : Option E) = some c from h) nofun
     | [a], [⟨some k, v, kpos⟩] =>
      cases v with
      | Lambda params body lsc lpos =>
        have h' : (if decide (f = "sorted") && decide (k = "key") && gloB Γ.sc f && Γ.free.contains f && Γ.free.contains "len" && plainE a && lenBody "_law_cell" body && lenScope "_law_cell" lsc && lenParams "_law_cell" params then (match Γ.lam with
          | some (r, q) => (comp n Γ a).map fun c => E.lamB r q sortLcD c
          | none => none) else none) = some c := h
        split at h'
        case isFalse => cases h'
        rename_i hc
        simp only [Bool.and_eq_true, decide_eq_true_eq] at hc
        obtain ⟨⟨⟨⟨⟨⟨⟨⟨c1, c2⟩, c3⟩, c4⟩, c5⟩, c6⟩, c7⟩, c8⟩, c9⟩ := hc
        subst c1
        subst c2
        cases hl : Γ.lam with
        | none => rw [hl] at h'; cases h'
        | some rq =>
          rw [hl] at h'
          obtain ⟨r, q⟩ := rq
          obtain ⟨b, hb, rfl⟩ := mm h'
          obtain ⟨eq, cc, P, TB, hcode, hP⟩ := F.lam r q hl
          subst eq
          exact PE.conv (pe_sortLc F.calm (by omega) F.room.depth (glo_of F c3) (F.free _ (by simpa using c4)) (F.free _ (by simpa using c5)) (ih.e Γ X W a b F hb) (by rw [star_of c6]; rfl) c7 c8 c9 TB hcode) fun σ H Q q => lamB_ok F.K F.w hP q
      | _ => cases h
     | a :: as, [] =>
      have h0 : (match lamOf (a :: as) with
        | some (params, body, lsc) => if nmOk f && gloB Γ.sc f && noPar params && LamX.lamSB Γ.sc lsc && decide (2 ≤ Γ.lv) then (match Γ.mets.lookup f, Γ.lam with
          | some mi, some (r, q) => (comp n (Γ.lamIn lsc) body).map fun c => E.met r q c mi.hs mi.fin
          | _, _ => none) else none
        | none => if visB Γ.sc f && nmOk f && (a :: as).all plainE then (comp n Γ (.Name f fp)).bind fun x => (comps n Γ (a :: as)).map fun c => E.callV Γ.tab x c
          else if nmOk f && gloB Γ.sc f && (a :: as).all plainE then (match Γ.fns.lookup f with
          | some fi => if fi.lv ≤ Γ.lv then (comps n Γ (a :: as)).map (E.call fi.φ) else none
          | none => match bis.lookup f with
            | some v => if Γ.free.contains f then (comps n Γ (a :: as)).map (E.call (bi v.2)) else none
            | none => none) else none) = some c := h
      cases hlam : lamOf (a :: as) with
      | some pbl =>
        rw [hlam] at h0
        obtain ⟨params, body, lsc⟩ := pbl
        obtain ⟨lp, rfl, rfl⟩ := lam_of hlam
        exact met_case ih F h0
      | none =>
      rw [hlam] at h0
      dsimp only at h0
      split at h0
      case isTrue =>
        rename_i hc
        simp only [Bool.and_eq_true, List.all_cons] at hc
        obtain ⟨x, h1, h2⟩ := bb h0
        obtain ⟨y, h3, rfl⟩ := mm h2
        exact callV_ok F (ih.e Γ X W (.Name f fp) x F h1) (ih.a Γ X W (a :: as) y F h3) (star_of (es := as) (env := X.env) hc.2.1) (anyStar (pos := p) (env := X.env) hc.2.2)
      rename_i hnv
      have h' : (if nmOk f && gloB Γ.sc f && (a :: as).all plainE then (match Γ.fns.lookup f with
        | some fi => if fi.lv ≤ Γ.lv then (comps n Γ (a :: as)).map (E.call fi.φ) else none
        | none => match bis.lookup f with
          | some v => if Γ.free.contains f then (comps n Γ (a :: as)).map (E.call (bi v.2)) else none
          | none => none) else none) = some c := h0
      split at h'
      · rename_i hc
        simp only [Bool.and_eq_true, List.all_cons] at hc
        obtain ⟨n1, n2, n3⟩ := nm_of hc.1.1
        have hg := glo_of F hc.1.2
        have st := star_of (es := as) (env := X.env) hc.2.1
        have an := anyStar (pos := p) (env := X.env) hc.2.2
        cases hq : Γ.fns.lookup f with
        | some fi =>
          rw [hq] at h'
          obtain ⟨hl, h2⟩ : fi.lv ≤ Γ.lv ∧ (comps n Γ (a :: as)).map (E.call fi.φ) = some c := by
            by_cases hl : fi.lv ≤ Γ.lv
            · exact ⟨hl, by have h3 : (if fi.lv ≤ Γ.lv then (comps n Γ (a :: as)).map (E.call fi.φ) else none) = some c := h'; rw [if_pos hl] at h3; exact h3⟩
            · have h3 : (if fi.lv ≤ Γ.lv then (comps n Γ (a :: as)).map (E.call fi.φ) else none) = some c := h'
              rw [if_neg hl] at h3
              cases h3
          obtain ⟨x, h4, rfl⟩ := mm h2
          obtain ⟨g, fd, ps, q1, q2, q3, q4, q5⟩ := F.fns f fi hq
          exact PE.conv (pe_callG q4 (F.room.mono hl) F.gd hg q1 q2 q3 (fun σ => passAt F.tk σ) (ih.a Γ X W (a :: as) x F h4) n1 st an) fun σ H Q q => call_ok' q5 q
        | none =>
          rw [hq] at h'
          cases hb : bis.lookup f with
          | none => rw [hb] at h'; cases h'
          | some v =>
            rw [hb] at h'
            obtain ⟨hm, h2⟩ : Γ.free.contains f = true ∧ (comps n Γ (a :: as)).map (E.call (bi v.2)) = some c := by
              have h3 : (if Γ.free.contains f then (comps n Γ (a :: as)).map (E.call (bi v.2)) else none) = some c := h'
              split at h3
              · rename_i hm; exact ⟨hm, h3⟩
              · cases h3
            obtain ⟨x, h4, rfl⟩ := mm h2
            obtain ⟨fv, φ⟩ := v
            obtain ⟨b1, b2, b3, b4, b5⟩ := bis_ok (G := G) F.K F.w F.calm F.gd F.room.units (PySem.mem_of_lookup hb)
            have hmg := F.free f (by simpa using hm)
            rcases b2 with ⟨id, rfl⟩ | ⟨T, rfl⟩
            · exact PE.conv (pe_callB b5 hg hmg b1 (ih.a Γ X W (a :: as) x F h4) b3 b4 st an) fun σ H Q q => bi_ok q
            · exact PE.conv (pe_callTy b5 hg hmg b1 (ih.a Γ X W (a :: as) x F h4) b3 b4 st an) fun σ H Q q => bi_ok q
      · cases h'
    | Attribute o m q =>
      cases o with
      | Name x xp =>
        match as, ks with
        | [a], [] =>
          have h' : (if decide (m = "append") && plainE a && decide ((q.endLine == p.line) = true) then (comp n Γ (.Name x xp)).bind fun o => (comp n Γ a).map fun c => E.app o c
            else if decide (m = "extend") && plainE a && decide ((q.endLine == p.line) = true) then (comp n Γ (.Name x xp)).bind fun o => (comp n Γ a).map fun c => E.ext o c
            else if decide (m = "update") && plainE a && decide ((q.endLine == p.line) = true) then (comp n Γ (.Name x xp)).bind fun o => (comp n Γ a).map fun c => E.dupd o c else none) = some c := h
          split at h'
          · rename_i hc
            simp only [Bool.and_eq_true, decide_eq_true_eq] at hc
            obtain ⟨⟨hm, hp⟩, hl⟩ := hc
            subst hm
            obtain ⟨o, h1, h2⟩ := bb h'
            obtain ⟨y, h3, rfl⟩ := mm h2
            refine PE.conv (pe_bm PySem.F.plainAttrs_list PySem.F.slot_list_append PySem.F.type_list_append mt_append (ih.e Γ X W (.Name x xp) o F h1) (pa_cons (ih.e Γ X W a y F h3) pa_nil (star_of hp)) rfl (by rw [star_of hp]; rfl) hl (star_of hp) rfl) fun σ H Q q => app_ok F.K q
          · split at h'
            case isFalse =>
              split at h'
              case isFalse => cases h'
              rename_i hc
              simp only [Bool.and_eq_true, decide_eq_true_eq] at hc
              obtain ⟨⟨hm, hp⟩, hl⟩ := hc
              subst hm
              obtain ⟨o, h1, h2⟩ := bb h'
              obtain ⟨y, h3, rfl⟩ := mm h2
              exact PE.conv (pe_bd PySem.F.plainAttrs_dict PySem.F.slot_dict_update PySem.F.type_dict_update (mt_updD (by omega)) (ih.e Γ X W (.Name x xp) o F h1) (pa_cons (ih.e Γ X W a y F h3) pa_nil (star_of hp)) rfl (by rw [star_of hp]; rfl) hl (star_of hp) rfl) fun σ H Q q => dupd_ok F.K F.w q
            rename_i hc
            simp only [Bool.and_eq_true, decide_eq_true_eq] at hc
            obtain ⟨⟨hm, hp⟩, hl⟩ := hc
            subst hm
            obtain ⟨o, h1, h2⟩ := bb h'
            obtain ⟨y, h3, rfl⟩ := mm h2
            refine PE.conv (pe_bm PySem.F.plainAttrs_list PySem.F.slot_list_extend PySem.F.type_list_extend mt_extend (ih.e Γ X W (.Name x xp) o F h1) (pa_cons (ih.e Γ X W a y F h3) pa_nil (star_of hp)) rfl (by rw [star_of hp]; rfl) hl (star_of hp) rfl) fun σ H Q q => ext_ok F.K q
        | [a, b], [] =>
          have h' : (if decide (m = "get") && plainE a && plainE b && decide ((q.endLine == p.line) = true) then (comp n Γ (.Name x xp)).bind fun o => (comp n Γ a).bind fun c => (comp n Γ b).map fun d => E.dget o c d else none) = some c := h
          split at h'
          case isFalse => cases h'
          rename_i hc
          simp only [Bool.and_eq_true, decide_eq_true_eq] at hc
          obtain ⟨⟨⟨hm, hp⟩, hp2⟩, hl⟩ := hc
          subst hm
          obtain ⟨o, h1, h2⟩ := bb h'
          obtain ⟨y, h3, h4⟩ := bb h2
          obtain ⟨z, h5, rfl⟩ := mm h4
          exact PE.conv (pe_bd PySem.F.plainAttrs_dict PySem.F.slot_dict_get PySem.F.type_dict_get (mt_getD (by omega)) (ih.e Γ X W (.Name x xp) o F h1) (pa_cons (ih.e Γ X W a y F h3) (pa_cons (ih.e Γ X W b z F h5) pa_nil (star_of hp2)) (star_of hp)) rfl (by rw [star_of hp, star_of hp2]; rfl) hl (star_of hp) (by rw [star_of hp2]; rfl)) fun σ H Q q => dget_ok F.K F.w q
        | [], _ => cases h
        | [_], _ :: _ => cases h
        | [_, _], _ :: _ => cases h
        | _ :: _ :: _ :: _, _ => cases h
      | _ => cases h
    | _ => first | cases h | (cases as <;> first | cases h | (cases ks <;> cases h))
  | Dict as bs p =>
    match as, bs with
    | [], [] =>
      have h0 : some (if Γ.mu.contains (p.line, p.col) then E.dnewM else E.dnew) = some c := h
      have h1 := Option.some.inj h0
      split at h1
      · subst h1
        refine PE.conv pe_dnewX fun σ H Q q => ?_
        obtain ⟨μ, e, st, s, t, hA⟩ := q
        intro r hr
        obtain ⟨g0, t0⟩ := acc_start (o := DxO X.w r [] dict0) t hr
        obtain ⟨μ', g', t', e'⟩ := acc_mut (o := .dct [] []) t hr g0 t0 List.mem_cons_self (fun z => t.tr _ (t.sub _ z) hr) fun μ hs h0 => ⟨[], dict0, [], [], by rw [upd_same, F.w], ⟨rfl, true, rfl⟩, rfl, rfl, .nil, .nil⟩
        exact (show KE G (Rep G) μ H Q (.ref st.length) (st ++ [.dct [] []]) from hA) μ' _ _ g' t' (.ref e')
      subst h1
      refine PE.conv pe_dnewK fun σ H Q q => ?_
      obtain ⟨μ, e, st, s, t, hA⟩ := q
      exact fun r hr => (show KE G (Rep G) μ H Q .emp st from hA) μ _ _ (Gr.new_ t.sub hr) (t.new_ hr) (.emp (fun z => t.tr _ z hr) (.inl upd_same))
    | [], _ :: _ => cases h
    | [some k], [v] =>
      have h' : ((comp n Γ k).bind fun x => (comp n Γ v).map fun y => E.d1 (Γ.mu.contains (p.line, p.col)) x y) = some c := h
      obtain ⟨x, h1, h2⟩ := bb h'
      obtain ⟨y, h3, rfl⟩ := mm h2
      exact PE.conv (pe_dx1 (ih.e Γ X W k x F h1) (ih.e Γ X W v y F h3)) fun σ H Q q => d1_ok F.w q
    | [some _], [] => cases h
    | [some _], _ :: _ :: _ => cases h
    | [none], _ => cases h
    | some _ :: _ :: _, _ => cases h
    | none :: _ :: _, _ => cases h
  | _ => cases h
theorem snd_a {n : Nat} (ih : Snd G n) {Γ : Gam} {X : Cx} {W : WX} (F : Fits Γ X G W) {es : List Expr} {c : E} (h : comps (n + 1) Γ es = some c) : PA X es (tL G W (evs c)) := by
  have plain : ∀ (e : Expr) (es : List Expr), plainE e = true → ((comp n Γ e).bind fun x => (comps n Γ es).map fun y => E.cons x y) = some c → PA X (e :: es) (tL G W (evs c)) := by
    intro e es hp h'
    obtain ⟨x, h1, h2⟩ := bb h'
    obtain ⟨y, h3, rfl⟩ := mm h2
    refine PA.conv (pa_cons (ih.e Γ X W e x F h1) (ih.a Γ X W es y F h3) (star_of hp)) fun σ H Q q => ?_
    obtain ⟨μ, e, st, s, t, hA⟩ := q
    refine tG_then (da := ev x) s t hA fun μ1 H1 d st1 v g1 s1 t1 r1 hA1 => ?_
    refine tG_then (da := evs y) s1 t1 hA1 fun μ2 H2 ds st2 vs g2 s2 t2 r2 hA2 => ?_
    exact KE.here hA2 t2 (.cons (r1.gr g2) r2)
  cases es with
  | nil =>
    cases h
    refine PA.conv pa_nil fun σ H Q q => ?_
    obtain ⟨μ, e, st, s, t, hA⟩ := q
    exact KE.here (show KE G (Reps G) μ H Q [] st from hA) t .nil
  | cons e es =>
    cases e with
    | Starred e p =>
      have h' : ((comp n Γ e).bind fun x => (comps n Γ es).map fun y => E.star x y) = some c := h
      obtain ⟨x, h1, h2⟩ := bb h'
      obtain ⟨y, h3, rfl⟩ := mm h2
      refine PA.conv (StX.pa_star (ih.e Γ X W e x F h1) (ih.a Γ X W es y F h3) rfl) fun σ H Q q => ?_
      obtain ⟨μ, e, st, s, t, hA⟩ := q
      refine tG_then (da := ev x) s t hA fun μ1 H1 d st1 v g1 s1 t1 r1 hA1 => ?_
      obtain ⟨ys, hi, hA2⟩ := optM_some ((Tr.All_bind _).mp hA1)
      have fin : ∀ vs, Reps G μ1 H1 ys vs → tL G W (evs y) σ H1 fun zs H2 => Q (vs ++ zs) H2 := fun vs rv =>
        tG_then (da := evs y) s1 t1 hA2 fun μ2 H2 ds st2 ws g2 s2 t2 r2 hA3 => KE.here hA3 t2 ((rv.gr g2).append r2)
      cases r1 with
      | @tup a vs xs a1 r1 => cases hi; exact ⟨a, vs, rfl, .inl (F.K ▸ a1.sq), fin vs r1⟩
      | @lst a vs xs a1 r1 => cases hi; exact ⟨a, vs, rfl, .inr (F.K ▸ a1.sq), fin vs r1⟩
      | _ => cases hi
    | _ => exact plain _ es rfl h
theorem pt_of {X : Cx} {W : WX} {e : Expr} {c : E} (hK : G.K = X.K) (h : PE X e (tE G W (ev c))) (he : ∀ whole, isTrue e X.env whole = (do let v ← whole; standAt e.pos; holding [v] (truthy v))) : PT X e (tB G W fun v => andThen (ev c v) truthM) := by
  refine PT.conv (pt_truth h he) fun σ H Q q => ?_
  obtain ⟨μ, e, st, s, t, hA⟩ := q
  have hA' : ((ev c e st).bind fun x s1 => (truthM x s1).bind fun b s2 => .ok b s2).All (KE G (fun _ _ a b => a = b) μ H Q) (KX G W σ μ H) := by
    refine (Tr.All_bind _).mpr (Tr.All_mono (fun d s2 hq => (Tr.All_bind _).mpr ?_) (fun _ _ _ q => q) _ ((Tr.All_bind _).mp hA))
    exact Tr.All_mono (fun _ _ z => z) (fun _ _ _ z => z) _ hq
  exact truth_then hK s t hA' (fun x b H1 => Q b H1) fun μ1 H1 d st1 x b g1 s1 t1 r1 tv hA1 => KE.here (show KE G (fun _ _ a b => a = b) μ1 H1 Q b st1 from hA1) t1 rfl
theorem Reps_dummy : True := True.intro
/-- a test whose value is a bool -/
theorem pt_bool {X : Cx} {W : WX} {e : Expr} {ca cb : E} (f : D → D → Option D) (hb : ∀ x y z, f x y = some z → ∃ b, z = .bl b) (h : PT X e (tTest (tOp (rD G f) (tE G W (ev ca)) (tE G W (ev cb))))) :
    PT X e (tB G W fun v => andThen (andThen (ev ca v) fun x => andThen (ev cb v) fun y => fun s => optM (f (drf s x) (drf s y)) s) truthM) := by
  refine PT.conv h fun σ H Q q => ?_
  obtain ⟨μ, e, st, s, t, hA⟩ := q
  have hA' : ((ev ca e st).bind fun x s1 => (ev cb e s1).bind fun y s2 => (optM (f (drf s2 x) (drf s2 y)) s2).bind truthM).All (KE G (fun _ _ a b => a = b) μ H Q) (KX G W σ μ H) := by
    refine (Tr.All_bind _).mpr (Tr.All_mono (fun d s2 hq => (Tr.All_bind _).mpr ?_) (fun _ _ _ q => q) _ ((Tr.All_bind _).mp ((Tr.All_bind _).mp hA)))
    refine Tr.All_mono (fun d2 s3 hq2 => (Tr.All_bind _).mpr hq2) (fun _ _ _ q => q) _ ((Tr.All_bind _).mp hq)
  refine tG_then s t hA' fun μ1 H1 d1 st1 x g1 s1 t1 r1 hA1 => ?_
  refine tG_then s1 t1 hA1 fun μ2 H2 d2 st2 y g2 s2 t2 r2 hA2 => ?_
  obtain ⟨z, hz, k⟩ := optM_some ((Tr.All_bind _).mp hA2)
  obtain ⟨b, rfl⟩ := hb _ _ _ hz
  refine ⟨μ2, st2, _, _, _, t2, t2.drf (r1.gr g2), t2.drf r2, hz, fun μ3 H3 v g3 t3 r3 => ?_⟩
  cases r3
  exact ⟨b, rfl, (show KE G (fun _ _ a b => a = b) μ2 H2 Q b st2 from k) μ3 H3 b g3 t3 rfl⟩
theorem cmp_bl {o : CmpOp} {x y z : D} (h : cmpD o x y = some z) : ∃ b, z = .bl b := by
  cases o with
  | Eq => obtain ⟨b, _, rfl⟩ := mm h; exact ⟨_, rfl⟩
  | NotEq => obtain ⟨b, _, rfl⟩ := mm h; exact ⟨_, rfl⟩
  | In =>
    cases y with
    | tup ys => obtain ⟨b, _, rfl⟩ := mm (show (inD x ys).map (fun b => D.bl b) = some z from h); exact ⟨_, rfl⟩
    | lst ys => obtain ⟨b, _, rfl⟩ := mm (show (inD x ys).map (fun b => D.bl b) = some z from h); exact ⟨_, rfl⟩
    | dct ks vs => obtain ⟨b, _, rfl⟩ := mm (show (fitK ks x).map (fun k => D.bl (getK ks vs k).isSome) = some z from h); exact ⟨_, rfl⟩
    | _ => cases h
  | NotIn =>
    cases y with
    | tup ys => obtain ⟨b, _, rfl⟩ := mm (show (inD x ys).map (fun b => D.bl (!b)) = some z from h); exact ⟨_, rfl⟩
    | lst ys => obtain ⟨b, _, rfl⟩ := mm (show (inD x ys).map (fun b => D.bl (!b)) = some z from h); exact ⟨_, rfl⟩
    | dct ks vs => obtain ⟨b, _, rfl⟩ := mm (show (fitK ks x).map (fun k => D.bl (!(getK ks vs k).isSome)) = some z from h); exact ⟨_, rfl⟩
    | _ => cases h
  | _ => cases x <;> cases y <;> first | (cases h; done) | (cases h; exact ⟨_, rfl⟩)
theorem tru_cases {d : D} {st : Sto} {β : Type} {g : Bool → Sto → Tr β} {P : β → Sto → Prop} {E : Str → D → Sto → Prop} (h : ((truthM d st).bind g).All P E) : ∃ b, (drf st d).truth = some b ∧ truthM d st = ret b st ∧ (g b st).All P E := by
  cases ht : (drf st d).truth with
  | none =>
    have : (truthM d st).bind g = .bad := by unfold truthM; rw [ht]; rfl
    rw [this] at h
    exact h.elim
  | some b =>
    have e : truthM d st = ret b st := by unfold truthM; rw [ht]; rfl
    rw [e] at h
    exact ⟨b, rfl, e, h⟩
theorem bool_step {x y : E} (c : E) (k : Bool) {e : Ev} {st : Sto} {P : Bool → Sto → Prop} {E' : Str → D → Sto → Prop} {f : Bool → M Bool} (hA : (andThen (ev c e) truthM st).All P E')
    (hc : ev c e = andThen (ev x e) fun d => andThen (truthM d) fun t => if t = !k then ev y e else ret d) (hf : ∀ b, f b = if b = !k then andThen (ev y e) truthM else ret k) : ((andThen (ev x e) truthM st).bind fun b s2 => f b s2).All P E' := by
  have h1 := (Tr.All_bind _).mp hA
  rw [hc] at h1
  have h2 := (Tr.All_bind (f := fun d => andThen (truthM d) fun t => if t = !k then ev y e else ret d) (ev x e st)).mp h1
  refine (Tr.All_bind _).mpr ((Tr.All_bind (f := truthM) _).mpr (Tr.All_mono (fun d s hd => ?_) (fun _ _ _ z => z) _ h2))
  obtain ⟨b, e1, e2, h3⟩ := tru_cases hd
  rw [e2]
  show (f b s).All P E'
  rw [hf b]
  by_cases hb : b = !k
  · rw [if_pos hb] at h3 ⊢
    exact (Tr.All_bind _).mpr h3
  · rw [if_neg hb] at h3 ⊢
    have hk : b = k := by cases b <;> cases k <;> simp at hb ⊢
    have h4 : (truthM d s).All P E' := h3
    rw [e2, hk] at h4
    exact h4
theorem snd_t {n : Nat} (ih : Snd G n) {Γ : Gam} {X : Cx} {W : WX} (F : Fits Γ X G W) {e : Expr} {c : E} (h : compT (n + 1) Γ e = some c) : PT X e (tB G W fun v => andThen (ev c v) truthM) := by
  have hu : X.A.units + 65 < cLine := by have := F.room.un; omega
  cases e with
  | Name x p => exact pt_of F.K (ih.e Γ X W _ c F h) (fun _ => rfl)
  | Call f as ks p => exact pt_of F.K (ih.e Γ X W _ c F h) (fun _ => rfl)
  | Subscript a i p => exact pt_of F.K (ih.e Γ X W _ c F h) (fun _ => rfl)
  | Constant k i p => exact pt_of F.K (ih.e Γ X W _ c F h) (fun _ => rfl)
  | UnaryOp o a p =>
    cases o <;> first | (cases h; done) | skip
    have h' : (compT n Γ a).map E.not_ = some c := h
    obtain ⟨x, h1, rfl⟩ := mm h'
    refine PT.conv (pt_not (ih.t Γ X W a x F h1)) fun σ H Q q => ?_
    obtain ⟨μ, e, st, s, t, hA⟩ := q
    have hA' : ((andThen (ev x e) truthM st).bind fun b s2 => .ok (!b) s2).All (KE G (fun _ _ a b => a = b) μ H Q) (KX G W σ μ H) := by
      refine (Tr.All_bind _).mpr ((Tr.All_bind (f := truthM) _).mpr ?_)
      refine Tr.All_mono (fun d s2 hq => ?_) (fun _ _ _ q => q) _ ((Tr.All_bind _).mp ((Tr.All_bind _).mp hA))
      exact Tr.All_mono (fun b s3 hq3 => hq3) (fun _ _ _ q => q) _ ((Tr.All_bind (f := fun t s => .ok (D.bl !t) s) (truthM d s2)).mp hq)
    refine tG_then (da := fun v => andThen (ev x v) truthM) s t hA' fun μ1 H1 b st1 b' g1 s1 t1 eb hA1 => ?_
    subst eb
    exact KE.here (show KE G (fun _ _ a b => a = b) μ1 H1 Q (!b) st1 from hA1) t1 rfl
  | Compare a os bs p =>
    match os, bs with
    | [o], [b] =>
      have h' : (if behindInMarks o b then none else (comp n Γ a).bind fun x => (comp n Γ b).map fun y => E.cmp o x y) = some c := h
      split at h'
      · cases h'
      · rename_i hm
        obtain ⟨x, h1, h2⟩ := bb h'
        obtain ⟨y, h3, rfl⟩ := mm h2
        exact pt_bool (cmpD o) (fun _ _ _ z => cmp_bl z) (pt_cmpR (cmp_ok F.K F.w hu o) (ih.e Γ X W a x F h1) (ih.e Γ X W b y F h3) (by simpa using hm))
    | [o, o'], [b, b'] =>
      have h' : (if lastMarks [o, o'] [b, b'] then none else (comp n Γ a).bind fun x => (comp n Γ b).bind fun y => (comp n Γ b').map fun z => E.chain o o' x y z) = some c := h
      split at h'
      · cases h'
      · rename_i hm
        obtain ⟨x, h1, h2⟩ := bb h'
        obtain ⟨y, h3, h4⟩ := bb h2
        obtain ⟨z, h5, rfl⟩ := mm h4
        refine PT.conv (pt_chain (cmp_ok F.K F.w hu o) (cmp_ok F.K F.w hu o') (ih.e Γ X W a x F h1) (ih.e Γ X W b y F h3) (ih.e Γ X W b' z F h5) (by simpa using hm)) fun σ H Q q => ?_
        obtain ⟨μ, e, st, s, t, hA⟩ := q
        have hA0 : (((ev x e st).bind fun v s1 => (ev y e s1).bind fun w s2 => (cmpM o v w s2).bind fun d s3 => (match d with
            | .bl true => andThen (ev z e) fun u => cmpM o' w u
            | .bl false => ret (.bl false)
            | _ => badM) s3).bind truthM).All (KE G (fun _ _ a b => a = b) μ H Q) (KX G W σ μ H) := hA
        rw [Tr.bind_asc] at hA0
        refine tG_then s t hA0 fun μ1 H1 d1 st1 v1 g1 s1 t1 r1 hA1 => ?_
        rw [Tr.bind_asc] at hA1
        refine tG_then s1 t1 hA1 fun μ2 H2 d2 st2 v2 g2 s2 t2 r2 hA2 => ?_
        rw [Tr.bind_asc] at hA2
        obtain ⟨d3, hz, k⟩ := optM_some ((Tr.All_bind _).mp hA2)
        refine ⟨μ2, st2, _, _, d3, t2, t2.drf (r1.gr g2), t2.drf r2, hz, fun μ3 H3 v3 g3 t3 r3 => ?_⟩
        have k' := Tr.All_mono (P' := KE G (fun _ _ a b => a = b) μ3 H3 Q) (E' := KX G W σ μ3 H3) (fun _ _ z => KE.gr g3 z) (fun _ _ _ z => KX.gr g3 z) _ k
        cases d3 <;> first | exact k.elim | skip
        rename_i bv
        cases r3
        refine ⟨bv, rfl, ?_⟩
        cases bv with
        | false =>
          rw [if_neg Bool.false_ne_true]
          exact ⟨false, rfl, (show KE G (fun _ _ a b => a = b) μ2 H2 Q false st2 from k) μ3 H3 false g3 t3 rfl⟩
        | true =>
          rw [if_pos rfl]
          have k2 : (((ev z e st2).bind fun u s4 => cmpM o' d2 u s4).bind truthM).All (KE G (fun _ _ a b => a = b) μ3 H3 Q) (KX G W σ μ3 H3) := k'
          rw [Tr.bind_asc] at k2
          refine tG_then (s2.gr g3) t3 k2 fun μ4 H4 d4 st4 v4 g4 s4 t4 r4 hA4 => ?_
          obtain ⟨zz, hz4, k4⟩ := optM_some ((Tr.All_bind _).mp hA4)
          obtain ⟨b4, rfl⟩ := cmp_bl hz4
          refine ⟨μ4, st4, _, _, _, t4, t4.drf ((r2.gr g3).gr g4), t4.drf r4, hz4, fun μ5 H5 v5 g5 t5 r5 => ?_⟩
          cases r5
          exact ⟨b4, rfl, (show KE G (fun _ _ a b => a = b) μ4 H4 Q b4 st4 from k4) μ5 H5 b4 g5 t5 rfl⟩
    | [], _ => cases h
    | [_], [] => cases h
    | [_], _ :: _ :: _ => cases h
    | [_, _], [] => cases h
    | [_, _], [_] => cases h
    | [_, _], _ :: _ :: _ :: _ => cases h
    | _ :: _ :: _ :: _, _ => cases h
  | BoolOp o as p =>
    match as with
    | [] => cases o <;> cases h
    | [a] =>
      have h' : compT n Γ a = some c := by cases o <;> exact h
      cases o with
      | And => exact PW.pt (pw_and1 (ih.t Γ X W a c F h'))
      | Or => exact PW.pt (pw_or1 (ih.t Γ X W a c F h'))
    | a :: b :: r =>
      cases o with
      | And =>
        have h' : ((compT n Γ a).bind fun x => (compT n Γ (.BoolOp .And (b :: r) p)).map fun y => E.and_ x y) = some c := h
        obtain ⟨x, h1, h2⟩ := bb h'
        obtain ⟨y, h3, rfl⟩ := mm h2
        have py := ih.t Γ X W _ y F h3
        refine PT.conv (PW.pt (pw_and (ih.t Γ X W a x F h1) ⟨fun whole pins s σ H Q I q => py.run pins s σ H Q I q⟩)) fun σ H Q q => ?_
        obtain ⟨μ, e, st, s, t, hA⟩ := q
        refine tG_then (da := fun v => andThen (ev x v) truthM) (f := fun b s2 => (if b = true then andThen (ev y e) truthM else ret false) s2) s t (bool_step (E.and_ x y) false hA rfl (fun _ => rfl)) fun μ1 H1 b st1 b' g1 s1 t1 eb hA1 => ?_
        subst eb
        cases b with
        | true => rw [if_pos rfl] at hA1 ⊢; exact ⟨μ1, e, st1, s1, t1, hA1⟩
        | false => rw [if_neg Bool.false_ne_true] at hA1 ⊢; exact KE.here (show KE G (fun _ _ a b => a = b) μ1 H1 Q false st1 from hA1) t1 rfl
      | Or =>
        have h' : ((compT n Γ a).bind fun x => (compT n Γ (.BoolOp .Or (b :: r) p)).map fun y => E.or_ x y) = some c := h
        obtain ⟨x, h1, h2⟩ := bb h'
        obtain ⟨y, h3, rfl⟩ := mm h2
        have py := ih.t Γ X W _ y F h3
        refine PT.conv (PW.pt (pw_or (ih.t Γ X W a x F h1) ⟨fun whole pins s σ H Q I q => py.run pins s σ H Q I q⟩)) fun σ H Q q => ?_
        obtain ⟨μ, e, st, s, t, hA⟩ := q
        refine tG_then (da := fun v => andThen (ev x v) truthM) (f := fun b s2 => (if b = true then ret true else andThen (ev y e) truthM) s2) s t (bool_step (x := x) (y := y) (E.or_ x y) true hA (by show andThen (ev x e) _ = _; congr 1; funext d; congr 1; funext t; cases t <;> rfl) (fun b => by cases b <;> rfl)) fun μ1 H1 b st1 b' g1 s1 t1 eb hA1 => ?_
        subst eb
        cases b with
        | true => rw [if_pos rfl] at hA1 ⊢; exact KE.here (show KE G (fun _ _ a b => a = b) μ1 H1 Q true st1 from hA1) t1 rfl
        | false => rw [if_neg Bool.false_ne_true] at hA1 ⊢; exact ⟨μ1, e, st1, s1, t1, hA1⟩
  | _ => cases h
/-- a list or a tuple that an expression gives, walked -/
def iAny (K : PySem.W.Frag) (tl : TE) : TI := fun σ H R => tl σ H fun x H1 => (∃ a, x = .ref a ∧ (∃ xs, SqL K H1 a xs) ∧ R (Itl K a) H1) ∨ ∃ a, x = .ref a ∧ (∃ xs, SqT K H1 a xs) ∧ R (Itt K a) H1
theorem pi_any {X : Cx} {tg l : Expr} {tl : TE} (hl : PE X l tl) : PI X tg l (iAny X.K tl) := by
  refine ⟨fun pins s σ H R I h => ?_⟩
  refine thn (hl.run pins s σ H _ I h) fun v s1 h1 => ?_
  obtain ⟨x, H1, I1, r1, q1⟩ := h1
  rcases q1 with ⟨a, rfl, ⟨xs, hq⟩, q⟩ | ⟨a, rfl, ⟨xs, hq⟩, q⟩
  · cases r1
    obtain ⟨its, rv, p, hz⟩ := I1.list hq
    refine wpAny_pyIter_list p.isList ?_
    refine ⟨s1.heap.objs.size, [s1.heap.objs.size], _, _, H1, rfl, I1.kept (t' := s1.toks) fun b o e => Heap.get?_push_of_some _ e, turn_list a _, ⟨_, Heap.get?_push_size _ rfl, rfl, rfl⟩, fun b hb => ?_, q⟩
    have e : b = s1.heap.objs.size := by simpa using hb
    subst e
    exact I1.fpOk (Nat.le_refl _) (I1.hok.fresh (Nat.le_refl _))
  · cases r1
    obtain ⟨its, rv, p, hz⟩ := I1.tuple hq
    refine wpAny_pyIter_tuple (show s1.heap.IsTuple a its.toArray from p) ?_
    refine ⟨s1.heap.objs.size, [s1.heap.objs.size], _, _, H1, rfl, I1.kept (t' := s1.toks) fun b o e => Heap.get?_push_of_some _ e, turn_tuple a _, ⟨_, Heap.get?_push_size _ rfl, rfl, rfl⟩, fun b hb => ?_, q⟩
    have e : b = s1.heap.objs.size := by simpa using hb
    subst e
    exact I1.fpOk (Nat.le_refl _) (I1.hok.fresh (Nat.le_refl _))
theorem snd_i {n : Nat} (ih : Snd G n) {Γ : Gam} {X : Cx} {W : WX} (F : Fits Γ X G W) {tg e : Expr} {c : E} (h : compI (n + 1) Γ tg e = some c) : PI X tg e (iG G W (evi c)) ∧ ∀ env v, foldedSetIterable e env v = pure v := by
  have plain : ∀ e : Expr, (comp n Γ e).map E.it1 = some c → PI X tg e (iG G W (evi c)) ∧ ∀ env v, foldedSetIterable e env v = pure v := by
    intro e h'
    obtain ⟨x, h1, rfl⟩ := mm h'
    refine ⟨?_, fun env v => ?_⟩
    · refine PI.conv (pi_any (ih.e Γ X W e x F h1)) fun σ H R q => ?_
      obtain ⟨μ, e, st, s, t, hA⟩ := q
      refine ⟨μ, e, st, s, t, Tr.All_mono (fun d st1 hq μ1 H1 v g1 t1 r1 => ?_) (fun _ _ _ z => z) _ ((Tr.All_bind _).mp hA)⟩
      by_cases hd : ∃ xs, d = .tup xs
      · obtain ⟨xs, rfl⟩ := hd
        cases r1 with
        | @tup a vs xs a1 r1 => exact .inr ⟨a, rfl, ⟨vs, F.K ▸ a1.sq⟩, hq μ1 H1 _ g1 t1 (itok_tup F.K a1 r1)⟩
      · rw [lsM_eq hd] at hq
        obtain ⟨a, xs, gd, vs, rfl, h2, h3, k⟩ := lsL_all t1 r1 hq
        exact .inl ⟨a, rfl, ⟨vs, .inl (.inl h2)⟩, k μ1 H1 _ g1 t1 (itok_list h3)⟩
    · cases n with
      | zero => cases h1
      | succ n => cases e <;> first | rfl | cases h1
  have fr : ∀ {f : Str}, Γ.free.contains f = true → X.mg f = none := fun hf => F.free _ (by simpa using hf)
  have one : ∀ {a : Expr} {x : E}, plainE a = true → comp n Γ a = some x → PA X [a] (tCons (tE G W (ev x)) tNil) := fun hp h1 => pa_cons (ih.e Γ X W _ _ F h1) pa_nil (star_of hp)
  have two : ∀ {a b : Expr} {x y : E}, plainE a = true → plainE b = true → comp n Γ a = some x → comp n Γ b = some y → PA X [a, b] (tCons (tE G W (ev x)) (tCons (tE G W (ev y)) tNil)) :=
    fun hp hq h1 h2 => pa_cons (ih.e Γ X W _ _ F h1) (pa_cons (ih.e Γ X W _ _ F h2) pa_nil (star_of hq)) (star_of hp)
  have i1 : ∀ {x : E} {φ : D → M (List D × Gd)} {σ : L2.St} {H : Hp} {R : It → Hp → Prop} {P : List V → Hp → Prop}, iG G W (fun e => andThen (ev x e) φ) σ H R →
      (∀ μ1 H1 d st1 v, STR G μ1 st1 H1 → Rep G μ1 H1 d v → (φ d st1).All (fun p st' => ∀ μ' H' J, Gr μ1 H1 μ' H' → STR G μ' st' H' → ItOk G μ' H' p.1 p.2 J → R J H') (KX G W σ μ1 H1) → P [v] H1) → tCons (tE G W (ev x)) tNil σ H P := by
    intro x φ σ H R P q k
    obtain ⟨μ, e, st, s, t, hA⟩ := q
    refine ⟨μ, e, st, s, t, Tr.All_mono (fun d st1 hq μ1 H1 v g1 t1 r1 => ?_) (fun _ _ _ z => z) _ ((Tr.All_bind _).mp hA)⟩
    exact k μ1 H1 d st1 v t1 r1 (Tr.All_mono (fun _ _ z μ' H' J gg tt ii => z μ' H' J (g1.trans gg) tt ii) (fun _ _ _ z => KX.gr g1 z) _ hq)
  have i2 : ∀ {x y : E} {φ : D → D → M (List D × Gd)} {σ : L2.St} {H : Hp} {R : It → Hp → Prop} {P : List V → Hp → Prop}, iG G W (fun e => andThen (ev x e) fun d => andThen (ev y e) fun d' => φ d d') σ H R →
      (∀ μ1 H1 d d' st1 v v', STR G μ1 st1 H1 → Rep G μ1 H1 d v → Rep G μ1 H1 d' v' → (φ d d' st1).All (fun p st' => ∀ μ' H' J, Gr μ1 H1 μ' H' → STR G μ' st' H' → ItOk G μ' H' p.1 p.2 J → R J H') (KX G W σ μ1 H1) → P [v, v'] H1) → tCons (tE G W (ev x)) (tCons (tE G W (ev y)) tNil) σ H P := by
    intro x y φ σ H R P q k
    obtain ⟨μ, e, st, s, t, hA⟩ := q
    refine ⟨μ, e, st, s, t, Tr.All_mono (fun d st1 hq μ1 H1 v g1 t1 r1 => ?_) (fun _ _ _ z => z) _ ((Tr.All_bind _).mp hA)⟩
    refine ⟨μ1, e, st1, s.gr g1, t1, Tr.All_mono (fun d2 st2 hq2 μ2 H2 v2 g2 t2 r2 => ?_) (fun _ _ _ z => KX.gr g1 z) _ ((Tr.All_bind _).mp hq)⟩
    exact k μ2 H2 d d2 st2 v v2 t2 (r1.gr g2) r2 (Tr.All_mono (fun _ _ z μ' H' J gg tt ii => z μ' H' J ((g1.trans g2).trans gg) tt ii) (fun _ _ _ z => KX.gr (g1.trans g2) z) _ hq2)
  have rng1 : ∀ {a : Expr} {fp p : Pos}, gloB Γ.sc "range" = true → Γ.free.contains "range" = true → plainE a = true → (comp n Γ a).map E.rng1 = some c → PI X tg (.Call (.Name "range" fp) [a] [] p) (iG G W (evi c)) := by
    intro a fp p h1 h2 h3 h'
    obtain ⟨x, h4, rfl⟩ := mm h'
    refine PI.conv (pi_range1 (glo_of F h1) (fr h2) (one h3 h4) (star_of h3)) fun σ H R q => i1 q fun μ1 H1 d st1 v t1 r1 hq => ?_
    obtain ⟨xs, hi, k0⟩ := optM_some ((Tr.All_bind _).mp hq)
    have k : ∀ J, ItOk G μ1 H1 xs [] J → R J H1 := fun J z => (show ∀ μ' H' J, Gr μ1 H1 μ' H' → STR G μ' st1 H' → ItOk G μ' H' xs [] J → R J H' from k0) μ1 H1 J (Gr.refl t1.sub) t1 z
    cases d <;> first | (cases hi; done) | skip
    obtain ⟨hc, rfl⟩ := if_some hi
    cases r1
    simp only [okRng, Bool.and_eq_true, decide_eq_true_eq] at hc
    rename_i b
    refine ⟨b, rfl, hc.1.2, hc.2, k _ ?_⟩
    have := itok_range (G := G) (μ := μ1) (H := H1) (lo := 0) (hi := b)
    rwa [Int.sub_zero] at this
  have rng2 : ∀ {a b : Expr} {fp p : Pos}, gloB Γ.sc "range" = true → Γ.free.contains "range" = true → plainE a = true → plainE b = true → ((comp n Γ a).bind fun x => (comp n Γ b).map fun y => E.rng2 x y) = some c → PI X tg (.Call (.Name "range" fp) [a, b] [] p) (iG G W (evi c)) := by
    intro a b fp p h1 h2 h3 h3' h'
    obtain ⟨x, h4, h5⟩ := bb h'
    obtain ⟨y, h6, rfl⟩ := mm h5
    refine PI.conv (pi_range2 (glo_of F h1) (fr h2) (two h3 h3' h4 h6) (by rw [star_of h3, star_of h3']; rfl) (star_of h3')) fun σ H R q => i2 q fun μ1 H1 d d' st1 v v' t1 r1 r2 hq => ?_
    obtain ⟨xs, hi, k0⟩ := optM_some ((Tr.All_bind _).mp hq)
    have k : ∀ J, ItOk G μ1 H1 xs [] J → R J H1 := fun J z => (show ∀ μ' H' J, Gr μ1 H1 μ' H' → STR G μ' st1 H' → ItOk G μ' H' xs [] J → R J H' from k0) μ1 H1 J (Gr.refl t1.sub) t1 z
    cases d <;> cases d' <;> first | (cases hi; done) | skip
    obtain ⟨hc, rfl⟩ := if_some hi
    cases r1
    cases r2
    simp only [okRng, Bool.and_eq_true, decide_eq_true_eq] at hc
    exact ⟨_, _, rfl, ⟨hc.1.1.1, hc.1.1.2, hc.1.2, hc.2⟩, k _ itok_range⟩
  have rng3 : ∀ {a b d : Expr} {fp p : Pos}, gloB Γ.sc "range" = true → Γ.free.contains "range" = true → plainE a = true → plainE b = true → plainE d = true → ((comp n Γ a).bind fun x => (comp n Γ b).bind fun y => (comp n Γ d).map fun z => E.rng3 x y z) = some c → PI X tg (.Call (.Name "range" fp) [a, b, d] [] p) (iG G W (evi c)) := by
    intro a b d fp p h1 h2 h3 h3' h3'' h'
    obtain ⟨x, h4, h5⟩ := bb h'
    obtain ⟨y, h6, h7⟩ := bb h5
    obtain ⟨z, h8, rfl⟩ := mm h7
    refine PI.conv (pi_range3 (glo_of F h1) (fr h2) (pa_cons (ih.e Γ X W _ _ F h4) (pa_cons (ih.e Γ X W _ _ F h6) (pa_cons (ih.e Γ X W _ _ F h8) pa_nil (star_of h3'')) (star_of h3')) (star_of h3)) (star_of h3) (anyStar (es := [b, d]) (by simp [h3', h3'']))) fun σ H R q => ?_
    obtain ⟨μ, e, st, s, t, hA⟩ := q
    refine ⟨μ, e, st, s, t, Tr.All_mono (fun d1 st1 hq1 μ1 H1 v1 g1 t1 r1 => ?_) (fun _ _ _ z => z) _ ((Tr.All_bind _).mp hA)⟩
    refine ⟨μ1, e, st1, s.gr g1, t1, Tr.All_mono (fun d2 st2 hq2 μ2 H2 v2 g2 t2 r2 => ?_) (fun _ _ _ z => KX.gr g1 z) _ ((Tr.All_bind _).mp hq1)⟩
    refine ⟨μ2, e, st2, (s.gr g1).gr g2, t2, Tr.All_mono (fun d3 st3 hq3 μ3 H3 v3 g3 t3 r3 => ?_) (fun _ _ _ z => KX.gr (g1.trans g2) z) _ ((Tr.All_bind _).mp hq2)⟩
    obtain ⟨xs, hi, k0⟩ := optM_some ((Tr.All_bind _).mp hq3)
    have k : ∀ J, ItOk G μ3 H3 xs [] J → R J H3 := fun J z => (show ∀ μ' H' J, Gr μ H μ' H' → STR G μ' st3 H' → ItOk G μ' H' xs [] J → R J H' from k0) μ3 H3 J ((g1.trans g2).trans g3) t3 z
    cases d1 <;> cases d2 <;> cases d3 <;> first | (cases hi; done) | skip
    obtain ⟨hc, rfl⟩ := if_some hi
    cases r1
    cases r2
    cases r3
    simp only [okRngC, Bool.and_eq_true, decide_eq_true_eq] at hc
    obtain ⟨⟨⟨c1, c2⟩, c3⟩, c4⟩ := hc
    exact ⟨_, _, _, _, rfl, ⟨c1, c2, c3, (Int.toNat_of_nonneg c4).symm⟩, k _ itok_rangeC⟩
  have itms1 : ∀ {ts : List Expr} {kk : Nat} {tp : Pos} {x : Str} {xp q r : Pos}, (q.endLine == r.line) = true → (comp n Γ (.Name x xp)).map E.itms = some c →
      PI X (.Tuple ts kk tp) (.Call (.Attribute (.Name x xp) "items" q) [] [] r) (iG G W (evi c)) := by
    intro ts kk tp x xp q r hl h'
    obtain ⟨o, h4, rfl⟩ := mm h'
    refine PI.conv (pi_ix (ih.e Γ X W _ _ F h4) rfl hl) fun σ H R q => ?_
    obtain ⟨μ, e, st, s, t, hA⟩ := q
    refine ⟨μ, e, st, s, t, Tr.All_mono (fun d1 st1 hq1 μ1 H1 v1 g1 t1 r1 => ?_) (fun _ _ _ z => z) _ ((Tr.All_bind _).mp hA)⟩
    obtain ⟨p, hi, k0⟩ := optM_some ((Tr.All_bind _).mp hq1)
    cases d1 <;> first | (cases hi; done) | skip
    cases hi
    cases r1 with
    | dct hn e1 hk hu hw' q1 q2 =>
      subst hu hw'
      exact ⟨_, _, _, rfl, F.w ▸ e1, (show ∀ μ' H' J, Gr μ H μ' H' → STR G μ' st1 H' → ItOk G μ' H' (itmL _ _) [] J → R J H' from k0) μ1 H1 _ g1 t1 (itok_items F.w hn e1 hk q1 q2)⟩
  have zip2 : ∀ {ts : List Expr} {kk : Nat} {tp : Pos} {a b : Expr} {fp p : Pos}, gloB Γ.sc "zip" = true → Γ.free.contains "zip" = true → plainE a = true → plainE b = true → ((comp n Γ a).bind fun x => (comp n Γ b).map fun y => E.zip x y) = some c →
      PI X (.Tuple ts kk tp) (.Call (.Name "zip" fp) [a, b] [] p) (iG G W (evi c)) := by
    intro ts kk tp a b fp p h1 h2 h3 h3' h'
    obtain ⟨x, h4, h5⟩ := bb h'
    obtain ⟨y, h6, rfl⟩ := mm h5
    refine PI.conv (RZ.pi_zipA (glo_of F h1) (fr h2) (two h3 h3' h4 h6) (star_of h3) (anyStar (es := [b]) (by simp [h3']))) fun σ H R q => i2 q fun μ1 H1 d d' st1 v v' t1 r1 r2 hq => ?_
    by_cases hd : ∃ xs, d = .tup xs
    · obtain ⟨xs, rfl⟩ := hd
      have hq' : (zipT xs d' st1).All _ _ := hq
      cases d' <;> first | exact hq'.elim | skip
      cases r1 with
      | tup a1 b1 =>
        cases r2 with
        | tup a2 b2 => exact ⟨_, _, _, _, rfl, .inr ⟨F.K ▸ a1.sq, F.K ▸ a2.sq, hq' μ1 H1 _ (Gr.refl t1.sub) t1 (itok_zipT F.K a1 a2 b1 b2)⟩⟩
    · have hq' : ((lsL d st1).bind fun p s => (lsL d' s).bind fun q s => .ok (zipL p.1 q.1, p.2 ++ q.2) s).All (fun p st' => ∀ μ' H' J, Gr μ1 H1 μ' H' → STR G μ' st' H' → ItOk G μ' H' p.1 p.2 J → R J H') (KX G W σ μ1 H1) := by
        cases d <;> first | exact hq | exact absurd ⟨_, rfl⟩ hd
      obtain ⟨a, xs, gd, vs, rfl, h2, h3, k1⟩ := lsL_all t1 r1 ((Tr.All_bind _).mp hq')
      obtain ⟨a', ys, gd', ws, rfl, h2', h3', k2⟩ := lsL_all t1 r2 ((Tr.All_bind _).mp k1)
      exact ⟨_, _, _, _, rfl, .inl ⟨.inl (.inl h2), .inl (.inl h2'), (show ∀ μ' H' J, Gr μ1 H1 μ' H' → STR G μ' st1 H' → ItOk G μ' H' (zipL xs ys) (gd ++ gd') J → R J H' from k2) μ1 H1 _ (Gr.refl t1.sub) t1 (itok_zipL h3 h3')⟩⟩
  have enum1 : ∀ {ts : List Expr} {kk : Nat} {tp : Pos} {a : Expr} {fp p : Pos}, gloB Γ.sc "enumerate" = true → Γ.free.contains "enumerate" = true → plainE a = true → (comp n Γ a).map E.enum = some c →
      PI X (.Tuple ts kk tp) (.Call (.Name "enumerate" fp) [a] [] p) (iG G W (evi c)) := by
    intro ts kk tp a fp p h1 h2 h3 h'
    obtain ⟨x, h4, rfl⟩ := mm h'
    refine PI.conv (pi_enum (glo_of F h1) (fr h2) (one h3 h4) (star_of h3)) fun σ H R q => i1 q fun μ1 H1 d st1 v t1 r1 hq => ?_
    obtain ⟨a, xs, gd, vs, rfl, h2, h3, k1⟩ := lsL_all t1 r1 ((Tr.All_bind _).mp hq)
    exact ⟨_, _, rfl, .inl (.inl h2), (show ∀ μ' H' J, Gr μ1 H1 μ' H' → STR G μ' st1 H' → ItOk G μ' H' (enuL xs) gd J → R J H' from k1) μ1 H1 _ (Gr.refl t1.sub) t1 (itok_enum h3)⟩
  have bad : ∀ {f : Expr} {as : List Expr} {ks : List Keyword} {p : Pos}, (comp n Γ (.Call f as ks p)).map E.it1 = some c → PI X tg (.Call f as ks p) (iG G W (evi c)) ∧ ∀ env v, foldedSetIterable (.Call f as ks p) env v = pure v := fun h => plain _ h
  cases e with
  | Call f as ks p =>
    cases f with
    | Name f fp =>
      match as, ks with
      | [a], [] =>
        have h' : (if f = "range" then (if gloB Γ.sc f && Γ.free.contains f && plainE a then (comp n Γ a).map E.rng1 else none)
          else if f = "enumerate" then (if isTup tg && gloB Γ.sc f && Γ.free.contains f && plainE a then (comp n Γ a).map E.enum else none)
          else (comp n Γ (.Call (.Name f fp) [a] [] p)).map E.it1) = some c := h
        split at h'
        · rename_i hf
          subst hf
          split at h'
          · rename_i hc
            simp only [Bool.and_eq_true] at hc
            exact ⟨rng1 hc.1.1 hc.1.2 hc.2 h', fun _ _ => rfl⟩
          · cases h'
        · split at h'
          · rename_i hf
            subst hf
            split at h'
            · rename_i hc
              simp only [Bool.and_eq_true] at hc
              have ht := hc.1.1.1
              cases tg <;> first | (cases ht; done) | skip
              exact ⟨enum1 hc.1.1.2 hc.1.2 hc.2 h', fun _ _ => rfl⟩
            · cases h'
          · exact bad h'
      | [a, b], [] =>
        have h' : (if f = "range" then (if gloB Γ.sc f && Γ.free.contains f && plainE a && plainE b then (comp n Γ a).bind fun x => (comp n Γ b).map fun y => E.rng2 x y else none)
          else if f = "zip" then (if isTup tg && gloB Γ.sc f && Γ.free.contains f && plainE a && plainE b then (comp n Γ a).bind fun x => (comp n Γ b).map fun y => E.zip x y else none)
          else (comp n Γ (.Call (.Name f fp) [a, b] [] p)).map E.it1) = some c := h
        split at h'
        · rename_i hf
          subst hf
          split at h'
          · rename_i hc
            simp only [Bool.and_eq_true] at hc
            exact ⟨rng2 hc.1.1.1 hc.1.1.2 hc.1.2 hc.2 h', fun _ _ => rfl⟩
          · cases h'
        · split at h'
          · rename_i hf
            subst hf
            split at h'
            · rename_i hc
              simp only [Bool.and_eq_true] at hc
              have ht := hc.1.1.1.1
              cases tg <;> first | (cases ht; done) | skip
              exact ⟨zip2 hc.1.1.1.2 hc.1.1.2 hc.1.2 hc.2 h', fun _ _ => rfl⟩
            · cases h'
          · exact bad h'
      | [], _ => exact bad h
      | [_], _ :: _ => exact bad h
      | [_, _], _ :: _ => exact bad h
      | [a, b, d], [] =>
        have h' : (if f = "range" then (if gloB Γ.sc f && Γ.free.contains f && plainE a && plainE b && plainE d then (comp n Γ a).bind fun x => (comp n Γ b).bind fun y => (comp n Γ d).map fun z => E.rng3 x y z else none)
          else (comp n Γ (.Call (.Name f fp) [a, b, d] [] p)).map E.it1) = some c := h
        split at h'
        · rename_i hf
          subst hf
          split at h'
          · rename_i hc
            simp only [Bool.and_eq_true] at hc
            exact ⟨rng3 hc.1.1.1.1 hc.1.1.1.2 hc.1.1.2 hc.1.2 hc.2 h', fun _ _ => rfl⟩
          · cases h'
        · exact bad h'
      | [_, _, _], _ :: _ => exact bad h
      | _ :: _ :: _ :: _ :: _, _ => exact bad h
    | Attribute o m q =>
      cases o with
      | Name x xp =>
        match as, ks with
        | [], [] =>
          have h' : (if decide (m = "items") && isTup tg && decide ((q.endLine == p.line) = true) then (comp n Γ (.Name x xp)).map E.itms else (comp n Γ (.Call (.Attribute (.Name x xp) m q) [] [] p)).map E.it1) = some c := h
          split at h'
          · rename_i hc
            simp only [Bool.and_eq_true, decide_eq_true_eq] at hc
            obtain ⟨⟨hm, ht⟩, hl⟩ := hc
            subst hm
            cases tg <;> first | (cases ht; done) | skip
            exact ⟨itms1 hl h', fun _ _ => rfl⟩
          · exact bad h'
        | [], _ :: _ => exact bad h
        | _ :: _, _ => exact bad h
      | _ => exact bad h
    | _ => exact bad h
  | _ => exact plain _ h
theorem snd : ∀ n, Snd G n
  | 0 => ⟨fun _ _ _ _ _ _ h => (by cases h), fun _ _ _ _ _ _ h => (by cases h), fun _ _ _ _ _ _ h => (by cases h), fun _ _ _ _ _ _ h => (by cases h), fun _ _ _ _ _ _ _ h => (by cases h)⟩
  | n + 1 => by
    have ih := snd n
    refine ⟨fun Γ X W e c F h => snd_e ih F h, fun Γ X W e c F h => ?_, fun Γ X W es c F h => snd_a ih F h, fun Γ X W e c F h => snd_t ih F h, fun Γ X W tg e c F h => snd_i ih F h⟩
    cases e with
    | none => cases h; exact .inl ⟨rfl, rfl⟩
    | some e =>
      obtain ⟨x, h1, rfl⟩ := mm (show (comp n Γ e).map E.int_ = some c from h)
      exact .inr ⟨e, x, rfl, rfl, ih.e Γ X W e x F h1⟩
end
end Gw

set_option Elab.async false
set_option linter.all false
set_option maxRecDepth 100000
set_option maxHeartbeats 1000000
/-! Gw8: what compiles is right: statements and defs. -/
namespace Gw
open PySem PySem.Spec PyProof.Rows L2
def fuelW : Nat := 10 ^ 100
def swLc (sc : Scope) (y : Str) (py pos : Pos) (csc : Scope) : Bool := (match sc.kind with | .function => true | _ => false) && decide (sc.names.lookup y = some .local) && (py.line == pos.line) && !(csc.names.any fun (n, k) => n == y && (k == .local || k == .cell))
def subOf : Expr → Option (Expr × Expr)
  | .Subscript _ (.Slice _ _ _ _) _ => none
  | .Subscript o i _ => some (o, i)
  | _ => none
def parOf : Expr → Expr → Option (Str × Str × Expr × Expr)
  | .Tuple [.Name x _, .Name y _] _ _, .Tuple [a, b] _ _ => some (x, y, a, b)
  | _, _ => none
def lcOf : Expr → Expr → Option (Str × Pos × Scope × Pos)
  | .Name y py, .ListComp _ _ csc pos => some (y, py, csc, pos)
  | .Name y py, .DictComp _ _ _ csc pos => some (y, py, csc, pos)
  | _, _ => none
def raiseOf : Option Expr → Option Expr → Option (Str × Expr × List Expr)
  | some (.Call (.Name x _) (a :: as) [] _), none => some (x, a, as)
  | _, _ => none
def strOf : Expr → Option Str
  | .Constant (.str m) _ _ => some m
  | _ => none
mutual
def compS : Nat → Gam → Stmt → Option S
  | 0, _, _ => none
  | n + 1, Γ, .Pass _ => some .pass
  | n + 1, Γ, .Break _ => some .brk
  | n + 1, Γ, .Continue _ => some .cnt
  | n + 1, Γ, .Expr (.Constant (.str _) _ _) _ => some .pass
  | n + 1, Γ, .Expr e _ => if isComp e then none else (comp n Γ e).map .expr
  | n + 1, Γ, .Return none _ => some (.ret (.c .non))
  | n + 1, Γ, .Return (some e) _ => (comp n Γ e).map .ret
  | n + 1, Γ, .If c a b _ => (compT n Γ c).bind fun x => (compSs n Γ a).bind fun y => (compSs n Γ b).map fun z => .ifs x y z
  | n + 1, Γ, .While c a [] _ => (compT n Γ c).bind fun x => (compSs n Γ a).map fun y => .whl fuelW x y
  | n + 1, Γ, .For tg it a [] _ => (compI n Γ tg it).bind fun x => (compG n Γ tg).bind fun g => (compSs n Γ a).map fun y => .for_ g x y
  | n + 1, Γ, .Raise e c _ => match raiseOf e c with
    | some (x, a, as) => (match Γ.excs.lookup x with
      | none => some .never
      | some o => if gloB Γ.sc x && as.isEmpty && plainE a then (match o with
        | none => match strOf a with
          | some m => some (.raise x (.c (.str m)))
          | none => some .never
        | some f => if 2 ≤ Γ.lv then (comp n Γ a).map (.raise x) else none) else some .never)
    | none => some .never
  | n + 1, Γ, .AugAssign (.Name x _) o e _ => if locB Γ.sc Γ.asg x then (slotOf Γ.N x).bind fun i => (comp n Γ e).map fun c => .aug i o c else none
  | n + 1, Γ, .Assign [tg] e p =>
    if semF (swapsWithSole [tg] e p.line (envS Γ.sc)) then
      (if semN (swappedStores [tg] e (envS Γ.sc)) then
        (match subOf tg with
          | some (o, i) => (comp n Γ e).bind fun x => (comp n Γ o).bind fun y => (comp n Γ i).map fun z => .setix y z x
          | none => (compG n Γ tg).bind fun g => (comp n Γ e).map fun c => .asg g c)
      else match parOf tg e with
        | some (x, y, a, b) => if semS [x, y] (swappedStores [tg] e (envS Γ.sc)) && decide (Γ.sc.names.lookup x = some .local) && decide (Γ.sc.names.lookup y = some .local) && plainE a && plainE b then
            (slotOf Γ.N x).bind fun i => (slotOf Γ.N y).bind fun j => if i = j then none else (comp n Γ a).bind fun u => (comp n Γ b).map fun v => .par i j u v else none
        | none => none)
    else match lcOf tg e with
      | some (y, py, csc, pos) => if swLc Γ.sc y py pos csc then (slotOf Γ.N y).bind fun i => (comp n Γ e).map fun c => .asg (.nm i) c else none
      | none => none
  | _, _, _ => none
def compSs : Nat → Gam → List Stmt → Option S
  | 0, _, _ => none
  | n + 1, Γ, [] => some .pass
  | n + 1, Γ, s :: r => (compSs n Γ r).map fun y => .seq (match compS n Γ s with
    | some x => x
    | none => .never) y
end
structure SndS (G : Glo) (n : Nat) : Prop where
  s : ∀ (Γ : Gam) (X : Cx) (E : XK) (st : Stmt) (c : S), Fits Γ X G (wX E) → compS n Γ st = some c → PS X st (tS G E (ex c))
  ss : ∀ (Γ : Gam) (X : Cx) (E : XK) (st : List Stmt) (c : S), Fits Γ X G (wX E) → compSs n Γ st = some c → PSs X st (tS G E (ex c))
section
variable {G : Glo} {X : Cx} {Ew : XK}
theorem asg_ok {te : TE} {g : TG} {gt : T} {c : E} (he : ∀ σ H Q, tE G (wX Ew) (ev c) σ H Q → te σ H Q) (hg : ∀ v σ H Q, gT G gt v σ H Q → g v σ H Q) {D : Ends} {σ : L2.St} {H : Hp} (h : tS G Ew (ex (.asg gt c)) D σ H) : tAsg te g D σ H := by
  obtain ⟨μ, e, st, s, t, hA⟩ := h
  refine he _ _ _ ⟨μ, e, st, s, t, Tr.All_mono (fun d st1 hq μ1 H1 x g1 t1 r1 => ?_) (fun _ _ _ z => z) _ ((Tr.All_bind _).mp hA)⟩
  cases hb : gt.bind d e with
  | none => rw [hb] at hq; exact hq.elim
  | some e' =>
    rw [hb] at hq
    exact hg _ _ _ _ ⟨μ1, e, st1, d, e', s.gr g1, t1, r1, hb, fun σ' _ _ s' => KS.here (KS.gr g1 (show KS G μ H D (.nx, e') st1 from hq)) t1 s'⟩
theorem ret_ok {te : TE} {c : E} (he : ∀ σ H Q, tE G (wX Ew) (ev c) σ H Q → te σ H Q) {D : Ends} {σ : L2.St} {H : Hp} (h : tS G Ew (ex (.ret c)) D σ H) : tRet te D σ H := by
  obtain ⟨μ, e, st, s, t, hA⟩ := h
  refine he _ _ _ ⟨μ, e, st, s, t, Tr.All_mono (fun d st1 hq μ1 H1 x g1 t1 r1 => ?_) (fun _ _ _ z => z) _ ((Tr.All_bind _).mp hA)⟩
  exact (KS.here (KS.gr g1 (show KS G μ H D (.rt d, e) st1 from hq)) t1 (s.gr g1)) x r1
theorem expr_ok {te : TE} {c : E} (he : ∀ σ H Q, tE G (wX Ew) (ev c) σ H Q → te σ H Q) {D : Ends} {σ : L2.St} {H : Hp} (h : tS G Ew (ex (.expr c)) D σ H) : tDrop te D σ H := by
  obtain ⟨μ, e, st, s, t, hA⟩ := h
  refine he _ _ _ ⟨μ, e, st, s, t, Tr.All_mono (fun d st1 hq μ1 H1 x g1 t1 r1 => ?_) (fun _ _ _ z => z) _ ((Tr.All_bind _).mp hA)⟩
  exact KS.here (KS.gr g1 (show KS G μ H D (.nx, e) st1 from hq)) t1 (s.gr g1)
theorem swaps_plain {e : Expr} {t : Option Expr} {l : Nat} {env : Env} (h : isComp e = false) : swapsWith e t l env = pure false := by
  cases e <;> first | rfl | cases h
theorem swapped_env {ts : List Expr} {v : Expr} {env : Env} : swappedStores ts v env = swappedStores ts v (envS env.scope) := rfl
theorem swaps_env {t : Expr} {v : Expr} {l : Nat} {env : Env} : swapsWithSole [t] v l env = swapsWithSole [t] v l (envS env.scope) := by
  show swapsWith v (some t) l env = swapsWith v (some t) l (envS env.scope)
  cases v <;> first | rfl | (cases t <;> rfl)
theorem semF_ok {t : Sem Bool} (h : semF t = true) : t = pure false := by
  cases t <;> first | (cases h; done) | skip
  rename_i a
  cases a <;> first | rfl | cases h
theorem sub_of {tg o i : Expr} (h : subOf tg = some (o, i)) : ∃ p, tg = .Subscript o i p ∧ ∀ l u s q, i ≠ .Slice l u s q := by
  cases tg <;> first | (cases h; done) | skip
  rename_i o' i' p
  cases i' <;> first | (cases h; done) | (cases h; exact ⟨p, rfl, fun _ _ _ _ z => nomatch z⟩)
theorem par_of {tg e a b : Expr} {x y : Str} (h : parOf tg e = some (x, y, a, b)) : ∃ px py kt pt k2 p2, tg = .Tuple [.Name x px, .Name y py] kt pt ∧ e = .Tuple [a, b] k2 p2 := by
  unfold parOf at h
  split at h
  · cases h; exact ⟨_, _, _, _, _, _, rfl, rfl⟩
  · cases h
theorem lc_of {tg e : Expr} {y : Str} {py pos : Pos} {csc : Scope} (h : lcOf tg e = some (y, py, csc, pos)) : tg = .Name y py ∧ ((∃ elt gs, e = .ListComp elt gs csc pos) ∨ ∃ k v gs, e = .DictComp k v gs csc pos) := by
  unfold lcOf at h
  split at h
  · cases h; exact ⟨rfl, .inl ⟨_, _, rfl⟩⟩
  · cases h; exact ⟨rfl, .inr ⟨_, _, _, rfl⟩⟩
  · cases h
theorem semN_ok {t : Sem (Option (List Str))} (h : semN t = true) : t = pure none := by
  cases t <;> first | (cases h; done) | skip
  rename_i a
  cases a <;> first | rfl | cases h
theorem semS_ok {l : List Str} {t : Sem (Option (List Str))} (h : semS l t = true) : t = pure (some l) := by
  cases t <;> first | (cases h; done) | skip
  rename_i a
  cases a with
  | none => cases h
  | some k =>
    have e : k = l := of_decide_eq_true h
    rw [e]
    rfl
theorem nodup_inj {α : Type} {l : List α} (nd : l.Nodup) {i j : Nat} (hi : i < l.length) (hj : j < l.length) (e : l[i] = l[j]) : i = j := by
  have p := List.pairwise_iff_getElem.mp nd
  rcases Nat.lt_trichotomy i j with h | h | h
  · exact absurd e (p i j hi hj h)
  · exact h
  · exact absurd e.symm (p j i hj hi h)
/-- a list at hand is changed at a place -/
theorem set_ok {μ : Mp} {H : Hp} {st : Sto} {r j : Nat} {p : Addr} {xs : List D} {vs : List V} {d : D} {v : V} (t : STR G μ st H) (hp : μ.m[r]? = some p) (hx : st[r]? = some (.lst xs)) (hv : H p = some (.lst vs)) (rv : Reps G μ H xs vs) (rd : Rep G μ H d v) :
    STR G μ (st.set r (.lst (xs.set j d))) (upd H p (.lst (vs.set j v))) ∧ Gr μ H μ (upd H p (.lst (vs.set j v))) := chg_ok t hp hx hv (rv.set rd j)
theorem aug_in {μ : Mp} : True := True.intro
def augR (G : Glo) (o : Operator) : R2 := rD G (augD o)
theorem aug_op : ∀ (o : Operator), OpR X (inplaceOp o) (rD G (augD o)) := by
  intro o pins s σ H v w u1 u2 Q I q1 q2 ⟨μ, st, x, y, z, t, rx, ry, e, k⟩
  cases o with
  | Add =>
    cases x <;> cases y <;> first | (cases e; done) | skip
    · cases e; cases rx.int; cases ry.int
      exact iop_add pins s σ H _ _ u1 u2 Q I q1 q2 ⟨_, _, rfl, rfl, k.here t (.int _)⟩
    · obtain ⟨hc, rfl⟩ := if_some e
      cases rx.str; cases ry.str
      exact iop_add_str pins s σ H _ _ u1 u2 Q I q1 q2 ⟨_, _, rfl, rfl, of_decide_eq_true hc, k.here t (.str _)⟩
  | Sub =>
    cases x <;> cases y <;> first | (cases e; done) | skip
    cases e; cases rx.int; cases ry.int
    exact iop_sub pins s σ H _ _ u1 u2 Q I q1 q2 ⟨_, _, rfl, rfl, k.here t (.int _)⟩
  | Mult =>
    cases x <;> cases y <;> first | (cases e; done) | skip
    obtain ⟨hc, rfl⟩ := if_some e
    cases rx.int; cases ry.int
    rename_i i j
    have ho : OpR X (inplaceOp .Mult) (rI (fun i j => okMul i j = true) fun i j => .int (i * j)) := opI fun i j _ _ _ _ _ hc q => imul_int q (okMul_ok hc)
    exact ho pins s σ H _ _ u1 u2 Q I q1 q2 ⟨_, _, rfl, rfl, hc, k.here t (.int _)⟩
  | _ => cases x <;> cases y <;> cases e
theorem sw_lcOk {sc : Scope} {y : Str} {py pos : Pos} {csc : Scope} (h : swLc sc y py pos csc = true) : sc.kind = .function ∧ sc.names.lookup y = some .local ∧ (py.line == pos.line) = true ∧ (csc.names.any fun (n, k) => n == y && (k == .local || k == .cell)) = false := by
  unfold swLc at h
  simp only [Bool.and_eq_true, decide_eq_true_eq, Bool.not_eq_true'] at h
  obtain ⟨⟨⟨h1, h2⟩, h3⟩, h4⟩ := h
  refine ⟨?_, h2, h3, h4⟩
  split at h1
  · assumption
  · cases h1
theorem whl_case {t : Expr} {a : List Stmt} {p : Pos} {x : E} {y : S} (po : PassesOwn (model X.prog X.w) X.A X.env X.xe) (m : Nat) (h1 : PT X t (tB G (wX Ew) fun v => andThen (ev x v) truthM)) (h2 : PSs X a (tS G Ew (ex y))) : PS X (.While t a [] p) (tS G Ew (ex (.whl m x y))) :=
  PS.conv (ps_while po h1 h2) fun D σ H q => whl_ok (fun _ _ _ z => z) (fun _ _ _ z => z) q
theorem never_ok {s : Stmt} : PS X s (tS G Ew (ex .never)) := PS.conv ps_never fun D σ H q => by
  obtain ⟨μ, e, st, s, t, hA⟩ := q
  exact hA.elim
theorem raise_ok {n : Nat} (iE : Snd G n) {Γ : Gam} (F : Fits Γ X G (wX Ew)) {a b : Option Expr} {p : Pos} {c : S} (h : compS (n + 1) Γ (.Raise a b p) = some c) : PS X (.Raise a b p) (tS G Ew (ex c)) := by
  have h' : (match raiseOf a b with
    | some (x, a, as) => (match Γ.excs.lookup x with
      | none => some S.never
      | some o => if gloB Γ.sc x && as.isEmpty && plainE a then (match o with
        | none => match strOf a with
          | some m => some (S.raise x (.c (.str m)))
          | none => some .never
        | some f => if 2 ≤ Γ.lv then (comp n Γ a).map (S.raise x) else none) else some .never)
    | none => some .never) = some c := h
  cases hr : raiseOf a b with
  | none => rw [hr] at h'; cases h'; exact never_ok
  | some q =>
    obtain ⟨x, y, as⟩ := q
    rw [hr] at h'
    dsimp only at h'
    cases hx : Γ.excs.lookup x with
    | none => rw [hx] at h'; cases h'; exact never_ok
    | some o =>
      rw [hx] at h'
      dsimp only at h'
      split at h'
      case isFalse => cases h'; exact never_ok
      rename_i hc
      simp only [Bool.and_eq_true, List.isEmpty_iff] at hc
      obtain ⟨⟨c1, rfl⟩, c3⟩ := hc
      obtain ⟨np, kp, rfl, rfl⟩ : ∃ np kp, a = some (.Call (.Name x np) [y] [] kp) ∧ b = none := by
        unfold raiseOf at hr
        split at hr
        · cases hr; exact ⟨_, _, rfl, rfl⟩
        · cases hr
      obtain ⟨hfld, hdb, hF⟩ := F.excs x o hx
      cases o with
      | none =>
        cases hm : strOf y with
        | none => rw [hm] at h'; cases h'; exact never_ok
        | some m =>
          rw [hm] at h'
          cases h'
          obtain ⟨j, q, rfl⟩ : ∃ j q, y = .Constant (.str m) j q := by
            unfold strOf at hm
            split at hm
            · cases hm; exact ⟨_, _, rfl⟩
            · cases hm
          obtain ⟨C, B, newId, initId, bmB, k1, k2, k3, k4, k5, k6⟩ := hF
          refine PS.conv (ps_raise F.calm F.tk (pmk_own k1 k2 k3 k4 (raises_own k5 k6) (glo_of F c1) hdb)) fun D σ H q => ?_
          obtain ⟨μ, e, st, s, t, hA⟩ := q
          refine (show KX G (wX Ew) σ μ H x (.str m) st from hA) μ H (.ref C) none (Gr.refl t.sub) t ⟨C, F.mg ▸ k3, rfl, ?_⟩
          rw [hfld]
      | some f =>
        dsimp only at h'
        split at h'
        case isFalse => cases h'
        rename_i hlv
        obtain ⟨z, h1, rfl⟩ := mm h'
        obtain ⟨C, fI, B, newId, initId, bmB, qual, params, body, scope, arg, k1, k2, k3⟩ := hF
        refine PS.conv (ps_raise F.calm F.tk (pmk_keep k2 k3 k1 (F.room.mono hlv) (glo_of F c1) (iE.e Γ X _ y z F h1) hdb (star_of c3))) fun D σ H q => ?_
        obtain ⟨μ, e, st, s, t, hA⟩ := q
        refine ⟨μ, e, st, s, t, Tr.All_mono (fun d st1 hq μ1 H1 v g1 t1 r1 dx hd => ?_) (fun _ _ _ z => z) _ ((Tr.All_bind _).mp hA)⟩
        refine (show KX G (wX Ew) σ μ H x d st1 from hq) μ1 _ (.ref C) (some dx) (g1.trans (Gr.new_ t1.sub hd)) (t1.new_ hd) ⟨C, F.mg ▸ k1, rfl, ?_⟩
        rw [hfld]
        exact ⟨dx, v, rfl, upd_same, r1.gr (Gr.new_ t1.sub hd)⟩
theorem setStore_cases {s s' : Sto} {x i d : D} (h : setStore s x i d = some s') : ∃ r, x = .ref r ∧ ((∃ xs k j, i = .int k ∧ s[r]? = some (.lst xs) ∧ ixN xs.length k = some j ∧ s' = s.set r (.lst (xs.set j d))) ∨
    ∃ ks vs n, s[r]? = some (.dct ks vs) ∧ ks.length < sizeLine ∧ fitK ks i = some n ∧ s' = s.set r (.dct (putK2 ks vs i n d).1 (putK2 ks vs i n d).2)) := by
  have dd : ∀ {r ks vs}, s[r]? = some (.dct ks vs) → storeD s r ks vs i d = some s' → ∃ ks vs n, s[r]? = some (.dct ks vs) ∧ ks.length < sizeLine ∧ fitK ks i = some n ∧ s' = s.set r (.dct (putK2 ks vs i n d).1 (putK2 ks vs i n d).2) := by
    intro r ks vs hr h
    unfold storeD at h
    split at h
    · rename_i hz
      obtain ⟨n, hn, rfl⟩ := Option.map_eq_some_iff.mp h
      exact ⟨ks, vs, n, hr, hz, hn, rfl⟩
    · cases h
  unfold setStore at h
  split at h
  · rename_i r k
    cases hr : s[r]? with
    | none => rw [hr] at h; cases h
    | some o =>
      rw [hr] at h
      cases o with
      | lst xs =>
        obtain ⟨j, hj, rfl⟩ := Option.map_eq_some_iff.mp h
        exact ⟨r, rfl, .inl ⟨xs, k, j, rfl, hr, hj, rfl⟩⟩
      | dct ks vs => exact ⟨r, rfl, .inr (dd hr h)⟩
      | hat => cases h
      | tab q => cases h
  · rename_i r _
    cases hr : s[r]? with
    | none => rw [hr] at h; cases h
    | some o =>
      rw [hr] at h
      cases o with
      | dct ks vs => exact ⟨r, rfl, .inr (dd hr h)⟩
      | lst xs => cases h
      | hat => cases h
      | tab q => cases h
  · cases h
theorem sw_dict {k v : Expr} {gs : List Comprehension} {scope : Scope} {pos : Pos} {t : Option Expr} {l : Nat} {env : Env} : swapsWith (.DictComp k v gs scope pos) t l env = swapsWith (.ListComp k gs scope pos) t l env := rfl
theorem asg_case {n : Nat} (iE : Snd G n) {Γ : Gam} (F : Fits Γ X G (wX Ew)) {tg e : Expr} {p : Pos} {c : S} (h' : (if semF (swapsWithSole [tg] e p.line (envS Γ.sc)) then
        (if semN (swappedStores [tg] e (envS Γ.sc)) then
          (match subOf tg with
            | some (o, i) => (comp n Γ e).bind fun x => (comp n Γ o).bind fun y => (comp n Γ i).map fun z => S.setix y z x
            | none => (compG n Γ tg).bind fun g => (comp n Γ e).map fun c => S.asg g c)
        else match parOf tg e with
          | some (x, y, a, b) => if semS [x, y] (swappedStores [tg] e (envS Γ.sc)) && decide (Γ.sc.names.lookup x = some .local) && decide (Γ.sc.names.lookup y = some .local) && plainE a && plainE b then
            (slotOf Γ.N x).bind fun i => (slotOf Γ.N y).bind fun j => if i = j then none else (comp n Γ a).bind fun u => (comp n Γ b).map fun v => S.par i j u v else none
          | none => none)
        else match lcOf tg e with
          | some (y, py, csc, pos) => if swLc Γ.sc y py pos csc then (slotOf Γ.N y).bind fun i => (comp n Γ e).map fun c => S.asg (.nm i) c else none
          | none => none) = some c) : PS X (.Assign [tg] e p) (tS G Ew (ex c)) := by
  have nd : X.N.Nodup := by rw [F.N]; exact F.nd
  split at h'
  · rename_i hsw
    have sw : swapsWithSole [tg] e p.line X.env = pure false := by rw [swaps_env, F.sc]; exact semF_ok hsw
    split at h'
    · rename_i hss
      have ss : swappedStores [tg] e X.env = pure none := by rw [swapped_env, F.sc]; exact semN_ok hss
      split at h'
      · rename_i o i hsub
        obtain ⟨q, rfl, hi⟩ := sub_of hsub
        obtain ⟨x, h1, h2⟩ := bb h'
        obtain ⟨y, h3, h4⟩ := bb h2
        obtain ⟨z, h5, rfl⟩ := mm h4
        refine PS.conv (ps_asg (iE.e Γ X _ e x F h1) (pg_sub (iE.e Γ X _ o y F h3) (iE.e Γ X _ i z F h5) (set_both (by have := F.room.un; omega)) (fun v => by cases i <;> first | rfl | exact absurd rfl (hi _ _ _ _))) sw ss rfl) fun D σ H q => ?_
        obtain ⟨μ, e, st, s, t, hA⟩ := q
        refine ⟨μ, e, st, s, t, Tr.All_mono (fun d st1 hq μ1 H1 v g1 t1 r1 => ?_) (fun _ _ _ z => z) _ ((Tr.All_bind _).mp hA)⟩
        refine ⟨μ1, e, st1, s.gr g1, t1, Tr.All_mono (fun d2 st2 hq2 μ2 H2 v2 g2 t2 r2 => ?_) (fun _ _ _ z => KX.gr g1 z) _ ((Tr.All_bind _).mp hq)⟩
        refine ⟨μ2, e, st2, (s.gr g1).gr g2, t2, Tr.All_mono (fun d3 st3 hq3 μ3 H3 v3 g3 t3 r3 => ?_) (fun _ _ _ z => KX.gr (g1.trans g2) z) _ ((Tr.All_bind _).mp hq2)⟩
        have hq4 : ((match setStore st3 d2 d3 d with
          | some s' => .ok (Fl.nx, e) s'
          | none => .bad) : Tr (Fl × Ev)).All (KS G μ H D) (KX G (wX Ew) σ μ H) := hq3
        cases hset : setStore st3 d2 d3 d with
        | none => rw [hset] at hq4; exact hq4.elim
        | some s' =>
          rw [hset] at hq4
          obtain ⟨r, rfl, hcase⟩ := setStore_cases hset
          have r2' := r2.gr g3
          have rd := (r1.gr g2).gr g3
          cases r2' with
          | @ref _ a ha =>
            rcases hcase with ⟨xs, k, j, rfl, hr, hj, rfl⟩ | ⟨ks, vs, n, hr, hz, hn, rfl⟩
            · cases r3
              obtain ⟨a', ha', vs, hv, rv⟩ := t3.at_ r _ hr
              have ea : a' = a := Option.some.inj (ha'.symm.trans ha)
              subst ea
              obtain ⟨q1, q2⟩ := set_ok (j := j) t3 ha hr hv rv rd
              refine .inl ⟨a', vs, k, j, rfl, rfl, hv, by rw [← rv.length]; exact hj, ?_⟩
              exact KS.here (KS.gr (((g1.trans g2).trans g3).trans q2) (show KS G μ H D (.nx, e) _ from hq4)) q1 ((((s.gr g1).gr g2).gr g3).gr q2)
            · obtain ⟨a', ha', kvs, ob, us, ws, hv, kr, rfl, rfl, rk, rv⟩ := t3.at_ r _ hr
              have ea : a' = a := Option.some.inj (ha'.symm.trans ha)
              subst ea
              obtain ⟨hf, _, _⟩ := fitK_ok kr rk hn r3
              obtain ⟨p1, p2, p3⟩ := putK_ok (u := v3) (v := v) kr rk rv hn r3 rd
              refine .inr ⟨a', kvs, ob, n, rfl, F.w ▸ hv, by rw [← DAt.len (μ := μ3) (H := H3) (Dd := a') (vs := vs) kr]; exact hz, F.K ▸ hf, fun ob' => ?_⟩
              rw [← F.w]
              obtain ⟨q1, q2⟩ := chgD_ok t3 ha hr p1 p2 p3 ob'
              exact KS.here (KS.gr (((g1.trans g2).trans g3).trans q2) (show KS G μ H D (.nx, e) _ from hq4)) q1 ((((s.gr g1).gr g2).gr g3).gr q2)
      · obtain ⟨g, h1, h2⟩ := bb h'
        obtain ⟨x, h3, rfl⟩ := mm h2
        have hp : (assignEach [tg] X.env).map (·.2) = [assign tg X.env] := by
          cases n with
          | zero => cases h1
          | succ n => cases tg <;> first | rfl | cases h1
        exact PS.conv (ps_asg (iE.e Γ X _ e x F h3) ((G_ok F n).1 tg g h1) sw ss hp) fun D σ H q => asg_ok (fun _ _ _ z => z) (fun _ _ _ _ z => z) q
    · split at h'
      · rename_i x y a b hpar
        obtain ⟨px, py, kt, pt, k2, p2, rfl, rfl⟩ := par_of hpar
        split at h'
        · rename_i hc
          simp only [Bool.and_eq_true, decide_eq_true_eq] at hc
          obtain ⟨⟨⟨⟨c1, c2⟩, c3⟩, c4⟩, c5⟩ := hc
          obtain ⟨i, h1, h2⟩ := bb h'
          obtain ⟨j, h3, h4⟩ := bb h2
          split at h4
          · cases h4
          · rename_i hij
            obtain ⟨u, h5, h6⟩ := bb h4
            obtain ⟨v, h7, rfl⟩ := mm h6
            refine PS.conv (ps_par F.calm nd (by rw [F.N]; exact slot_get h1) (by rw [F.N]; exact slot_get h3) hij (by rw [F.sc]; exact c2) (by rw [F.sc]; exact c3)
              (pa_cons (iE.e Γ X _ a u F h5) (pa_cons (iE.e Γ X _ b v F h7) pa_nil (star_of c5)) (star_of c4)) (by rw [swapped_env, F.sc]; exact semS_ok c1) sw) fun D σ H q => ?_
            obtain ⟨μ, e, st, s, t, hA⟩ := q
            refine ⟨μ, e, st, s, t, Tr.All_mono (fun d st1 hq μ1 H1 v1 g1 t1 r1 => ?_) (fun _ _ _ z => z) _ ((Tr.All_bind _).mp hA)⟩
            refine ⟨μ1, e, st1, s.gr g1, t1, Tr.All_mono (fun d2 st2 hq2 μ2 H2 v2 g2 t2 r2 => ?_) (fun _ _ _ z => KX.gr g1 z) _ ((Tr.All_bind _).mp hq)⟩
            exact ⟨v1, v2, rfl, KS.here (KS.gr (g1.trans g2) (show KS G μ H D (.nx, (e.set i (some d)).set j (some d2)) st2 from hq2)) t2 ((((s.gr g1).gr g2).set i (r1.gr g2)).set j r2)⟩
        · cases h'
      · cases h'
  · split at h'
    · rename_i y py csc pos hlc
      obtain ⟨rfl, he⟩ := lc_of hlc
      rcases he with ⟨elt, gs, rfl⟩ | ⟨ek, ev', gs, rfl⟩
      case inr =>
        split at h'
        case isFalse => cases h'
        rename_i hs
        obtain ⟨k1, k2, k3, k4⟩ := sw_lcOk hs
        obtain ⟨i, h1, h2⟩ := bb h'
        obtain ⟨x, h3, rfl⟩ := mm h2
        cases n with
        | zero => cases h3
        | succ n =>
          match gs, h3 with
          | [], h3 => cases h3
          | ⟨_, _, _, .negSucc _⟩ :: _ :: _, h3 => cases h3
          | ⟨_, _, _, .ofNat 0⟩ :: _ :: _, h3 => cases h3
          | ⟨_, _, _, .ofNat (_ + 1)⟩ :: _ :: _, h3 => cases h3
          | [⟨tg, it, ifs, .negSucc _⟩], h3 => cases h3
          | [⟨tg, it, ifs, .ofNat (_ + 1)⟩], h3 => cases h3
          | [⟨tg, it, ifs, .ofNat 0⟩], h3 =>
            obtain ⟨wi, g, tt, tk, tv, q1, q2, q3, q4, q5, q5', q6, q7⟩ := dc_parts (snd n) F h3
            refine PS.conv (ps_setDx (by have := F.room.un; omega) F.calm nd (by rw [F.N]; exact slot_get h1) (by rw [F.sc]; exact k2) (sw_dict.trans (sw_true (by rw [F.sc]; exact k1) (by rw [F.sc]; exact k2) k3 k4)) q1 q2 q3 q4 q5 q5' q6) fun D σ H q => asg_ok (gt := .nm i) q7 (fun v σ H Q hh => ?_) q
            obtain ⟨μ, e, st, d, e', s, t, r, b, k⟩ := hh
            cases b
            refine k _ (by simp) (fun j hj => ?_) (s.set i r)
            rw [List.getElem?_set_ne]
            intro z
            exact hj (by simp [T.slots, z])
      split at h'
      · rename_i hs
        obtain ⟨k1, k2, k3, k4⟩ := sw_lcOk hs
        obtain ⟨i, h1, h2⟩ := bb h'
        obtain ⟨x, h3, rfl⟩ := mm h2
        cases n with
        | zero => cases h3
        | succ n =>
          match gs, h3 with
          | [], h3 => cases h3
          | ⟨_, _, _, .negSucc _⟩ :: _ :: _, h3 => cases h3
          | ⟨_, _, _, .ofNat 0⟩ :: ⟨_, _, _, .negSucc _⟩ :: _, h3 => cases h3
          | ⟨_, _, _, .ofNat 0⟩ :: ⟨_, _, _, .ofNat (_ + 1)⟩ :: _, h3 => cases h3
          | ⟨_, _, _, .ofNat 0⟩ :: ⟨_, _, _, .ofNat 0⟩ :: _ :: _, h3 => cases h3
          | [⟨tg, it, ifs, .ofNat 0⟩, ⟨tg1, it1, ifs1, .ofNat 0⟩], h3 =>
            obtain ⟨wi, wi1, g, g1, tt, tt1, te, vs1, q1, q2, q3, q4, q5, q6, q7, q8, q9, q10, q11, q12⟩ := lc2_parts (snd n) F h3
            refine PS.conv (ps_setLc2 F.calm nd (by rw [F.N]; exact slot_get h1) (by rw [F.sc]; exact k2) (sw_true (by rw [F.sc]; exact k1) (by rw [F.sc]; exact k2) k3 k4) q1 q2 q3 q4 q5 q6 q7 q8 q9 q10 q11) fun D σ H q => asg_ok (gt := .nm i) q12 (fun v σ H Q hh => ?_) q
            obtain ⟨μ, e, st, d, e', s, t, r, b, k⟩ := hh
            cases b
            refine k _ (by simp) (fun j hj => ?_) (s.set i r)
            rw [List.getElem?_set_ne]
            intro z
            exact hj (by simp [T.slots, z])
          | ⟨_, _, _, .ofNat (_ + 1)⟩ :: _ :: _, h3 => cases h3
          | [⟨tg, it, ifs, .negSucc _⟩], h3 => cases h3
          | [⟨tg, it, ifs, .ofNat (_ + 1)⟩], h3 => cases h3
          | [⟨tg, it, ifs, .ofNat 0⟩], h3 =>
            obtain ⟨wi, g, tt, te, q1, q2, q3, q4, q5, q6, q7⟩ := lc_parts (snd n) F h3
            refine PS.conv (ps_setLc F.calm nd (by rw [F.N]; exact slot_get h1) (by rw [F.sc]; exact k2) (sw_true (by rw [F.sc]; exact k1) (by rw [F.sc]; exact k2) k3 k4) q1 q2 q3 q4 q5 q6) fun D σ H q => asg_ok (gt := .nm i) q7 (fun v σ H Q hh => ?_) q
            obtain ⟨μ, e, st, d, e', s, t, r, b, k⟩ := hh
            cases b
            refine k _ (by simp) (fun j hj => ?_) (s.set i r)
            rw [List.getElem?_set_ne]
            intro z
            exact hj (by simp [T.slots, z])
      · cases h'
    · cases h'
theorem snd_s {n : Nat} (ih : SndS G n) {Γ : Gam} (F : Fits Γ X G (wX Ew)) {st : Stmt} {c : S} (h : compS (n + 1) Γ st = some c) : PS X st (tS G Ew (ex c)) := by
  have iE : Snd G n := snd n
  have nd : X.N.Nodup := by rw [F.N]; exact F.nd
  cases st with
  | Pass p =>
    cases h
    refine PS.conv ps_pass fun D σ H q => ?_
    obtain ⟨μ, e, st, s, t, hA⟩ := q
    exact KS.here (show KS G μ H D (.nx, e) st from hA) t s
  | Break p =>
    cases h
    refine PS.conv ps_break fun D σ H q => ?_
    obtain ⟨μ, e, st, s, t, hA⟩ := q
    exact KS.here (show KS G μ H D (.bk, e) st from hA) t s
  | Continue p =>
    cases h
    refine PS.conv ps_continue fun D σ H q => ?_
    obtain ⟨μ, e, st, s, t, hA⟩ := q
    exact KS.here (show KS G μ H D (.ct, e) st from hA) t s
  | Expr e p =>
    have gen : (if isComp e then none else (comp n Γ e).map S.expr) = some c → PS X (.Expr e p) (tS G Ew (ex c)) := by
      intro h'
      split at h'
      · cases h'
      · rename_i hc
        obtain ⟨x, h1, rfl⟩ := mm h'
        exact PS.conv (ps_expr (iE.e Γ X _ e x F h1) (swaps_plain (by simpa using hc))) fun D σ H q => expr_ok (fun _ _ _ z => z) q
    cases e with
    | Constant k i q =>
      cases k with
      | str z =>
        cases h
        refine PS.conv ps_doc fun D σ H q => ?_
        obtain ⟨μ, e, st, s, t, hA⟩ := q
        exact KS.here (show KS G μ H D (.nx, e) st from hA) t s
      | _ => exact gen h
    | _ => exact gen h
  | Return o p =>
    cases o with
    | none =>
      cases h
      refine PS.conv ps_retN fun D σ H q => ?_
      obtain ⟨μ, e, st, s, t, hA⟩ := q
      exact (KS.here (show KS G μ H D (.rt .non, e) st from hA) t s) _ .non
    | some e =>
      obtain ⟨x, h1, rfl⟩ := mm (show (comp n Γ e).map S.ret = some c from h)
      exact PS.conv (ps_ret (iE.e Γ X _ e x F h1)) fun D σ H q => ret_ok (fun _ _ _ z => z) q
  | If t a b p =>
    have h' : ((compT n Γ t).bind fun x => (compSs n Γ a).bind fun y => (compSs n Γ b).map fun z => S.ifs x y z) = some c := h
    obtain ⟨x, h1, h2⟩ := bb h'
    obtain ⟨y, h3, h4⟩ := bb h2
    obtain ⟨z, h5, rfl⟩ := mm h4
    refine PS.conv (ps_if (iE.t Γ X _ t x F h1) (ih.ss Γ X _ a y F h3) (ih.ss Γ X _ b z F h5)) fun D σ H q => if_ok (dc := fun v => andThen (ev x v) truthM) (da := ex y) (db := ex z) (fun _ _ _ z => z) (fun _ _ _ z => z) (fun _ _ _ z => z) ?_
    obtain ⟨μ, e, st, s, t, hA⟩ := q
    refine ⟨μ, e, st, s, t, (Tr.All_bind _).mpr ((Tr.All_bind (f := truthM) _).mpr ?_)⟩
    exact Tr.All_mono (fun d s2 hq => (Tr.All_bind _).mp hq) (fun _ _ _ z => z) _ ((Tr.All_bind _).mp hA)
  | While t a o p =>
    cases o with
    | cons _ _ => cases h
    | nil =>
      have h' : ((compT n Γ t).bind fun x => (compSs n Γ a).map fun y => S.whl fuelW x y) = some c := h
      obtain ⟨x, h1, h2⟩ := bb h'
      obtain ⟨y, h3, rfl⟩ := mm h2
      exact whl_case F.po fuelW (iE.t Γ X _ t x F h1) (ih.ss Γ X _ a y F h3)
  | For tg it a o p =>
    cases o with
    | cons _ _ => cases h
    | nil =>
      have h' : ((compI n Γ tg it).bind fun x => (compG n Γ tg).bind fun g => (compSs n Γ a).map fun y => S.for_ g x y) = some c := h
      obtain ⟨x, h1, h2⟩ := bb h'
      obtain ⟨g, h3, h4⟩ := bb h2
      obtain ⟨y, h5, rfl⟩ := mm h4
      obtain ⟨pi, hf⟩ := iE.i Γ X _ tg it x F h1
      exact PS.conv (ps_for F.po F.calm pi ((G_ok F n).1 tg g h3) (ih.ss Γ X _ a y F h5) (hf X.env)) fun D σ H q => for_ok (fun _ _ _ z => z) (fun _ _ _ _ z => z) (fun _ _ _ z => z) q
  | Raise a b p => exact raise_ok iE F h
  | AugAssign tg o e p =>
    cases tg <;> first | (cases h; done) | skip
    rename_i x px
    have h' : (if locB Γ.sc Γ.asg x then (slotOf Γ.N x).bind fun i => (comp n Γ e).map fun c => S.aug i o c else none) = some c := h
    split at h'
    · rename_i hl
      obtain ⟨i, h1, h2⟩ := bb h'
      obtain ⟨y, h3, rfl⟩ := mm h2
      obtain ⟨l1, l2⟩ := loc_of hl
      refine PS.conv (ps_aug (ti := rD G (augD o)) nd (by rw [F.N]; exact slot_get h1) (by rw [F.sc]; exact l1) (iE.e Γ X _ e y F h3) (aug_op o) ?_) fun D σ H q => ?_
      · rcases l2 with z | z
        · exact .inr (by rw [F.sc]; exact z)
        · exact .inl (F.fn x z)
      · obtain ⟨μ, e, st, s, t, hA⟩ := q
        obtain ⟨d, hd, k⟩ := optM_some ((Tr.All_bind _).mp hA)
        obtain ⟨oo, e1, e2⟩ := bb hd
        cases e2
        obtain ⟨v, q1, q2⟩ := s.slot i d e1
        refine ⟨v, q1, ⟨μ, e, st, s, t, Tr.All_mono (fun d2 st1 hq μ1 H1 w g1 t1 r1 => ?_) (fun _ _ _ z => z) _ ((Tr.All_bind _).mp k)⟩⟩
        obtain ⟨z, hz, kk⟩ := optM_some ((Tr.All_bind _).mp hq)
        refine ⟨μ1, st1, d, d2, z, t1, .rep (q2.gr g1), .rep r1, hz, fun μ2 H2 u g2 t2 r2 => ?_⟩
        exact KS.here (KS.gr (g1.trans g2) (show KS G μ H D (.nx, e.set i (some z)) st1 from kk)) t2 (((s.gr g1).gr g2).set i r2)
    · cases h'
  | Assign ts e p =>
    match ts with
    | [] => cases h
    | _ :: _ :: _ => cases h
    | [tg] =>
      have h' : (if semF (swapsWithSole [tg] e p.line (envS Γ.sc)) then
        (if semN (swappedStores [tg] e (envS Γ.sc)) then
          (match subOf tg with
            | some (o, i) => (comp n Γ e).bind fun x => (comp n Γ o).bind fun y => (comp n Γ i).map fun z => S.setix y z x
            | none => (compG n Γ tg).bind fun g => (comp n Γ e).map fun c => S.asg g c)
        else match parOf tg e with
          | some (x, y, a, b) => if semS [x, y] (swappedStores [tg] e (envS Γ.sc)) && decide (Γ.sc.names.lookup x = some .local) && decide (Γ.sc.names.lookup y = some .local) && plainE a && plainE b then
            (slotOf Γ.N x).bind fun i => (slotOf Γ.N y).bind fun j => if i = j then none else (comp n Γ a).bind fun u => (comp n Γ b).map fun v => S.par i j u v else none
          | none => none)
        else match lcOf tg e with
          | some (y, py, csc, pos) => if swLc Γ.sc y py pos csc then (slotOf Γ.N y).bind fun i => (comp n Γ e).map fun c => S.asg (.nm i) c else none
          | none => none) = some c := h
      exact asg_case iE F h'
  | _ => cases h
end
end Gw

set_option Elab.async false
set_option linter.all false
set_option maxRecDepth 100000
set_option maxHeartbeats 1000000
/-! Gw9: defs. -/
namespace Gw
open PySem PySem.Spec PyProof.Rows L2
theorem snds {G : Glo} : ∀ n, SndS G n
  | 0 => ⟨fun _ _ _ _ _ _ h => (by cases h), fun _ _ _ _ _ _ h => (by cases h)⟩
  | n + 1 => by
    have ih := snds (G := G) n
    refine ⟨fun Γ X E st c F h => snd_s ih F h, fun Γ X E st c F h => ?_⟩
    cases st with
    | nil =>
      cases h
      refine PSs.conv pss_nil fun D σ H q => ?_
      obtain ⟨μ, e, st, s, t, hA⟩ := q
      exact KS.here (show KS G μ H D (.nx, e) st from hA) t s
    | cons a r =>
      have h' : ((compSs n Γ r).map fun y => S.seq (match compS n Γ a with
        | some x => x
        | none => .never) y) = some c := h
      obtain ⟨y, h3, rfl⟩ := mm h'
      have ha : PS X a (tS G E (ex (match compS n Γ a with
        | some x => x
        | none => .never))) := by
        cases hc : compS n Γ a with
        | some x => exact ih.s Γ X E a x F hc
        | none => exact never_ok
      exact PSs.conv (pss_cons ha (ih.ss Γ X E r y F h3)) fun D σ H q => seq_ok (fun _ _ _ z => z) (fun _ _ _ z => z) q
theorem SR.start {G : Glo} {μ : Mp} {H : Hp} {N : List Str} {ds : List D} {vs : List V} (r : Reps G μ H ds vs) : SR G μ (startE N.length ds) (L2.start N vs) H := by
  have hl := r.length
  refine ⟨by unfold startE L2.start; simp [hl], fun i d h => ?_⟩
  unfold startE at h
  unfold L2.start
  by_cases hi : i < ds.length
  · rw [List.getElem?_append_left (by simpa using hi), List.getElem?_map] at h
    cases q : ds[i]? with
    | none => rw [q] at h; cases h
    | some x =>
      rw [q] at h
      cases h
      obtain ⟨v, h1, h2⟩ := r.get q
      refine ⟨v, ?_, h2⟩
      rw [List.getElem?_append_left (by rw [List.length_map, ← hl]; exact hi), List.getElem?_map, h1]
      rfl
  · rw [List.getElem?_append_right (by simpa using hi), List.getElem?_replicate] at h
    split at h <;> cases h
/-- what a caller knows of a def -/
def FnFact (P : Program) (w : World) (K : PySem.W.Frag) (mg : Str → Option Value) (base : Heap) (G : Glo) (x : Str) (fi : FnI) : Prop :=
  ∃ f fd ps, mg x = some (.ref f) ∧ PySem.W.keepIn K (.ref f) = true ∧ Binds K fd ps [] ∧ FnG P w K mg base (L2.CX P w) fi.lv f fd ps (spD G fi.φ fi.np) ∧ ∀ ds st P E, (fi.φ ds st).All P E → ds.length = fi.np
structure TabOk (P : Program) (w : World) (K : PySem.W.Frag) (mg : Str → Option Value) (base : Heap) (G : Glo) (tab : List (Str × FnI)) : Prop where
  ok : ∀ x fi, tab.lookup x = some fi → FnFact P w K mg base G x fi
theorem TabOk.nil {P : Program} {w : World} {K : PySem.W.Frag} {mg : Str → Option Value} {base : Heap} {G : Glo} : TabOk P w K mg base G [] := ⟨fun _ _ h => (by cases h)⟩
theorem TabOk.cons {P : Program} {w : World} {K : PySem.W.Frag} {mg : Str → Option Value} {base : Heap} {G : Glo} {tab : List (Str × FnI)} {x : Str} {fi : FnI} (h : FnFact P w K mg base G x fi) (t : TabOk P w K mg base G tab) : TabOk P w K mg base G ((x, fi) :: tab) := by
  refine ⟨fun y gi hl => ?_⟩
  rw [List.lookup_cons] at hl
  cases e : (y == x) with
  | true =>
    rw [e] at hl
    cases hl
    rw [beq_iff_eq.mp e]
    exact h
  | false =>
    rw [e] at hl
    exact t.ok y gi hl
theorem fnM_len {n p : Nat} {b : S} {ds : List D} {st : Sto} {P : D → Sto → Prop} {E : Str → D → Sto → Prop} (h : (fnM n p b ds st).All P E) : ds.length = p := by
  unfold fnM at h
  by_cases hl : ds.length = p
  · exact hl
  · rw [if_neg hl] at h
    exact h.elim
section
variable {P : Program} {w : World} {K : PySem.W.Frag} {mg : Str → Option Value} {base : Heap} {G : Glo} {x qual : Str} {params : Arguments} {body : List Stmt} {scope : Scope} {f : Addr} {fd : FuncData}
/-- THE RULE: a def whose body compiles does what the core says -/
theorem fn_core (F : FunD K x qual params body scope [] [] f fd) {N ps : List Str} (S_ : FnScope N ps scope) {Γ : Gam} {b : S} {n : Nat} (hN : Γ.N = N) (hsc : Γ.sc = scope) (hb : compSs n Γ body = some b) (hK : G.K = K) (hw : G.w = w) (hmg : G.mg = mg)
    (hf : TabOk P w K mg base G Γ.fns) (hc : ∀ x d, Γ.cst.lookup x = some d → ∃ u v, mg x = some u ∧ RelV v u ∧ ∀ μ H, Rep G μ H d v) (hfr : ∀ x ∈ Γ.free, mg x = none)
    (hlam : ∀ r q, Γ.lam = some (r, q) → (∀ (L : Addr) (cdv : Value), q = (envOfC qual scope L f cdv).qual ++ "<lambda>") ∧ ∃ c Pt, LamX.TabB base mg c Pt ∧ (∀ oc od osl, K.lookup f = some ⟨oc, od, .func fd, osl⟩ → fd.code = .ref c) ∧ G.T[r]? = some Pt)
    (hm : ∀ x mi, Γ.mets.lookup x = some mi → MetFact P w K mg base G x mi) (hx : ∀ x o, Γ.excs.lookup x = some o → ExcFact P K mg G x o) :
    FnG P w K mg base (L2.CX P w) (Γ.lv + 1) f fd ps (spD G (fnM N.length ps.length b) ps.length) := by
  refine fnG_of F S_ (fun vs H Q E h => h.1) (fun cdv A outer s H vs Q E hcd hcode hr hq h => ⟨tS G E (ex b), ?_, ?_⟩)
  · refine (snds n).ss Γ _ E body b ⟨?_, ?_, ?_, rfl, hK, hw, hmg, takes_of rfl rfl rfl rfl, passes_of rfl, fun _ _ => rfl, hr, hf.ok, hc, hfr, hq, fun r q hl => ?_, hm, hx⟩ hb
    · exact hN.symm
    · rw [hN]; exact S_.nd
    · exact hsc.symm
    · obtain ⟨h1, c, Pt, h2, h3, h4⟩ := hlam r q hl
      obtain ⟨oc, od, osl, lk, e⟩ := hcode
      exact ⟨h1 _ _, c, Pt, h2, e.symm.trans (h3 _ _ _ lk), h4⟩
  · obtain ⟨hl, μ, ds, st, r, t, hA⟩ := h
    have hd := fnM_len hA
    unfold fnM at hA
    rw [if_pos hd] at hA
    refine ⟨μ, _, st, SR.start r, t, Tr.All_mono (fun q st1 hq μ1 H1 σ1 g1 t1 s1 => ?_) (fun _ _ _ z => z) _ ((Tr.All_bind _).mp hA)⟩
    obtain ⟨fl, e1⟩ := q
    cases fl with
    | nx => exact (show KE G (Rep G) μ H Q .non st1 from hq) μ1 H1 _ g1 t1 .non
    | rt d => exact fun x rx => (show KE G (Rep G) μ H Q d st1 from hq) μ1 H1 x g1 t1 rx
    | bk => exact hq.elim
    | ct => exact hq.elim
mutual
theorem Rep.rf_ {μ : Mp} {m' : List Addr} {H : Hp} : ∀ (d : D) (v : V), Rep G μ H d v → d.rf = true → Rep G ⟨μ.M, m'⟩ H d v
  | .non, _, h, _ => by cases h; exact .non
  | .bl b, _, h, _ => by cases h; exact .bl b
  | .int i, _, h, _ => by cases h; exact .int i
  | .str x, _, h, _ => by cases h; exact .str x
  | .ty n, _, h, _ => by cases h; exact .ty n
  | .fn x, _, h, _ => by cases h with | fn e => exact .fn e
  | .ref i, _, h, e => by cases e
  | .tup xs, _, h, e => by cases h with | tup a b => exact .tup a (Reps.rf_ xs _ b e)
  | .lst xs, _, h, e => by cases h with | lst a b => exact .lst a (Reps.rf_ xs _ b e)
  | .scr ns, _, h, _ => by cases h with | scr a => exact .scr a
  | .emp, _, h, _ => by cases h with | emp n r => exact .emp n r
  | .dct ks vs, _, h, e => by
    obtain ⟨e1, e2⟩ := Bool.and_eq_true_iff.mp (show (D.rfs ks && D.rfs vs) = true from e)
    cases h with | dct n q k u w r1 r2 => exact .dct n q k u w (Reps.rf_ ks _ r1 e1) (Reps.rf_ vs _ r2 e2)
theorem Reps.rf_ {μ : Mp} {m' : List Addr} {H : Hp} : ∀ (ds : List D) (vs : List V), Reps G μ H ds vs → D.rfs ds = true → Reps G ⟨μ.M, m'⟩ H ds vs
  | [], _, h, _ => by cases h; exact .nil
  | d :: ds, _, h, e => by
    unfold D.rfs at e
    obtain ⟨e1, e2⟩ := Bool.and_eq_true_iff.mp e
    cases h with | cons a b => exact .cons (Rep.rf_ d _ a e1) (Reps.rf_ ds _ b e2)
end
/-- without the objects behind the first n -/
def Mp.cut (μ : Mp) (n : Nat) : Mp := ⟨μ.M.filter fun a => !(μ.m.drop n).contains a, μ.m.take n⟩
theorem Mp.cut_sub {μ : Mp} {n : Nat} : ∀ a ∈ (μ.cut n).M, a ∈ μ.M := fun a ha => (List.mem_filter.mp ha).1
theorem Rep.cut {μ : Mp} {H : Hp} {n : Nat} {d : D} {v : V} (r : Rep G μ H d v) (h : d.rf = true) : Rep G (μ.cut n) H d v :=
  Rep.less (μ := ⟨μ.M, μ.m.take n⟩) (μ' := μ.cut n) Mp.cut_sub ⟨[], (List.append_nil _).symm⟩ _ _ (Rep.rf_ _ _ r h)
theorem Reps.cut_ {μ : Mp} {H : Hp} {n : Nat} {d : List D} {v : List V} (r : Reps G μ H d v) (h : D.rfs d = true) : Reps G (μ.cut n) H d v :=
  Reps.less (μ := ⟨μ.M, μ.m.take n⟩) (μ' := μ.cut n) Mp.cut_sub ⟨[], (List.append_nil _).symm⟩ _ _ (Reps.rf_ _ _ r h)
theorem cut_str {μ μ' : Mp} {H H' : Hp} {n : Nat} {st s : Sto} (t0 : STR G μ st H) (hn : μ.m.length = n) (g : Gr μ H μ' H') (t : STR G μ' s H') (hr : (s.take n).all MO.rf = true) : Gr μ H (μ'.cut n) H' ∧ STR G (μ'.cut n) (s.take n) H' := by
  obtain ⟨r, e, hr'⟩ := g.pre
  have hd : μ'.m.drop n = r := by rw [e, ← hn]; exact List.drop_left
  have ht : μ'.m.take n = μ.m := by rw [e, ← hn]; exact List.take_left
  refine ⟨⟨g.keep, g.there, ⟨[], ?_, by simp⟩, fun a ha => ?_, fun a ha => g.new a (Mp.cut_sub a ha), g.ms, g.tbl⟩, ⟨?_, fun i o h => ?_, fun a ha => ?_, ?_, fun a ha => ?_, fun r P hq => ?_, fun a ps h => ?_⟩⟩
  · show μ'.m.take n = μ.m ++ []
    rw [ht, List.append_nil]
  · refine List.mem_filter.mpr ⟨g.sub a ha, ?_⟩
    rw [hd]
    have : ¬ a ∈ r := fun z => t0.tr a ha (hr' a z)
    simpa using this
  · show (μ'.m.take n).length = (s.take n).length
    rw [List.length_take, List.length_take, t.len]
  · have hi : i < n := by
      have := (List.getElem?_eq_some_iff.mp h).1
      rw [List.length_take] at this
      omega
    have hro := List.all_eq_true.mp hr o (List.mem_of_getElem? h)
    rw [List.getElem?_take_of_lt hi] at h
    obtain ⟨a, h1, h2⟩ := t.at_ i o h
    refine ⟨a, by show (μ'.m.take n)[i]? = _; rw [List.getElem?_take_of_lt hi]; exact h1, ?_⟩
    cases o with
    | hat => exact h2
    | dct ks vs =>
      obtain ⟨e1, e2⟩ := Bool.and_eq_true_iff.mp (show (D.rfs ks && D.rfs vs) = true from hro)
      obtain ⟨kvs, ob, us, ws, q1, k, hu, hw, r1, r2⟩ := h2
      exact ⟨kvs, ob, us, ws, q1, k, hu, hw, Reps.cut_ r1 e1, Reps.cut_ r2 e2⟩
    | tab q =>
      obtain ⟨ps, q1, q2, q3⟩ := h2
      exact ⟨ps, q1, q2, fun pos cv hc => let ⟨c, k1, k2, k3⟩ := q3 pos cv hc; ⟨c, k1, fun z => k2 (Mp.cut_sub c z), k3⟩⟩
    | lst xs =>
      obtain ⟨vs, q1, q2⟩ := h2
      exact ⟨vs, q1, Reps.cut_ q2 hro⟩
  · have ha' : a ∈ μ'.m.take n := ha
    refine List.mem_filter.mpr ⟨t.sub a (List.mem_of_mem_take ha'), ?_⟩
    have nd := t.nd
    rw [← List.take_append_drop n μ'.m, List.nodup_append] at nd
    have : ¬ a ∈ μ'.m.drop n := fun z => nd.2.2 a ha' a z rfl
    simpa using this
  · exact t.nd.sublist (List.take_sublist _ _)
  · rcases t.lt a (Mp.cut_sub a ha) with z | z
    · refine .inl ?_
      show a ∈ μ'.m.take n
      rw [← List.take_append_drop n μ'.m] at z
      rcases List.mem_append.mp z with y | y
      · exact y
      · have z2 := (List.mem_filter.mp ha).2
        simp [y] at z2
    · exact .inr z
  · show (μ'.m.take n)[r]? = _
    rw [ht]
    exact t0.tb _ _ hq
  · show a ∈ μ'.m.take n
    rw [ht]
    obtain ⟨_, z⟩ := g.tbl a ps h
    exact t0.tin a _ z
theorem trim_all {μ : Mp} {H : Hp} {Q : VK} {W : WX} {σ : L2.St} {n : Nat} {st : Sto} (t0 : STR G μ st H) (hn : μ.m.length = n) : ∀ t : Tr D, (trimT n t).All (KE G (Rep G) μ H Q) (KX G W σ μ H) → t.All (KE G (Rep G) μ H Q) (KX G W σ μ H)
  | .bad, h => h
  | .pick m k, h => fun i hi => trim_all t0 hn (k i) (h i hi)
  | .ok v s, h => by
    unfold trimT at h
    split at h
    · rename_i hc
      obtain ⟨h1, h2⟩ := Bool.and_eq_true_iff.mp hc
      intro μ' H' x g t r
      obtain ⟨q1, q2⟩ := cut_str t0 hn g t h2
      refine (show KE G (Rep G) μ H Q (frzT n v s) (s.take n) from h) (μ'.cut n) H' x q1 q2 ?_
      cases v <;> first | exact r.cut h1 | skip
      rename_i i
      have e1 : frzT n (.ref i) s = if n ≤ i then (match s[i]? with
        | some (.lst xs) => .lst xs
        | some (.dct ks vs) => .dct ks vs
        | _ => .ref i) else .ref i := rfl
      rw [e1] at h1 ⊢
      by_cases hni : n ≤ i
      · rw [if_pos hni] at h1 ⊢
        cases hs : s[i]? with
        | none => rw [hs] at h1; cases h1
        | some o =>
          cases o with
          | hat => rw [hs] at h1; cases h1
          | tab _ => rw [hs] at h1; cases h1
          | dct ks vs =>
            rw [hs] at h1
            obtain ⟨f1, f2⟩ := Bool.and_eq_true_iff.mp (show (D.rfs ks && D.rfs vs) = true from h1)
            cases r with
            | @ref _ a ha =>
              obtain ⟨a', h3, kvs, ob, us, ws, h4, k, hu, hw, r1, r2⟩ := t.at_ i _ hs
              rw [ha] at h3
              cases h3
              refine .dct (fun z => ?_) h4 k hu hw (Reps.cut_ r1 f1) (Reps.cut_ r2 f2)
              have z2 := (List.mem_filter.mp z).2
              have : a ∈ μ'.m.drop n := List.mem_of_getElem? (i := i - n) (by rw [List.getElem?_drop, show n + (i - n) = i by omega]; exact ha)
              simp [this] at z2
          | lst xs =>
            rw [hs] at h1
            cases r with
            | @ref _ a ha =>
              obtain ⟨a', h3, vs, h4, h5⟩ := t.at_ i _ hs
              rw [ha] at h3
              cases h3
              refine .lst ⟨fun z => ?_, h4⟩ (Reps.cut_ h5 h1)
              have z2 := (List.mem_filter.mp z).2
              have : a ∈ μ'.m.drop n := List.mem_of_getElem? (i := i - n) (by rw [List.getElem?_drop, show n + (i - n) = i by omega]; exact ha)
              simp [this] at z2
      · rw [if_neg hni] at h1; cases h1
    · exact h
  | .ex e v s, h => by
    unfold trimT at h
    split at h
    · rename_i hc
      obtain ⟨h1, h2⟩ := Bool.and_eq_true_iff.mp hc
      intro μ' H' cls dd g t r
      obtain ⟨q1, q2⟩ := cut_str t0 hn g t h2
      refine (show KX G W σ μ H e v (s.take n) from h) (μ'.cut n) H' cls dd q1 q2 ?_
      obtain ⟨C, r1, r2, r3⟩ := r
      refine ⟨C, r1, r2, ?_⟩
      cases hf : G.fld e with
      | none => rw [hf] at r3; exact r3
      | some f =>
        rw [hf] at r3
        obtain ⟨dx, v', a1, a2, a3⟩ := r3
        exact ⟨dx, v', a1, a2, Rep.cut a3 h1⟩
    · exact h
theorem trim_fn {CX : CXT} {k np : Nat} {ps : List Str} {φ : List D → M D} (F : FnG P w K mg base CX k f fd ps (spD G φ np)) : FnG P w K mg base CX k f fd ps (spD G (trimM φ) np) := by
  refine F.imp fun vs H Q E h => ?_
  obtain ⟨hl, μ, ds, st, r, t, hA⟩ := h
  exact ⟨hl, μ, ds, st, r, t, trim_all t t.len _ hA⟩
theorem trim_len {n p : Nat} {b : S} {ds : List D} {st : Sto} {P : D → Sto → Prop} {E : Str → D → Sto → Prop} (h : (trimM (fnM n p b) ds st).All P E) : ds.length = p := by
  by_cases hl : ds.length = p
  · exact hl
  · unfold trimM fnM at h
    rw [if_neg hl] at h
    exact h.elim
theorem fn_bad {CX : CXT} {k np : Nat} {ps : List Str} : FnG P w K mg base CX k f fd ps (spD G (fun _ => badM) np) :=
  ⟨fun _ _ _ _ h => by obtain ⟨_, _, _, _, _, _, hA⟩ := h; exact hA.elim, fun _ _ _ _ _ _ _ _ _ _ _ _ _ _ hs => by obtain ⟨_, _, _, _, _, _, hA⟩ := hs; exact hA.elim⟩
end
end Gw

set_option Elab.async false
set_option linter.all false
set_option maxRecDepth 100000
set_option maxHeartbeats 1000000
/-! Gs1: a def that is given no changing object runs as if the store held the tables alone. -/
namespace Gw
open PySem PySem.Spec PyProof.Rows L2
def isTab : MO → Bool
  | .tab _ => true
  | _ => false
def sameTabs : Sto → Sto → Bool
  | [], [] => true
  | .tab q :: s, .tab q' :: s' => decide (q = q') && sameTabs s s'
  | _, _ => false
theorem same_tabs : ∀ {s s' : Sto}, sameTabs s s' = true → s = s'
  | [], [], _ => rfl
  | .tab q :: s, .tab q' :: s', h => by
    obtain ⟨h1, h2⟩ := Bool.and_eq_true_iff.mp (show (decide (q = q') && sameTabs s s') = true from h)
    rw [of_decide_eq_true h1, same_tabs h2]
  | [], _ :: _, h => by cases h
  | .tab _ :: _, [], h => by cases h
  | .tab _ :: _, .lst _ :: _, h => by cases h
  | .tab _ :: _, .hat :: _, h => by cases h
  | .tab _ :: _, .dct _ _ :: _, h => by cases h
  | .lst _ :: _, _, h => by cases h
  | .hat :: _, _, h => by cases h
  | .dct _ _ :: _, _, h => by cases h
theorem tabs_rf {s : Sto} (h : s.all isTab = true) : s.all MO.rf = true := by
  rw [List.all_eq_true] at h ⊢
  intro x hx
  have := h x hx
  cases x <;> first | rfl | cases this
def soloT (k : Nat) (s : Sto) : Tr D → Tr D
  | .ok v s' => if (frzT k v s').rf && sameTabs (s.take k) (s'.take k) then .ok (frzT k v s') s else .bad
  | .ex x v s' => if v.rf && sameTabs (s.take k) (s'.take k) then .ex x v s else .bad
  | .pick m f => .pick m fun i => soloT k s (f i)
  | .bad => .bad
def soloB (k : Nat) (s : Sto) : Bool := decide (k ≤ s.length) && ((s.take k).all isTab && !(s.drop k).any isTab)
/-- the def by itself -/
def soloM (k : Nat) (f : List D → M D) : List D → M D := fun ds s =>
  if D.rfs ds && soloB k s then soloT k s (f ds (s.take k)) else trimT s.length (f ds s)
section
variable {G : Glo} {k : Nat}
theorem solo_str {μ : Mp} {H : Hp} {st : Sto} (t : STR G μ st H) (hT : G.T.length ≤ k) (h : soloB k st = true) : STR G ⟨μ.M, μ.m.take k⟩ (st.take k) H := by
  obtain ⟨_, h2⟩ := Bool.and_eq_true_iff.mp h
  obtain ⟨ha, hd⟩ := Bool.and_eq_true_iff.mp h2
  refine ⟨?_, fun i o e => ?_, fun a z => t.sub a (List.mem_of_mem_take z), t.nd.sublist (List.take_sublist _ _), fun a z => ?_, fun r P e => ?_, fun a ps e => ?_⟩
  · show (μ.m.take k).length = (st.take k).length
    rw [List.length_take, List.length_take, t.len]
  · have hi : i < k := by
      have := (List.getElem?_eq_some_iff.mp e).1
      rw [List.length_take] at this
      omega
    have ht := List.all_eq_true.mp ha o (List.mem_of_getElem? e)
    rw [List.getElem?_take_of_lt hi] at e
    obtain ⟨a, h1, h2⟩ := t.at_ i o e
    refine ⟨a, by show (μ.m.take k)[i]? = _; rw [List.getElem?_take_of_lt hi]; exact h1, ?_⟩
    cases o with
    | tab q => exact h2
    | _ => cases ht
  · rcases t.lt a z with y | y
    · obtain ⟨i, hi, e⟩ := List.mem_iff_getElem.mp y
      by_cases hk : i < k
      · exact .inl (List.mem_of_getElem? (i := i) (by show (μ.m.take k)[i]? = _; rw [List.getElem?_take_of_lt hk, List.getElem?_eq_getElem hi, e]))
      · have hl : i < st.length := by rw [← t.len]; exact hi
        obtain ⟨b, h1, h2⟩ := t.at_ i _ (List.getElem?_eq_getElem hl)
        rw [List.getElem?_eq_getElem hi, e] at h1
        cases h1
        have hn : isTab st[i] = false := by
          have q := List.any_eq_false.mp (by simpa using hd) st[i] (List.mem_of_getElem? (i := i - k) (by rw [List.getElem?_drop, show k + (i - k) = i by omega]; exact List.getElem?_eq_getElem hl))
          simpa using q
        cases ho : st[i] with
        | lst xs => rw [ho] at h2; obtain ⟨vs, q, _⟩ := h2; exact .inr ⟨_, q, fun _ z => by cases z⟩
        | hat => rw [ho] at h2; obtain ⟨_, _, _, q, _⟩ := h2; exact .inr ⟨_, q, fun _ z => by cases z⟩
        | dct ks vs => rw [ho] at h2; obtain ⟨_, _, _, _, q, _⟩ := h2; exact .inr ⟨_, q, fun _ z => by cases z⟩
        | tab q => rw [ho] at hn; cases hn
    · exact .inr y
  · have hr : r < k := Nat.lt_of_lt_of_le (List.getElem?_eq_some_iff.mp e).1 hT
    show (μ.m.take k)[r]? = _
    rw [List.getElem?_take_of_lt hr]
    exact t.tb r P e
  · obtain ⟨i, hi, e1⟩ := List.mem_iff_getElem.mp (t.tin a ps e)
    have hl : i < st.length := by rw [← t.len]; exact hi
    obtain ⟨b, h1, h2⟩ := t.at_ i _ (List.getElem?_eq_getElem hl)
    rw [List.getElem?_eq_getElem hi, e1] at h1
    cases h1
    by_cases hk : i < k
    · exact List.mem_of_getElem? (i := i) (by show (μ.m.take k)[i]? = _; rw [List.getElem?_take_of_lt hk, List.getElem?_eq_getElem hi, e1])
    · have hn : isTab st[i] = false := by
        have q := List.any_eq_false.mp (by simpa using hd) st[i] (List.mem_of_getElem? (i := i - k) (by rw [List.getElem?_drop, show k + (i - k) = i by omega]; exact List.getElem?_eq_getElem hl))
        simpa using q
      cases ho : st[i] with
      | lst xs => rw [ho] at h2; obtain ⟨vs, q, _⟩ := h2; rw [e] at q; cases q
      | hat => rw [ho] at h2; obtain ⟨_, _, _, q, _⟩ := h2; rw [e] at q; cases q
      | dct ks vs => rw [ho] at h2; obtain ⟨_, _, _, _, q, _⟩ := h2; rw [e] at q; cases q
      | tab q => rw [ho] at hn; cases hn
theorem back_str {μ μc : Mp} {H H1 : Hp} {st : Sto} (t : STR G μ st H) (h : soloB k st = true) (hm : μc.m = μ.m.take k) (g : Gr ⟨μ.M, μ.m.take k⟩ H μc H1) (q : STR G μc (st.take k) H1) : Gr μ H ⟨μc.M, μ.m⟩ H1 ∧ STR G ⟨μc.M, μ.m⟩ st H1 := by
  obtain ⟨_, h2⟩ := Bool.and_eq_true_iff.mp h
  obtain ⟨ha, hd⟩ := Bool.and_eq_true_iff.mp h2
  have gr : Gr μ H ⟨μc.M, μ.m⟩ H1 := ⟨fun a o e n nt => g.keep a o e (fun z => n (List.mem_of_mem_take z)) nt, g.there, ⟨[], by simp, by simp⟩, g.sub, g.new, t.sub, g.tbl⟩
  refine ⟨gr, t.len, fun i o e => ?_, fun a z => g.sub a (t.sub a z), t.nd, fun a z => ?_, t.tb, fun a ps e => ?_⟩
  · by_cases hi : i < k
    · obtain ⟨a, h1, h2⟩ := q.at_ i o (by rw [List.getElem?_take_of_lt hi]; exact e)
      rw [hm, List.getElem?_take_of_lt hi] at h1
      have ht := List.all_eq_true.mp ha o (List.mem_of_getElem? (i := i) (by rw [List.getElem?_take_of_lt hi]; exact e))
      refine ⟨a, h1, ?_⟩
      cases o with
      | tab q => exact h2
      | _ => cases ht
    · obtain ⟨a, h1, h2⟩ := t.at_ i o e
      have hdr : a ∈ μ.m.drop k := List.mem_of_getElem? (i := i - k) (by rw [List.getElem?_drop, show k + (i - k) = i by omega]; exact h1)
      have hnt : a ∉ μ.m.take k := by
        have nd := t.nd
        rw [← List.take_append_drop k μ.m, List.nodup_append] at nd
        exact fun z => nd.2.2 a z a hdr rfl
      have hn : isTab o = false := by
        have q := List.any_eq_false.mp (by simpa using hd) o (List.mem_of_getElem? (i := i - k) (by rw [List.getElem?_drop, show k + (i - k) = i by omega]; exact e))
        simpa using q
      have ex : ∃ u, H a = some u ∧ ∀ ps, u ≠ .tbl ps := by
        cases o with
        | lst xs => obtain ⟨vs, q, _⟩ := h2; exact ⟨_, q, fun _ z => by cases z⟩
        | hat => obtain ⟨_, _, _, q, _⟩ := h2; exact ⟨_, q, fun _ z => by cases z⟩
        | dct ks vs => obtain ⟨_, _, _, _, q, _⟩ := h2; exact ⟨_, q, fun _ z => by cases z⟩
        | tab q => cases hn
      obtain ⟨u, hu, nt⟩ := ex
      exact ⟨a, h1, h2.same gr ((g.keep a u hu hnt nt).trans hu.symm)⟩
  · rcases q.lt a z with y | y
    · exact .inl (List.mem_of_mem_take (by rw [← hm]; exact y))
    · exact .inr y
  · exact List.mem_of_mem_take (by rw [← hm]; exact q.tin a ps e)
theorem frz_rep {μ' : Mp} {H' : Hp} {n : Nat} {v : D} {x : V} {s : Sto} (t : STR G μ' s H') (r : Rep G μ' H' v x) (h1 : (frzT n v s).rf = true) : Rep G (μ'.cut n) H' (frzT n v s) x := by
  cases v <;> first | exact r.cut h1 | skip
  rename_i i
  have e1 : frzT n (.ref i) s = if n ≤ i then (match s[i]? with
    | some (.lst xs) => .lst xs
    | some (.dct ks vs) => .dct ks vs
    | _ => .ref i) else .ref i := rfl
  rw [e1] at h1 ⊢
  by_cases hni : n ≤ i
  case neg => rw [if_neg hni] at h1; cases h1
  rw [if_pos hni] at h1 ⊢
  have nm : ∀ a, μ'.m[i]? = some a → a ∉ (μ'.cut n).M := fun a ha z => by
    have z2 := (List.mem_filter.mp z).2
    have : a ∈ μ'.m.drop n := List.mem_of_getElem? (i := i - n) (by rw [List.getElem?_drop, show n + (i - n) = i by omega]; exact ha)
    simp [this] at z2
  cases hs : s[i]? with
  | none => rw [hs] at h1; cases h1
  | some o =>
    cases o with
    | hat => rw [hs] at h1; cases h1
    | tab _ => rw [hs] at h1; cases h1
    | dct ks vs =>
      rw [hs] at h1
      obtain ⟨f1, f2⟩ := Bool.and_eq_true_iff.mp (show (D.rfs ks && D.rfs vs) = true from h1)
      cases r with
      | @ref _ a ha =>
        obtain ⟨a', h3, kvs, ob, us, ws, h4, k, hu, hw, r1, r2⟩ := t.at_ i _ hs
        rw [ha] at h3
        cases h3
        exact .dct (nm a ha) h4 k hu hw (Reps.cut_ r1 f1) (Reps.cut_ r2 f2)
    | lst xs =>
      rw [hs] at h1
      cases r with
      | @ref _ a ha =>
        obtain ⟨a', h3, vs, h4, h5⟩ := t.at_ i _ hs
        rw [ha] at h3
        cases h3
        exact .lst ⟨nm a ha, h4⟩ (Reps.cut_ h5 h1)
theorem solo_all {μ : Mp} {H : Hp} {Q : VK} {W : WX} {σ : L2.St} {st : Sto} (t0 : STR G μ st H) (hT : G.T.length ≤ k) (h0 : soloB k st = true) :
    ∀ t : Tr D, (soloT k st t).All (KE G (Rep G) μ H Q) (KX G W σ μ H) → t.All (KE G (Rep G) ⟨μ.M, μ.m.take k⟩ H Q) (KX G W σ ⟨μ.M, μ.m.take k⟩ H)
  | .bad, h => h
  | .pick m f, h => fun i hi => solo_all t0 hT h0 (f i) (h i hi)
  | .ok v s, h => by
    unfold soloT at h
    split at h
    case isFalse => exact h.elim
    rename_i hc
    obtain ⟨h1, h2⟩ := Bool.and_eq_true_iff.mp hc
    have hs := same_tabs h2
    obtain ⟨hk, h3⟩ := Bool.and_eq_true_iff.mp h0
    have hkl : k ≤ st.length := of_decide_eq_true hk
    have ht := solo_str t0 hT h0
    have hn : (μ.m.take k).length = k := by rw [List.length_take, t0.len]; omega
    intro μ1 H1 x g t r
    obtain ⟨q1, q2⟩ := cut_str ht hn g t (by rw [← hs]; exact tabs_rf (Bool.and_eq_true_iff.mp h3).1)
    rw [← hs] at q2
    have hm : (μ1.cut k).m = μ.m.take k := by
      obtain ⟨y, e, _⟩ := g.pre
      show μ1.m.take k = _
      rw [e, List.take_append_of_le_length (by rw [hn]; omega)]
      exact List.take_of_length_le (by rw [hn]; omega)
    obtain ⟨p1, p2⟩ := back_str t0 h0 hm q1 q2
    exact (show KE G (Rep G) μ H Q (frzT k v s) st from h) ⟨(μ1.cut k).M, μ.m⟩ H1 x p1 p2 (Rep.rf_ _ _ (frz_rep t r h1) h1)
  | .ex e v s, h => by
    unfold soloT at h
    split at h
    case isFalse => exact h.elim
    rename_i hc
    obtain ⟨h1, h2⟩ := Bool.and_eq_true_iff.mp hc
    have hs := same_tabs h2
    obtain ⟨hk, h3⟩ := Bool.and_eq_true_iff.mp h0
    have hkl : k ≤ st.length := of_decide_eq_true hk
    have ht := solo_str t0 hT h0
    have hn : (μ.m.take k).length = k := by rw [List.length_take, t0.len]; omega
    intro μ1 H1 cls dd g t r
    obtain ⟨q1, q2⟩ := cut_str ht hn g t (by rw [← hs]; exact tabs_rf (Bool.and_eq_true_iff.mp h3).1)
    rw [← hs] at q2
    have hm : (μ1.cut k).m = μ.m.take k := by
      obtain ⟨y, e, _⟩ := g.pre
      show μ1.m.take k = _
      rw [e, List.take_append_of_le_length (by rw [hn]; omega)]
      exact List.take_of_length_le (by rw [hn]; omega)
    obtain ⟨p1, p2⟩ := back_str t0 h0 hm q1 q2
    refine (show KX G W σ μ H e v st from h) ⟨(μ1.cut k).M, μ.m⟩ H1 cls dd p1 p2 ?_
    obtain ⟨C, r1, r2, r3⟩ := r
    refine ⟨C, r1, r2, ?_⟩
    cases hf : G.fld e with
    | none => rw [hf] at r3; exact r3
    | some f =>
      rw [hf] at r3
      obtain ⟨dx, v', a1, a2, a3⟩ := r3
      exact ⟨dx, v', a1, a2, Rep.rf_ _ _ (Rep.cut a3 h1) h1⟩
end
section
variable {P : Program} {w : World} {K : PySem.W.Frag} {mg : Str → Option Value} {base : Heap} {G : Glo} {f : Addr} {fd : FuncData}
theorem solo_fn {CX : CXT} {q k np : Nat} {ps : List Str} {φ : List D → M D} (hT : G.T.length ≤ k) (F : FnG P w K mg base CX q f fd ps (spD G φ np)) : FnG P w K mg base CX q f fd ps (spD G (soloM k φ) np) := by
  refine F.imp fun vs H Q E h => ?_
  obtain ⟨hl, μ, ds, st, r, t, hA⟩ := h
  by_cases hc : (D.rfs ds && soloB k st) = true
  · have hA' : (if (D.rfs ds && soloB k st) = true then soloT k st (φ ds (st.take k)) else trimT st.length (φ ds st)).All _ _ := hA
    rw [if_pos hc] at hA'
    obtain ⟨h1, h2⟩ := Bool.and_eq_true_iff.mp hc
    exact ⟨hl, ⟨μ.M, μ.m.take k⟩, ds, st.take k, Reps.rf_ _ _ r h1, solo_str t hT h2, solo_all t hT h2 _ hA'⟩
  · have hA' : (if (D.rfs ds && soloB k st) = true then soloT k st (φ ds (st.take k)) else trimT st.length (φ ds st)).All _ _ := hA
    rw [if_neg hc] at hA'
    exact ⟨hl, μ, ds, st, r, t, trim_all t t.len _ hA'⟩
theorem solo_len {k n p : Nat} {b : S} {ds : List D} {st : Sto} {P : D → Sto → Prop} {E : Str → D → Sto → Prop} (h : (soloM k (fnM n p b) ds st).All P E) : ds.length = p := by
  by_cases hl : ds.length = p
  · exact hl
  · unfold soloM fnM at h
    rw [if_neg hl] at h
    split at h <;> exact h.elim
end
/-- behind any store with these tables first and none behind them -/
theorem solo_at {k : Nat} {f : List D → M D} {ds : List D} {st T : Sto} {v : D} (ht : st.take k = T) (hb : soloB k st = true) (hd : D.rfs ds = true) {t : Tr D} (e : f ds T = t) : soloM k f ds st = soloT k st t := by
  subst e
  subst ht
  show (if (D.rfs ds && soloB k st) = true then soloT k st (f ds (st.take k)) else trimT st.length (f ds st)) = _
  rw [hd, hb]
  rfl
end Gw

set_option Elab.async false
set_option linter.all false
set_option maxRecDepth 100000
set_option maxHeartbeats 1000000
/-! Gw10: hats, a law's end. -/
namespace Gw
open PySem PySem.Spec PyProof.Rows L2
/-- the draw: any number below the total -/
def mUp : List D → M D
  | [.ref i, .int n] => fun st => match st[i]? with
    | some .hat => if 0 < n then .pick n.toNat fun k => .ok (.int (k : Nat)) st else .bad
    | _ => .bad
  | _ => badM
def mDraw : List D → M D := fun ds st => match ds with
  | [_, .int n] => if n.natAbs.log2 < 9000 then mUp ds st else .bad
  | _ => .bad
/-- a new hat -/
def mHat : List D → M D
  | [.scr _, .int k] => fun st => if 0 ≤ k ∧ k ≤ 1000 then .ok (.ref st.length) (st ++ [.hat]) else .bad
  | _ => badM
section
variable {G : Glo} {μ : Mp} {H : Hp} {st : Sto}
/-- a hat is a list of three numbers, and back -/
theorem hat_lst {i : Nat} (t : STR G μ st H) (h : st[i]? = some .hat) : ∃ g s c, HatOk g s c ∧ STR G μ (st.set i (.lst [.int g, .int s, .int c])) H := by
  obtain ⟨a, h1, g, s, c, h2, h3⟩ := t.at_ i _ h
  refine ⟨g, s, c, h3, by simp [t.len], fun j o hj => ?_, t.sub, t.nd, t.lt, t.tb, t.tin⟩
  by_cases e : i = j
  · subst e
    rw [List.getElem?_set_self (List.getElem?_eq_some_iff.mp h).1] at hj
    cases hj
    exact ⟨a, h1, _, h2, .cons (.int _) (.cons (.int _) (.cons (.int _) .nil))⟩
  · rw [List.getElem?_set_ne e] at hj
    exact t.at_ j o hj
theorem lst_hat {i : Nat} {g s c : Int} (hk : HatOk g s c) (hi : i < st.length) (t : STR G μ (st.set i (.lst [.int g, .int s, .int c])) H) (h : st[i]? = some .hat) : STR G μ st H := by
  refine ⟨by have := t.len; simpa using this, fun j o hj => ?_, t.sub, t.nd, t.lt, t.tb, t.tin⟩
  by_cases e : i = j
  · subst e
    rw [h] at hj
    cases hj
    obtain ⟨a, h1, vs, h2, h3⟩ := t.at_ i (.lst [.int g, .int s, .int c]) (by rw [List.getElem?_set_self hi])
    refine ⟨a, h1, g, s, c, ?_, hk⟩
    cases h3 with
    | cons r1 r =>
      cases r with
      | cons r2 r =>
        cases r with
        | cons r3 r => cases r; cases r1; cases r2; cases r3; exact h2
  · exact t.at_ j o (by rw [List.getElem?_set_ne e]; exact hj)
theorem up_fn {P : Program} {w : World} {K : PySem.W.Frag} {mg : Str → Option Value} {base : Heap} {CX : CXT} {k : Nat} {f : Addr} {fd : FuncData} {ps : List Str} {φ : List D → M D} (F : FnG P w K mg base CX k f fd ps (spD G φ 2))
    (h : ∀ (i : Nat) (n : Int) (st : Sto) (g s c : Int), i < st.length → 0 < n → n.natAbs.log2 < 9000 → HatOk g s c → ∃ j g' s' c', 0 ≤ j ∧ j < n ∧ HatOk g' s' c' ∧ φ [.ref i, .int n] (st.set i (.lst [.int g, .int s, .int c])) = .ok (.int j) (st.set i (.lst [.int g', .int s', .int c']))) :
    FnG P w K mg base CX k f fd ps (spD G mDraw 2) := by
  refine F.imp fun vs H Q E hh => ?_
  obtain ⟨hl, μ, ds, st, r, t, hA⟩ := hh
  match ds, r, hA with
  | [.ref i, .int n], r, hA =>
    have hA1 : (if n.natAbs.log2 < 9000 then mUp [.ref i, .int n] st else .bad).All (KE G (Rep G) μ H Q) (KX G (wX E) [] μ H) := hA
    split at hA1
    · rename_i hn
      have hA2 : ((match st[i]? with
        | some .hat => if 0 < n then .pick n.toNat fun k => .ok (.int (k : Nat)) st else .bad
        | _ => .bad) : Tr D).All (KE G (Rep G) μ H Q) (KX G (wX E) [] μ H) := hA1
      cases hs : st[i]? with
      | none => rw [hs] at hA2; exact hA2.elim
      | some o =>
        cases o with
        | lst xs => rw [hs] at hA2; exact hA2.elim
        | tab _ => rw [hs] at hA2; exact hA2.elim
        | dct _ _ => rw [hs] at hA2; exact hA2.elim
        | hat =>
          rw [hs] at hA2
          dsimp only at hA2
          split at hA2
          · rename_i h0
            have hi := (List.getElem?_eq_some_iff.mp hs).1
            obtain ⟨g, s, c, hk, t'⟩ := hat_lst t hs
            obtain ⟨j, g', s', c', j0, j1, hk', e⟩ := h i n st g s c hi h0 hn hk
            refine ⟨hl, μ, _, _, r, t', ?_⟩
            rw [e]
            have hq : KE G (Rep G) μ H Q (.int (j.toNat : Nat)) st := hA2 j.toNat (by omega)
            rw [show ((j.toNat : Nat) : Int) = j by omega] at hq
            exact fun μ1 H1 x g1 t1 r1 => hq μ1 H1 x g1 (lst_hat hk' hi t1 hs) r1
          · exact hA2.elim
    · exact hA1.elim
  | [], _, hA => exact hA.elim
  | [_], _, hA => exact hA.elim
  | _ :: b :: _ :: _, _, hA => exact (by revert hA; cases b <;> exact fun h => h.elim)
  | [.non, .int n], _, hA | [.bl _, .int n], _, hA | [.int _, .int n], _, hA | [.str _, .int n], _, hA | [.tup _, .int n], _, hA | [.lst _, .int n], _, hA | [.fn _, .int n], _, hA | [.ty _, .int n], _, hA | [.scr _, .int n], _, hA | [.emp, .int n], _, hA | [.dct _ _, .int n], _, hA =>
    exact (by
      unfold mDraw at hA
      dsimp only at hA
      split at hA <;> exact hA.elim)
  | [_, .non], _, hA | [_, .bl _], _, hA | [_, .str _], _, hA | [_, .tup _], _, hA | [_, .lst _], _, hA | [_, .fn _], _, hA | [_, .ty _], _, hA | [_, .ref _], _, hA | [_, .scr _], _, hA | [_, .emp], _, hA | [_, .dct _ _], _, hA => exact hA.elim
theorem str_push_hat {a : Addr} {vs : List V} : True := True.intro
/-- a new hat: the three numbers that were laid are one -/
theorem hat_fn {P : Program} {w : World} {K : PySem.W.Frag} {mg : Str → Option Value} {base : Heap} {CX : CXT} {k : Nat} {f : Addr} {fd : FuncData} {ps : List Str} {φ : List D → M D} (F : FnG P w K mg base CX k f fd ps (spD G φ 2))
    (h : ∀ (ns : List Int) (n : Int) (st : Sto), 0 ≤ n → n ≤ 1000 → ∃ g s c, HatOk g s c ∧ φ [.scr ns, .int n] st = .ok (.ref st.length) (st ++ [.lst [.int g, .int s, .int c]])) : FnG P w K mg base CX k f fd ps (spD G mHat 2) := by
  refine F.imp fun vs H Q E hh => ?_
  obtain ⟨hl, μ, ds, st, r, t, hA⟩ := hh
  match ds, r, hA with
  | [.scr ns, .int n], r, hA =>
    have hA1 : ((if 0 ≤ n ∧ n ≤ 1000 then .ok (.ref st.length) (st ++ [.hat]) else .bad) : Tr D).All (KE G (Rep G) μ H Q) (KX G (wX E) [] μ H) := hA
    split at hA1
    · rename_i hn
      obtain ⟨g, s, c, hk, e⟩ := h ns n st hn.1 hn.2
      refine ⟨hl, μ, _, st, r, t, ?_⟩
      rw [e]
      intro μ1 H1 x g1 t1 r1
      have e2 : st ++ [MO.lst [.int g, .int s, .int c]] = (st ++ [MO.hat]).set st.length (.lst [.int g, .int s, .int c]) := by
        rw [List.set_append_right _ _ (Nat.le_refl _), Nat.sub_self]
        rfl
      rw [e2] at t1
      exact (show KE G (Rep G) μ H Q (.ref st.length) (st ++ [MO.hat]) from hA1) μ1 H1 x g1 (lst_hat (i := st.length) (st := st ++ [MO.hat]) hk (by simp) t1 (by simp)) r1
    · exact hA1.elim
  | [], _, hA => exact hA.elim
  | [a], _, hA => exact (by revert hA; cases a <;> exact fun h => h.elim)
  | a :: b :: _ :: _, _, hA => exact (by revert hA; cases a <;> cases b <;> exact fun h => h.elim)
  | [.scr _, .non], _, hA | [.scr _, .bl _], _, hA | [.scr _, .str _], _, hA | [.scr _, .tup _], _, hA | [.scr _, .lst _], _, hA | [.scr _, .fn _], _, hA | [.scr _, .ty _], _, hA | [.scr _, .ref _], _, hA | [.scr _, .scr _], _, hA | [.scr _, .emp], _, hA | [.scr _, .dct _ _], _, hA => exact hA.elim
  | [.non, b], _, hA | [.bl _, b], _, hA | [.int _, b], _, hA | [.str _, b], _, hA | [.tup _, b], _, hA | [.lst _, b], _, hA | [.fn _, b], _, hA | [.ty _, b], _, hA | [.emp, b], _, hA | [.dct _ _, b], _, hA | [.ref _, b], _, hA => exact (by revert hA; cases b <;> exact fun h => h.elim)
end
/-! ### a law's end -/
def spEnd (G : Glo) (φ : List D → M D) : Sp := fun vs H Q _ => spD G φ 1 vs H Q fun _ _ _ => False
theorem law_end {P : Program} {w : World} {K : PySem.W.Frag} {mg : Str → Option Value} {base : Heap} {k : Nat} {f : Addr} {fd : FuncData} {ps : List Str} {G : Glo} {φ : List D → M D} (F : FnG P w K mg base (L2.CX P w) k f fd ps (spD G φ 1)) :
    FnG P w K mg base (L2.CX P w) k f fd ps (spEnd G φ) := F.imp fun vs H Q E h => by
  obtain ⟨hl, μ, ds, st, r, t, hA⟩ := h
  exact ⟨hl, μ, ds, st, r, t, Tr.All_mono (fun _ _ z => z) (fun x d s z μ' H' cls dd g t r => (z μ' H' cls dd g t r).elim) _ hA⟩
theorem law_start {K : PySem.W.Frag} {G : Glo} (hK : G.K = K) {φ : List D → M D} {qs : List Str} (hq : qs.length = G.T.length) (hnd : G.T.Nodup) (h : ∀ ns : List Int, ns.length ≤ 63 → (φ [.scr ns] (qs.map .tab)).All (fun v _ => v = .bl true) fun _ _ _ => False) (H : Hp) (a : Addr) (ns : List Int) (hl : ns.length ≤ 63)
    (hT : ∀ b ∈ G.T, H b = some (.tbl #[])) (hO : ∀ b ps, H b = some (.tbl ps) → b ∈ G.T) (hS : SqL K H a (ns.map V.int)) :
    spEnd G φ [.ref a] H (fun v _ => v = .bl true) fun _ _ _ => False := by
  refine ⟨rfl, ⟨G.T, G.T⟩, [.scr ns], qs.map .tab, .cons (.scr ?_) .nil, ⟨by rw [List.length_map, hq], fun i o h => ?_, fun _ h => h, hnd, fun _ h => .inl h, fun _ _ h => h, hO⟩, ?_⟩
  · rcases hS with h | h
    · refine .inl ⟨fun z => ?_, h⟩
      have z2 := hT a z
      rcases h with h | ⟨o, h⟩ <;> rw [h] at z2 <;> cases z2
    · exact .inr (hK ▸ h)
  · obtain ⟨q, h1, rfl⟩ := List.getElem?_map .. ▸ h |> Option.map_eq_some_iff.mp
    have hi : i < G.T.length := by rw [← hq]; exact (List.getElem?_eq_some_iff.mp h1).1
    refine ⟨G.T[i], List.getElem?_eq_getElem hi, #[], hT _ (List.getElem_mem hi), True.intro, fun pos cv hc => ?_⟩
    have z : codeAmong pos [] = some cv := hc
    simp [codeAmong] at z
  · refine Tr.All_mono (fun v st hv μ' H' x g t r => ?_) (fun _ _ _ z => z.elim) _ (h ns hl)
    subst hv
    cases r
    rfl
/-! ### constants -/
def CstOk (mg : Str → Option Value) (G : Glo) (l : List (Str × D)) : Prop := ∀ x d, l.lookup x = some d → ∃ u v, mg x = some u ∧ RelV v u ∧ ∀ μ H, Rep G μ H d v
theorem CstOk.nil {mg : Str → Option Value} {G : Glo} : CstOk mg G [] := fun _ _ h => (by cases h)
theorem CstOk.cons {mg : Str → Option Value} {G : Glo} {l : List (Str × D)} {x : Str} {d : D} (h : ∃ u v, mg x = some u ∧ RelV v u ∧ ∀ μ H, Rep G μ H d v) (t : CstOk mg G l) : CstOk mg G ((x, d) :: l) := by
  intro y e hl
  rw [List.lookup_cons] at hl
  cases q : (y == x) with
  | true =>
    rw [q] at hl
    cases hl
    rw [beq_iff_eq.mp q]
    exact h
  | false =>
    rw [q] at hl
    exact t y e hl
theorem cst_int {mg : Str → Option Value} {G : Glo} {x : Str} {i : Int} (h : ∃ t, mg x = some (.int i t)) : ∃ u v, mg x = some u ∧ RelV v u ∧ ∀ μ H, Rep G μ H (.int i) v := by
  obtain ⟨t, e⟩ := h
  exact ⟨_, .int i, e, ⟨t, rfl⟩, fun _ _ => .int i⟩
theorem cst_str {mg : Str → Option Value} {G : Glo} {x : Str} {i : Str} (h : ∃ t, mg x = some (.str i t)) : ∃ u v, mg x = some u ∧ RelV v u ∧ ∀ μ H, Rep G μ H (.str i) v := by
  obtain ⟨t, e⟩ := h
  exact ⟨_, .str i, e, ⟨t, rfl⟩, fun _ _ => .str i⟩
def FreeOk (mg : Str → Option Value) (l : List Str) : Prop := ∀ x ∈ l, mg x = none
theorem FreeOk.nil {mg : Str → Option Value} : FreeOk mg [] := fun _ h => (by cases h)
theorem FreeOk.cons {mg : Str → Option Value} {l : List Str} {x : Str} (h : mg x = none) (t : FreeOk mg l) : FreeOk mg (x :: l) := fun y hy => by
  rcases List.mem_cons.mp hy with z | z
  · rw [z]; exact h
  · exact t y z
end Gw

set_option Elab.async false
set_option linter.all false
set_option maxRecDepth 100000
set_option maxHeartbeats 4000000
/-! Gw11: reckoning with the core. -/
namespace Gw
open PySem L2
section
variable {α β γ : Type}
@[simp] theorem andThen_ret (a : α) (f : α → M β) : andThen (ret a) f = f a := (rfl)
@[simp] theorem andThen_bad (f : α → M β) : andThen badM f = badM := (rfl)
@[simp] theorem optM_so (a : α) : optM (some a) = ret a := (rfl)
@[simp] theorem optM_no : optM (none : Option α) = badM := (rfl)
@[simp] theorem noXM_ret (a : α) : noXM (ret a) = ret a := (rfl)
@[simp] theorem ret_at (a : α) (s : Sto) : ret a s = .ok a s := (rfl)
@[simp] theorem andThen_at (m : M α) (f : α → M β) (s : Sto) : andThen m f s = (m s).bind f := (rfl)
@[simp] theorem bind_ok (a : α) (s : Sto) (f : α → M β) : (Tr.ok a s).bind f = f a s := (rfl)
@[simp] theorem bind_pick (n : Nat) (k : Nat → Tr α) (f : α → M β) : (Tr.pick n k).bind f = .pick n fun i => (k i).bind f := (rfl)
@[simp] theorem bind_ex (x : Str) (v : D) (s : Sto) (f : α → M β) : (Tr.ex x v s : Tr α).bind f = .ex x v s := (rfl)
@[simp] theorem bind_bad (f : α → M β) : (Tr.bad : Tr α).bind f = .bad := (rfl)
@[simp] theorem truthM_bl (b : Bool) : truthM (.bl b) = ret b := (rfl)
@[simp] theorem truthM_non : truthM .non = ret false := (rfl)
@[simp] theorem truthM_int (i : Int) : truthM (.int i) = ret (i != 0) := (rfl)
@[simp] theorem truthM_tup (xs : List D) : truthM (.tup xs) = ret (!xs.isEmpty) := (rfl)
@[simp] theorem truthM_lst (xs : List D) : truthM (.lst xs) = ret (!xs.isEmpty) := (rfl)
theorem drf_nr {x : D} (h : x.nr = true) (s : Sto) : drf s x = x := by cases x <;> first | rfl | cases h
def D.nrs : List D → Bool
  | [] => true
  | x :: xs => x.nr && D.nrs xs
theorem drf_nrs {s : Sto} : ∀ {ds : List D}, D.nrs ds = true → ds.map (drf s) = ds
  | [], _ => rfl
  | x :: xs, h => by
    obtain ⟨a, b⟩ := Bool.and_eq_true_iff.mp (show (x.nr && D.nrs xs) = true from h)
    rw [List.map_cons, drf_nr a, drf_nrs b]
theorem nr_non : D.nr .non = true := (rfl)
theorem nr_bl (b : Bool) : D.nr (.bl b) = true := (rfl)
theorem nr_int (b : Int) : D.nr (.int b) = true := (rfl)
theorem nr_str (b : Str) : D.nr (.str b) = true := (rfl)
theorem nr_tup (b : List D) : D.nr (.tup b) = true := (rfl)
theorem nr_lst (b : List D) : D.nr (.lst b) = true := (rfl)
theorem nr_ty (b : String) : D.nr (.ty b) = true := (rfl)
theorem nr_scr (b : List Int) : D.nr (.scr b) = true := (rfl)
theorem nr_emp : D.nr .emp = true := (rfl)
theorem nrs_nil : D.nrs [] = true := (rfl)
theorem nrs_cons (x : D) (xs : List D) : D.nrs (x :: xs) = (x.nr && D.nrs xs) := (rfl)
theorem bi_eq {φ : List D → Option D} {ds : List D} (h : D.nrs ds = true) : bi φ ds = optM (φ ds) := by
  funext s
  unfold bi
  rw [drf_nrs h]
theorem binM_eq {o : Operator} {x y : D} (h : x.nr = true) (h2 : y.nr = true) : binM o x y = optM (binD o x y) := by
  funext s
  unfold binM
  rw [drf_nr h, drf_nr h2]
theorem cmpM_eq {o : CmpOp} {x y : D} (h : x.nr = true) (h2 : y.nr = true) : cmpM o x y = optM (cmpD o x y) := by
  funext s
  unfold cmpM
  rw [drf_nr h, drf_nr h2]
theorem slM_eq {x l h : D} (hx : x.nr = true) : slM x l h = optM (slD x l h) := by
  funext s
  unfold slM
  rw [drf_nr hx]
@[simp] theorem bin_add (a b : Int) : binD .Add (.int a) (.int b) = some (.int (a + b)) := (rfl)
@[simp] theorem bin_sub (a b : Int) : binD .Sub (.int a) (.int b) = some (.int (a - b)) := (rfl)
theorem bin_mul {a b : Int} (h : okMul a b = true) : binD .Mult (.int a) (.int b) = some (.int (a * b)) := if_pos h
theorem bin_fdiv {a b : Int} (h : okDiv b = true) : binD .FloorDiv (.int a) (.int b) = some (.int (a.fdiv b)) := if_pos h
theorem bin_mod {a b : Int} (h : b ≠ 0) : binD .Mod (.int a) (.int b) = some (.int (a.fmod b)) := if_pos (decide_eq_true h)
theorem bin_pow {a b : Int} (h : okPow a b = true) : binD .Pow (.int a) (.int b) = some (.int (a ^ b.toNat)) := if_pos h
theorem bin_tup {xs ys : List D} (h : xs.length + ys.length ≤ sizeLine) : binD .Add (.tup xs) (.tup ys) = some (.tup (xs ++ ys)) := if_pos (decide_eq_true h)
theorem bin_lst {xs ys : List D} (h : xs.length + ys.length ≤ sizeLine) : binD .Add (.lst xs) (.lst ys) = some (.lst (xs ++ ys)) := if_pos (decide_eq_true h)
@[simp] theorem neg_int (a : Int) : negD (.int a) = some (.int (-a)) := (rfl)
@[simp] theorem cmp_lt (a b : Int) : cmpD .Lt (.int a) (.int b) = some (.bl (decide (a < b))) := (rfl)
@[simp] theorem cmp_le (a b : Int) : cmpD .LtE (.int a) (.int b) = some (.bl (decide (a ≤ b))) := (rfl)
@[simp] theorem cmp_gt (a b : Int) : cmpD .Gt (.int a) (.int b) = some (.bl (decide (b < a))) := (rfl)
@[simp] theorem cmp_ge (a b : Int) : cmpD .GtE (.int a) (.int b) = some (.bl (decide (b ≤ a))) := (rfl)
@[simp] theorem cmp_isbl (a b : Bool) : cmpD .Is (.bl a) (.bl b) = some (.bl (decide (a = b))) := (rfl)
@[simp] theorem cmp_notbl (a b : Bool) : cmpD .IsNot (.bl a) (.bl b) = some (.bl (!decide (a = b))) := (rfl)
@[simp] theorem ixM_tup (xs : List D) (k : Int) : ixM (.tup xs) (.int k) = optM (atI xs k) := (rfl)
@[simp] theorem ixM_lst (xs : List D) (k : Int) : ixM (.lst xs) (.int k) = optM (atI xs k) := (rfl)
@[simp] theorem ixM_scr (xs : List Int) (k : Int) : ixM (.scr xs) (.int k) = optM ((atI xs k).map .int) := (rfl)
theorem drf_set {st : Sto} {i : Nat} {l : List D} (hi : i < st.length) : drf (st.set i (.lst l)) (.ref i) = .lst l := by
  show (match (st.set i (MO.lst l))[i]? with
    | some (.lst xs) => D.lst xs
    | some (.dct ks vs) => D.dct ks vs
    | _ => D.ref i) = _
  rw [List.getElem?_set_self hi]
theorem ixM_ref {st : Sto} {i : Nat} {l : List D} (hi : i < st.length) (k : Int) : ixM (.ref i) (.int k) (st.set i (.lst l)) = optM (atI l k) (st.set i (.lst l)) := by
  unfold ixM
  rw [drf_set hi]
  rfl
theorem setStore_ref {st : Sto} {i : Nat} {l : List D} (hi : i < st.length) (k : Int) (d : D) : setStore (st.set i (.lst l)) (.ref i) (.int k) d = (ixN l.length k).map fun j => st.set i (.lst (l.set j d)) := by
  show (match (st.set i (MO.lst l))[i]? with
    | some (.lst xs) => (L2.ixN xs.length k).map fun j => (st.set i (MO.lst l)).set i (.lst (xs.set j d))
    | some (.dct ks vs) => storeD (st.set i (MO.lst l)) i ks vs (.int k) d
    | _ => none) = _
  rw [List.getElem?_set_self hi]
  simp only [List.set_set]
theorem ix_at_nat {xs : List D} {k : Nat} {d : D} (h : xs[k]? = some d) : ixD (.tup xs) (.int (k : Int)) = some d := atI_nat h
theorem lenOk_ok {xs : List D} (h : xs.length ≤ sizeLine) : lenOk xs = ret xs := if_pos h
end
theorem line_big : 1000000 ≤ sizeLine := by rw [sizeLine_eq]; decide
theorem okMul_l {a b : Int} (h : a.natAbs < 2 ^ 64) : okMul a b = true := by unfold okMul; rw [decide_eq_true h]; rfl
theorem okMul_r {a b : Int} (h : b.natAbs < 2 ^ 64) : okMul a b = true := by unfold okMul; rw [decide_eq_true h, Bool.or_true]; rfl
theorem okDiv_of {b : Int} (h : b ≠ 0) (h2 : b.natAbs.log2 < 9000) : okDiv b = true := by unfold okDiv; rw [decide_eq_true h, decide_eq_true h2]; rfl
theorem okDiv_small {b : Int} (h : b ≠ 0) (h2 : b.natAbs < 2 ^ 64) : okDiv b = true := okDiv_of h (by
  have := (Nat.log2_lt (by omega)).mpr h2
  omega)
theorem fmod_lt {a b : Int} (h : 0 < b) : 0 ≤ a.fmod b ∧ a.fmod b < b := ⟨Int.fmod_nonneg_of_pos a h, Int.fmod_lt_of_pos a h⟩
/-- the hat's core, the draw's -/
def cHat : S := (.seq (.asg (.nm 2) (.ite (.cmp .Lt (.var 1) (.call (bi lenD) (.cons (.var 0) .nil))) (.call (bi intD) (.cons (.ix (.var 0) (.var 1)) .nil)) (.bin .Add (.bin .Mult (.c (.int 311)) (.var 1)) (.c (.int 47))))) (.seq (.asg (.nm 3) (.bin .Mod (.call (bi intD) (.cons (.call (bi absD) (.cons (.var 2) .nil)) .nil)) (.bin .Pow (.bin .Pow (.c (.int 10)) (.c (.int 51))) (.c (.int 8))))) (.seq (.asg (.nm 4) (.call (bi intD) (.cons (.bin .Add (.bin .Add (.bin .Add (.bin .Mult (.bin .Mod (.var 3) (.c (.int 2305843009213693907))) (.c (.int 83))) (.bin .Mult (.c (.int 5261)) (.var 1))) (.bin .Mult (.c (.int 29)) (.call (bi intD) (.cons (.cmp .Lt (.var 2) (.c (.int 0))) .nil)))) (.c (.int 61))) .nil))) (.seq (.ret (.lstM (.cons (.call (bi maxD) (.cons (.c (.int 0)) (.cons (.bin .Sub (.var 3) (.bin .Pow (.c (.int 10)) (.c (.int 16)))) .nil))) (.cons (.bin .Mod (.var 4) (.c (.int 2305843009213693951))) (.cons (.c (.int 0)) .nil))))) .pass))))
def cUp : S := (.seq (.ifs (.cmp .Gt (.ix (.var 0) (.c (.int 0))) (.c (.int 0))) (.seq (.asg (.nm 2) (.bin .Mod (.call (bi intD) (.cons (.ix (.var 0) (.c (.int 0))) .nil)) (.var 1))) (.seq (.setix (.var 0) (.c (.int 0)) (.bin .FloorDiv (.ix (.var 0) (.c (.int 0))) (.var 1))) (.seq (.ret (.var 2)) .pass))) .pass) (.seq (.setix (.var 0) (.c (.int 2)) (.bin .Add (.ix (.var 0) (.c (.int 2))) (.c (.int 1)))) (.seq (.asg (.nm 3) (.bin .Mod (.call (bi intD) (.cons (.bin .Add (.ix (.var 0) (.c (.int 1))) (.bin .Mult (.c (.int 86028157)) (.ix (.var 0) (.c (.int 2))))) .nil)) (.c (.int 2305843009213693951)))) (.seq (.asg (.nm 4) (.bin .Add (.bin .Add (.bin .Mult (.bin .Mod (.call (bi intD) (.cons (.bin .Add (.bin .Mult (.var 3) (.var 3)) (.c (.int 67867967))) .nil)) (.c (.int 2305843009213693921))) (.c (.int 15485863))) (.var 3)) (.bin .Mult (.c (.int 19)) (.ix (.var 0) (.c (.int 2)))))) (.seq (.ret (.bin .Mod (.call (bi intD) (.cons (.bin .FloorDiv (.var 4) (.c (.int 65539))) .nil)) (.var 1))) .pass)))))
theorem okP1 : okPow 10 51 = true := by decide +kernel
theorem okP2 : okPow (10 ^ 51) 8 = true := by decide +kernel
theorem okP3 : okPow 10 16 = true := by decide +kernel
theorem atI_of {ns : List Int} {n : Int} (h0 : 0 ≤ n) (h : n < ns.length) : ∃ x, atI ns n = some x := by
  have hl : n.toNat < ns.length := by omega
  refine ⟨ns[n.toNat], ?_⟩
  have := atI_nat (xs := ns) (j := n.toNat) (List.getElem?_eq_getElem hl)
  rwa [show ((n.toNat : Nat) : Int) = n by omega] at this
theorem hat_law (c : S) (hc : c = cHat) (ns : List Int) (n : Int) (st : Sto) (h0 : 0 ≤ n) (h1 : n ≤ 1000) : ∃ g s k, HatOk g s k ∧ fnM 5 2 c [.scr ns, .int n] st = .ok (.ref st.length) (st ++ [.lst [.int g, .int s, .int k]]) := by
  subst hc
  have key : ∀ cell : Int, ∃ g s k, HatOk g s k ∧ andThen (ex (.seq (.asg (.nm 3) (.bin .Mod (.call (bi intD) (.cons (.call (bi absD) (.cons (.var 2) .nil)) .nil)) (.bin .Pow (.bin .Pow (.c (.int 10)) (.c (.int 51))) (.c (.int 8))))) (.seq (.asg (.nm 4) (.call (bi intD) (.cons (.bin .Add (.bin .Add (.bin .Add (.bin .Mult (.bin .Mod (.var 3) (.c (.int 2305843009213693907))) (.c (.int 83))) (.bin .Mult (.c (.int 5261)) (.var 1))) (.bin .Mult (.c (.int 29)) (.call (bi intD) (.cons (.cmp .Lt (.var 2) (.c (.int 0))) .nil)))) (.c (.int 61))) .nil))) (.seq (.ret (.lstM (.cons (.call (bi maxD) (.cons (.c (.int 0)) (.cons (.bin .Sub (.var 3) (.bin .Pow (.c (.int 10)) (.c (.int 16)))) .nil))) (.cons (.bin .Mod (.var 4) (.c (.int 2305843009213693951))) (.cons (.c (.int 0)) .nil))))) .pass))) [some (.scr ns), some (.int n), some (.int cell), none, none]) (fun r => endD r.1) st = .ok (.ref st.length) (st ++ [.lst [.int g, .int s, .int k]]) := by
    intro cell
    have e1 : (10 : Int) ^ Int.toNat 51 = 10 ^ 51 := rfl
    have e2 : ((10 : Int) ^ 51) ^ Int.toNat 8 = 10 ^ 408 := by decide +kernel
    have e3 : (10 : Int) ^ Int.toNat 16 = 10 ^ 16 := rfl
    have hp : (0 : Int) < 10 ^ 408 := by decide +kernel
    have hp2 : (10 : Int) ^ 408 < 2 ^ 1400 := by decide +kernel
    obtain ⟨m1, m2⟩ := fmod_lt (a := if cell < 0 then -cell else cell) hp
    generalize hgr : (if cell < 0 then -cell else cell).fmod (10 ^ 408) = gr at m1 m2
    obtain ⟨a1, a2⟩ := fmod_lt (a := gr) (b := 2305843009213693907) (by decide)
    have hm1 : okMul (gr.fmod 2305843009213693907) 83 = true := okMul_r (by decide)
    have hm2 : okMul 5261 n = true := okMul_l (by decide)
    have hm3 : ∀ z : Int, okMul 29 z = true := fun z => okMul_l (by decide)
    refine ⟨if gr - 10 ^ 16 > 0 then gr - 10 ^ 16 else 0, (gr.fmod 2305843009213693907 * 83 + 5261 * n + 29 * (if decide (cell < 0) = true then 1 else 0) + 61).fmod 2305843009213693951, 0, ?_, ?_⟩
    · obtain ⟨b1, b2⟩ := fmod_lt (a := gr.fmod 2305843009213693907 * 83 + 5261 * n + 29 * (if decide (cell < 0) = true then 1 else 0) + 61) (b := 2305843009213693951) (by decide)
      refine ⟨?_, ?_, b1, by omega⟩
      · split <;> omega
      · split <;> omega
    · simp only [ex, ev, evs, T.bind, andThen_ret, optM_so, List.getElem?_cons_succ, List.getElem?_cons_zero, Option.bind_some, id, bi_eq, binM_eq, cmpM_eq, slM_eq, nr_non, nr_bl, nr_int, nr_str, nr_tup, nr_lst, nr_ty, nr_scr, nr_emp, nrs_nil, nrs_cons, Bool.and_self, Bool.and_true, bin_pow okP1, e1, bin_pow okP2, e2, bin_mod (show (10 : Int) ^ 408 ≠ 0 by decide +kernel), intD, absD, hgr, bin_mod (show (2305843009213693907 : Int) ≠ 0 by decide), bin_mul hm1, bin_mul hm2, bin_mul (hm3 _), maxD, bin_pow okP3, e3,
        bin_mod (show (2305843009213693951 : Int) ≠ 0 by decide), endD, List.set_cons_succ, List.set_cons_zero, bin_add, bin_sub, cmp_lt]
      rw [lenOk_ok (Nat.le_trans (by decide : 3 ≤ 1000000) line_big)]
      rfl
  have hm0 : okMul 311 n = true := okMul_l (by decide)
  by_cases hlt : n < ns.length
  · obtain ⟨x, hx⟩ := atI_of h0 hlt
    obtain ⟨g, s, k, hk, e⟩ := key x
    refine ⟨g, s, k, hk, ?_⟩
    rw [← e]
    unfold fnM cHat
    rw [if_pos (show [D.scr ns, D.int n].length = 2 from rfl)]
    show andThen (ex (.seq (.asg (.nm 2) _) _) [some (.scr ns), some (.int n), none, none, none]) _ st = _
    rw [show ∀ (a b : S) (e : Ev), ex (.seq a b) e = andThen (ex a e) fun r => match r.1 with | .nx => ex b r.2 | f => ret (f, r.2) from fun _ _ _ => rfl]
    have e0 : ex (.asg (.nm 2) (.ite (.cmp .Lt (.var 1) (.call (bi lenD) (.cons (.var 0) .nil))) (.call (bi intD) (.cons (.ix (.var 0) (.var 1)) .nil)) (.bin .Add (.bin .Mult (.c (.int 311)) (.var 1)) (.c (.int 47))))) [some (.scr ns), some (.int n), none, none, none] = ret (.nx, [some (.scr ns), some (.int n), some (.int x), none, none]) := by
      simp only [ex, ev, evs, T.bind, andThen_ret, optM_so, List.getElem?_cons_succ, List.getElem?_cons_zero, Option.bind_some, id, bi_eq, binM_eq, cmpM_eq, slM_eq, nr_non, nr_bl, nr_int, nr_str, nr_tup, nr_lst, nr_ty, nr_scr, nr_emp, nrs_nil, nrs_cons, Bool.and_self, Bool.and_true, lenD, cmp_lt, truthM_bl, decide_eq_true hlt, if_true, ixM_scr, hx, Option.map_some, intD, List.set_cons_succ, List.set_cons_zero]
    rw [e0, andThen_ret]
  · obtain ⟨g, s, k, hk, e⟩ := key (311 * n + 47)
    refine ⟨g, s, k, hk, ?_⟩
    rw [← e]
    unfold fnM cHat
    rw [if_pos (show [D.scr ns, D.int n].length = 2 from rfl)]
    show andThen (ex (.seq (.asg (.nm 2) _) _) [some (.scr ns), some (.int n), none, none, none]) _ st = _
    rw [show ∀ (a b : S) (e : Ev), ex (.seq a b) e = andThen (ex a e) fun r => match r.1 with | .nx => ex b r.2 | f => ret (f, r.2) from fun _ _ _ => rfl]
    have e0 : ex (.asg (.nm 2) (.ite (.cmp .Lt (.var 1) (.call (bi lenD) (.cons (.var 0) .nil))) (.call (bi intD) (.cons (.ix (.var 0) (.var 1)) .nil)) (.bin .Add (.bin .Mult (.c (.int 311)) (.var 1)) (.c (.int 47))))) [some (.scr ns), some (.int n), none, none, none] = ret (.nx, [some (.scr ns), some (.int n), some (.int (311 * n + 47)), none, none]) := by
      simp only [ex, ev, evs, T.bind, andThen_ret, optM_so, List.getElem?_cons_succ, List.getElem?_cons_zero, Option.bind_some, id, bi_eq, binM_eq, cmpM_eq, slM_eq, nr_non, nr_bl, nr_int, nr_str, nr_tup, nr_lst, nr_ty, nr_scr, nr_emp, nrs_nil, nrs_cons, Bool.and_self, Bool.and_true, lenD, cmp_lt, truthM_bl, decide_eq_false hlt, Bool.false_eq_true, if_false, bin_mul hm0, bin_add, List.set_cons_succ, List.set_cons_zero]
    rw [e0, andThen_ret]
theorem hat_len {ds : List D} {st : Sto} {P : D → Sto → Prop} {E : Str → D → Sto → Prop} (h : (mHat ds st).All P E) : ds.length = 2 := by
  revert h
  unfold mHat
  split
  · exact fun _ => rfl
  · exact fun h => False.elim h
theorem draw_len {ds : List D} {st : Sto} {P : D → Sto → Prop} {E : Str → D → Sto → Prop} (h : (mDraw ds st).All P E) : ds.length = 2 := by
  revert h
  unfold mDraw
  split
  · exact fun _ => rfl
  · exact fun h => False.elim h
theorem up_law (c : S) (hc : c = cUp) (i : Nat) (n : Int) (st : Sto) (g s k : Int) (hi : i < st.length) (h0 : 0 < n) (hn : n.natAbs.log2 < 9000) (hk : HatOk g s k) :
    ∃ j g' s' k', 0 ≤ j ∧ j < n ∧ HatOk g' s' k' ∧ fnM 5 2 c [.ref i, .int n] (st.set i (.lst [.int g, .int s, .int k])) = .ok (.int j) (st.set i (.lst [.int g', .int s', .int k'])) := by
  subst hc
  obtain ⟨g0, g1, s0, s1⟩ := hk
  have h0' : ∀ a b c : D, ixM (.ref i) (.int 0) (st.set i (.lst [a, b, c])) = .ok a (st.set i (.lst [a, b, c])) := fun a b c => by rw [ixM_ref hi]; rfl
  have h1' : ∀ a b c : D, ixM (.ref i) (.int 1) (st.set i (.lst [a, b, c])) = .ok b (st.set i (.lst [a, b, c])) := fun a b c => by rw [ixM_ref hi]; rfl
  have h2' : ∀ a b c : D, ixM (.ref i) (.int 2) (st.set i (.lst [a, b, c])) = .ok c (st.set i (.lst [a, b, c])) := fun a b c => by rw [ixM_ref hi]; rfl
  have u0 : ∀ a b c d : D, setStore (st.set i (.lst [a, b, c])) (.ref i) (.int 0) d = some (st.set i (.lst [d, b, c])) := fun a b c d => by rw [setStore_ref hi]; rfl
  have u2 : ∀ a b c d : D, setStore (st.set i (.lst [a, b, c])) (.ref i) (.int 2) d = some (st.set i (.lst [a, b, d])) := fun a b c d => by rw [setStore_ref hi]; rfl
  have hn0 : n ≠ 0 := by omega
  have hd := okDiv_of hn0 hn
  obtain ⟨m1, m2⟩ := fmod_lt (a := g) h0
  by_cases hg : 0 < g
  · refine ⟨g.fmod n, g.fdiv n, s, k, m1, m2, ⟨?_, ?_, s0, s1⟩, ?_⟩
    · rw [Int.fdiv_eq_ediv_of_nonneg _ (by omega)]; exact Int.ediv_nonneg g0 (by omega)
    · rw [Int.fdiv_eq_ediv_of_nonneg _ (by omega)]
      exact Int.lt_of_le_of_lt (Int.ediv_le_self _ g0) g1
    · unfold fnM cUp
      rw [if_pos (show [D.ref i, D.int n].length = 2 from rfl)]
      show andThen (ex _ [some (.ref i), some (.int n), none, none, none]) _ _ = _
      simp only [ex, ev, evs, T.bind, andThen_ret, optM_so, List.getElem?_cons_succ, List.getElem?_cons_zero, Option.bind_some, id, bi_eq, binM_eq, cmpM_eq, slM_eq, nr_non, nr_bl, nr_int, nr_str, nr_tup, nr_lst, nr_ty, nr_scr, nr_emp, nrs_nil, nrs_cons, Bool.and_self, Bool.and_true, andThen_at, ret_at, bind_ok, h0', h1', h2', u0, u2, cmp_gt, truthM_bl, decide_eq_true hg, if_true, intD, bin_mod hn0, bin_fdiv hd, List.set_cons_succ, List.set_cons_zero, endD]
  · obtain ⟨b1, b2⟩ := fmod_lt (a := s + 86028157 * (k + 1)) (b := 2305843009213693951) (by decide)
    generalize hv : (s + 86028157 * (k + 1)).fmod 2305843009213693951 = v at b1 b2
    generalize hw : ((v * v + 67867967).fmod 2305843009213693921 * 15485863 + v + 19 * (k + 1)).fdiv 65539 = w
    obtain ⟨m1, m2⟩ := fmod_lt (a := w) h0
    refine ⟨w.fmod n, g, s, k + 1, m1, m2, ⟨g0, g1, s0, s1⟩, ?_⟩
    have o1 : okMul 86028157 (k + 1) = true := okMul_l (by decide)
    have o2 : okMul v v = true := okMul_l (by omega)
    have o3 : ∀ z, okMul z 15485863 = true := fun z => okMul_r (by decide)
    have o4 : okMul 19 (k + 1) = true := okMul_l (by decide)
    have o5 : okDiv 65539 = true := okDiv_small (by decide) (by decide)
    unfold fnM cUp
    rw [if_pos (show [D.ref i, D.int n].length = 2 from rfl)]
    show andThen (ex _ [some (.ref i), some (.int n), none, none, none]) _ _ = _
    simp only [ex, ev, evs, T.bind, andThen_ret, optM_so, List.getElem?_cons_succ, List.getElem?_cons_zero, Option.bind_some, id, bi_eq, binM_eq, cmpM_eq, slM_eq, nr_non, nr_bl, nr_int, nr_str, nr_tup, nr_lst, nr_ty, nr_scr, nr_emp, nrs_nil, nrs_cons, Bool.and_self, Bool.and_true, andThen_at, ret_at, bind_ok, h0', h1', h2', u0, u2, cmp_gt, truthM_bl, decide_eq_false hg, Bool.false_eq_true, if_false, intD, bin_mod hn0, bin_add, bin_mul o1, hv,
      bin_mod (show (2305843009213693951 : Int) ≠ 0 by decide), bin_mul o2, bin_mod (show (2305843009213693921 : Int) ≠ 0 by decide), bin_mul (o3 _), bin_mul o4, bin_fdiv o5, hw, List.set_cons_succ, List.set_cons_zero, endD]
end Gw

set_option Elab.async false
set_option linter.all false
set_option maxRecDepth 100000
set_option maxHeartbeats 4000000
/-! Gw12: reckoning with the core, step by step. -/
namespace Gw
open PySem L2
section
variable {α β γ : Type}
theorem Tr.bind_assoc {f : α → Sto → Tr β} {g : β → Sto → Tr γ} : ∀ t : Tr α, (t.bind f).bind g = t.bind fun a s => (f a s).bind g
  | .ok a s => rfl
  | .ex x v s => rfl
  | .pick n k => by
    show Tr.pick n _ = Tr.pick n _
    congr 1
    funext i
    exact Tr.bind_assoc (k i)
  | .bad => rfl
theorem andThen_assoc (m : M α) (f : α → M β) (g : β → M γ) : andThen (andThen m f) g = andThen m fun x => andThen (f x) g := by
  funext s
  exact Tr.bind_assoc (m s)
def slotM (o : Option (Option D)) : M D := optM (o.bind id)
theorem slotM_so (d : D) : slotM (some (some d)) = ret d := (rfl)
def nxt (b : S) : Fl × Ev → M (Fl × Ev) := fun r => match r.1 with
  | .nx => ex b r.2
  | f => ret (f, r.2)
theorem ex_seq (a b : S) (e : Ev) : ex (.seq a b) e = andThen (ex a e) (nxt b) := (rfl)
theorem nxt_nx (b : S) (e : Ev) : nxt b (.nx, e) = ex b e := (rfl)
theorem nxt_rt (b : S) (d : D) (e : Ev) : nxt b (.rt d, e) = ret (.rt d, e) := (rfl)
theorem nxt_ct (b : S) (e : Ev) : nxt b (.ct, e) = ret (.ct, e) := (rfl)
theorem nxt_bk (b : S) (e : Ev) : nxt b (.bk, e) = ret (.bk, e) := (rfl)
def brn (t u : S) (e : Ev) (x : D) : M (Fl × Ev) := andThen (truthM x) fun k => if k = true then ex t e else ex u e
theorem ex_ifs (c : E) (t u : S) (e : Ev) : ex (.ifs c t u) e = andThen (ev c e) (brn t u e) := (rfl)
theorem brn_t (t u : S) (e : Ev) : brn t u e (.bl true) = ex t e := (rfl)
theorem brn_f (t u : S) (e : Ev) : brn t u e (.bl false) = ex u e := (rfl)
theorem brn_b (t u : S) (e : Ev) (b : Bool) : brn t u e (.bl b) = if b = true then ex t e else ex u e := (rfl)
theorem ex_pass (e : Ev) : ex .pass e = ret (.nx, e) := (rfl)
theorem ex_brk (e : Ev) : ex .brk e = ret (.bk, e) := (rfl)
theorem ex_cnt (e : Ev) : ex .cnt e = ret (.ct, e) := (rfl)
theorem ex_ret (a : E) (e : Ev) : ex (.ret a) e = andThen (ev a e) fun x => ret (.rt x, e) := (rfl)
theorem ex_expr (a : E) (e : Ev) : ex (.expr a) e = andThen (ev a e) fun _ => ret (.nx, e) := (rfl)
def bndM (o : Option Ev) : M (Fl × Ev) := match o with
  | some e => ret (.nx, e)
  | none => badM
theorem bndM_so (e : Ev) : bndM (some e) = ret (.nx, e) := (rfl)
theorem ex_asg (g : T) (a : E) (e : Ev) : ex (.asg g a) e = andThen (ev a e) fun x => bndM (g.bind x e) := (rfl)
theorem ex_par (i j : Nat) (a b : E) (e : Ev) : ex (.par i j a b) e = andThen (ev a e) fun x => andThen (ev b e) fun y => ret (.nx, (e.set i (some x)).set j (some y)) := (rfl)
theorem ex_aug (i : Nat) (o : Operator) (a : E) (e : Ev) : ex (.aug i o a) e = andThen (slotM (e[i]?)) fun x => andThen (ev a e) fun y => andThen (optM (augD o x y)) fun z => ret (.nx, e.set i (some z)) := (rfl)
/-- walks without a guard -/
def forGo0 (g : T) (b : Ev → M (Fl × Ev)) : List D → Ev → M (Fl × Ev)
  | [], e => Gw.ret (.nx, e)
  | x :: xs, e => match g.bind x e with
    | none => badM
    | some e' => andThen (b e') fun r => match r.1 with
      | .nx => forGo0 g b xs r.2
      | .ct => forGo0 g b xs r.2
      | .bk => Gw.ret (.nx, r.2)
      | .rt d => Gw.ret (.rt d, r.2)
theorem chk_nil {α : Type} (m : M α) : chk [] m = m := rfl
theorem forGo_0 (g : T) (b : Ev → M (Fl × Ev)) : ∀ (xs : List D) (e : Ev), forGo g b [] xs e = forGo0 g b xs e
  | [], e => rfl
  | x :: xs, e => by
    unfold forGo forGo0
    rw [chk_nil]
    cases g.bind x e with
    | none => rfl
    | some e' =>
      show andThen (b e') _ = andThen (b e') _
      congr 1
      funext r
      obtain ⟨f, e2⟩ := r
      cases f with
      | nx => exact forGo_0 g b xs e2
      | ct => exact forGo_0 g b xs e2
      | bk => rfl
      | rt d => rfl
def lcGo0 (f : D → M (Option D)) : List D → List D → M (List D)
  | acc, [] => ret acc
  | acc, x :: xs => andThen (f x) fun o => match o with
    | some y => if acc.length < sizeLine then lcGo0 f (acc ++ [y]) xs else badM
    | none => lcGo0 f acc xs
theorem lcGo_0 (f : D → M (Option D)) : ∀ (acc xs : List D), lcGo f [] acc xs = lcGo0 f acc xs
  | acc, [] => rfl
  | acc, x :: xs => by
    unfold lcGo lcGo0
    rw [chk_nil]
    congr 1
    funext o
    cases o with
    | none => exact lcGo_0 f acc xs
    | some y =>
      show (if acc.length < sizeLine then lcGo f [] (acc ++ [y]) xs else badM) = _
      rw [lcGo_0 f (acc ++ [y]) xs]
def forP (g : T) (b : Ev → M (Fl × Ev)) (e : Ev) (p : List D × Gd) : M (Fl × Ev) := forGo g b p.2 p.1 e
theorem forP_nil (g : T) (b : Ev → M (Fl × Ev)) (e : Ev) (xs : List D) : forP g b e (xs, []) = forGo0 g b xs e := forGo_0 g b xs e
theorem ex_for (g : T) (it : E) (b : S) (e : Ev) : ex (.for_ g it b) e = andThen (evi it e) (forP g (ex b) e) := (rfl)
def lcP (f : D → M (Option D)) (p : List D × Gd) : M D := andThen (lcGo f p.2 [] p.1) fun ys => ret (.lst ys)
theorem lcP_nil (f : D → M (Option D)) (xs : List D) : lcP f (xs, []) = andThen (lcGo0 f [] xs) fun ys => ret (.lst ys) := by
  unfold lcP
  rw [lcGo_0]
theorem lsM_tup (xs : List D) : lsM (.tup xs) = ret (xs, []) := (rfl)
theorem lsM_lst (xs : List D) : lsM (.lst xs) = ret (xs, []) := (rfl)
theorem zipM_tup (xs ys : List D) : zipM (.tup xs) (.tup ys) = ret (zipL xs ys, []) := (rfl)
theorem zipM_lst (xs ys : List D) : zipM (.lst xs) (.lst ys) = ret (zipL xs ys, []) := (rfl)
theorem enuM_lst (xs : List D) : enuM (.lst xs) = ret (enuL xs, []) := (rfl)
theorem endD_nx : endD .nx = ret .non := (rfl)
theorem endD_rt (d : D) : endD (.rt d) = ret d := (rfl)
theorem bind_nm (i : Nat) (d : D) (e : Ev) : (T.nm i).bind d e = some (e.set i (some d)) := (rfl)
theorem bind_nil (e : Ev) : T.nil.bind (.tup []) e = some e := (rfl)
theorem bind_cons (t ts : T) (x : D) (xs : List D) (e : Ev) : (T.cons t ts).bind (.tup (x :: xs)) e = (t.bind x e).bind fun e' => ts.bind (.tup xs) e' := (rfl)
/-! expressions -/
theorem ev_var (i : Nat) (e : Ev) : ev (.var i) e = slotM (e[i]?) := (rfl)
theorem ev_c (d : D) (e : Ev) : ev (.c d) e = ret d := (rfl)
theorem ev_bin (o : Operator) (a b : E) (e : Ev) : ev (.bin o a b) e = andThen (ev a e) fun x => andThen (ev b e) fun y => binM o x y := (rfl)
theorem ev_neg (a : E) (e : Ev) : ev (.neg a) e = andThen (ev a e) fun x => optM (negD x) := (rfl)
theorem ev_cmp (o : CmpOp) (a b : E) (e : Ev) : ev (.cmp o a b) e = andThen (ev a e) fun x => andThen (ev b e) fun y => cmpM o x y := (rfl)
def chn (p : CmpOp) (c : E) (e : Ev) (y z : D) : M D := match z with
  | .bl true => andThen (ev c e) fun w => cmpM p y w
  | .bl false => ret (.bl false)
  | _ => badM
theorem chn_t (p : CmpOp) (c : E) (e : Ev) (y : D) : chn p c e y (.bl true) = andThen (ev c e) fun w => cmpM p y w := (rfl)
theorem chn_f (p : CmpOp) (c : E) (e : Ev) (y : D) : chn p c e y (.bl false) = ret (.bl false) := (rfl)
theorem ev_chain (o p : CmpOp) (a b c : E) (e : Ev) : ev (.chain o p a b c) e = andThen (ev a e) fun x => andThen (ev b e) fun y => andThen (cmpM o x y) (chn p c e y) := (rfl)
def andC (b : E) (e : Ev) (x : D) : M D := andThen (truthM x) fun t => if t = true then ev b e else ret x
def orC (b : E) (e : Ev) (x : D) : M D := andThen (truthM x) fun t => if t = true then ret x else ev b e
def iteC (a b : E) (e : Ev) (x : D) : M D := andThen (truthM x) fun t => if t = true then ev a e else ev b e
theorem ev_and (a b : E) (e : Ev) : ev (.and_ a b) e = andThen (ev a e) (andC b e) := (rfl)
theorem ev_or (a b : E) (e : Ev) : ev (.or_ a b) e = andThen (ev a e) (orC b e) := (rfl)
theorem ev_ite (c a b : E) (e : Ev) : ev (.ite c a b) e = andThen (ev c e) (iteC a b e) := (rfl)
theorem and_t (b : E) (e : Ev) : andC b e (.bl true) = ev b e := (rfl)
theorem and_f (b : E) (e : Ev) : andC b e (.bl false) = ret (.bl false) := (rfl)
theorem or_t (b : E) (e : Ev) : orC b e (.bl true) = ret (.bl true) := (rfl)
theorem or_f (b : E) (e : Ev) : orC b e (.bl false) = ev b e := (rfl)
theorem ite_t (a b : E) (e : Ev) : iteC a b e (.bl true) = ev a e := (rfl)
theorem ite_f (a b : E) (e : Ev) : iteC a b e (.bl false) = ev b e := (rfl)
theorem ev_not (a : E) (e : Ev) : ev (.not_ a) e = andThen (ev a e) fun x => andThen (truthM x) fun t => ret (.bl (!t)) := (rfl)
theorem ev_tup (es : E) (e : Ev) : ev (.tup es) e = andThen (evs es e) fun xs => andThen (lenOk xs) fun xs => ret (.tup xs) := (rfl)
theorem ev_lst (es : E) (e : Ev) : ev (.lst es) e = andThen (evs es e) fun xs => andThen (lenOk xs) fun xs => ret (.lst xs) := (rfl)
theorem ev_ix (a i : E) (e : Ev) : ev (.ix a i) e = andThen (ev a e) fun x => andThen (ev i e) fun k => ixM x k := (rfl)
theorem ev_sl (a l h : E) (e : Ev) : ev (.sl a l h) e = andThen (ev a e) fun x => andThen (ev l e) fun l => andThen (ev h e) fun h => slM x l h := (rfl)
def intM : D → M D
  | .int i => ret (.int i)
  | _ => badM
theorem intM_int (i : Int) : intM (.int i) = ret (.int i) := (rfl)
theorem ev_int (a : E) (e : Ev) : ev (.int_ a) e = andThen (ev a e) intM := (rfl)
def lcF (own : List Nat) (g : T) (cnd elt : E) (e : Ev) (x : D) : M (Option D) := match g.bind x (wipeE e own) with
  | none => badM
  | some e' => andThen (noXM (andThen (ev cnd e') truthM)) fun t => if t = true then andThen (noXM (ev elt e')) fun y => ret (some y) else ret none
theorem ev_lc (own : List Nat) (g : T) (it cnd elt : E) (e : Ev) : ev (.lc own g it cnd elt) e = andThen (evi it e) (lcP (lcF own g cnd elt e)) := (rfl)
theorem ev_dnew (e : Ev) : ev .dnew e = ret .emp := (rfl)
theorem ev_call (f : List D → M D) (es : E) (e : Ev) : ev (.call f es) e = andThen (evs es e) f := (rfl)
theorem evs_nil (e : Ev) : evs .nil e = ret [] := (rfl)
theorem evs_cons (a es : E) (e : Ev) : evs (.cons a es) e = andThen (ev a e) fun x => andThen (evs es e) fun xs => ret (x :: xs) := (rfl)
theorem evs_star (a es : E) (e : Ev) : evs (.star a es) e = andThen (ev a e) fun x => andThen (optM (itemsD x)) fun ys => andThen (evs es e) fun xs => ret (ys ++ xs) := (rfl)
theorem evi_it1 (a : E) (e : Ev) : evi (.it1 a) e = andThen (ev a e) lsM := (rfl)
theorem evi_rng1 (a : E) (e : Ev) : evi (.rng1 a) e = andThen (ev a e) fun x => andThen (optM (rngD [x])) fun xs => ret (xs, []) := (rfl)
theorem evi_rng2 (a b : E) (e : Ev) : evi (.rng2 a b) e = andThen (ev a e) fun x => andThen (ev b e) fun y => andThen (optM (rngD [x, y])) fun xs => ret (xs, []) := (rfl)
theorem evi_zip (a b : E) (e : Ev) : evi (.zip a b) e = andThen (ev a e) fun x => andThen (ev b e) fun y => zipM x y := (rfl)
theorem evi_enum (a : E) (e : Ev) : evi (.enum a) e = andThen (ev a e) enuM := (rfl)
/-! sizes -/
theorem lenOk_small {xs : List D} (h : xs.length ≤ 1000000) : lenOk xs = ret xs := lenOk_ok (Nat.le_trans h line_big)
theorem lenOk0 : lenOk [] = ret [] := lenOk_small (Nat.zero_le _)
theorem lenOk1 (a : D) : lenOk [a] = ret [a] := lenOk_small (by show 1 ≤ _; decide)
theorem lenOk2 (a b : D) : lenOk [a, b] = ret [a, b] := lenOk_small (by show 2 ≤ _; decide)
theorem lenOk3 (a b c : D) : lenOk [a, b, c] = ret [a, b, c] := lenOk_small (by show 3 ≤ _; decide)
/-- a walk without effect -/
theorem lcGo_map {f : D → M (Option D)} {g : D → D} : ∀ (xs acc : List D), (∀ x ∈ xs, f x = ret (some (g x))) → acc.length + xs.length ≤ sizeLine → lcGo0 f acc xs = ret (acc ++ xs.map g)
  | [], acc, _, _ => by simp [lcGo0]
  | x :: xs, acc, h, hl => by
    have hl2 : acc.length < sizeLine := by
      rw [List.length_cons] at hl
      omega
    show andThen (f x) _ = _
    rw [h x (List.mem_cons_self), andThen_ret]
    show (if acc.length < sizeLine then lcGo0 f (acc ++ [g x]) xs else badM) = _
    rw [if_pos hl2, lcGo_map xs (acc ++ [g x]) (fun y hy => h y (List.mem_cons_of_mem _ hy)) (by
      rw [List.length_append, List.length_cons, List.length_nil]
      rw [List.length_cons] at hl
      omega), List.append_assoc]
    rfl
theorem fn1 (n : Nat) (b : S) (x : D) : fnM n 1 b [x] = andThen (ex b (startE n [x])) fun r => endD r.1 := (rfl)
theorem fn2 (n : Nat) (b : S) (x y : D) : fnM n 2 b [x, y] = andThen (ex b (startE n [x, y])) fun r => endD r.1 := (rfl)
theorem fn3 (n : Nat) (b : S) (x y z : D) : fnM n 3 b [x, y, z] = andThen (ex b (startE n [x, y, z])) fun r => endD r.1 := (rfl)
theorem fn4 (n : Nat) (b : S) (x y z w : D) : fnM n 4 b [x, y, z, w] = andThen (ex b (startE n [x, y, z, w])) fun r => endD r.1 := (rfl)
/-! comparisons -/
theorem beq_dec (a b : Int) : (a == b) = decide (a = b) := by
  by_cases h : a = b
  · rw [decide_eq_true h, beq_iff_eq]; exact h
  · rw [decide_eq_false h]; exact beq_eq_false_iff_ne.mpr h
theorem eqv_int (a b : Int) : D.eq? (.int a) (.int b) = some (decide (a = b)) := by
  have : D.eq? (.int a) (.int b) = some (PyData.eqv (.int a) (.int b)) := rfl
  rw [this]
  simp [PyData.eqv, beq_dec]
theorem cmp_eq_int (a b : Int) : cmpD .Eq (.int a) (.int b) = some (.bl (decide (a = b))) := by
  unfold cmpD
  simp only [eqv_int, Option.map_some]
theorem cmp_ne_int (a b : Int) : cmpD .NotEq (.int a) (.int b) = some (.bl (!decide (a = b))) := by
  unfold cmpD
  simp only [eqv_int, Option.map_some]
theorem cmp_eq_bl (a b : Bool) : cmpD .Eq (.bl a) (.bl b) = some (.bl (decide (a = b))) := by cases a <;> cases b <;> rfl
theorem cmp_ne_bl (a b : Bool) : cmpD .NotEq (.bl a) (.bl b) = some (.bl (!decide (a = b))) := by cases a <;> cases b <;> rfl
theorem abs_eq (x : Int) : (if x < 0 then -x else x) = (x.natAbs : Int) := by split <;> omega
theorem absD_int (i : Int) : absD [.int i] = some (.int (i.natAbs : Int)) := by
  show some (D.int (if i < 0 then -i else i)) = _
  rw [abs_eq]
theorem intD_int (i : Int) : intD [.int i] = some (.int i) := (rfl)
theorem lenD_tup (xs : List D) : lenD [.tup xs] = some (.int (xs.length : Nat)) := (rfl)
theorem lenD_lst (xs : List D) : lenD [.lst xs] = some (.int (xs.length : Nat)) := (rfl)
theorem lenD_scr (xs : List Int) : lenD [.scr xs] = some (.int (xs.length : Nat)) := (rfl)
theorem items_tup (xs : List D) : itemsD (.tup xs) = some xs := (rfl)
theorem items_lst (xs : List D) : itemsD (.lst xs) = some xs := (rfl)
theorem tupD_lst (xs : List D) : tupleD [.lst xs] = some (.tup xs) := (rfl)
theorem tupD_tup (xs : List D) : tupleD [.tup xs] = some (.tup xs) := (rfl)
/-- every way ends well -/
structure OkM {α : Type} (m : M α) (st : Sto) (P : α → Sto → Prop) (E : Str → D → Sto → Prop) : Prop where
  all : (m st).All P E
section
variable {α : Type} {P : α → Sto → Prop} {E : Str → D → Sto → Prop} {st : Sto}
theorem OkM.ret {a : α} (h : P a st) : OkM (ret a) st P E := ⟨h⟩
theorem OkM.mono {P' : α → Sto → Prop} {E' : Str → D → Sto → Prop} {m : M α} (h : OkM m st P E) (hP : ∀ a s, P a s → P' a s) (hE : ∀ x v s, E x v s → E' x v s) : OkM m st P' E' := ⟨Tr.All_mono hP hE _ h.all⟩
theorem OkM.then {γ : Type} {m : M γ} {f : γ → M α} (h : OkM m st (fun a s => OkM (f a) s P E) E) : OkM (andThen m f) st P E :=
  ⟨(Tr.All_bind _).mpr (Tr.All_mono (fun _ _ z => z.all) (fun _ _ _ z => z) _ h.all)⟩
end
/-! loops -/
/-- a for's turns keep what is said -/
theorem forGo_all {g : T} {b : Ev → M (Fl × Ev)} {I : Ev → Sto → Prop} {P : Fl × Ev → Sto → Prop} {E : Str → D → Sto → Prop} : ∀ (xs : List D) (e : Ev) (st : Sto),
    (∀ x ∈ xs, ∀ e st, I e st → ∃ e', g.bind x e = some e' ∧ OkM (b e') st (fun r st' => match r.1 with
      | .nx => I r.2 st'
      | .ct => I r.2 st'
      | .bk => P (.nx, r.2) st'
      | .rt d => P (.rt d, r.2) st') E) → (∀ e st, I e st → P (.nx, e) st) → I e st → OkM (forGo0 g b xs e) st P E
  | [], e, st, _, hP, hI => ⟨hP e st hI⟩
  | x :: xs, e, st, h, hP, hI => by
    obtain ⟨e', h1, h2⟩ := h x (List.mem_cons_self) e st hI
    unfold forGo0
    rw [h1]
    refine OkM.then (OkM.mono h2 (fun r st' hr => ?_) (fun _ _ _ z => z))
    obtain ⟨fl, e2⟩ := r
    cases fl with
    | nx => exact forGo_all xs e2 st' (fun y hy => h y (List.mem_cons_of_mem _ hy)) hP hr
    | ct => exact forGo_all xs e2 st' (fun y hy => h y (List.mem_cons_of_mem _ hy)) hP hr
    | bk => exact ⟨hr⟩
    | rt d => exact ⟨hr⟩
theorem forGo_nil (g : T) (b : Ev → M (Fl × Ev)) (e : Ev) : forGo0 g b [] e = ret (.nx, e) := (rfl)
def forK (g : T) (b : Ev → M (Fl × Ev)) (xs : List D) (r : Fl × Ev) : M (Fl × Ev) := match r.1 with
  | .nx => forGo0 g b xs r.2
  | .ct => forGo0 g b xs r.2
  | .bk => ret (.nx, r.2)
  | .rt d => ret (.rt d, r.2)
theorem forGo_cons {g : T} {b : Ev → M (Fl × Ev)} {x : D} {xs : List D} {e e' : Ev} (h : g.bind x e = some e') : forGo0 g b (x :: xs) e = andThen (b e') (forK g b xs) := by
  show (match g.bind x e with
    | none => badM
    | some e' => andThen (b e') (forK g b xs)) = _
  rw [h]
/-- every turn goes on, with no effect but on the slots -/
theorem forGo_ret {g : T} {b : Ev → M (Fl × Ev)} {I : Ev → Prop} : ∀ (xs : List D) (e : Ev), (∀ x ∈ xs, ∀ e, I e → ∃ e' e2, g.bind x e = some e' ∧ b e' = ret (.nx, e2) ∧ I e2) → I e → ∃ e2, I e2 ∧ forGo0 g b xs e = ret (.nx, e2)
  | [], e, _, hI => ⟨e, hI, rfl⟩
  | x :: xs, e, h, hI => by
    obtain ⟨e', e2, h1, h2, h3⟩ := h x (List.mem_cons_self) e hI
    obtain ⟨e3, h4, h5⟩ := forGo_ret xs e2 (fun y hy => h y (List.mem_cons_of_mem _ hy)) h3
    refine ⟨e3, h4, ?_⟩
    rw [forGo_cons h1, h2, andThen_ret]
    exact h5
def whlB (c : Ev → M Bool) (b : Ev → M (Fl × Ev)) (n : Nat) (e : Ev) (t : Bool) : M (Fl × Ev) := if t = true then andThen (b e) (fun r => match r.1 with
      | .nx => whlGo c b n r.2
      | .ct => whlGo c b n r.2
      | .bk => Gw.ret (.nx, r.2)
      | .rt d => Gw.ret (.rt d, r.2)) else ret (.nx, e)
theorem whl_stop {c : Ev → M Bool} {b : Ev → M (Fl × Ev)} {n : Nat} {e : Ev} (h : c e = ret false) : whlGo c b (n + 1) e = ret (.nx, e) := by
  show andThen (c e) _ = _
  rw [h]
  rfl
theorem whl_go {c : Ev → M Bool} {b : Ev → M (Fl × Ev)} {n : Nat} {e e' : Ev} (h : c e = ret true) (h2 : b e = ret (.nx, e')) : whlGo c b (n + 1) e = whlGo c b n e' := by
  show andThen (c e) _ = _
  rw [h, andThen_ret]
  show andThen (b e) _ = _
  rw [h2]
  rfl
theorem ex_whl (n : Nat) (c : E) (b : S) (e : Ev) : ex (.whl n c b) e = whlGo (fun e => andThen (ev c e) truthM) (ex b) n e := (rfl)
theorem range_mem {a b : Int} {x : D} (h : x ∈ rangeD a b) : ∃ k : Int, x = .int k ∧ a ≤ k ∧ k < b := by
  unfold rangeD at h
  obtain ⟨j, h1, rfl⟩ := List.mem_map.mp h
  have := List.mem_range.mp h1
  exact ⟨_, rfl, by omega, by omega⟩
theorem rng1_ok {b : Int} (h : 0 ≤ b) (h2 : b < 1000000) : rngD [.int b] = some (rangeD 0 b) := if_pos (by
  unfold okRng
  simp only [Bool.and_eq_true, decide_eq_true_eq]
  omega)
theorem rng2_ok {a b : Int} (h : -1000000 ≤ a) (h1 : a < 1000000) (h2 : b < 1000000) (h3 : -1000000 ≤ b) : rngD [.int a, .int b] = some (rangeD a b) := if_pos (by
  unfold okRng
  simp only [Bool.and_eq_true, decide_eq_true_eq]
  omega)
/-! draws -/
section
variable {P : β → Sto → Prop} {E : Str → D → Sto → Prop} {st : Sto} {i : Nat}
theorem draw_all {n : Int} {f : D → M β} (hs : st[i]? = some .hat) (h0 : 0 < n) (h1 : n.natAbs < 2 ^ 64) (h : ∀ k : Nat, (k : Int) < n → OkM (f (.int k)) st P E) : OkM (andThen (mDraw [.ref i, .int n]) f) st P E := by
  have h2 : n.natAbs.log2 < 9000 := by
    have := (Nat.log2_lt (by omega)).mpr h1
    omega
  have e : mDraw [.ref i, .int n] st = .pick n.toNat fun k => .ok (.int (k : Nat)) st := by
    show (if n.natAbs.log2 < 9000 then mUp [.ref i, .int n] st else Tr.bad) = _
    rw [if_pos h2]
    show (match st[i]? with
      | some .hat => if 0 < n then (Tr.pick n.toNat fun k => Tr.ok (.int (k : Nat)) st : Tr D) else Tr.bad
      | _ => Tr.bad) = _
    rw [hs]
    exact if_pos h0
  refine ⟨?_⟩
  rw [andThen_at, e]
  exact fun k hk => (h k (by omega)).all
theorem hat_all {ns : List Int} {k : Int} {f : D → M β} (h0 : 0 ≤ k) (h1 : k ≤ 1000) (h : OkM (f (.ref st.length)) (st ++ [.hat]) P E) : OkM (andThen (mHat [.scr ns, .int k]) f) st P E := by
  have e : mHat [.scr ns, .int k] st = .ok (.ref st.length) (st ++ [.hat]) := if_pos ⟨h0, h1⟩
  refine ⟨?_⟩
  rw [andThen_at, e]
  exact h.all
def cOut : S := (.seq (.ret (.ix (.var 1) (.call mDraw (.cons (.var 0) (.cons (.call (bi lenD) (.cons (.var 1) .nil)) .nil))))) .pass)
def mOut : List D → M D := fnM 2 2 cOut
theorem out_lst (i : Nat) (xs : List D) : mOut [.ref i, .lst xs] = andThen (mDraw [.ref i, .int xs.length]) fun k => ixM (.lst xs) k := by
  show andThen (ex cOut [some (.ref i), some (.lst xs)]) _ = _
  unfold cOut
  simp only [ex_seq, ex_ret, ev_ix, ev_var, ev_call, evs_cons, evs_nil, bi_eq, binM_eq, cmpM_eq, slM_eq, nr_non, nr_bl, nr_int, nr_str, nr_tup, nr_lst, nr_ty, nr_scr, nr_emp, nrs_nil, nrs_cons, Bool.and_self, Bool.and_true, lenD, andThen_ret, andThen_assoc, optM_so, List.getElem?_cons_succ, List.getElem?_cons_zero, slotM_so, nxt_rt, endD_rt]
  congr 1
  funext k
  funext s
  show (ixM (.lst xs) k s).bind _ = _
  cases ixM (.lst xs) k s <;> first | rfl | skip
  rename_i n t
  show Tr.pick n _ = _
  congr 1
  funext j
  have : ∀ t : Tr D, t.bind (fun d s => Tr.ok d s) = t := by
    intro t
    induction t with
    | ok a s => rfl
    | ex x v s => rfl
    | pick n k ih => exact congrArg (Tr.pick n) (funext ih)
    | bad => rfl
  exact this (t j)
theorem out_all {xs : List D} {f : D → M β} (hs : st[i]? = some .hat) (h0 : 0 < xs.length) (h1 : xs.length < 2 ^ 64) (h : ∀ x ∈ xs, OkM (f x) st P E) : OkM (andThen (mOut [.ref i, .lst xs]) f) st P E := by
  rw [out_lst, andThen_assoc]
  refine draw_all hs (by omega) (by omega) fun k hk => ?_
  rw [ixM_lst]
  have hk' : k < xs.length := by omega
  have e : atI xs (k : Int) = some xs[k] := atI_nat (List.getElem?_eq_getElem hk')
  rw [e, optM_so, andThen_ret]
  exact h _ (List.getElem_mem hk')
end
end
end Gw

set_option Elab.async false
set_option linter.all false
set_option maxRecDepth 100000
set_option maxHeartbeats 4000000
/-! Gw13: comprehensions with draws, equal values, sums. -/
namespace Gw
open PySem L2
/-! equal to itself -/
mutual
def D.shp : D → Nat → Bool
  | .non, _ => true
  | .bl _, _ => true
  | .int _, _ => true
  | .str x, _ => PyData.canLay0 (.str x)
  | .tup xs, n => match n with
    | 0 => false
    | n + 1 => D.shps xs n
  | .lst xs, n => match n with
    | 0 => false
    | n + 1 => D.shps xs n
  | _, _ => false
def D.shps : List D → Nat → Bool
  | [], _ => true
  | x :: xs, n => D.shp x n && D.shps xs n
end
mutual
theorem shp_data : ∀ (d : D) (n : Nat), d.shp n = true → ∃ p, d.data = some p ∧ p.canLay0 = true ∧ p.depth ≤ n
  | .non, n, _ => ⟨_, rfl, rfl, Nat.zero_le _⟩
  | .bl _, n, _ => ⟨_, rfl, rfl, Nat.zero_le _⟩
  | .int _, n, _ => ⟨_, rfl, rfl, Nat.zero_le _⟩
  | .str x, n, h => ⟨.str x, rfl, by
      have : PyData.canLay0 (.str x) = true := h
      exact this, Nat.zero_le _⟩
  | .tup xs, 0, h => by cases h
  | .tup xs, n + 1, h => by
    obtain ⟨p, h1, h2, h3⟩ := shps_data xs n h
    refine ⟨.tuple p, ?_, h2, ?_⟩
    · show (D.datas xs).map _ = _
      rw [h1]
      rfl
    · simp only [PyData.depth]; omega
  | .lst xs, 0, h => by cases h
  | .lst xs, n + 1, h => by
    obtain ⟨p, h1, h2, h3⟩ := shps_data xs n h
    refine ⟨.list p, ?_, h2, ?_⟩
    · show (D.datas xs).map _ = _
      rw [h1]
      rfl
    · simp only [PyData.depth]; omega
  | .emp, _, h | .ref _, _, h | .fn _, _, h | .ty _, _, h | .scr _, _, h => by cases h
theorem shps_data : ∀ (ds : List D) (n : Nat), D.shps ds n = true → ∃ p, D.datas ds = some p ∧ PyData.canLayAll0 p = true ∧ PyData.depthAll p ≤ n
  | [], n, _ => ⟨[], rfl, rfl, Nat.zero_le _⟩
  | x :: xs, n, h => by
    obtain ⟨h1, h2⟩ := Bool.and_eq_true_iff.mp (show (D.shp x n && D.shps xs n) = true from h)
    obtain ⟨p, a1, a2, a3⟩ := shp_data x n h1
    obtain ⟨q, b1, b2, b3⟩ := shps_data xs n h2
    refine ⟨p :: q, ?_, ?_, ?_⟩
    · show (D.data x).bind _ = _
      rw [a1]
      show (D.datas xs).map _ = _
      rw [b1]
      rfl
    · simp only [PyData.canLayAll0, a2, b2, Bool.and_self]
    · simp only [PyData.depthAll]; omega
end
theorem eq_self_of {d : D} (h : d.shp 64 = true) : d.eq? d = some true := by
  obtain ⟨p, h1, h2, h3⟩ := shp_data d 64 h
  have hs : SeqAt.shaped p = true := Bool.and_eq_true_iff.mpr ⟨h2, decide_eq_true h3⟩
  unfold D.eq?
  rw [h1]
  dsimp only
  rw [hs, SeqAt.eqv_refl p h2]
  rfl
theorem cmp_eq_self {d : D} (h : d.shp 64 = true) : cmpD .Eq d d = some (.bl true) := by
  show (D.eq? d d).map D.bl = _
  rw [eq_self_of h]
  rfl
theorem cmp_ne_self {d : D} (h : d.shp 64 = true) : cmpD .NotEq d d = some (.bl false) := by
  have : cmpD .NotEq d d = (D.eq? d d).map fun b => .bl (!b) := by unfold cmpD; rfl
  rw [this, eq_self_of h]
  rfl
theorem shps_map {α : Type} {f : α → D} {n : Nat} : ∀ {xs : List α}, (∀ x ∈ xs, (f x).shp n = true) → D.shps (xs.map f) n = true
  | [], _ => rfl
  | x :: xs, h => Bool.and_eq_true_iff.mpr ⟨h x (List.mem_cons_self), shps_map fun y hy => h y (List.mem_cons_of_mem _ hy)⟩
theorem shp_mono : ∀ (d : D) (n m : Nat), n ≤ m → d.shp n = true → d.shp m = true := by
  intro d
  have all : (∀ d : D, ∀ n m : Nat, n ≤ m → d.shp n = true → d.shp m = true) := by
    intro d n
    induction n generalizing d with
    | zero =>
      intro m hm h
      cases d <;> first | rfl | (simpa [D.shp] using h) | cases h
    | succ n ih =>
      intro m hm h
      cases m with
      | zero => omega
      | succ m =>
        have key : ∀ xs : List D, D.shps xs n = true → D.shps xs m = true := by
          intro xs
          induction xs with
          | nil => exact fun _ => rfl
          | cons x xs ihx =>
            intro hh
            obtain ⟨a, b⟩ := Bool.and_eq_true_iff.mp (show (D.shp x n && D.shps xs n) = true from hh)
            exact Bool.and_eq_true_iff.mpr ⟨ih x m (by omega) a, ihx b⟩
        cases d <;> first | rfl | (exact key _ h) | (simpa [D.shp] using h) | cases h
  exact all d
/-- a list, a tuple beside the empty one -/
theorem eq_nil_lst {xs : List D} (h : D.shps xs 63 = true) : cmpD .Eq (.lst xs) (.lst []) = some (.bl xs.isEmpty) := by
  show (D.eq? (.lst xs) (.lst [])).map D.bl = _
  obtain ⟨p, h1, h2, h3⟩ := shp_data (.lst xs) 64 h
  have hs : SeqAt.shaped p = true := Bool.and_eq_true_iff.mpr ⟨h2, decide_eq_true h3⟩
  unfold D.eq?
  rw [h1, show (D.lst []).data = some (.list []) from rfl]
  dsimp only
  rw [hs, show SeqAt.shaped (.list []) = true from by decide]
  have h1' : (D.datas xs).map PyData.list = some p := h1
  obtain ⟨ps, a, rfl⟩ := Option.map_eq_some_iff.mp h1'
  cases xs with
  | nil => cases a; rfl
  | cons x xs =>
    have a' : (D.data x).bind (fun d => (D.datas xs).map fun ds => d :: ds) = some ps := a
    obtain ⟨d, b1, b2⟩ := Option.bind_eq_some_iff.mp a'
    obtain ⟨ds, b3, rfl⟩ := Option.map_eq_some_iff.mp b2
    simp [PyData.eqv, PyData.eqvAll]
theorem eq_nil_tup {xs : List D} (h : D.shps xs 63 = true) : cmpD .Eq (.tup xs) (.tup []) = some (.bl xs.isEmpty) := by
  show (D.eq? (.tup xs) (.tup [])).map D.bl = _
  obtain ⟨p, h1, h2, h3⟩ := shp_data (.tup xs) 64 h
  have hs : SeqAt.shaped p = true := Bool.and_eq_true_iff.mpr ⟨h2, decide_eq_true h3⟩
  unfold D.eq?
  rw [h1, show (D.tup []).data = some (.tuple []) from rfl]
  dsimp only
  rw [hs, show SeqAt.shaped (.tuple []) = true from by decide]
  have h1' : (D.datas xs).map PyData.tuple = some p := h1
  obtain ⟨ps, a, rfl⟩ := Option.map_eq_some_iff.mp h1'
  cases xs with
  | nil => cases a; rfl
  | cons x xs =>
    have a' : (D.data x).bind (fun d => (D.datas xs).map fun ds => d :: ds) = some ps := a
    obtain ⟨d, b1, b2⟩ := Option.bind_eq_some_iff.mp a'
    obtain ⟨ds, b3, rfl⟩ := Option.map_eq_some_iff.mp b2
    simp [PyData.eqv, PyData.eqvAll]
/-! what is drawn inside a comprehension -/
section
variable {α : Type} {P : α → Sto → Prop} {E : Str → D → Sto → Prop} {st : Sto}
theorem noX_all : ∀ t : Tr α, t.All P (fun _ _ _ => False) → t.noX.All P E
  | .ok a s, h => h
  | .ex x v s, h => h.elim
  | .pick n k, h => fun i hi => noX_all (k i) (h i hi)
  | .bad, h => h
theorem OkM.noX {m : M α} (h : OkM m st P (fun _ _ _ => False)) : OkM (noXM m) st P E := ⟨noX_all _ h.all⟩
end
/-- place by place -/
def All2 {α β : Type} (R : α → β → Prop) : List α → List β → Prop
  | [], [] => True
  | x :: xs, z :: zs => R x z ∧ All2 R xs zs
  | _, _ => False
theorem All2.len {α β : Type} {R : α → β → Prop} : ∀ {xs : List α} {zs : List β}, All2 R xs zs → zs.length = xs.length
  | [], [], _ => rfl
  | _ :: _, _ :: _, h => by rw [List.length_cons, List.length_cons, All2.len h.2]
  | [], _ :: _, h => h.elim
  | _ :: _, [], h => h.elim
theorem All2.mem {α β : Type} {R : α → β → Prop} : ∀ {xs : List α} {zs : List β}, All2 R xs zs → ∀ z ∈ zs, ∃ x ∈ xs, R x z
  | [], [], _, z, hz => by cases hz
  | x :: xs, y :: zs, h, z, hz => by
    rcases List.mem_cons.mp hz with rfl | hz
    · exact ⟨x, List.mem_cons_self, h.1⟩
    · obtain ⟨x', h1, h2⟩ := All2.mem h.2 z hz
      exact ⟨x', List.mem_cons_of_mem _ h1, h2⟩
  | [], _ :: _, h, _, _ => h.elim
  | _ :: _, [], h, _, _ => h.elim
theorem lcGo_all {f : D → M (Option D)} {Pr : D → D → Prop} {E : Str → D → Sto → Prop} {st : Sto} : ∀ (xs acc : List D), (∀ x ∈ xs, OkM (f x) st (fun o s => s = st ∧ ∃ y, o = some y ∧ Pr x y) E) → acc.length + xs.length ≤ sizeLine →
    OkM (lcGo0 f acc xs) st (fun ys s => s = st ∧ ∃ zs, ys = acc ++ zs ∧ All2 Pr xs zs) E
  | [], acc, _, _ => ⟨⟨rfl, [], by simp, trivial⟩⟩
  | x :: xs, acc, h, hl => by
    have hl2 : acc.length < sizeLine := by
      rw [List.length_cons] at hl
      omega
    show OkM (andThen (f x) _) st _ _
    refine OkM.then (OkM.mono (h x (List.mem_cons_self)) (fun o s ho => ?_) (fun _ _ _ z => z))
    obtain ⟨rfl, y, rfl, hy⟩ := ho
    show OkM (if acc.length < sizeLine then lcGo0 f (acc ++ [y]) xs else badM) s _ _
    rw [if_pos hl2]
    refine OkM.mono (lcGo_all xs (acc ++ [y]) (fun z hz => h z (List.mem_cons_of_mem _ hz)) (by
      rw [List.length_append, List.length_cons, List.length_nil]
      rw [List.length_cons] at hl
      omega)) (fun ys s' hs => ?_) (fun _ _ _ z => z)
    obtain ⟨rfl, zs, rfl, hz⟩ := hs
    exact ⟨rfl, y :: zs, by simp, hy, hz⟩
theorem OkM.use {α γ : Type} {m : M γ} {f : γ → M α} {st : Sto} {p : γ → Prop} {P : α → Sto → Prop} {E : Str → D → Sto → Prop} (h : OkM m st (fun d s => s = st ∧ p d) fun _ _ _ => False) (k : ∀ d, p d → OkM (f d) st P E) : OkM (andThen m f) st P E :=
  OkM.then (OkM.mono h (fun d s hd => hd.1 ▸ k d hd.2) (fun _ _ _ z => z.elim))
theorem bind_retr {α : Type} : ∀ t : Tr α, t.bind (fun d s => Tr.ok d s) = t
  | .ok a s => rfl
  | .ex x v s => rfl
  | .pick n k => congrArg (Tr.pick n) (funext fun i => bind_retr (k i))
  | .bad => rfl
theorem andThen_retr {α : Type} (m : M α) : andThen m ret = m := funext fun s => bind_retr (m s)
theorem fun_of {β : Type} (mk : β → D) (d : β) {p : β → Prop} {zs : List D} {n : Nat} (hl : zs.length = n) (h : ∀ z ∈ zs, ∃ b, z = mk b ∧ p b) : ∃ F : Nat → β, zs = (List.range n).map (fun i => mk (F i)) ∧ ∀ i, i < n → p (F i) := by
  refine ⟨fun i => if hi : i < zs.length then Classical.choose (h zs[i] (List.getElem_mem hi)) else d, ?_, fun i hi => ?_⟩
  · refine List.ext_getElem (by simp [hl]) fun i h1 h2 => ?_
    rw [List.getElem_map, List.getElem_range]
    dsimp only
    rw [dif_pos h1]
    exact (Classical.choose_spec (h zs[i] (List.getElem_mem h1))).1
  · dsimp only
    rw [dif_pos (by omega)]
    exact (Classical.choose_spec (h zs[i] (List.getElem_mem (by omega)))).2
theorem bind_consl (t ts : T) (x : D) (xs : List D) (e : Ev) : (T.cons t ts).bind (.lst (x :: xs)) e = (t.bind x e).bind fun e' => ts.bind (.tup xs) e' := (rfl)
/-- a comprehension of draws over a range -/
theorem lc_draw {β : Type} (mk : β → D) (d : β) {p : β → Prop} {F : D → M (Option D)} {a : Nat → D} {n : Nat} {st : Sto} (hn : n ≤ 1000000) (h : ∀ i, i < n → OkM (F (a i)) st (fun o s => s = st ∧ ∃ y, o = some y ∧ ∃ b, y = mk b ∧ p b) fun _ _ _ => False) :
    OkM (lcGo0 F [] ((List.range n).map a)) st (fun ys s => s = st ∧ ∃ G : Nat → β, ys = (List.range n).map (fun i => mk (G i)) ∧ ∀ i, i < n → p (G i)) fun _ _ _ => False := by
  refine OkM.mono (lcGo_all (Pr := fun _ y => ∃ b, y = mk b ∧ p b) _ _ (fun x hx => ?_) ?_) (fun ys s hs => ?_) (fun _ _ _ z => z)
  · obtain ⟨i, hi, rfl⟩ := List.mem_map.mp hx
    exact h i (List.mem_range.mp hi)
  · rw [List.length_map, List.length_range, List.length_nil]
    exact Nat.le_trans (by omega) line_big
  · obtain ⟨rfl, zs, rfl, hz⟩ := hs
    have hl := hz.len
    rw [List.length_map, List.length_range] at hl
    exact ⟨rfl, fun_of mk d hl fun z hz' => let ⟨_, _, q⟩ := hz.mem z hz'; q⟩
/-! sums -/
def sm (n : Nat) (f : Nat → Int) : Int := ((List.range n).map f).sum
theorem sm_zero (f : Nat → Int) : sm 0 f = 0 := rfl
theorem sm_succ (n : Nat) (f : Nat → Int) : sm (n + 1) f = sm n f + f n := by
  unfold sm
  rw [List.range_succ, List.map_append, List.sum_append]
  simp
theorem sm_congr {n : Nat} {f g : Nat → Int} (h : ∀ i, i < n → f i = g i) : sm n f = sm n g := by
  unfold sm
  rw [List.map_congr_left fun i hi => h i (List.mem_range.mp hi)]
theorem sm_nil (n : Nat) : sm n (fun _ => 0) = 0 := by
  induction n with
  | zero => rfl
  | succ n ih => rw [sm_succ, ih]; rfl
theorem sm_add (n : Nat) (f g : Nat → Int) : sm n (fun i => f i + g i) = sm n f + sm n g := by
  induction n with
  | zero => rfl
  | succ n ih => rw [sm_succ, sm_succ, sm_succ, ih]; omega
theorem sm_mul (n : Nat) (f : Nat → Int) (a : Int) : sm n (fun i => a * f i) = a * sm n f := by
  induction n with
  | zero => simp [sm_zero]
  | succ n ih => rw [sm_succ, sm_succ, ih, Int.mul_add]
theorem sm_mul' (n : Nat) (f : Nat → Int) (a : Int) : sm n (fun i => f i * a) = sm n f * a := by
  rw [Int.mul_comm, ← sm_mul]
  exact sm_congr fun i _ => Int.mul_comm _ _
theorem sm_swap (n m : Nat) (f : Nat → Nat → Int) : sm n (fun i => sm m fun j => f i j) = sm m fun j => sm n fun i => f i j := by
  induction n with
  | zero =>
    rw [sm_zero]
    exact (sm_nil m).symm
  | succ n ih =>
    rw [sm_succ, ih, ← sm_add]
    exact sm_congr fun j _ => (sm_succ n _).symm
theorem sm_pick {n k : Nat} (h : k < n) (f : Nat → Int) : sm n (fun i => (if k = i then 1 else 0) * f i) = f k := by
  induction n with
  | zero => omega
  | succ n ih =>
    rw [sm_succ]
    by_cases e : k = n
    · subst e
      rw [if_pos rfl, sm_congr (g := fun _ => 0) fun i hi => ?_, sm_nil]
      · omega
      · rw [if_neg (by omega)]; omega
    · rw [if_neg e, ih (by omega)]; omega
theorem sm_bound {n : Nat} {f : Nat → Int} {B : Nat} (h : ∀ i, i < n → (f i).natAbs ≤ B) : (sm n f).natAbs ≤ n * B := by
  induction n with
  | zero => simp [sm_zero]
  | succ n ih =>
    rw [sm_succ]
    have h1 := ih fun i hi => h i (by omega)
    have h2 := h n (by omega)
    have h3 : (n + 1) * B = n * B + B := Nat.succ_mul n B
    omega
theorem sum_range (n : Nat) (f : Nat → Int) : D.ints ((List.range n).map fun j => D.int (f j)) = some ((List.range n).map f) := by
  have := ints_map ((List.range n).map f)
  rwa [List.map_map] at this
theorem okMul_big {a b : Int} (ha : a.natAbs < 2 ^ 200) (hb : b.natAbs < 2 ^ 200) : okMul a b = true := by
  have l : ∀ n : Nat, n < 2 ^ 200 → n.log2 < 200 := fun n hn => by
    by_cases h0 : n = 0
    · subst h0; decide
    · exact (Nat.log2_lt h0).mpr hn
  have h1 := l _ ha
  have h2 := l _ hb
  unfold okMul
  rw [decide_eq_true (show a.natAbs.log2 + b.natAbs.log2 < 1000000 by omega), Bool.or_true]
/-! comprehensions over ranges -/
def lcC (elt : E) (e : Ev) (t : Bool) : M (Option D) := if t = true then andThen (noXM (ev elt e)) fun y => ret (some y) else ret none
def lcB (cnd elt : E) (o : Option Ev) : M (Option D) := match o with
  | none => badM
  | some e' => andThen (noXM (andThen (ev cnd e') truthM)) (lcC elt e')
theorem lcF_eq (own : List Nat) (g : T) (cnd elt : E) (e : Ev) (x : D) : lcF own g cnd elt e x = lcB cnd elt (g.bind x (wipeE e own)) := by
  unfold lcF lcB
  cases g.bind x (wipeE e own) <;> rfl
theorem lcB_so (cnd elt : E) (e : Ev) : lcB cnd elt (some e) = andThen (noXM (andThen (ev cnd e) truthM)) (lcC elt e) := (rfl)
theorem lcC_t (elt : E) (e : Ev) : lcC elt e true = andThen (noXM (ev elt e)) fun y => ret (some y) := (rfl)
theorem lcC_f (elt : E) (e : Ev) : lcC elt e false = ret none := (rfl)
theorem lc_two {ι : Type} {F : D → M (Option D)} {a b : ι → D} : ∀ (l : List ι) (acc : List D), (∀ i ∈ l, F (a i) = ret (some (b i))) → acc.length + l.length ≤ sizeLine → lcGo0 F acc (l.map a) = ret (acc ++ l.map b)
  | [], acc, _, _ => by simp [lcGo0]
  | i :: l, acc, h, hl => by
    have hl2 : acc.length < sizeLine := by
      rw [List.length_cons] at hl
      omega
    show andThen (F (a i)) _ = _
    rw [h i List.mem_cons_self, andThen_ret]
    show (if acc.length < sizeLine then lcGo0 F (acc ++ [b i]) (l.map a) else badM) = _
    rw [if_pos hl2, lc_two l (acc ++ [b i]) (fun j hj => h j (List.mem_cons_of_mem _ hj)) (by
      rw [List.length_append, List.length_cons, List.length_nil]
      rw [List.length_cons] at hl
      omega), List.append_assoc]
    rfl
theorem lc_rng {F : D → M (Option D)} {a : Nat → D} (b : Nat → D) {n : Nat} (h : ∀ i, i < n → F (a i) = ret (some (b i))) (hn : n ≤ 1000000) : lcGo0 F [] ((List.range n).map a) = ret ((List.range n).map b) := by
  have := lc_two (F := F) (a := a) (b := b) (List.range n) [] (fun i hi => h i (List.mem_range.mp hi)) (by
    rw [List.length_range, List.length_nil]
    exact Nat.le_trans (by omega) line_big)
  rwa [List.nil_append] at this
theorem zip_rng {a b : Nat → D} (n : Nat) : zipD [.tup ((List.range n).map a), .tup ((List.range n).map b)] = some ((List.range n).map fun i => .tup [a i, b i]) := by
  show some (List.map _ (List.zip ((List.range n).map a) ((List.range n).map b))) = _
  rw [List.zip_map']
  congr 1
  rw [List.map_map]
  rfl
theorem ix_rng {a : Nat → D} {n j : Nat} (h : j < n) : ixM (.tup ((List.range n).map a)) (.int (j : Nat)) = ret (a j) := by
  rw [ixM_tup, atI_nat (v := a j)]
  · rfl
  · rw [List.getElem?_map, List.getElem?_range h]
    rfl
theorem rng_nat {n : Nat} (h : n < 1000000) : rngD [.int (n : Nat)] = some ((List.range n).map fun i => .int (i : Nat)) := by
  rw [rng1_ok (by omega) (by omega)]
  congr 1
  unfold rangeD
  rw [Int.sub_zero, Int.toNat_natCast]
  refine List.map_congr_left fun i _ => ?_
  rw [Int.zero_add]
theorem all_true (n : Nat) : allD [.lst ((List.range n).map fun _ => .bl true)] = some (.bl true) := by
  show (D.bools _).map _ = _
  have := bools_map ((List.range n).map fun _ => true)
  rw [List.map_map] at this
  rw [show ((List.range n).map fun _ => D.bl true) = (List.range n).map (D.bl ∘ fun _ => true) from rfl, this]
  show some (D.bl _) = _
  congr 2
  simp
theorem sum_sm (n : Nat) (f : Nat → Int) : sumD [.lst ((List.range n).map fun j => .int (f j))] = some (.int (sm n f)) := by
  show (D.ints _).map _ = _
  rw [sum_range]
  rfl
theorem atI0 (a : D) (l : List D) : atI (a :: l) 0 = some a := atI_nat (j := 0) rfl
theorem atI1 (a b : D) (l : List D) : atI (a :: b :: l) 1 = some b := atI_nat (j := 1) rfl
theorem atI2 (a b c : D) (l : List D) : atI (a :: b :: c :: l) 2 = some c := atI_nat (j := 2) rfl
theorem nc0 : ((0 : Nat) : Int) = 0 := (rfl)
theorem nc1 : ((1 : Nat) : Int) = 1 := (rfl)
theorem nc2 : ((2 : Nat) : Int) = 2 := (rfl)
theorem nc3 : ((3 : Nat) : Int) = 3 := (rfl)
theorem nc4 : ((4 : Nat) : Int) = 4 := (rfl)
theorem nc5 : ((5 : Nat) : Int) = 5 := (rfl)
theorem nc6 : ((6 : Nat) : Int) = 6 := (rfl)
theorem nc7 : ((7 : Nat) : Int) = 7 := (rfl)
theorem nc8 : ((8 : Nat) : Int) = 8 := (rfl)
theorem nc9 : ((9 : Nat) : Int) = 9 := (rfl)
/-- rows and grids by functions -/
abbrev rowR (n : Nat) (f : Nat → Int) : D := .tup ((List.range n).map fun j => .int (f j))
abbrev rowsR (h w : Nat) (f : Nat → Nat → Int) : D := .tup ((List.range h).map fun i => rowR w (f i))
abbrev gridR (h w : Nat) (f : Nat → Nat → Int) : D := .tup [.int (w : Nat), rowsR h w f]
theorem row_congr {n : Nat} {f g : Nat → Int} (h : ∀ j, j < n → f j = g j) : rowR n f = rowR n g := by
  unfold rowR
  rw [List.map_congr_left fun j hj => by rw [h j (List.mem_range.mp hj)]]
theorem rows_congr {a w : Nat} {f g : Nat → Nat → Int} (h : ∀ i j, i < a → j < w → f i j = g i j) : rowsR a w f = rowsR a w g := by
  unfold rowsR
  rw [List.map_congr_left fun i hi => row_congr fun j hj => h i j (List.mem_range.mp hi) hj]
theorem grid_congr {a w : Nat} {f g : Nat → Nat → Int} (h : ∀ i j, i < a → j < w → f i j = g i j) : gridR a w f = gridR a w g := by
  unfold gridR
  rw [rows_congr h]
def jn {α : Type} (n : Nat) (a b : Nat → α) (j : Nat) : α := if j < n then a j else b (j - n)
theorem rng_app {α : Type} (n m : Nat) (a b : Nat → α) : (List.range n).map a ++ (List.range m).map b = (List.range (n + m)).map (jn n a b) := by
  rw [List.range_add, List.map_append]
  congr 1
  · refine List.map_congr_left fun i hi => ?_
    unfold jn
    rw [if_pos (List.mem_range.mp hi)]
  · rw [List.map_map]
    refine List.map_congr_left fun i hi => ?_
    show _ = jn n a b (n + i)
    unfold jn
    rw [if_neg (by omega), Nat.add_sub_cancel_left]
theorem jn_map {α β : Type} (F : α → β) (n : Nat) (a b : Nat → α) (j : Nat) : jn n (fun i => F (a i)) (fun i => F (b i)) j = F (jn n a b j) := by
  unfold jn
  split <;> rfl
theorem row_app (n m : Nat) (f g : Nat → Int) : (List.range n).map (fun j => D.int (f j)) ++ (List.range m).map (fun j => D.int (g j)) = (List.range (n + m)).map fun j => D.int (jn n f g j) := by
  rw [rng_app]
  exact List.map_congr_left fun i _ => jn_map D.int n f g i
theorem rows_app (n m w : Nat) (f g : Nat → Nat → Int) : (List.range n).map (fun i => rowR w (f i)) ++ (List.range m).map (fun i => rowR w (g i)) = (List.range (n + m)).map fun i => rowR w (jn n f g i) := by
  rw [rng_app]
  exact List.map_congr_left fun i _ => jn_map (rowR w) n f g i
/-- a for over a range, turn by turn -/
theorem forGo_rng {g : T} {b : Ev → M (Fl × Ev)} {a : Nat → D} {I : Nat → Ev → Prop} : ∀ (n : Nat) (e : Ev), I 0 e → (∀ i e, i < n → I i e → ∃ e' e2, g.bind (a i) e = some e' ∧ b e' = ret (.nx, e2) ∧ I (i + 1) e2) →
    ∃ e2, I n e2 ∧ forGo0 g b ((List.range n).map a) e = ret (.nx, e2) := by
  intro n e h0 h
  have key : ∀ (k : Nat) (i : Nat) (e : Ev), i + k = n → I i e → ∃ e2, I n e2 ∧ forGo0 g b ((List.range k).map fun j => a (i + j)) e = ret (.nx, e2) := by
    intro k
    induction k with
    | zero =>
      intro i e hi hI
      rw [Nat.add_zero] at hi
      subst hi
      exact ⟨e, hI, rfl⟩
    | succ k ih =>
      intro i e hi hI
      obtain ⟨e', e2, h1, h2, h3⟩ := h i e (by omega) hI
      obtain ⟨e3, h4, h5⟩ := ih (i + 1) e2 (by omega) h3
      refine ⟨e3, h4, ?_⟩
      rw [List.range_succ_eq_map, List.map_cons, forGo_cons (e' := e') (by rw [Nat.add_zero]; exact h1), h2, andThen_ret, List.map_map]
      rw [← h5]
      show forGo0 g b _ e2 = _
      congr 1
      refine List.map_congr_left fun j _ => ?_
      show a (i + (j + 1)) = a (i + 1 + j)
      congr 1
      omega
  have := key n 0 e (by omega) h0
  simpa using this
theorem row_shp (n : Nat) (f : Nat → Int) : (rowR n f).shp 64 = true := shps_map (n := 63) fun _ _ => rfl
theorem row_shp1 (n k : Nat) (f : Nat → Int) : (rowR n f).shp (k + 1) = true := shps_map (n := k) fun _ _ => rfl
theorem grid_shp (h w : Nat) (f : Nat → Nat → Int) : (gridR h w f).shp 64 = true := by
  show (true && ((D.shps ((List.range h).map fun i => rowR w (f i)) 62) && true)) = true
  rw [shps_map (n := 62) fun i _ => row_shp1 w 61 (f i)]
  rfl
end Gw

set_option Elab.async false
set_option linter.all false
set_option maxRecDepth 100000
set_option maxHeartbeats 2000000
/-! Gy1: what a handler returns; the defs that call what they get and answer errors. -/
namespace Gw
open PySem PySem.Spec PyProof.Rows L2 LamX
mutual
/-- en: the name of the error -/
def compH (en : Option Str) (fr : List Str) (sc : Scope) : Nat → Expr → Option HE
  | 0, _ => none
  | n + 1, .Constant (.int i) _ _ => some (.c (.int i))
  | n + 1, .Constant (.str i) _ _ => some (.c (.str i))
  | n + 1, .Constant (.bool i) _ _ => some (.c (.bl i))
  | n + 1, .Constant .none _ _ => some (.c .non)
  | n + 1, .Attribute (.Name x _) f _ => if en = some x then some (.fld f) else none
  | n + 1, .Call (.Name f _) [e] [] _ => if f = "repr" && gloB sc f && fr.contains f && plainE e then (compH en fr sc n e).map .repr else none
  | n + 1, .BinOp a .Add b _ => (compH en fr sc n a).bind fun x => (compH en fr sc n b).map fun y => .add x y
  | n + 1, .Tuple es _ _ => (compHs en fr sc n es).map .tup
  | _, _ => none
def compHs (en : Option Str) (fr : List Str) (sc : Scope) : Nat → List Expr → Option HE
  | 0, _ => none
  | n + 1, [] => some .nil
  | n + 1, e :: es => if plainE e then (compH en fr sc n e).bind fun x => (compHs en fr sc n es).map fun y => .cons x y else none
end
abbrev NX : Str → D → Sto → Prop := fun _ _ _ => False
/-- the reading of a handler's expression; p: what is known of the error -/
def tH (G : Glo) (p : Mp → Hp → Option Str → D → Prop) (sl : L2.St → Prop) (h : HE) : TE := fun σ H Q => sl σ ∧ ∃ μ st xf v, STR G μ st H ∧ p μ H xf v ∧ (heM xf v h st).All (KE G (Rep G) μ H Q) NX
def tHs (G : Glo) (p : Mp → Hp → Option Str → D → Prop) (sl : L2.St → Prop) (h : HE) : TA := fun σ H Q => sl σ ∧ ∃ μ st xf v, STR G μ st H ∧ p μ H xf v ∧ (heMs xf v h st).All (KE G (Reps G) μ H Q) NX
def HStay (G : Glo) (p : Mp → Hp → Option Str → D → Prop) : Prop := ∀ μ st H μ1 H1 xf v, STR G μ st H → Gr μ H μ1 H1 → p μ H xf v → p μ1 H1 xf v
section
variable {G : Glo} {p : Mp → Hp → Option Str → D → Prop} {sl : L2.St → Prop} {γ δ : Type} {R' : Mp → Hp → γ → δ → Prop} {h : HE} {σ : L2.St} {H : Hp} {μ : Mp} {s : Sto} {xf : Option Str} {v : D} {Q : δ → Hp → Prop}
theorem tH_then {f : D → Sto → Tr γ} {P' : VK} (hp : HStay G p) (hs : sl σ) (t : STR G μ s H) (q : p μ H xf v) (hA : ((heM xf v h s).bind f).All (KE G R' μ H Q) NX)
    (k : ∀ μ1 H1 d st1 x, Gr μ H μ1 H1 → STR G μ1 st1 H1 → p μ1 H1 xf v → Rep G μ1 H1 d x → (f d st1).All (KE G R' μ1 H1 Q) NX → P' x H1) : tH G p sl h σ H P' :=
  ⟨hs, μ, s, xf, v, t, q, Tr.All_mono (fun d st1 z μ1 H1 x g t1 r => k μ1 H1 d st1 x g t1 (hp _ _ _ _ _ _ _ t g q) r (Tr.All_mono (fun _ _ z => KE.gr g z) (fun _ _ _ z => z) _ z)) (fun _ _ _ z => z) _ ((Tr.All_bind _).mp hA)⟩
theorem tHs_then {f : List D → Sto → Tr γ} {P' : List V → Hp → Prop} (hp : HStay G p) (hs : sl σ) (t : STR G μ s H) (q : p μ H xf v) (hA : ((heMs xf v h s).bind f).All (KE G R' μ H Q) NX)
    (k : ∀ μ1 H1 d st1 x, Gr μ H μ1 H1 → STR G μ1 st1 H1 → p μ1 H1 xf v → Reps G μ1 H1 d x → (f d st1).All (KE G R' μ1 H1 Q) NX → P' x H1) : tHs G p sl h σ H P' :=
  ⟨hs, μ, s, xf, v, t, q, Tr.All_mono (fun d st1 z μ1 H1 x g t1 r => k μ1 H1 d st1 x g t1 (hp _ _ _ _ _ _ _ t g q) r (Tr.All_mono (fun _ _ z => KE.gr g z) (fun _ _ _ z => z) _ z)) (fun _ _ _ z => z) _ ((Tr.All_bind _).mp hA)⟩
end
section
variable {G : Glo} {Y : Cx} {p : Mp → Hp → Option Str → D → Prop} {sl : L2.St → Prop} {en : Option Str} {fr : List Str}
theorem hcon_ok {d : D} {v : V} {e : Expr} (h : PE Y e (tC v)) (r : ∀ μ H, Rep G μ H d v) : PE Y e (tH G p sl (.c d)) := by
  refine PE.conv h fun σ H Q hh => ?_
  obtain ⟨_, μ, st, xf, w, t, _, hA⟩ := hh
  exact (show KE G (Rep G) μ H Q d st from hA).here t (r μ H)
theorem boot_repr_ : bootBuiltins "repr" = some (.builtin "repr") := by decide +kernel
theorem h_ok (hK : G.K = Y.K) (hmg : G.mg = Y.mg) (hq : Quiet Y.A) (hu : Y.A.units + 64 < cLine) (hf : ∀ x ∈ fr, Y.mg x = none) (hp : HStay G p)
    (hfld : ∀ x f p1 p2, en = some x → PE Y (.Attribute (.Name x p1) f p2) (tH G p sl (.fld f))) :
    ∀ n, (∀ e c, compH en fr Y.env.scope n e = some c → PE Y e (tH G p sl c)) ∧ (∀ es c, compHs en fr Y.env.scope n es = some c → PA Y es (tHs G p sl c))
  | 0 => ⟨fun _ _ h => (by cases h), fun _ _ h => (by cases h)⟩
  | n + 1 => by
    obtain ⟨ih1, ih2⟩ := h_ok hK hmg hq hu hf hp hfld n
    refine ⟨fun e c h => ?_, fun es c h => ?_⟩
    · cases e <;> try (cases h; done)
      case Constant k j pos =>
        cases k <;> first | (cases h; done) | skip
        · cases h; exact hcon_ok pe_non fun _ _ => .non
        · cases h; exact hcon_ok pe_bl fun _ _ => .bl _
        · cases h; exact hcon_ok pe_int fun _ _ => .int _
        · cases h; exact hcon_ok pe_str fun _ _ => .str _
      case Attribute a f pos =>
        cases a <;> try (cases h; done)
        rename_i x p1
        have h' : (if en = some x then some (HE.fld f) else none) = some c := h
        obtain ⟨h1, rfl⟩ := if_some h'
        exact hfld x f p1 pos h1
      case Tuple es k pos =>
        have h' : (compHs en fr Y.env.scope n es).map HE.tup = some c := h
        obtain ⟨x, h1, rfl⟩ := mm h'
        refine PE.conv (pe_tup (ih2 es x h1)) fun σ H Q hh => ?_
        obtain ⟨hs, μ, st, xf, w, t, q, hA⟩ := hh
        refine tHs_then hp hs t q hA fun μ1 H1 ds st1 vs g1 t1 q1 r1 hA1 => ?_
        have hA2 : ((lenOk ds st1).bind fun xs s => .ok (D.tup xs) s).All (KE G (Rep G) μ1 H1 Q) NX := hA1
        unfold lenOk at hA2
        split at hA2
        · rename_i hz
          exact ⟨by rw [← r1.length]; exact hz, fun p hp => KE.tup (show KE G (Rep G) μ1 H1 Q (.tup ds) st1 from hA2) t1 r1 hp⟩
        · exact hA2.elim
      case BinOp a o b pos =>
        cases o <;> first | (cases h; done) | skip
        have h' : ((compH en fr Y.env.scope n a).bind fun x => (compH en fr Y.env.scope n b).map fun y => HE.add x y) = some c := h
        obtain ⟨x, h1, h2⟩ := bb h'
        obtain ⟨y, h3, rfl⟩ := mm h2
        refine PE.conv (pe_op (bin_ok hK .Add) (ih1 a x h1) (ih1 b y h3)) fun σ H Q hh => ?_
        obtain ⟨hs, μ, st, xf, w, t, q, hA⟩ := hh
        have hA' : ((heM xf w x st).bind fun u s => ((heM xf w y s).bind fun u' s' => optM (binD .Add u u') s')).All (KE G (Rep G) μ H Q) NX := hA
        refine tH_then hp hs t q hA' fun μ1 H1 d1 st1 v1 g1 t1 q1 r1 hA1 => ?_
        refine tH_then hp hs t1 q1 hA1 fun μ2 H2 d2 st2 v2 g2 t2 q2 r2 hA2 => ?_
        obtain ⟨z, hz, k⟩ := optM_some hA2
        exact ⟨μ2, st2, _, _, z, t2, .rep (r1.gr g2), .rep r2, hz, k⟩
      case Call f as ks pos =>
        cases f <;> try (cases h; done)
        rename_i f p1
        match as, ks with
        | [e], [] =>
          have h' : (if f = "repr" && gloB Y.env.scope f && fr.contains f && plainE e then (compH en fr Y.env.scope n e).map HE.repr else none) = some c := h
          split at h'
          case isFalse => cases h'
          rename_i hc
          simp only [Bool.and_eq_true, decide_eq_true_eq] at hc
          obtain ⟨⟨⟨rfl, c2⟩, c3⟩, c4⟩ := hc
          obtain ⟨x, h1, rfl⟩ := mm h'
          have hg : Gl Y "repr" := by
            unfold gloB at c2
            split at c2
            · rename_i e'; exact e'
            · cases c2
          refine PE.conv (pe_callB (repr_ok hK hq hu) hg (hf _ (by simpa using c3)) boot_repr_ (pa_cons (ih1 e x h1) pa_nil (star_of c4)) (by decide) (by decide) (star_of c4) rfl) fun σ H Q hh => ?_
          obtain ⟨hs, μ, st, xf, w, t, q, hA⟩ := hh
          have hA' : ((heM xf w x st).bind fun u s => optM (reprD [u]) s).All (KE G (Rep G) μ H Q) NX := hA
          refine tH_then hp hs t q hA' fun μ1 H1 d1 st1 v1 g1 t1 q1 r1 hA1 => ?_
          obtain ⟨z, hz, k⟩ := optM_some hA1
          exact ⟨μ1, st1, [d1], z, t1, .cons (.rep r1) .nil, hz, k⟩
        | [], _ => cases ks <;> cases h
        | _ :: _ :: _, _ => cases ks <;> cases h
        | [e], _ :: _ => cases h
    · cases es with
      | nil =>
        cases h
        refine PA.conv pa_nil fun σ H Q hh => ?_
        obtain ⟨_, μ, st, xf, w, t, _, hA⟩ := hh
        exact (show KE G (Reps G) μ H Q [] st from hA).here t .nil
      | cons e es =>
        have h' : (if plainE e then (compH en fr Y.env.scope n e).bind fun x => (compHs en fr Y.env.scope n es).map fun y => HE.cons x y else none) = some c := h
        split at h'
        case isFalse => cases h'
        rename_i hc
        obtain ⟨x, h1, h2⟩ := bb h'
        obtain ⟨y, h3, rfl⟩ := mm h2
        refine PA.conv (pa_cons (ih1 e x h1) (ih2 es y h3) (star_of hc)) fun σ H Q hh => ?_
        obtain ⟨hs, μ, st, xf, w, t, q, hA⟩ := hh
        have hA' : ((heM xf w x st).bind fun u s => ((heMs xf w y s).bind fun us s' => .ok (u :: us) s')).All (KE G (Reps G) μ H Q) NX := hA
        refine tH_then hp hs t q hA' fun μ1 H1 d1 st1 v1 g1 t1 q1 r1 hA1 => ?_
        refine tHs_then hp hs t1 q1 hA1 fun μ2 H2 d2 st2 v2 g2 t2 q2 r2 hA2 => ?_
        exact (show KE G (Reps G) μ2 H2 Q (d1 :: d2) st2 from hA2).here t2 (.cons (r1.gr g2) r2)
end
end Gw

set_option Elab.async false
set_option linter.all false
set_option maxRecDepth 100000
set_option maxHeartbeats 2000000
/-! Gy2: a def that calls what it got and answers errors. -/
namespace Gw
open PySem PySem.Spec PyProof.Rows L2 LamX
/-- an except clause, as the text has it: the class, the error's name, what comes back -/
structure Cl where
  x : Str
  o : Option Str
  h : HE
def compCl (N : List Str) (fr : List Str) (sc : Scope) (n : Nat) : ExceptHandler → Option Cl
  | .ExceptHandler (some (.Name x _)) o [.Return (some e) _] _ => if gloB sc x && nmOk x && (match o with
      | none => true
      | some y => decide (sc.names.lookup y = some .local) && (slotOf N y).isSome && nmOk y) then (compH o fr sc n e).map fun h => ⟨x, o, h⟩ else none
  | _ => none
def compCls (N : List Str) (fr : List Str) (sc : Scope) (n : Nat) : List ExceptHandler → Option (List Cl)
  | [] => some []
  | h :: r => (compCl N fr sc n h).bind fun c => (compCls N fr sc n r).map fun l => c :: l
def metC (N : List Str) (fr : List Str) (sc : Scope) (a : Str) (n : Nat) : List Stmt → Option (List Cl × Option HE)
  | [.Try [.Expr (.Call (.Name b _) [] [] _) _] (h :: hds) [] [] _, .Return (some e) _] => if b = a then (compCls N fr sc n (h :: hds)).bind fun l => (compH none fr sc n e).map fun z => (l, some z) else none
  | [.Try [.Return (some (.Call (.Name b _) [] [] _)) _] (h :: hds) [] [] _] => if b = a then (compCls N fr sc n (h :: hds)).map fun l => (l, none) else none
  | _ => none
theorem ite_some {α : Type} {c : Prop} [Decidable c] {a : Option α} {z : α} (h : (if c then a else none) = some z) : c ∧ a = some z := by
  split at h
  · rename_i hc; exact ⟨hc, h⟩
  · cases h
/-- what is known of a clause's classes -/
structure ClOk (K : PySem.W.Frag) (mg : Str → Option Value) (G : Glo) (c : Cl) (h : Hd) : Prop where
  eq : h.h = c.h
  C : ∃ C, mg c.x = some (.ref C) ∧ (∀ y f, (y, f) ∈ h.yes → G.fld y = f ∧ ∃ B, mg y = some (.ref B) ∧ PySem.W.exmOne K (.ref B) (.ref C) = some true ∧ ∀ g, f = some g → XfC K B ∧ PySem.W.findIn K (.ref B) g = some none) ∧
    ∀ y ∈ h.no, ∃ B, mg y = some (.ref B) ∧ PySem.W.exmOne K (.ref B) (.ref C) = some false
theorem RepX.gr {G : Glo} {μ μ1 : Mp} {H H1 : Hp} {st : Sto} {x : Str} {v : D} {cls : Value} {d : Option Addr} (t : STR G μ st H) (g : Gr μ H μ1 H1) (r : RepX G μ H x v cls d) : RepX G μ1 H1 x v cls d := by
  obtain ⟨C, h1, h2, h3⟩ := r
  refine ⟨C, h1, h2, ?_⟩
  cases hf : G.fld x with
  | none => rw [hf] at h3; exact h3
  | some f =>
    rw [hf] at h3
    obtain ⟨dx, w, e1, e2, e3⟩ := h3
    refine ⟨dx, w, e1, g.keep dx _ e2 (fun z => ?_) fun _ z => (by cases z), e3.gr g⟩
    rcases t.mem z with ⟨_, q⟩ | ⟨_, q⟩ | ⟨_, _, _, q⟩ <;> rw [e2] at q <;> cases q
/-- what is known of the error in a clause -/
def pErr (G : Glo) (dom : List Str) (cls : Value) (d : Option Addr) : Mp → Hp → Option Str → D → Prop := fun μ H xf v => ∃ x ∈ dom, xf = G.fld x ∧ RepX G μ H x v cls d
theorem pErr_stay {G : Glo} {dom : List Str} {cls : Value} {d : Option Addr} : HStay G (pErr G dom cls d) := fun _ _ _ _ _ _ _ t g ⟨x, h1, h2, h3⟩ => ⟨x, h1, h2, h3.gr t g⟩
def slE (N : List Str) (a : Addr) : Option Str → L2.St → Prop
  | none, _ => True
  | some y, σ => ∀ j, slotOf N y = some j → σ[j]? = some (some (.ref a))
section
variable {G : Glo} {X : Cx} {fr : List Str}
theorem fld_ok (hmg : G.mg = X.mg) {dom : List Str} (hd : ∀ y ∈ dom, ∀ g, G.fld y = some g → ∃ B, X.mg y = some (.ref B) ∧ XfC X.K B ∧ PySem.W.findIn X.K (.ref B) g = some none) {y f : Str} {j : Nat} {p1 p2 : Pos} {a : Addr} {oe : Obj} {cls : Value} {d : Option Addr} {pn : List (Addr × Obj)}
    (hz : Zc cls d oe) (hf : ∃ vs, oe.data = .fields vs) (hj : slotOf X.N y = some j) (hl : X.env.scope.names.lookup y = some .local) (hy : nmOk y = true) : PE (X.suite a ((a, oe) :: pn)) (.Attribute (.Name y p1) f p2) (tH G (pErr G dom cls d) (slE X.N a (some y)) (.fld f)) := by
  obtain ⟨n1, n2, _⟩ := nm_of hy
  by_cases hc : ∃ x ∈ dom, ∃ C, X.mg x = some (.ref C) ∧ cls = .ref C ∧ G.fld x = some f
  · obtain ⟨x, hx, C, c1, c2, c3⟩ := hc
    obtain ⟨B, b1, b2, b3⟩ := hd x hx f c3
    rw [c1] at b1
    cases b1
    refine PE.conv (pe_xf (X := X) (te := tVar j) b2 b3 hz hf (pe_var (slot_get hj) (.inl hl) n1 n2)) fun σ H Q hh => ?_
    obtain ⟨hs, μ, st, xf, v, t, ⟨x', hx', rfl, C', q1, q2, q3⟩, hA⟩ := hh
    have hA' : ((if G.fld x' = some f then ret v else badM) st).All (KE G (Rep G) μ H Q) NX := hA
    split at hA'
    case isFalse => exact hA'.elim
    rename_i hx2
    rw [hx2] at q3
    obtain ⟨dx, w, e1, e2, e3⟩ := q3
    exact ⟨_, hs j hj, rfl, c2, dx, _, w, e1, e2, by simp, (show KE G (Rep G) μ H Q v st from hA').here t e3⟩
  · refine ⟨fun pins s σ H Q I hh => ?_⟩
    obtain ⟨hs, μ, st, xf, v, t, ⟨x', hx', rfl, C', q1, q2, q3⟩, hA⟩ := hh
    have hA' : ((if G.fld x' = some f then ret v else badM) st).All (KE G (Rep G) μ H Q) NX := hA
    split at hA'
    case isFalse => exact hA'.elim
    rename_i hx2
    exact absurd ⟨x', hx', C', hmg ▸ q1, q2, hx2⟩ hc
abbrev NW : WX := fun _ _ _ _ => False
theorem mix_ok (hK : G.K = X.K) (hmg : G.mg = X.mg) (hq : Quiet X.A) (hu : X.A.units + 64 < cLine) (hf : ∀ x ∈ fr, X.mg x = none) {n : Nat} : ∀ (hds : List ExceptHandler) (cs : List Cl) (hs : List Hd), compCls X.N fr X.env.scope n hds = some cs → Paired (ClOk X.K X.mg G) cs hs →
    ∃ l : List Clause, Paired (ClauseOk X) hds l ∧ ∀ μ st H x v cls d (D : Ends) τ, τ.length = X.N.length → STR G μ st H → RepX G μ H x v cls d → (catchT x v st hs).All (KE G (Rep G) μ H D.rt) NX → wMix X.K NW D l cls d τ H
  | [], cs, hs, h, k => by
    cases h
    cases k
    exact ⟨[], .nil, fun μ st H x v cls d D τ _ _ _ hA => hA.elim⟩
  | hd :: hds, cs, hs, h, k => by
    obtain ⟨c, h1, h2⟩ := bb (show ((compCl X.N fr X.env.scope n hd).bind fun c => (compCls X.N fr X.env.scope n hds).map fun l => c :: l) = some cs from h)
    obtain ⟨cs', h3, rfl⟩ := mm h2
    cases k with
    | @cons _ z _ hs' k1 k2 =>
    obtain ⟨l, l1, l2⟩ := mix_ok hK hmg hq hu hf hds cs' hs' h3 k2
    obtain ⟨eh, C, gC, ky, kn⟩ := k1
    have hb1 : ∃ x np p o e rp, hd = .ExceptHandler (some (.Name x np)) o [.Return (some e) rp] p ∧ (gloB X.env.scope x = true ∧ nmOk x = true) ∧ (∀ y, o = some y → X.env.scope.names.lookup y = some .local ∧ (∃ j, slotOf X.N y = some j) ∧ nmOk y = true) ∧ c.x = x ∧ c.o = o ∧ compH o fr X.env.scope n e = some c.h := by
      unfold compCl at h1
      split at h1
      · rename_i x np o e rp p
        obtain ⟨hc, h1⟩ := ite_some h1
        obtain ⟨hh, e1, rfl⟩ := mm h1
        obtain ⟨c12, c3⟩ := Bool.and_eq_true_iff.mp hc
        obtain ⟨c1, c2⟩ := Bool.and_eq_true_iff.mp c12
        refine ⟨x, np, p, o, e, rp, rfl, ⟨c1, c2⟩, fun y ey => ?_, rfl, rfl, e1⟩
        subst ey
        obtain ⟨d1, d3⟩ := Bool.and_eq_true_iff.mp (show (decide (X.env.scope.names.lookup y = some .local) && (slotOf X.N y).isSome && nmOk y) = true from c3)
        obtain ⟨d1, d2⟩ := Bool.and_eq_true_iff.mp d1
        exact ⟨of_decide_eq_true d1, Option.isSome_iff_exists.mp d2, d3⟩
      · cases h1
    obtain ⟨x, np, pp, o, e, rp, rfl, ⟨g1, g2⟩, ho, rfl, eo, he⟩ := hb1
    have hG : Gl X c.x := by
      unfold gloB at g1
      split at g1
      · rename_i e'; exact e'
      · cases g1
    let sl : Option Nat := o.bind fun y => slotOf X.N y
    refine ⟨(.ref C, sl, fun a cls d D σ H => tH G (pErr G (z.yes.map (·.1)) cls d) (slE X.N a o) z.h σ H D.rt) :: l, .cons ⟨c.x, np, pp, o, _, [], rfl, ⟨hG, (nm_of g2).1, .inl gC⟩, ?_, fun a oe cls d pn hz hv => ?_⟩ l1, fun μ st H y v cls d D τ hl t rx hA => ?_⟩
    · cases o with
      | none => rfl
      | some y =>
        obtain ⟨q1, ⟨j, q2⟩, q3⟩ := ho y rfl
        exact ⟨j, q2, slot_get q2, q1⟩
    · suffices hh : PE (X.suite a ((a, oe) :: pn)) e (tH G (pErr G (z.yes.map (·.1)) cls d) (slE X.N a o) z.h) from pss_one (ps_ret hh)
      rw [eh]
      refine (h_ok (Y := X.suite a ((a, oe) :: pn)) hK hmg hq hu hf pErr_stay (fun y f p1 p2 ey => ?_) n).1 e c.h he
      subst ey
      obtain ⟨q1, ⟨j, q2⟩, q3⟩ := ho y rfl
      refine fld_ok hmg (fun w hw g hg => ?_) hz hv q2 q1 q3
      obtain ⟨⟨w', f'⟩, m1, rfl⟩ := List.mem_map.mp hw
      obtain ⟨a1, B, a2, a3, a4⟩ := ky _ _ m1
      exact ⟨B, a2, (a4 g (a1 ▸ hg)).1, (a4 g (a1 ▸ hg)).2⟩
    · obtain ⟨C', r1, r2, r3⟩ := id rx
      have hA1 : ((match z.yes.lookup y with
        | some xf => (heM xf v z.h st).noX
        | none => if z.no.contains y then catchT y v st hs' else .bad) : Tr _root_.Gw.D).All (KE G (Rep G) μ H D.rt) NX := hA
      cases hy : z.yes.lookup y with
      | some xf =>
        rw [hy] at hA1
        obtain ⟨a1, B, a2, a3, a4⟩ := ky y xf (PySem.mem_of_lookup hy)
        rw [hmg, a2] at r1
        cases r1
        subst r2
        refine ⟨true, a3, fun _ a ha => ⟨?_, μ, st, xf, v, t, ⟨y, List.mem_map.mpr ⟨_, PySem.mem_of_lookup hy, rfl⟩, a1.symm, rx⟩, ?_⟩, fun z => (by cases z)⟩
        · cases o with
          | none => exact True.intro
          | some w =>
            intro j hj
            show (putAt τ a (slotOf X.N w))[j]? = _
            rw [hj]
            show (τ.set j (some (.ref a)))[j]? = _
            rw [List.getElem?_set_self]
            rw [hl]
            exact (List.getElem?_eq_some_iff.mp (slot_get hj)).1
        · have e5 : (endsAt D sl).rt = D.rt := by
            cases sl <;> rfl
          show (heM xf v z.h st).All (KE G (Rep G) μ H (endsAt D sl).rt) NX
          rw [e5]
          exact Tr.All_noX _ hA1
      | none =>
        rw [hy] at hA1
        dsimp only at hA1
        split at hA1
        case isFalse => exact hA1.elim
        rename_i hno
        obtain ⟨B, a2, a3⟩ := kn y (by simpa using hno)
        rw [hmg, a2] at r1
        cases r1
        subst r2
        exact ⟨false, a3, fun z => (by cases z), fun _ => l2 μ st H y v _ d D τ hl t rx hA1⟩
end
end Gw

set_option Elab.async false
set_option linter.all false
set_option maxRecDepth 100000
set_option maxHeartbeats 2000000
/-! Gy3: what a caller knows of a def that answers errors. -/
namespace Gw
open PySem PySem.Spec PyProof.Rows L2 LamX
section
variable {G : Glo} {X : Cx} {fr : List Str} {N : List Str} {x a q : Str} {sg : Scope} {g : Addr} {cdv : Value} {bg : List Stmt} {mi : MetI} {cs : List Cl} {n : Nat}
theorem start_0 {f : Addr} (hN : N[0]? = some a) : (L2.start N [V.ref f])[0]? = some (some (V.ref f)) := rfl
theorem met_gives (hK : G.K = X.K) (hmg : G.mg = X.mg) (hq : Quiet X.A) {k : Nat} (hr : Room k X.A) (hf : ∀ x ∈ fr, X.mg x = none) (S : FnScope N [a] sg) (hN : N[0]? = some a) (hc : metC N fr sg a n bg = some (cs, mi.fin)) (hk : Paired (ClOk X.K X.mg G) cs mi.hs) :
    GivesTo X N x sg g cdv bg a q (TTm G mi) := by
  intro f c' s H Q tl act hco h
  obtain ⟨Ech, hE, ht⟩ := h
  have hu : (cxOf C8.CX0 X.prog X.w X.K X.mg X.base N x sg g cdv X.A X.stack s H C8.E0).nox.A.units + 64 < cLine := by
    have := hr.un
    show X.A.units + 3 + 64 < cLine
    omega
  have catch_ : ∀ hds, compCls N fr sg n hds = some cs → ∃ l : List Clause, Paired (ClauseOk (cxOf C8.CX0 X.prog X.w X.K X.mg X.base N x sg g cdv X.A X.stack s H C8.E0).nox) hds l ∧ ∀ (D : Ends), D.rt = Q → ∀ cls d τ H', Ech cls d H' → τ.length = N.length → wMix X.K NW D l cls d τ H' := fun hds e => by
    obtain ⟨l, l1, l2⟩ := mix_ok (X := (cxOf C8.CX0 X.prog X.w X.K X.mg X.base N x sg g cdv X.A X.stack s H C8.E0).nox) (G := G) (n := n) hK hmg hq hu hf hds cs mi.hs e hk
    refine ⟨l, l1, fun D eD cls d τ H' he hl => ?_⟩
    obtain ⟨μ, st, y, v, t, rx, hA⟩ := hE cls d H' he
    subst eD
    exact l2 μ st H' y v cls d D τ hl t rx hA
  unfold metC at hc
  split at hc
  · rename_i b p1 p2 p3 hd hds p4 e p5
    obtain ⟨eb, hc2⟩ := ite_some hc
    subst eb
    obtain ⟨l0, h1, h2⟩ := bb hc2
    obtain ⟨z, h3, h4⟩ := mm h2
    injection h4 with h5 h6
    subst h5
    obtain ⟨l, l1, l2⟩ := catch_ _ h1
    have T := ps_mix (X := (cxOf C8.CX0 X.prog X.w X.K X.mg X.base N x sg g cdv X.A X.stack s H C8.E0).nox) (pos := p4) (body := [.Expr (.Call (.Name b p1) [] [] p2) p3]) (Wo := NW)
      (tb := fun W D σ H' => ∃ Ech : XK, (∀ cls d σ' H', Ech cls d H' → W cls d σ' H') ∧ σ[0]? = some (some (.ref f)) ∧ H' c' = some (CodeO c' q) ∧ tl Ech H' fun _ G => D.nx σ G) rfl rfl S.nd L2.takes0 (fun W pn xe tk _ => ⟨fun pins s' σ H' D I h' => by
        obtain ⟨Ec, hW, q1, q2, q3⟩ := h'
        exact (pss_one (ps_expr (pos := p3) (act W pn xe Ec p1 p2 tk hW))).run pins s' σ H' D I ⟨q1, q2, q3⟩⟩) l1
    have R : PE (cxOf C8.CX0 X.prog X.w X.K X.mg X.base N x sg g cdv X.A X.stack s H C8.E0).nox e (fun σ H' Q => FinOk G (some z) H' .non Q) := by
      refine PE.conv ((h_ok (G := G) (Y := (cxOf C8.CX0 X.prog X.w X.K X.mg X.base N x sg g cdv X.A X.stack s H C8.E0).nox) (p := fun _ _ xf v => xf = none ∧ v = .non) (sl := fun _ => True) hK hmg hq hu hf (fun _ _ _ _ _ _ _ _ _ z => z) (fun _ _ _ _ z => by cases z) n).1 e z h3) fun σ H' Q hh => ?_
      obtain ⟨μ, st, t, hA⟩ := hh
      exact ⟨True.intro, μ, st, none, .non, t, ⟨rfl, rfl⟩, Tr.All_noX _ hA⟩
    refine ⟨_, pss_cons T (pss_one (ps_ret R)), Ech, fun cls d τ H' he hl => l2 _ rfl cls d τ H' he hl, start_0 hN, hco, ?_⟩
    rw [← h6] at ht
    exact ht
  · rename_i b p1 p2 p3 hd hds p4
    obtain ⟨eb, hc2⟩ := ite_some hc
    subst eb
    obtain ⟨l0, h1, h2⟩ := mm hc2
    injection h2 with h5 h6
    subst h5
    obtain ⟨l, l1, l2⟩ := catch_ _ h1
    have T := ps_mix (X := (cxOf C8.CX0 X.prog X.w X.K X.mg X.base N x sg g cdv X.A X.stack s H C8.E0).nox) (pos := p4) (body := [.Return (some (.Call (.Name b p1) [] [] p2)) p3]) (Wo := NW)
      (tb := fun W D σ H' => ∃ Ech : XK, (∀ cls d σ' H', Ech cls d H' → W cls d σ' H') ∧ σ[0]? = some (some (.ref f)) ∧ H' c' = some (CodeO c' q) ∧ tl Ech H' D.rt) rfl rfl S.nd L2.takes0 (fun W pn xe tk _ => ⟨fun pins s' σ H' D I h' => by
        obtain ⟨Ec, hW, q1, q2, q3⟩ := h'
        exact (pss_one (ps_ret (pos := p3) (act W pn xe Ec p1 p2 tk hW))).run pins s' σ H' D I ⟨q1, q2, q3⟩⟩) l1
    refine ⟨_, pss_one T, Ech, fun cls d τ H' he hl => l2 _ rfl cls d τ H' he hl, start_0 hN, hco, ?_⟩
    rw [← h6] at ht
    exact ht
  · cases hc
end
theorem met_fact {P : Program} {w : World} {K : PySem.W.Frag} {mg : Str → Option Value} {base : Heap} {G : Glo} {fr N : List Str} {x a : Str} {sg : Scope} {g : Addr} {pg : Arguments} {cdv : Value} {bg : List Stmt} {mi : MetI} {cs : List Cl} {n : Nat} (hK : G.K = K) (hmg : G.mg = mg) (hf : ∀ x ∈ fr, mg x = none)
    (D : GotD P K mg x g pg bg sg cdv a) (S : FnScope N [a] sg) (hN : N[0]? = some a) (hv : Vis sg a) (ha : nmOk a = true) (hc : metC N fr sg a n bg = some (cs, mi.fin)) (hk : Paired (ClOk K mg G) cs mi.hs) : MetFact P w K mg base G x mi := by
  refine ⟨g, pg, bg, sg, cdv, a, N, D, S, hN, hv, (nm_of ha).1, (nm_of ha).2.1, fun X e1 e2 e3 e4 e5 hq ⟨k, hr⟩ => ?_⟩
  subst e3 e4
  exact met_gives hK hmg hq hr hf S hN hc hk
end Gw

set_option Elab.async false
set_option linter.all false
set_option maxRecDepth 100000
set_option maxHeartbeats 2000000
/-! Gy4: what the head tells of error classes and of tables of lambdas. -/
namespace Gw
open PySem PySem.Spec PyProof.Rows L2
abbrev InitV : Type := Option (Str × Str × Arguments × FuncBody × Scope × Addr × Addr)
def initAd (K : PySem.W.Frag) (x : Str) : Addr := He.ma K (He.ga K x) "__init__"
def initW (K : PySem.W.Frag) (x : Str) : InitV := match K.lookup (initAd K x) with
  | some ⟨_, _, .func f, _⟩ => some (f.name, f.qualname, f.params, f.body, f.scope, f.globals, f.builtins)
  | _ => none
/-- an own error class whose __init__ keeps its argument -/
structure InitD where
  x : Str
  qual : Str
  params : Arguments
  body : List Stmt
  scope : Scope
  fld : Str
  arg : Str
  B : String
  newId : String
  initId : String
  bm : List Value
def InitD.val (d : InitD) : InitV := some ("__init__", d.qual, d.params, .stmts d.body, d.scope, mainGlobals, builtinsNs)
def InitD.fnB (K : PySem.W.Frag) (file : Str) (d : InitD) : Bool := match K.lookup (initAd K d.x) with
  | some ⟨.type c, _, .func f, _⟩ => decide (c = "function") && (match f.code, f.closure, f.defaults with
    | .ref a, [(y, b)], .none => decide (y = "__class__") && (PySem.W.codeIn K (.ref a) d.qual && ((match K.lookup a with
      | some ⟨_, _, .fields vs, _⟩ => (match (vs[2]? : Option Value) with
        | some (Value.str z _) => file == z
        | _ => false)
      | _ => false) && (match K.lookup b with
      | some ⟨_, _, .cell (some (.ref C)), _⟩ => decide (C = He.ga K d.x)
      | _ => false)))
    | _, _, _ => false)
  | _ => false
def InitD.ok (K : PySem.W.Frag) (file : Str) (d : InitD) : Bool :=
  PySem.W.excInitIn K (He.ga K d.x) d.bm d.newId && (PySem.W.excOver K (He.ga K d.x) d.bm && (d.fnB K file && (decide (PySem.W.ks_superIn K (He.ga K d.x) (He.ga K d.x) "__init__" = some (some (.builtin d.initId))) && (decide (PySem.W.mroIn K (He.ga K d.x) (.ref (He.ga K d.x)) = some true) &&
  (decide (PySem.W.subIn K (.ref (He.ga K d.x)) (.type d.B) = some true) && (decide (PySem.W.nsIn K cStatics "thirdparty.any" = some none) && (decide (PySem.W.findIn K (.ref (He.ga K d.x)) "__setattr__" = some (some (.builtin "object.__setattr__"))) && (decide (PySem.W.takerIn K (He.ga K d.x) d.fld = some none) &&
  (PySem.W.hasDictIn K (He.ga K d.x) && (decide (PySem.W.findIn K (.ref (He.ga K d.x)) "__init__" = some (some (.ref (initAd K d.x)))) && (decide (PySem.W.subIn K (.ref (He.ga K d.x)) (.type "BaseException") = some true) && (decide (PySem.W.typeIn K (.ref (He.ga K d.x)) = some (.type "type")) &&
  (PySem.W.keepIn K (.ref (He.ga K d.x)) && decide (PySem.W.nsIn K mainGlobals "super" = some none))))))))))))))
theorem keep_of {P : Program} {K : PySem.W.Frag} {d : InitD} (b : BaseK d.B d.newId d.initId d.bm) (e : initW K d.x = d.val) (h : d.ok K (P.main.file : Str) = true) (top : (P.main.scope.names.lookup ("super" : Str)).isSome = false) :
    KeepC P K (He.ga K d.x) (initAd K d.x) d.B d.newId d.initId d.bm d.qual d.params d.body d.scope d.fld := by
  unfold InitD.ok at h
  simp only [Bool.and_eq_true, decide_eq_true_eq] at h
  obtain ⟨h1, h2, h3, h4, h5, h6, h7, h8, h9, h10, h11, h12, h13, h14, h15⟩ := h
  refine ⟨b, h1, h2, ?_, h4, h5, h6, h7, h8, h9, h10, h11, h12, h13, h14, h15, top⟩
  unfold InitD.fnB at h3
  unfold initW at e
  split at h3
  case h_2 => cases h3
  rename_i c od f osl lk
  rw [lk] at e
  obtain ⟨k1, k2⟩ := Bool.and_eq_true_iff.mp h3
  obtain rfl : c = "function" := of_decide_eq_true k1
  obtain ⟨n1, n2, n3, n4, n5, n6, n7, n8, n9, n10, n11, n12, n13, n14, n15⟩ := f
  have e2 : (some (n1, n2, n3, n4, n5, n6, n15) : InitV) = some (("__init__" : Str), d.qual, d.params, FuncBody.stmts d.body, d.scope, mainGlobals, builtinsNs) := e
  simp only [Option.some.injEq, Prod.mk.injEq] at e2
  obtain ⟨q1, q2, q3, q4, q5, q6, q7⟩ := e2
  subst q1 q2 q3 q4 q5 q6 q7
  dsimp only at k2
  split at k2
  case h_2 => cases k2
  rename_i a y cc
  simp only [Bool.and_eq_true, decide_eq_true_eq] at k2
  obtain ⟨rfl, m2, m3, m4⟩ := k2
  split at m3
  case h_2 => cases m3
  rename_i ocd odd vs sld lcd
  split at m3
  case h_2 => cases m3
  rename_i z tf hz
  split at m4
  case h_2 => cases m4
  rename_i cl cld C csl lcc
  obtain rfl : C = He.ga K d.x := of_decide_eq_true m4
  exact ⟨_, _, _, _, _, a, _, cc, _, _, _, _, _, _, _, _, _, _, lk, m2, lcd, hz, m3, lcc⟩
/-! ### the head's tell -/
def asY (g : Addr → Option Obj) (n : Nat) : List Addr := cStatics :: He.asD g n
abbrev AlY : Type := He.AlX × List InitV
def obsY (n : Nat) (fa : List He.Fa) (fn : List He.DefD) (ts : List He.Tab) (tf : List He.Defn) (ini : List InitD) (ex : PySem.W.Frag → Bool) (g : Addr → Option Obj) : AlY :=
  ((He.obsT fa fn ts (He.frT g (asY g n)), ex (He.frT g (asY g n)) && He.tabsB g tf (He.frT g (asY g n))), ini.map fun d => initW (He.frT g (asY g n)) d.x)
def valY (fn : List He.DefD) (ts : List He.Tab) (ini : List InitD) (w : World) : AlY := (He.valX fn ts w, ini.map InitD.val)
structure SaysY (fa : List He.Fa) (fn : List He.DefD) (ts : List He.Tab) (tf : List He.Defn) (ini : List InitD) (ex : PySem.W.Frag → Bool) (w : World) (h : Heap) (K : PySem.W.Frag) : Prop where
  s : He.SaysX fa fn ts tf ex w h K
  ini : ∀ d ∈ ini, initW K d.x = d.val
theorem map_eq_all {α β : Type} {f g : α → β} : ∀ {l : List α}, l.map f = l.map g → ∀ x ∈ l, f x = g x
  | [], _, _, hx => absurd hx (by simp)
  | a :: r, h, x, hx => by
    rw [List.map_cons, List.map_cons] at h
    injection h with h1 h2
    rcases List.mem_cons.mp hx with z | z
    · rw [z]; exact h1
    · exact map_eq_all h2 x z
theorem saysY_of {n : Nat} {fa : List He.Fa} {fn : List He.DefD} {ts : List He.Tab} {tf : List He.Defn} {ini : List InitD} {ex : PySem.W.Frag → Bool} {w : World} {h : Heap} (e : obsY n fa fn ts tf ini ex h.get? = valY fn ts ini w) :
    SaysY fa fn ts tf ini ex w h (He.frT h.get? (asY h.get? n)) := by
  have e0 := congrArg (fun z : AlY => z.1.1) e
  have e1 : (ex (He.frT h.get? (asY h.get? n)) && He.tabsB h.get? tf (He.frT h.get? (asY h.get? n))) = true := congrArg (fun z : AlY => z.1.2) e
  have e2 : ini.map (fun d => initW (He.frT h.get? (asY h.get? n)) d.x) = ini.map InitD.val := congrArg (fun z : AlY => z.2) e
  obtain ⟨q1, q2⟩ := Bool.and_eq_true_iff.mp e1
  have tab : ∀ p ∈ tf, PySem.W.codeHdIn (He.frT h.get? (asY h.get? n)) (He.cT (He.frT h.get? (asY h.get? n)) p).1 (He.cT (He.frT h.get? (asY h.get? n)) p).2 = true ∧
      (match h.get? (He.cT (He.frT h.get? (asY h.get? n)) p).2 with | some o => He.emptyTab o | none => false) = true := fun p hp => Bool.and_eq_true_iff.mp (List.all_eq_true.mp q2 p hp)
  refine ⟨⟨e0, q1, fun p hp => (tab p hp).1, fun p hp => ?_, fun p hp => ?_⟩, map_eq_all e2⟩
  all_goals
    have z := (tab p hp).2
    split at z
    case h_2 => cases z
    rename_i o ho
  · exact He.frT_none ho z
  · rw [ho, He.emptyTab_eq z]
def hookY (n : Nat) (fa : List He.Fa) (fn : List He.DefD) (ts : List He.Tab) (tf : List He.Defn) (ini : List InitD) (ex : PySem.W.Frag → Bool) : PySem.W.Hook where
  α := AlY
  obs := fun s => obsY n fa fn ts tf ini ex s.heap.get?
  val := fun w => valY fn ts ini w
  says := fun w h => ∃ K : PySem.W.Frag, K.In h ∧ SaysY fa fn ts tf ini ex w h K
  of := fun _ _ e => ⟨_, He.frT_in, saysY_of e⟩
  keeps := fun _ _ _ ⟨K, hK, c⟩ k => ⟨K, PySem.W.Frag.In.keeps hK k, ⟨⟨c.s.t, c.s.more, c.s.hd, c.s.out, fun p hp => k _ _ (c.s.empty p hp)⟩, c.ini⟩⟩
theorem obsY_eq {n : Nat} {fa : List He.Fa} {fn : List He.DefD} {ts : List He.Tab} {tf : List He.Defn} {ini : List InitD} {ex : PySem.W.Frag → Bool} {g : Addr → Option Obj} {s : Shared} (h : ∀ a, g a = s.heap.get? a) : obsY n fa fn ts tf ini ex g = (hookY n fa fn ts tf ini ex).obs s := by
  obtain rfl : g = s.heap.get? := funext h
  rfl
/-! ### facts out of it -/
section
variable {P : Program} {w : World} {K : PySem.W.Frag} {mg : Str → Option Value} {h : Heap} {G : Glo}
theorem exc_msg (X : K.In h) (N : h.Ns mainGlobals mg) {x : Str} (hg : (He.Fa.glo x).ok K = true) (he : (He.Fa.exc x).ok K = true) (hf : G.fld x = none) (hd : (x == ("__debug__" : Str)) = false) : ExcFact P K mg G x none := by
  obtain ⟨h1, h2, h3, h4⟩ := He.exc_ok he
  exact ⟨hf, hd, _, _, _, _, _, F.excBase_ValueError, h1, He.glo_ok X N hg, h2, h3, h4⟩
theorem exc_keep (X : K.In h) (N : h.Ns mainGlobals mg) {d : InitD} (hg : (He.Fa.glo d.x).ok K = true) (b : BaseK d.B d.newId d.initId d.bm) (e : initW K d.x = d.val) (hk : d.ok K (P.main.file : Str) = true) (top : (P.main.scope.names.lookup ("super" : Str)).isSome = false)
    (t : InitT d.params d.body d.scope d.arg d.fld) (hf : G.fld d.x = some d.fld) (hd : (d.x == ("__debug__" : Str)) = false) : ExcFact P K mg G d.x (some d.fld) :=
  ⟨hf, hd, _, _, _, _, _, _, _, _, _, _, _, He.glo_ok X N hg, keep_of b e hk top, t⟩
theorem got_of {x a : Str} {f : Addr} {fd : FuncData} {params : Arguments} {body : List Stmt} {scope : Scope} (F : FunD K x x params body scope [] [] f fd) (hm : mg x = some (.ref f))
    (hb : ∀ (kV doc pm : Value) (an : Option Addr) (cdv ct : Value) (us : List Value), us.length = [a].length → bindArgs (PySem.W.fnOf x x params body scope .none kV doc pm an cdv ct) ⟨us, []⟩ = pure ([a].zip us)) : ∃ cdv, GotD P K mg x f params body scope cdv a := by
  have b := FunD.bindsN F hb
  obtain ⟨oc, od, dV, kV, doc, pm, an, cdv, ct, osl, rfl, lk, hcd, _, _⟩ := F.ex
  exact ⟨cdv, hm, F.kp, ⟨oc, od, dV, kV, doc, pm, an, ct, osl, lk, b⟩, hcd⟩
theorem lam_of_ {x qual : Str} {p : He.Defn} {fd : FuncData} {params : Arguments} {body : List Stmt} {scope : Scope} {base : Heap} {r : Nat} (F : FunD K x qual params body scope [] [] (He.fAd K p) fd) (T : LamX.TabB base mg (He.cT K p).1 (He.cT K p).2) (hT : G.T[r]? = some (He.cT K p).2) :
    ∃ c Pt, LamX.TabB base mg c Pt ∧ (∀ oc od osl, K.lookup (He.fAd K p) = some ⟨oc, od, .func fd, osl⟩ → fd.code = .ref c) ∧ G.T[r]? = some Pt := by
  refine ⟨_, _, T, fun oc od osl lk => ?_, hT⟩
  obtain ⟨_, _, dV, kV, doc, pm, an, cdv, ct, _, rfl, _, hcd, _, _⟩ := F.ex
  obtain ⟨c, rfl⟩ := He.codeIn_ref hcd
  show Value.ref c = Value.ref (He.codeOf K p)
  rw [He.codeOf_eq lk rfl]
/-- tables of facts -/
def MetsOk (P : Program) (w : World) (K : PySem.W.Frag) (mg : Str → Option Value) (base : Heap) (G : Glo) (l : List (Str × MetI)) : Prop := ∀ x mi, l.lookup x = some mi → MetFact P w K mg base G x mi
def ExcsOk (P : Program) (K : PySem.W.Frag) (mg : Str → Option Value) (G : Glo) (l : List (Str × Option Str)) : Prop := ∀ x o, l.lookup x = some o → ExcFact P K mg G x o
theorem MetsOk.nil {base : Heap} : MetsOk P w K mg base G [] := fun _ _ h => (by cases h)
theorem ExcsOk.nil : ExcsOk P K mg G [] := fun _ _ h => (by cases h)
theorem look_cons {α : Type} {p : Str → α → Prop} {x : Str} {v : α} {l : List (Str × α)} (h : p x v) (t : ∀ y z, l.lookup y = some z → p y z) : ∀ y z, ((x, v) :: l).lookup y = some z → p y z := fun y z e => by
  rw [List.lookup_cons] at e
  cases q : (y == x) with
  | true => rw [q] at e; cases e; rw [beq_iff_eq.mp q]; exact h
  | false => rw [q] at e; exact t y z e
theorem MetsOk.cons {base : Heap} {x : Str} {mi : MetI} {l : List (Str × MetI)} (h : MetFact P w K mg base G x mi) (t : MetsOk P w K mg base G l) : MetsOk P w K mg base G ((x, mi) :: l) := look_cons (p := MetFact P w K mg base G) h t
theorem ExcsOk.cons {x : Str} {o : Option Str} {l : List (Str × Option Str)} (h : ExcFact P K mg G x o) (t : ExcsOk P K mg G l) : ExcsOk P K mg G ((x, o) :: l) := look_cons (p := ExcFact P K mg G) h t
def LamNo (Γ : Gam) : Prop := Γ.lam = none
/-- a clause's classes by the head's facts -/
theorem cl_of (X : K.In h) (N : h.Ns mainGlobals mg) {c : Cl} {d : Hd} (e : d.h = c.h) (hg : (He.Fa.glo c.x).ok K = true)
    (hy : ∀ p ∈ d.yes, G.fld p.1 = p.2 ∧ (He.Fa.glo p.1).ok K = true ∧ (He.Fa.exm p.1 c.x true).ok K = true ∧ ∀ f, p.2 = some f → xfB K (He.ga K p.1) = true ∧ (He.Fa.noat p.1 f).ok K = true)
    (hn : ∀ y ∈ d.no, (He.Fa.glo y).ok K = true ∧ (He.Fa.exm y c.x false).ok K = true) : ClOk K mg G c d := by
  refine ⟨e, He.ga K c.x, He.glo_ok X N hg, fun y f hm => ?_, fun y hm => ?_⟩
  · obtain ⟨h1, h2, h3, h4⟩ := hy _ hm
    exact ⟨h1, _, He.glo_ok X N h2, He.exm_ok h3, fun g eg => ⟨xfB_ok (h4 g eg).1, He.noat_ok (h4 g eg).2⟩⟩
  · obtain ⟨h1, h2⟩ := hn y hm
    exact ⟨_, He.glo_ok X N h1, He.exm_ok h2⟩
end
end Gw
namespace Gw
open PySem
/-- the k-th statement of a class's body -/
def clsS : Stmt → Nat → Stmt
  | .ClassDef _ _ _ b _ _ _ _ _ _ _, k => b.getD k (.Pass ⟨0, 0, 0, 0⟩)
  | s, _ => s
theorem fa_nil {α : Type} {p : α → Prop} : ∀ x ∈ ([] : List α), p x := fun _ h => by cases h
theorem fa_cons {α : Type} {p : α → Prop} {a : α} {l : List α} (h : p a) (t : ∀ x ∈ l, p x) : ∀ x ∈ a :: l, p x := fun x hx => by
  rcases List.mem_cons.mp hx with z | z
  · rw [z]; exact h
  · exact t x z
end Gw

set_option Elab.async false
set_option linter.all false
set_option maxRecDepth 100000
set_option maxHeartbeats 4000000
/-! Gy5: reckoning with lists that are told one after the other. -/
namespace Gw
open PySem L2
def newL (xs : List D) : M D := fun s => .ok (.ref s.length) (s ++ [.lst xs])
def appA (x : D) (m : M D) : M D := fun s => if atL s x then andThen m (appX x) s else .bad
def metM (r : Nat) (q : Str) (hs : List Hd) (fin : Option HE) (m : M D) : M D := fun s => if tabOk s r q then tryT hs fin (m s) else .bad
def tryM (hs : List Hd) (fin : Option HE) (m : M D) : M D := fun s => tryT hs fin (m s)
def raiM (x : Str) (v : D) : M (Fl × Ev) := fun s => .ex x v s
theorem ev_lstM (es : E) (e : Ev) : ev (.lstM es) e = andThen (evs es e) fun xs => andThen (lenOk xs) newL := (rfl)
theorem ev_app (o a : E) (e : Ev) : ev (.app o a) e = andThen (ev o e) fun x => appA x (ev a e) := (rfl)
theorem ev_met (r : Nat) (q : Str) (b : E) (hs : List Hd) (fin : Option HE) (e : Ev) : ev (.met r q b hs fin) e = metM r q hs fin (ev b e) := (rfl)
theorem ev_callV (tab : List (Str × (List D → M D))) (f es : E) (e : Ev) : ev (.callV tab f es) e = andThen (ev f e) fun d => tabM tab d (evs es e) := (rfl)
theorem ex_raise (x : Str) (a : E) (e : Ev) : ex (.raise x a) e = andThen (ev a e) (raiM x) := (rfl)
def forC (g : T) (b : Ev → M (Fl × Ev)) (xs : List D) : Option Ev → M (Fl × Ev)
  | some e => andThen (b e) (forK g b xs)
  | none => badM
theorem forC_so (g : T) (b : Ev → M (Fl × Ev)) (xs : List D) (e : Ev) : forC g b xs (some e) = andThen (b e) (forK g b xs) := (rfl)
theorem forGo_c (g : T) (b : Ev → M (Fl × Ev)) (x : D) (xs : List D) (e : Ev) : forGo0 g b (x :: xs) e = forC g b xs (g.bind x e) := by
  show (match g.bind x e with
    | none => badM
    | some e' => andThen (b e') (forK g b xs)) = _
  cases g.bind x e <;> rfl
theorem forK_nx (g : T) (b : Ev → M (Fl × Ev)) (xs : List D) (e : Ev) : forK g b xs (.nx, e) = forGo0 g b xs e := (rfl)
theorem bin_lst1 {xs ys : List D} (h : xs.length + ys.length ≤ 1000000) : binD .Add (.lst xs) (.lst ys) = some (.lst (xs ++ ys)) := bin_lst (Nat.le_trans h line_big)
theorem bin_tup1 {xs ys : List D} (h : xs.length + ys.length ≤ 1000000) : binD .Add (.tup xs) (.tup ys) = some (.tup (xs ++ ys)) := bin_tup (Nat.le_trans h line_big)
theorem mul_lst {xs : List D} (k : Nat) (h : xs.length ≤ 1000) (hk : k ≤ 1000) : binD .Mult (.lst xs) (.int (k : Int)) = some (.lst (List.replicate k xs).flatten) := by
  refine (if_pos ?_).trans ?_
  · simp only [Bool.and_eq_true, decide_eq_true_eq]
    omega
  · rw [Int.toNat_natCast]
theorem mul_tup {xs : List D} (k : Nat) (h : xs.length ≤ 1000) (hk : k ≤ 1000) : binD .Mult (.tup xs) (.int (k : Int)) = some (.tup (List.replicate k xs).flatten) := by
  refine (if_pos ?_).trans ?_
  · simp only [Bool.and_eq_true, decide_eq_true_eq]
    omega
  · rw [Int.toNat_natCast]
theorem mul_l2 {xs : List D} (h : xs.length ≤ 1000) : binD .Mult (.lst xs) (.int 2) = some (.lst (xs ++ xs)) := (mul_lst 2 h (by decide)).trans (by simp [List.replicate_succ])
theorem mul_l3 {xs : List D} (h : xs.length ≤ 1000) : binD .Mult (.lst xs) (.int 3) = some (.lst (xs ++ (xs ++ xs))) := (mul_lst 3 h (by decide)).trans (by simp [List.replicate_succ])
theorem mul_l4 {xs : List D} (h : xs.length ≤ 1000) : binD .Mult (.lst xs) (.int 4) = some (.lst (xs ++ (xs ++ (xs ++ xs)))) := (mul_lst 4 h (by decide)).trans (by simp [List.replicate_succ])
theorem mul_l5 {xs : List D} (h : xs.length ≤ 1000) : binD .Mult (.lst xs) (.int 5) = some (.lst (xs ++ (xs ++ (xs ++ (xs ++ xs))))) := (mul_lst 5 h (by decide)).trans (by simp [List.replicate_succ])
/-! the tables stay -/
theorem tabOk_app {st l : Sto} {r : Nat} {q : Str} (h : tabOk st r q = true) : tabOk (st ++ l) r q = true := by
  unfold tabOk at h ⊢
  by_cases hr : r < st.length
  · rw [List.getElem?_append_left hr]; exact h
  · rw [List.getElem?_eq_none (by omega)] at h; cases h
theorem hat_app {st l : Sto} {i : Nat} {o : MO} (h : st[i]? = some o) : (st ++ l)[i]? = some o := by
  rw [List.getElem?_append_left (List.getElem?_eq_some_iff.mp h).1]
  exact h
section
variable {α : Type} {P : α → Sto → Prop} {E : Str → D → Sto → Prop} {st : Sto}
theorem new_all {xs : List D} {f : D → M α} (h : OkM (f (.ref st.length)) (st ++ [.lst xs]) P E) : OkM (andThen (newL xs) f) st P E := ⟨h.all⟩
theorem app_at {l : List D} {m : M D} {d : D} (hm : m (st ++ [.lst l]) = .ok d (st ++ [.lst l])) (hl : l.length < 1000000) : appA (.ref st.length) m (st ++ [.lst l]) = .ok .non (st ++ [.lst (l ++ [d])]) := by
  have e0 : (st ++ [MO.lst l])[st.length]? = some (.lst l) := by rw [List.getElem?_append_right (Nat.le_refl _), Nat.sub_self]; rfl
  have e1 : atL (st ++ [.lst l]) (.ref st.length) = true := by
    show (match (st ++ [MO.lst l])[st.length]? with | some (.lst _) => true | _ => false) = true
    rw [e0]
  have e2 : (st ++ [MO.lst l]).set st.length (.lst (l ++ [d])) = st ++ [.lst (l ++ [d])] := by
    rw [List.set_append_right _ _ (Nat.le_refl _), Nat.sub_self]
    rfl
  show (if atL (st ++ [.lst l]) (.ref st.length) then andThen m (appX (.ref st.length)) (st ++ [.lst l]) else .bad) = _
  rw [e1]
  show (m (st ++ [.lst l])).bind (appM st.length) = _
  rw [hm]
  show (match (st ++ [MO.lst l])[st.length]? with
    | some (.lst xs) => if xs.length < sizeLine then (.ok .non ((st ++ [MO.lst l]).set st.length (.lst (xs ++ [d]))) : Tr D) else .bad
    | _ => .bad) = _
  rw [e0]
  show (if l.length < sizeLine then (.ok .non ((st ++ [MO.lst l]).set st.length (.lst (l ++ [d]))) : Tr D) else .bad) = _
  rw [if_pos (Nat.lt_of_lt_of_le hl line_big), e2]
/-- one more is told -/
theorem tell {r : Nat} {q : Str} {hs : List Hd} {fin : Option HE} {m : M D} {f : D → M α} {l : List D} {d : D} (ht : tabOk st r q = true) (hm : tryM hs fin m = ret d) (hl : decide (l.length < 1000000) = true) (h : OkM (f .non) (st ++ [.lst (l ++ [d])]) P E) :
    OkM (andThen (appA (.ref st.length) (metM r q hs fin m)) f) (st ++ [.lst l]) P E := by
  have e : metM r q hs fin m (st ++ [.lst l]) = .ok d (st ++ [.lst l]) := by
    show (if tabOk (st ++ [.lst l]) r q then tryT hs fin (m (st ++ [.lst l])) else .bad) = _
    rw [tabOk_app ht]
    exact congrFun hm _
  refine ⟨?_⟩
  show ((appA (.ref st.length) (metM r q hs fin m) (st ++ [.lst l])).bind f).All P E
  rw [app_at e (of_decide_eq_true hl)]
  exact h.all
theorem told_eq {x y : List D} {f : D → M α} (e : x = y) (hs : D.shp (.lst y) 64 = true) (h : OkM (f (.bl true)) (st ++ [.lst x]) P E) : OkM (andThen (cmpM .Eq (.ref st.length) (.lst y)) f) (st ++ [.lst x]) P E := by
  subst e
  have e0 : drf (st ++ [MO.lst x]) (.ref st.length) = .lst x := by
    show (match (st ++ [MO.lst x])[st.length]? with | some (.lst xs) => D.lst xs | some (.dct ks vs) => .dct ks vs | _ => .ref st.length) = _
    rw [List.getElem?_append_right (Nat.le_refl _), Nat.sub_self]
    rfl
  refine ⟨?_⟩
  show ((optM (cmpD .Eq (drf (st ++ [MO.lst x]) (.ref st.length)) (.lst x)) (st ++ [MO.lst x])).bind f).All P E
  rw [e0, cmp_eq_self hs]
  exact h.all
theorem pure_all {m : M D} {f : D → M α} {d : D} (e : m = ret d) (h : OkM (f d) st P E) : OkM (andThen m f) st P E := by
  rw [e, andThen_ret]
  exact h
end
/-! a def that makes lists for itself -/
theorem trim_in {n : Nat} {P : D → Sto → Prop} {E : Str → D → Sto → Prop} : ∀ t : Tr D, t.All (fun v s => (frzT n v s).rf = true ∧ (s.take n).all MO.rf = true ∧ P (frzT n v s) (s.take n)) (fun _ _ _ => False) → (trimT n t).All P E
  | .ok v s, h => by
    have e : trimT n (.ok v s) = .ok (frzT n v s) (s.take n) := if_pos (by rw [h.1, h.2.1]; rfl)
    rw [e]
    exact h.2.2
  | .ex x v s, h => h.elim
  | .pick m k, h => fun i hi => trim_in (k i) (h i hi)
  | .bad, h => h
theorem trim_use {f : List D → M D} {ds : List D} {st : Sto} {P : D → Sto → Prop} {E : Str → D → Sto → Prop} (h : OkM (f ds) st (fun v s => (frzT st.length v s).rf = true ∧ (s.take st.length).all MO.rf = true ∧ P (frzT st.length v s) (s.take st.length)) NX) : OkM (trimM f ds) st P E :=
  ⟨trim_in _ h.all⟩
/-! by all members of lists -/
theorem all1 {α β : Type} {F H : α → β} {l : List α} (h : l.map F = l.map H) : ∀ x ∈ l, F x = H x := map_eq_all h
theorem all2 {α β γ : Type} {F H : α → β → γ} {l : List α} {k : List β} (h : l.map (fun x => k.map (F x)) = l.map fun x => k.map (H x)) : ∀ x ∈ l, ∀ y ∈ k, F x y = H x y := fun x hx y hy => map_eq_all (map_eq_all h x hx) y hy
def rpD (x : D) : D := (reprD [x]).getD .non
end Gw

set_option Elab.async false
set_option linter.all false
set_option maxRecDepth 100000
set_option maxHeartbeats 4000000
/-! Gy6: a law's turns over its cells, with tables in the store. -/
namespace Gw
open PySem L2
/-- the tables stand first, nothing in the store names the store -/
def J (qs : List Str) (st : Sto) : Prop := (∃ l, st = qs.map MO.tab ++ l) ∧ st.all MO.rf = true
theorem J.start {qs : List Str} : J qs (qs.map MO.tab) := ⟨⟨[], by simp⟩, by
  rw [List.all_eq_true]
  intro x hx
  obtain ⟨q, _, rfl⟩ := List.mem_map.mp hx
  rfl⟩
theorem J.hat {qs : List Str} {st : Sto} (h : J qs st) : J qs (st ++ [.hat]) := by
  obtain ⟨⟨l, e⟩, a⟩ := h
  refine ⟨⟨l ++ [.hat], by rw [e, List.append_assoc]⟩, ?_⟩
  rw [List.all_append, a]
  rfl
theorem J.tab {qs : List Str} {st : Sto} (h : J qs st) {r : Nat} {q : Str} (e : qs[r]? = some q) : tabOk st r q = true := by
  obtain ⟨⟨l, rfl⟩, _⟩ := h
  refine tabOk_app ?_
  unfold tabOk
  rw [List.getElem?_map, e]
  simp
theorem J.cut {qs : List Str} {st l : Sto} {n : Nat} (h : J qs st) (hn : n = (qs.map MO.tab).length) : ((st ++ l).take n).all MO.rf = true := by
  obtain ⟨⟨k, rfl⟩, _⟩ := h
  rw [hn, List.append_assoc, List.take_left]
  exact J.start.2
theorem hat_last {st : Sto} : (st ++ [MO.hat])[st.length]? = some .hat := by
  rw [List.getElem?_append_right (Nat.le_refl _), Nat.sub_self]
  rfl
theorem law_loop {ns : List Int} {rest : Ev} {qs : List Str} {B : S} {k : Int} {st : Sto} {u v : Option D} {P : Fl × Ev → Sto → Prop}
    (hB : ∀ (j : Int) (w : Option D) (s : Sto), 0 ≤ j → j < k → J qs s → OkM (ex B (some (.scr ns) :: some (.int j) :: w :: rest)) s (fun r s' => J qs s' ∧ ∃ u v, r = (.nx, some (.scr ns) :: u :: v :: rest)) NX)
    (hP : ∀ u v s, J qs s → P (.nx, some (.scr ns) :: u :: v :: rest) s) (h : J qs st) : OkM (forGo0 (.nm 1) (ex B) (rangeD 0 k) (some (.scr ns) :: u :: v :: rest)) st P NX := by
  refine forGo_all (I := fun e s => J qs s ∧ ∃ u v, e = some (.scr ns) :: u :: v :: rest) _ _ _ (fun x hx e s he => ?_) (fun e s he => ?_) ⟨h, u, v, rfl⟩
  · obtain ⟨hj, u, v, rfl⟩ := he
    obtain ⟨j, rfl, j0, j1⟩ := range_mem hx
    refine ⟨_, rfl, OkM.mono (hB j v s j0 j1 hj) (fun r s' hr => ?_) (fun _ _ _ z => z)⟩
    obtain ⟨hj', u', v', rfl⟩ := hr
    exact ⟨hj', u', v', rfl⟩
  · obtain ⟨hj, u, v, rfl⟩ := he
    exact hP u v s hj
/-- how many cells -/
theorem cells_ok {ns : List Int} (m : Int) (hm : 1 ≤ m) (hm2 : m ≤ 100) : ∃ n : Int, (∀ k, minD [.int m, .int k] = some (.int (if k < m then k else m))) ∧ maxD [.int 1, .int (if ((ns.length : Nat) : Int) < m then ((ns.length : Nat) : Int) else m)] = some (.int n) ∧ 1 ≤ n ∧ n ≤ m := by
  refine ⟨_, fun _ => rfl, rfl, ?_, ?_⟩
  · split <;> omega
  · split <;> split <;> omega
end Gw

set_option Elab.async false
set_option linter.all false
set_option maxRecDepth 100000
set_option maxHeartbeats 4000000
/-! Gy7: told lists beside due ones; defs by themselves behind any store. -/
namespace Gw
open PySem L2
/-- these tables are first in the store, and none comes behind them -/
structure Tb (k : Nat) (T st : Sto) : Prop where
  take : st.take k = T
  solo : soloB k st = true
theorem Tb.app {k : Nat} {T st l : Sto} (h : Tb k T st) (hl : l.any isTab = false) : Tb k T (st ++ l) := by
  obtain ⟨h1, h2⟩ := Bool.and_eq_true_iff.mp h.solo
  have hk : k ≤ st.length := of_decide_eq_true h1
  obtain ⟨h3, h4⟩ := Bool.and_eq_true_iff.mp h2
  refine ⟨by rw [List.take_append_of_le_length hk]; exact h.take, ?_⟩
  unfold soloB
  rw [List.take_append_of_le_length hk, List.drop_append_of_le_length hk, List.any_append, hl, Bool.or_false, h3, h4, Bool.and_true, Bool.and_true, List.length_append]
  exact decide_eq_true (by omega)
def runV (k : Nat) (T st : Sto) : Tr D → Tr D
  | .ok v s' => if (frzT k v s').rf && sameTabs T (s'.take k) then .ok (frzT k v s') st else .bad
  | .ex x v s' => if v.rf && sameTabs T (s'.take k) then .ex x v st else .bad
  | .pick m f => .pick m fun i => runV k T st (f i)
  | .bad => .bad
/-- the def, run at the tables alone -/
def runM (k : Nat) (T : Sto) (f : List D → M D) : List D → M D := fun ds st => runV k T st (f ds T)
theorem runV_eq {k : Nat} {T st : Sto} (h : st.take k = T) : ∀ t : Tr D, soloT k st t = runV k T st t
  | .ok v s' => by unfold soloT runV; rw [h]
  | .ex x v s' => by unfold soloT runV; rw [h]
  | .pick m f => by
    unfold soloT runV
    congr 1
    funext i
    exact runV_eq h (f i)
  | .bad => rfl
theorem solo_run {k : Nat} {T st : Sto} {f : List D → M D} {ds : List D} (h : Tb k T st) (hr : D.rfs ds = true) : soloM k f ds st = runM k T f ds st := by
  show (if (D.rfs ds && soloB k st) = true then soloT k st (f ds (st.take k)) else trimT st.length (f ds st)) = runV k T st (f ds T)
  rw [hr, h.solo, h.take]
  exact runV_eq h.take _
theorem rfs_nil : D.rfs [] = true := rfl
theorem rfs_cons {x : D} {xs : List D} (h : x.rf = true) (h' : D.rfs xs = true) : D.rfs (x :: xs) = true := by
  show (x.rf && D.rfs xs) = true
  rw [h, h']
  rfl
theorem ev_catL (a b : E) (e : Ev) : ev (.catL a b) e = andThen (ev a e) fun x => andThen (ev b e) fun y => catM x y := (rfl)
theorem ev_ext (o a : E) (e : Ev) : ev (.ext o a) e = andThen (ev o e) fun x => fun s => if atL s x then andThen (ev a e) (extX x) s else .bad := (rfl)
theorem mul_i {xs : List D} (k : Nat) (h : xs.length ≤ 1000) (hk : k ≤ 1000) : binD .Mult (.int (k : Int)) (.lst xs) = some (.lst (List.replicate k xs).flatten) := by
  refine (if_pos ?_).trans ?_
  · simp only [Bool.and_eq_true, decide_eq_true_eq]
    omega
  · rw [Int.toNat_natCast]
theorem mul_i2 {xs : List D} (h : xs.length ≤ 1000) : binD .Mult (.int 2) (.lst xs) = some (.lst (xs ++ xs)) := (mul_i 2 h (by decide)).trans (by simp [List.replicate_succ])
theorem mul_i3 {xs : List D} (h : xs.length ≤ 1000) : binD .Mult (.int 3) (.lst xs) = some (.lst (xs ++ (xs ++ xs))) := (mul_i 3 h (by decide)).trans (by simp [List.replicate_succ])
theorem mul_i4 {xs : List D} (h : xs.length ≤ 1000) : binD .Mult (.int 4) (.lst xs) = some (.lst (xs ++ (xs ++ (xs ++ xs)))) := (mul_i 4 h (by decide)).trans (by simp [List.replicate_succ])
def cat2 : D → D → D
  | .str a, .str b => .str (a ++ b)
  | _, _ => .non
/-! ### the store of a law: st, then the told list, others, the due list -/
theorem get_at {st l : Sto} (j : Nat) : (st ++ l)[st.length + j]? = l[j]? := by
  rw [List.getElem?_append_right (Nat.le_add_right _ _), Nat.add_sub_cancel_left]
theorem set_at {st l : Sto} {o : MO} (j : Nat) : (st ++ l).set (st.length + j) o = st ++ l.set j o := by
  rw [List.set_append_right _ _ (Nat.le_add_right _ _), Nat.add_sub_cancel_left]
section
variable {α : Type} {P : α → Sto → Prop} {E : Str → D → Sto → Prop} {st : Sto}
theorem new0 {xs : List D} {f : D → M α} (h : OkM (f (.ref (st.length + 0))) (st ++ [MO.lst xs]) P E) : OkM (andThen (newL xs) f) st P E := ⟨h.all⟩
theorem newN {xs : List D} {f : D → M α} {l : Sto} (h : OkM (f (.ref (st.length + l.length))) (st ++ (l ++ [MO.lst xs])) P E) : OkM (andThen (newL xs) f) (st ++ l) P E := by
  refine ⟨?_⟩
  show (f (.ref (st ++ l).length) ((st ++ l) ++ [MO.lst xs])).All P E
  rw [List.length_append, List.append_assoc]
  exact h.all
theorem app_run {m : M D} {d : D} {xs : List D} {l : Sto} {j : Nat} (hm : m (st ++ l) = .ok d (st ++ l)) (hx : l[j]? = some (.lst xs)) (hl : xs.length < 1000000) : appA (.ref (st.length + j)) m (st ++ l) = .ok .non (st ++ l.set j (.lst (xs ++ [d]))) := by
  have e0 : (st ++ l)[st.length + j]? = some (.lst xs) := (get_at j).trans hx
  have e1 : atL (st ++ l) (.ref (st.length + j)) = true := by
    show (match (st ++ l)[st.length + j]? with | some (.lst _) => true | _ => false) = true
    rw [e0]
  show (if atL (st ++ l) (.ref (st.length + j)) then andThen m (appX (.ref (st.length + j))) (st ++ l) else .bad) = _
  rw [e1]
  show (m (st ++ l)).bind (appM (st.length + j)) = _
  rw [hm]
  show (match (st ++ l)[st.length + j]? with
    | some (.lst xs) => if xs.length < sizeLine then (.ok .non ((st ++ l).set (st.length + j) (.lst (xs ++ [d]))) : Tr D) else .bad
    | _ => .bad) = _
  rw [e0]
  show (if xs.length < sizeLine then (.ok .non ((st ++ l).set (st.length + j) (.lst (xs ++ [d]))) : Tr D) else .bad) = _
  rw [if_pos (Nat.lt_of_lt_of_le hl line_big), set_at]
theorem app_okm {m : M D} {d : D} {xs : List D} {f : D → M α} {l : Sto} {j : Nat} (hm : m (st ++ l) = .ok d (st ++ l)) (hx : l[j]? = some (.lst xs)) (hl : xs.length < 1000000) (h : OkM (f .non) (st ++ l.set j (.lst (xs ++ [d]))) P E) : OkM (andThen (appA (.ref (st.length + j)) m) f) (st ++ l) P E := by
  refine ⟨?_⟩
  show ((appA (.ref (st.length + j)) m (st ++ l)).bind f).All P E
  rw [app_run hm hx hl]
  exact h.all
/-- one more is told -/
theorem tell2 {k : Nat} {T : Sto} {r : Nat} {q : Str} {hs : List Hd} {fin : Option HE} {g : List D → M D} {ds : List D} {f : D → M α} {l : List D} {t : Sto} {d : D} (ht : tabOk st r q = true) (hT : Tb k T st) (hr : D.rfs ds = true) (hm : tryM hs fin (runM k T g ds) = ret d)
    (hl : decide (l.length < 1000000) = true) (hn : t.any isTab = false) (h : OkM (f .non) (st ++ (MO.lst (l ++ [d]) :: t)) P E) :
    OkM (andThen (appA (.ref (st.length + 0)) (metM r q hs fin (soloM k g ds))) f) (st ++ (MO.lst l :: t)) P E := by
  refine app_okm (l := MO.lst l :: t) (j := 0) (d := d) (xs := l) ?_ rfl (of_decide_eq_true hl) h
  show (if tabOk (st ++ (MO.lst l :: t)) r q then tryT hs fin (soloM k g ds (st ++ (MO.lst l :: t))) else .bad) = _
  rw [tabOk_app ht, solo_run (hT.app (l := MO.lst l :: t) (by rw [List.any_cons, hn]; rfl)) hr]
  exact congrFun hm _
/-- one more is due -/
theorem due_app {xs : List D} {d : D} {f : D → M α} {a : MO} {mid : Sto} {j : Nat} (hj : 1 + mid.length = j) (hl : decide (xs.length < 1000000) = true) (h : OkM (f .non) (st ++ (a :: (mid ++ [MO.lst (xs ++ [d])]))) P E) :
    OkM (andThen (appA (.ref (st.length + j)) (ret d)) f) (st ++ (a :: (mid ++ [MO.lst xs]))) P E := by
  subst hj
  refine app_okm (l := a :: (mid ++ [MO.lst xs])) (j := 1 + mid.length) (d := d) (xs := xs) rfl ?_ (of_decide_eq_true hl) ?_
  · rw [Nat.add_comm, List.getElem?_cons_succ, List.getElem?_append_right (Nat.le_refl _), Nat.sub_self]
    rfl
  · rw [Nat.add_comm, List.set_cons_succ, List.set_append_right _ _ (Nat.le_refl _), Nat.sub_self]
    exact h
theorem drf_due {xs : List D} {a : MO} {mid : Sto} {j : Nat} (hj : 1 + mid.length = j) : drf (st ++ (a :: (mid ++ [MO.lst xs]))) (.ref (st.length + j)) = .lst xs := by
  subst hj
  show (match (st ++ (a :: (mid ++ [MO.lst xs])))[st.length + (1 + mid.length)]? with | some (.lst xs) => D.lst xs | some (.dct ks vs) => .dct ks vs | _ => .ref (st.length + (1 + mid.length))) = _
  rw [get_at, Nat.add_comm, List.getElem?_cons_succ, List.getElem?_append_right (Nat.le_refl _), Nat.sub_self]
  rfl
theorem drf_told {xs : List D} {t : Sto} : drf (st ++ (MO.lst xs :: t)) (.ref (st.length + 0)) = .lst xs := by
  show (match (st ++ (MO.lst xs :: t))[st.length + 0]? with | some (.lst xs) => D.lst xs | some (.dct ks vs) => .dct ks vs | _ => .ref (st.length + 0)) = _
  rw [get_at]
  rfl
theorem catM_run {x y : D} {s : Sto} {xs ys : List D} (h1 : drf s x = .lst xs) (h2 : drf s y = .lst ys) (hl : xs.length + ys.length ≤ 1000000) : catM x y s = .ok (.ref s.length) (s ++ [MO.lst (xs ++ ys)]) := by
  unfold catM
  rw [h1, h2]
  exact if_pos (Nat.le_trans hl line_big)
theorem due_cat {xs ys : List D} {f : D → M α} {a : MO} {mid : Sto} {j : Nat} (hj : 1 + mid.length = j) (hl : decide (xs.length + ys.length ≤ 1000000) = true) (h : OkM (f (.ref (st.length + (j + 1)))) (st ++ (a :: ((mid ++ [MO.lst xs]) ++ [MO.lst (xs ++ ys)]))) P E) :
    OkM (andThen (catM (.ref (st.length + j)) (.lst ys)) f) (st ++ (a :: (mid ++ [MO.lst xs]))) P E := by
  refine ⟨?_⟩
  show ((catM (.ref (st.length + j)) (.lst ys) (st ++ (a :: (mid ++ [MO.lst xs])))).bind f).All P E
  rw [catM_run (drf_due hj) rfl (of_decide_eq_true hl)]
  have e1 : (st ++ (a :: (mid ++ [MO.lst xs]))).length = st.length + (j + 1) := by
    rw [List.length_append, List.length_cons, List.length_append, ← hj]
    show st.length + (mid.length + 1 + 1) = _
    omega
  have e2 : (st ++ (a :: (mid ++ [MO.lst xs]))) ++ [MO.lst (xs ++ ys)] = st ++ (a :: ((mid ++ [MO.lst xs]) ++ [MO.lst (xs ++ ys)])) := by simp
  rw [e1, e2]
  exact h.all
/-- the first one, a sum by itself -/
theorem cat_new {xs ys : List D} {f : D → M α} {a : MO} {mid : Sto} (hl : decide (xs.length + ys.length ≤ 1000000) = true) (h : OkM (f (.ref (st.length + (1 + mid.length)))) (st ++ (a :: (mid ++ [MO.lst (xs ++ ys)]))) P E) :
    OkM (andThen (catM (.lst xs) (.lst ys)) f) (st ++ (a :: mid)) P E := by
  refine ⟨?_⟩
  show ((catM (.lst xs) (.lst ys) (st ++ (a :: mid))).bind f).All P E
  rw [catM_run rfl rfl (of_decide_eq_true hl)]
  have e1 : (st ++ (a :: mid)).length = st.length + (1 + mid.length) := by
    rw [List.length_append, List.length_cons]
    omega
  have e2 : (st ++ (a :: mid)) ++ [MO.lst (xs ++ ys)] = st ++ (a :: (mid ++ [MO.lst (xs ++ ys)])) := by simp
  rw [e1, e2]
  exact h.all
theorem due_bin {xs ys : List D} {f : D → M α} {a : MO} {mid : Sto} {j : Nat} (hj : 1 + mid.length = j) (hl : decide (xs.length + ys.length ≤ 1000000) = true) (h : OkM (f (.lst (xs ++ ys))) (st ++ (a :: (mid ++ [MO.lst xs]))) P E) :
    OkM (andThen (binM .Add (.ref (st.length + j)) (.lst ys)) f) (st ++ (a :: (mid ++ [MO.lst xs]))) P E := by
  refine ⟨?_⟩
  show ((optM (binD .Add (drf (st ++ (a :: (mid ++ [MO.lst xs]))) (.ref (st.length + j))) (.lst ys)) (st ++ (a :: (mid ++ [MO.lst xs])))).bind f).All P E
  rw [drf_due hj, bin_lst1 (of_decide_eq_true hl)]
  exact h.all
theorem told_is {x y z : List D} {t : Sto} {f : D → M α} (e1 : x = z) (e2 : y = z) (hs : D.shp (.lst z) 64 = true) (h : OkM (f (.bl true)) (st ++ (MO.lst x :: t)) P E) : OkM (andThen (cmpM .Eq (.ref (st.length + 0)) (.lst y)) f) (st ++ (MO.lst x :: t)) P E := by
  have e : x = y := e1.trans e2.symm
  subst e
  subst e1
  refine ⟨?_⟩
  show ((optM (cmpD .Eq (drf (st ++ (MO.lst x :: t)) (.ref (st.length + 0))) (.lst x)) (st ++ (MO.lst x :: t))).bind f).All P E
  rw [drf_told, cmp_eq_self hs]
  exact h.all
theorem told_due {x y z : List D} {mid : Sto} {j : Nat} {f : D → M α} (hj : 1 + mid.length = j) (e1 : x = z) (e2 : y = z) (hs : D.shp (.lst z) 64 = true) (h : OkM (f (.bl true)) (st ++ (MO.lst x :: (mid ++ [MO.lst y]))) P E) : OkM (andThen (cmpM .Eq (.ref (st.length + 0)) (.ref (st.length + j))) f) (st ++ (MO.lst x :: (mid ++ [MO.lst y]))) P E := by
  refine ⟨?_⟩
  show ((optM (cmpD .Eq (drf (st ++ (MO.lst x :: (mid ++ [MO.lst y]))) (.ref (st.length + 0))) (drf (st ++ (MO.lst x :: (mid ++ [MO.lst y]))) (.ref (st.length + j)))) (st ++ (MO.lst x :: (mid ++ [MO.lst y])))).bind f).All P E
  have e : x = y := e1.trans e2.symm
  subst e
  subst e1
  rw [drf_told, drf_due hj, cmp_eq_self hs]
  exact h.all
/-- a comprehension that leads each item to one thing -/
theorem lc_all {F : D → M (Option D)} {g : D → D} {xs : List D} {f : D → M α} (hF : ∀ x, F x = ret (some (g x))) (hl : decide (xs.length ≤ 1000000) = true) (h : OkM (f (.lst (xs.map g))) st P E) : OkM (andThen (lcP F (xs, [])) f) st P E := by
  rw [lcP_nil, lcGo_map (g := g) xs [] (fun x _ => hF x) (by rw [List.length_nil, Nat.zero_add]; exact Nat.le_trans (of_decide_eq_true hl) line_big), andThen_assoc, andThen_ret, andThen_ret, List.nil_append]
  exact h
theorem lsm_all {xs : List D} {f : List D × Gd → M α} (h : OkM (f (xs, [])) st P E) : OkM (andThen (lsM (.lst xs)) f) st P E := ⟨h.all⟩
/-- a def by itself is called -/
theorem call_at {k : Nat} {T : Sto} {g : List D → M D} {ds : List D} {f : D → M α} {d : D} (hT : Tb k T st) (hr : D.rfs ds = true) (hm : runM k T g ds = ret d) (h : OkM (f d) st P E) : OkM (andThen (soloM k g ds) f) st P E := by
  refine ⟨?_⟩
  show ((soloM k g ds st).bind f).All P E
  rw [solo_run hT hr, hm]
  exact h.all
end
/-- what is told, by any way of reckoning -/
theorem met_run {k : Nat} {T : Sto} {r : Nat} {q : Str} {hs : List Hd} {fin : Option HE} {m : M D} {s : Sto} {d : D} (ht : tabOk s r q = true) (hT : Tb k T s) (hm : ∀ s, Tb k T s → tryM hs fin m s = .ok d s) : metM r q hs fin m s = .ok d s := by
  show (if tabOk s r q then tryT hs fin (m s) else .bad) = _
  rw [ht]
  exact hm s hT
theorem met_all {α : Type} {P : α → Sto → Prop} {E : Str → D → Sto → Prop} {st : Sto} {k : Nat} {T : Sto} {r : Nat} {q : Str} {hs : List Hd} {fin : Option HE} {m : M D} {f : D → M α} {d : D} (ht : tabOk st r q = true) (hT : Tb k T st) (hm : ∀ s, Tb k T s → tryM hs fin m s = .ok d s) (h : OkM (f d) st P E) : OkM (andThen (metM r q hs fin m) f) st P E := by
  refine ⟨?_⟩
  show ((metM r q hs fin m st).bind f).All P E
  rw [met_run ht hT hm]
  exact h.all
theorem tell3 {α : Type} {P : α → Sto → Prop} {E : Str → D → Sto → Prop} {st : Sto} {k : Nat} {T : Sto} {r : Nat} {q : Str} {hs : List Hd} {fin : Option HE} {m : M D} {f : D → M α} {l : List D} {t : Sto} {d : D} (ht : tabOk st r q = true) (hT : Tb k T st) (hm : ∀ s, Tb k T s → tryM hs fin m s = .ok d s)
    (hl : decide (l.length < 1000000) = true) (hn : t.any isTab = false) (h : OkM (f .non) (st ++ (MO.lst (l ++ [d]) :: t)) P E) :
    OkM (andThen (appA (.ref (st.length + 0)) (metM r q hs fin m)) f) (st ++ (MO.lst l :: t)) P E :=
  app_okm (l := MO.lst l :: t) (j := 0) (d := d) (xs := l) (met_run (tabOk_app ht) (hT.app (l := MO.lst l :: t) (by rw [List.any_cons, hn]; rfl)) hm) rfl (of_decide_eq_true hl) h
/-- one call -/
theorem try1 {k : Nat} {T : Sto} {hs : List Hd} {fin : Option HE} {g : List D → M D} {ds : List D} {d : D} (hr : D.rfs ds = true) (hm : tryM hs fin (runM k T g ds) = ret d) : ∀ s, Tb k T s → tryM hs fin (soloM k g ds) s = .ok d s := fun s hT => by
  show tryT hs fin (soloM k g ds s) = _
  rw [solo_run hT hr]
  exact congrFun hm s
/-- a call ahead of it -/
theorem try2 {k : Nat} {T : Sto} {hs : List Hd} {fin : Option HE} {g : List D → M D} {ds : List D} {f : D → M D} {v d : D} (hr : D.rfs ds = true) (hv : runM k T g ds = ret v) (hm : ∀ s, Tb k T s → tryM hs fin (f v) s = .ok d s) : ∀ s, Tb k T s → tryM hs fin (andThen (soloM k g ds) f) s = .ok d s := fun s hT => by
  show tryT hs fin ((soloM k g ds s).bind f) = _
  rw [solo_run hT hr, hv]
  exact hm s hT
/-- what is known already -/
def memoM (k : Nat) (T : Sto) (tab : List D → Option D) (f : List D → M D) : List D → M D := fun ds s => match tab ds with
  | some v => if soloB k s && sameTabs T (s.take k) then .ok v s else f ds s
  | none => f ds s
theorem memo_eq {k : Nat} {T : Sto} {tab : List D → Option D} {g : List D → M D} (h : ∀ ds v, tab ds = some v → D.rfs ds = true ∧ runM k T g ds = ret v) : memoM k T tab (soloM k g) = soloM k g := by
  funext ds s
  unfold memoM
  split
  · rename_i v e
    split
    · rename_i hc
      obtain ⟨h1, h2⟩ := Bool.and_eq_true_iff.mp hc
      obtain ⟨q1, q2⟩ := h ds v e
      rw [solo_run ⟨(same_tabs h2).symm, h1⟩ q1, q2]
      rfl
    · rfl
  · rfl
/-- a pure def that is known already -/
def memo0 (tab : List D → Option D) (f : List D → M D) : List D → M D := fun ds s => match tab ds with
  | some v => .ok v s
  | none => f ds s
theorem memo0_eq {tab : List D → Option D} {f : List D → M D} (h : ∀ ds v, tab ds = some v → f ds = ret v) : memo0 tab f = f := by
  funext ds s
  unfold memo0
  split
  · rename_i v e
    rw [h ds v e]
    rfl
  · rfl
theorem all2d {α β γ : Type} {F H : α → β → γ} {l : List α} {k : α → List β} (h : l.map (fun x => (k x).map (F x)) = l.map fun x => (k x).map (H x)) : ∀ x ∈ l, ∀ y ∈ k x, F x y = H x y := fun x hx y hy => map_eq_all (map_eq_all h x hx) y hy
theorem rf_tup {xs : List D} (h : D.rfs xs = true) : D.rf (.tup xs) = true := h
theorem rf_lst {xs : List D} (h : D.rfs xs = true) : D.rf (.lst xs) = true := h
theorem allr {l : List D} (h : l.all D.rf = true) : ∀ x ∈ l, x.rf = true := List.all_eq_true.mp h
/-! ### a law's turns -/
def J2 (qs : List Str) (st : Sto) : Prop := (∃ l, st = qs.map MO.tab ++ l ∧ l.any isTab = false) ∧ st.all MO.rf = true
theorem J2.j {qs : List Str} {st : Sto} (h : J2 qs st) : J qs st := ⟨let ⟨l, e, _⟩ := h.1; ⟨l, e⟩, h.2⟩
theorem J2.start {qs : List Str} : J2 qs (qs.map MO.tab) := ⟨⟨[], by simp, rfl⟩, J.start.2⟩
theorem J2.hat {qs : List Str} {st : Sto} (h : J2 qs st) : J2 qs (st ++ [.hat]) := by
  obtain ⟨⟨l, e, n⟩, a⟩ := h
  refine ⟨⟨l ++ [.hat], by rw [e, List.append_assoc], by rw [List.any_append, n]; rfl⟩, ?_⟩
  rw [List.all_append, a]
  rfl
theorem J2.tb {qs : List Str} {st : Sto} {k : Nat} (h : J2 qs st) (hk : k = qs.length) : Tb k (qs.map MO.tab) st := by
  obtain ⟨⟨l, rfl, n⟩, _⟩ := h
  have e : (qs.map MO.tab).length = k := by rw [List.length_map, hk]
  refine ⟨by rw [← e]; exact List.take_left, ?_⟩
  unfold soloB
  rw [← e, List.take_left, List.drop_left, n, List.length_append]
  rw [show decide ((qs.map MO.tab).length ≤ (qs.map MO.tab).length + l.length) = true from decide_eq_true (by omega), show ((qs.map MO.tab).all isTab) = true from ?_]
  · rfl
  · rw [List.all_eq_true]
    intro x hx
    obtain ⟨q, _, rfl⟩ := List.mem_map.mp hx
    rfl
theorem law_loop2 {ns : List Int} {rest : Ev} {qs : List Str} {B : S} {k : Int} {st : Sto} {u v : Option D} {P : Fl × Ev → Sto → Prop}
    (hB : ∀ (j : Int) (w : Option D) (s : Sto), 0 ≤ j → j < k → J2 qs s → OkM (ex B (some (.scr ns) :: some (.int j) :: w :: rest)) s (fun r s' => J2 qs s' ∧ ∃ u v, r = (.nx, some (.scr ns) :: u :: v :: rest)) NX)
    (hP : ∀ u v s, J2 qs s → P (.nx, some (.scr ns) :: u :: v :: rest) s) (h : J2 qs st) : OkM (forGo0 (.nm 1) (ex B) (rangeD 0 k) (some (.scr ns) :: u :: v :: rest)) st P NX := by
  refine forGo_all (I := fun e s => J2 qs s ∧ ∃ u v, e = some (.scr ns) :: u :: v :: rest) _ _ _ (fun x hx e s he => ?_) (fun e s he => ?_) ⟨h, u, v, rfl⟩
  · obtain ⟨hj, u, v, rfl⟩ := he
    obtain ⟨j, rfl, j0, j1⟩ := range_mem hx
    refine ⟨_, rfl, OkM.mono (hB j v s j0 j1 hj) (fun r s' hr => ?_) (fun _ _ _ z => z)⟩
    obtain ⟨hj', u', v', rfl⟩ := hr
    exact ⟨hj', u', v', rfl⟩
  · obtain ⟨hj, u, v, rfl⟩ := he
    exact hP u v s hj
end Gw

set_option Elab.async false
set_option linter.all false
set_option maxRecDepth 100000
set_option maxHeartbeats 4000000
/-! K16a: the defs of k16 in the core language (printed by gen2.py). -/
namespace K16
open PySem PySem.Spec PyProof.Rows L2 Gw
abbrev PP : Program := PySem.Challenge.pw_gluewhole_k16_errors_of_spaces
def topS (i : Nat) : Stmt := PySem.Challenge.pw_gluewhole_k16_errors_of_spaces.main.body.getD i (.Pass ⟨0, 0, 0, 0⟩)
def d_is_whole : He.DefD := ⟨("is_whole", none), "is_whole", "is_whole", defArgs (topS 8), defBody (topS 8), defScope (topS 8), [], []⟩
def d_is_within : He.DefD := ⟨("is_within", none), "is_within", "is_within", defArgs (topS 9), defBody (topS 9), defScope (topS 9), [], []⟩
def d_require_within : He.DefD := ⟨("require_within", none), "require_within", "require_within", defArgs (topS 10), defBody (topS 10), defScope (topS 10), [], []⟩
def d_is_cell : He.DefD := ⟨("is_cell", none), "is_cell", "is_cell", defArgs (topS 19), defBody (topS 19), defScope (topS 19), [], []⟩
def d_faces_in : He.DefD := ⟨("faces_in", none), "faces_in", "faces_in", defArgs (topS 20), defBody (topS 20), defScope (topS 20), [], []⟩
def d_in_sequence : He.DefD := ⟨("in_sequence", none), "in_sequence", "in_sequence", defArgs (topS 21), defBody (topS 21), defScope (topS 21), [], []⟩
def d_parts_in : He.DefD := ⟨("parts_in", none), "parts_in", "parts_in", defArgs (topS 22), defBody (topS 22), defScope (topS 22), [], []⟩
def d_is_part : He.DefD := ⟨("is_part", none), "is_part", "is_part", defArgs (topS 23), defBody (topS 23), defScope (topS 23), [], []⟩
def d_united : He.DefD := ⟨("united", none), "united", "united", defArgs (topS 24), defBody (topS 24), defScope (topS 24), [], []⟩
def d_is_space : He.DefD := ⟨("is_space", none), "is_space", "is_space", defArgs (topS 25), defBody (topS 25), defScope (topS 25), [], []⟩
def d_closed_in : He.DefD := ⟨("closed_in", none), "closed_in", "closed_in", defArgs (topS 26), defBody (topS 26), defScope (topS 26), [], []⟩
def d_cells_in : He.DefD := ⟨("cells_in", none), "cells_in", "cells_in", defArgs (topS 27), defBody (topS 27), defScope (topS 27), [], []⟩
def d_points_in : He.DefD := ⟨("points_in", none), "points_in", "points_in", defArgs (topS 28), defBody (topS 28), defScope (topS 28), [], []⟩
def d_degree_in : He.DefD := ⟨("degree_in", none), "degree_in", "degree_in", defArgs (topS 29), defBody (topS 29), defScope (topS 29), [], []⟩
def d_star_in : He.DefD := ⟨("star_in", none), "star_in", "star_in", defArgs (topS 30), defBody (topS 30), defScope (topS 30), [], []⟩
def d_link_in : He.DefD := ⟨("link_in", none), "link_in", "link_in", defArgs (topS 31), defBody (topS 31), defScope (topS 31), [], []⟩
def d_skeleton_in : He.DefD := ⟨("skeleton_in", none), "skeleton_in", "skeleton_in", defArgs (topS 32), defBody (topS 32), defScope (topS 32), [], []⟩
def d_border_in : He.DefD := ⟨("border_in", none), "border_in", "border_in", defArgs (topS 33), defBody (topS 33), defScope (topS 33), [], []⟩
def d_neighbours_in : He.DefD := ⟨("neighbours_in", none), "neighbours_in", "neighbours_in", defArgs (topS 34), defBody (topS 34), defScope (topS 34), [], []⟩
def d_paths_from : He.DefD := ⟨("paths_from", none), "paths_from", "paths_from", defArgs (topS 35), defBody (topS 35), defScope (topS 35), [], []⟩
def d_pieces_in : He.DefD := ⟨("pieces_in", none), "pieces_in", "pieces_in", defArgs (topS 36), defBody (topS 36), defScope (topS 36), [], []⟩
def d_require_cell : He.DefD := ⟨("require_cell", none), "require_cell", "require_cell", defArgs (topS 37), defBody (topS 37), defScope (topS 37), [], []⟩
def d_require_space : He.DefD := ⟨("require_space", none), "require_space", "require_space", defArgs (topS 38), defBody (topS 38), defScope (topS 38), [], []⟩
def d_require_cell_of : He.DefD := ⟨("require_cell_of", none), "require_cell_of", "require_cell_of", defArgs (topS 39), defBody (topS 39), defScope (topS 39), [], []⟩
def d_require_few : He.DefD := ⟨("require_few", none), "require_few", "require_few", defArgs (topS 40), defBody (topS 40), defScope (topS 40), [], []⟩
def d_require_two_points : He.DefD := ⟨("require_two_points", none), "require_two_points", "require_two_points", defArgs (topS 41), defBody (topS 41), defScope (topS 41), [], []⟩
def d_require_two_spaces : He.DefD := ⟨("require_two_spaces", none), "require_two_spaces", "require_two_spaces", defArgs (topS 42), defBody (topS 42), defScope (topS 42), [], []⟩
def d_faces : He.DefD := ⟨("faces", none), "faces", "faces", defArgs (topS 43), defBody (topS 43), defScope (topS 43), [], []⟩
def d_parts : He.DefD := ⟨("parts", none), "parts", "parts", defArgs (topS 44), defBody (topS 44), defScope (topS 44), [], []⟩
def d_space_of : He.DefD := ⟨("space_of", none), "space_of", "space_of", defArgs (topS 45), defBody (topS 45), defScope (topS 45), [], []⟩
def d_degree_of : He.DefD := ⟨("degree_of", none), "degree_of", "degree_of", defArgs (topS 46), defBody (topS 46), defScope (topS 46), [], []⟩
def d_points : He.DefD := ⟨("points", none), "points", "points", defArgs (topS 47), defBody (topS 47), defScope (topS 47), [], []⟩
def d_cells_of : He.DefD := ⟨("cells_of", none), "cells_of", "cells_of", defArgs (topS 48), defBody (topS 48), defScope (topS 48), [], []⟩
def d_tops : He.DefD := ⟨("tops", none), "tops", "tops", defArgs (topS 49), defBody (topS 49), defScope (topS 49), [], []⟩
def d_count : He.DefD := ⟨("count", none), "count", "count", defArgs (topS 50), defBody (topS 50), defScope (topS 50), [], []⟩
def d_border : He.DefD := ⟨("border", none), "border", "border", defArgs (topS 51), defBody (topS 51), defScope (topS 51), [], []⟩
def d_skeleton : He.DefD := ⟨("skeleton", none), "skeleton", "skeleton", defArgs (topS 52), defBody (topS 52), defScope (topS 52), [], []⟩
def d_star : He.DefD := ⟨("star", none), "star", "star", defArgs (topS 53), defBody (topS 53), defScope (topS 53), [], []⟩
def d_closed_star : He.DefD := ⟨("closed_star", none), "closed_star", "closed_star", defArgs (topS 54), defBody (topS 54), defScope (topS 54), [], []⟩
def d_link : He.DefD := ⟨("link", none), "link", "link", defArgs (topS 55), defBody (topS 55), defScope (topS 55), [], []⟩
def d_is_sub : He.DefD := ⟨("is_sub", none), "is_sub", "is_sub", defArgs (topS 56), defBody (topS 56), defScope (topS 56), [], []⟩
def d_is_open : He.DefD := ⟨("is_open", none), "is_open", "is_open", defArgs (topS 57), defBody (topS 57), defScope (topS 57), [], []⟩
def d_joined : He.DefD := ⟨("joined", none), "joined", "joined", defArgs (topS 58), defBody (topS 58), defScope (topS 58), [], []⟩
def d_common : He.DefD := ⟨("common", none), "common", "common", defArgs (topS 59), defBody (topS 59), defScope (topS 59), [], []⟩
def d_cone : He.DefD := ⟨("cone", none), "cone", "cone", defArgs (topS 60), defBody (topS 60), defScope (topS 60), [], []⟩
def d_hang_answer : He.DefD := ⟨("hang_answer", none), "hang_answer", "hang_answer", defArgs (topS 61), defBody (topS 61), defScope (topS 61), [], []⟩
def d_are_points_of : He.DefD := ⟨("are_points_of", none), "are_points_of", "are_points_of", defArgs (topS 62), defBody (topS 62), defScope (topS 62), [], []⟩
def d_is_path : He.DefD := ⟨("is_path", none), "is_path", "is_path", defArgs (topS 63), defBody (topS 63), defScope (topS 63), [], []⟩
def d_is_side : He.DefD := ⟨("is_side", none), "is_side", "is_side", defArgs (topS 64), defBody (topS 64), defScope (topS 64), [], []⟩
def d_pieces : He.DefD := ⟨("pieces", none), "pieces", "pieces", defArgs (topS 65), defBody (topS 65), defScope (topS 65), [], []⟩
def d__law_hat : He.DefD := ⟨("_law_hat", none), "_law_hat", "_law_hat", defArgs (topS 67), defBody (topS 67), defScope (topS 67), [], []⟩
def d__law_up_to : He.DefD := ⟨("_law_up_to", none), "_law_up_to", "_law_up_to", defArgs (topS 68), defBody (topS 68), defScope (topS 68), [], []⟩
def d__law_out_of : He.DefD := ⟨("_law_out_of", none), "_law_out_of", "_law_out_of", defArgs (topS 69), defBody (topS 69), defScope (topS 69), [], []⟩
def d__law_space : He.DefD := ⟨("_law_space", none), "_law_space", "_law_space", defArgs (topS 70), defBody (topS 70), defScope (topS 70), [], []⟩
def d__law_met : He.DefD := ⟨("_law_met", none), "_law_met", "_law_met", defArgs (topS 71), defBody (topS 71), defScope (topS 71), [], []⟩
def d__law_right : He.DefD := ⟨("_law_right", none), "_law_right", "_law_right", defArgs (topS 72), defBody (topS 72), defScope (topS 72), [], []⟩
def d_law : He.DefD := ⟨("law", none), "law", "law", defArgs (topS 73), defBody (topS 73), defScope (topS 73), [], []⟩
def fnL : List He.DefD := [d_is_whole, d_is_within, d_require_within, d_is_cell, d_faces_in, d_in_sequence, d_parts_in, d_is_part, d_united, d_is_space, d_closed_in, d_cells_in, d_points_in, d_degree_in, d_star_in, d_link_in, d_skeleton_in, d_border_in, d_neighbours_in, d_paths_from, d_pieces_in, d_require_cell, d_require_space, d_require_cell_of, d_require_few, d_require_two_points, d_require_two_spaces, d_faces, d_parts, d_space_of, d_degree_of, d_points, d_cells_of, d_tops, d_count, d_border, d_skeleton, d_star, d_closed_star, d_link, d_is_sub, d_is_open, d_joined, d_common, d_cone, d_hang_answer, d_are_points_of, d_is_path, d_is_side, d_pieces, d__law_hat, d__law_up_to, d__law_out_of, d__law_space, d__law_met, d__law_right, d_law]
def faL : List He.Fa := [.glo "is_whole", .glo "is_within", .glo "require_within", .glo "is_cell", .glo "faces_in", .glo "in_sequence", .glo "parts_in", .glo "is_part", .glo "united", .glo "is_space", .glo "closed_in", .glo "cells_in", .glo "points_in", .glo "degree_in", .glo "star_in", .glo "link_in", .glo "skeleton_in", .glo "border_in", .glo "neighbours_in", .glo "paths_from", .glo "pieces_in", .glo "require_cell", .glo "require_space", .glo "require_cell_of", .glo "require_few", .glo "require_two_points", .glo "require_two_spaces", .glo "faces", .glo "parts", .glo "space_of", .glo "degree_of", .glo "points", .glo "cells_of", .glo "tops", .glo "count", .glo "border", .glo "skeleton", .glo "star", .glo "closed_star", .glo "link", .glo "is_sub", .glo "is_open", .glo "joined", .glo "common", .glo "cone", .glo "hang_answer", .glo "are_points_of", .glo "is_path", .glo "is_side", .glo "pieces", .glo "_law_hat", .glo "_law_up_to", .glo "_law_out_of", .glo "_law_space", .glo "_law_met", .glo "_law_right", .glo "law", .free "isinstance", .free "int", .free "bool", .free "all", .free "zip", .free "tuple", .free "len", .free "range", .free "sorted", .free "sum", .free "max", .free "list", .free "abs", .free "dict", .free "repr", .free "min", .int "MOST_POINT" 99, .int "MOST_LENGTH" 4, .int "MOST_CELLS" 80, .int "MOST_DEGREE" 3, .int "MOST_ROWS" 60, .str "PATH" (PySem.Str.ofString "path"), .str "SIDE" (PySem.Str.ofString "side"), .glo "InvalidCell", .exc "InvalidCell", .glo "InvalidSpace", .exc "InvalidSpace", .glo "InvalidOperation", .exc "InvalidOperation", .glo "InvalidNumber", .noat "InvalidNumber" "given", .glo "TooMany", .noat "TooMany" "most", .exm "InvalidNumber" "InvalidCell" false, .exm "InvalidNumber" "InvalidSpace" false, .exm "InvalidNumber" "InvalidOperation" false, .exm "InvalidNumber" "InvalidNumber" true, .exm "InvalidNumber" "TooMany" false, .exm "InvalidCell" "InvalidCell" true, .exm "InvalidCell" "InvalidSpace" false, .exm "InvalidCell" "InvalidOperation" false, .exm "InvalidCell" "InvalidNumber" false, .exm "InvalidCell" "TooMany" false, .exm "InvalidSpace" "InvalidCell" false, .exm "InvalidSpace" "InvalidSpace" true, .exm "InvalidSpace" "InvalidOperation" false, .exm "InvalidSpace" "InvalidNumber" false, .exm "InvalidSpace" "TooMany" false, .exm "TooMany" "InvalidCell" false, .exm "TooMany" "InvalidSpace" false, .exm "TooMany" "InvalidOperation" false, .exm "TooMany" "InvalidNumber" false, .exm "TooMany" "TooMany" true, .exm "InvalidOperation" "InvalidCell" false, .exm "InvalidOperation" "InvalidSpace" false, .exm "InvalidOperation" "InvalidOperation" true, .exm "InvalidOperation" "InvalidNumber" false, .exm "InvalidOperation" "TooMany" false]
def tfL : List He.Defn := [("_law_space", none), ("_law_right", none), ("law", none)]
def qsL : List Str := [PySem.Str.ofString "_law_space.<locals>.<lambda>", PySem.Str.ofString "_law_right.<locals>.<lambda>", PySem.Str.ofString "law.<locals>.<lambda>"]
def n_InvalidNumber : InitD := ⟨"InvalidNumber", "InvalidNumber.__init__", defArgs (clsS (topS 5) 0), defBody (clsS (topS 5) 0), defScope (clsS (topS 5) 0), "given", "given", "IndexError", "IndexError.__new__", "IndexError.__init__", [.type "IndexError", .type "LookupError", .type "Exception", .type "BaseException", .type "object"]⟩
def n_TooMany : InitD := ⟨"TooMany", "TooMany.__init__", defArgs (clsS (topS 6) 0), defBody (clsS (topS 6) 0), defScope (clsS (topS 6) 0), "most", "most", "OverflowError", "OverflowError.__new__", "OverflowError.__init__", [.type "OverflowError", .type "ArithmeticError", .type "Exception", .type "BaseException", .type "object"]⟩
def inL : List InitD := [n_InvalidNumber, n_TooMany]
def fdL : List (Str × Str) := [("InvalidNumber", "given"), ("TooMany", "most")]
def exL (K : PySem.W.Frag) : Bool := (inL.all fun d => d.ok K (PySem.Challenge.pw_gluewhole_k16_errors_of_spaces.main.file : Str)) && ((inL.all fun d => xfB K (He.ga K d.x)) && decide ((tfL.map fun p => (He.cT K p).2).Nodup))
structure Wd (w : World) (K : PySem.W.Frag) (mg : Str → Option Value) (base h : Heap) : Prop where
  X : K.In h
  N : h.Ns mainGlobals mg
  c : SaysY faL fnL [] tfL inL exL w h K
  tb : ∀ p ∈ tfL, LamX.TabB base mg (He.cT K p).1 (He.cT K p).2
abbrev GG (w : World) (K : PySem.W.Frag) (mg : Str → Option Value) : Glo := ⟨K, w, mg, fun x => fdL.lookup x, tfL.map fun p => (He.cT K p).2⟩
abbrev KT : Nat := 3
abbrev TT : Sto := qsL.map .tab
section
variable {w : World} {K : PySem.W.Frag} {mg : Str → Option Value} {base h : Heap}
theorem tLen : (GG w K mg).T.length ≤ KT := Nat.le_of_eq (List.length_map _)
theorem Wd.d (Z : Wd w K mg base h) : He.SaysD faL fnL K := Z.c.s.t.d
theorem Wd.ini (Z : Wd w K mg base h) : ∀ d ∈ inL, d.ok K (PySem.Challenge.pw_gluewhole_k16_errors_of_spaces.main.file : Str) = true := List.all_eq_true.mp (He.ba Z.c.s.more).1
theorem Wd.xf (Z : Wd w K mg base h) : ∀ d ∈ inL, xfB K (He.ga K d.x) = true := List.all_eq_true.mp (He.ba (He.ba Z.c.s.more).2).1
theorem Wd.nd (Z : Wd w K mg base h) : (tfL.map fun p => (He.cT K p).2).Nodup := of_decide_eq_true (He.ba (He.ba Z.c.s.more).2).2
theorem e_InvalidCell (Z : Wd w K mg base h) : ExcFact PP K mg (GG w K mg) "InvalidCell" none := exc_msg Z.X Z.N (Z.d.fact 80 rfl) (Z.d.fact 81 rfl) (show fdL.lookup (PySem.Str.ofString "InvalidCell") = none from by decide +kernel) (by decide +kernel)
theorem e_InvalidSpace (Z : Wd w K mg base h) : ExcFact PP K mg (GG w K mg) "InvalidSpace" none := exc_msg Z.X Z.N (Z.d.fact 82 rfl) (Z.d.fact 83 rfl) (show fdL.lookup (PySem.Str.ofString "InvalidSpace") = none from by decide +kernel) (by decide +kernel)
theorem e_InvalidOperation (Z : Wd w K mg base h) : ExcFact PP K mg (GG w K mg) "InvalidOperation" none := exc_msg Z.X Z.N (Z.d.fact 84 rfl) (Z.d.fact 85 rfl) (show fdL.lookup (PySem.Str.ofString "InvalidOperation") = none from by decide +kernel) (by decide +kernel)
theorem t_InvalidNumber : InitT n_InvalidNumber.params n_InvalidNumber.body n_InvalidNumber.scope n_InvalidNumber.arg n_InvalidNumber.fld := ⟨⟨_, _, _, _, _, _, _, _, _, _, rfl, fun _ => ⟨_, rfl⟩⟩, ⟨_, rfl, rfl⟩, fun _ _ _ _ _ _ _ _ _ _ _ => rfl, by kernel_rfl, by kernel_rfl, by kernel_rfl, by kernel_rfl, by decide +kernel, by kernel_rfl, by kernel_rfl, by kernel_rfl, by decide, by decide⟩
theorem e_InvalidNumber (Z : Wd w K mg base h) : ExcFact PP K mg (GG w K mg) "InvalidNumber" (some "given") := exc_keep (d := n_InvalidNumber) Z.X Z.N (Z.d.fact 86 rfl) ⟨PySem.F.excBase_IndexError, PySem.W.kxs_IndexError, PySem.F.store_IndexError⟩ (Z.c.ini _ (by unfold inL; simp)) (Z.ini _ (by unfold inL; simp)) (by kernel_rfl) t_InvalidNumber (show fdL.lookup (PySem.Str.ofString "InvalidNumber") = some (PySem.Str.ofString "given") from by decide +kernel) (by decide +kernel)
theorem t_TooMany : InitT n_TooMany.params n_TooMany.body n_TooMany.scope n_TooMany.arg n_TooMany.fld := ⟨⟨_, _, _, _, _, _, _, _, _, _, rfl, fun _ => ⟨_, rfl⟩⟩, ⟨_, rfl, rfl⟩, fun _ _ _ _ _ _ _ _ _ _ _ => rfl, by kernel_rfl, by kernel_rfl, by kernel_rfl, by kernel_rfl, by decide +kernel, by kernel_rfl, by kernel_rfl, by kernel_rfl, by decide, by decide⟩
theorem e_TooMany (Z : Wd w K mg base h) : ExcFact PP K mg (GG w K mg) "TooMany" (some "most") := exc_keep (d := n_TooMany) Z.X Z.N (Z.d.fact 88 rfl) ⟨PySem.F.excBase_OverflowError, PySem.W.kxs_OverflowError, PySem.F.store_OverflowError⟩ (Z.c.ini _ (by unfold inL; simp)) (Z.ini _ (by unfold inL; simp)) (by kernel_rfl) t_TooMany (show fdL.lookup (PySem.Str.ofString "TooMany") = some (PySem.Str.ofString "most") from by decide +kernel) (by decide +kernel)
def N_is_whole : List Str := ["value"]
def c_is_whole : S := (.seq (.ret (.and_ (.call (bi isiD) (.cons (.var 0) (.cons (.c (.ty "int")) .nil))) (.not_ (.call (bi isiD) (.cons (.var 0) (.cons (.c (.ty "bool")) .nil)))))) .pass)
def m_is_whole : List D → M D := fnM 1 1 c_is_whole
def i_is_whole : FnI := ⟨1, 1, m_is_whole⟩
def G_is_whole : Gam := { N := N_is_whole, sc := defScope (topS 8), lv := 0, fns := [], cst := [], free := ["isinstance", "int", "bool"], mu := [], asg := cellsOf (defScope (topS 8)) }
theorem k_is_whole : compSs 400 G_is_whole (defBody (topS 8)) = some c_is_whole := by kernel_rfl
theorem s_is_whole : FnScope N_is_whole ["value"] (defScope (topS 8)) := ⟨rfl, rfl, rfl, by decide +kernel, rfl, by decide +kernel, by decide +kernel⟩
theorem g_is_whole (Z : Wd w K mg base h) : ∃ fd, FnG PP w K mg base (L2.CX PP w) 1 (He.fAd K ("is_whole", none)) fd ["value"] (spD (GG w K mg) (fnM 1 1 c_is_whole) 1) ∧ mg "is_whole" = some (.ref (He.fAd K ("is_whole", none))) ∧ PySem.W.keepIn K (.ref (He.fAd K ("is_whole", none))) = true ∧ Binds K fd ["value"] [] := by
  obtain ⟨fd, F⟩ := Z.d.def_ 0 (d := d_is_whole) rfl
  exact ⟨fd, fn_core F s_is_whole (Γ := G_is_whole) rfl rfl k_is_whole rfl rfl rfl TabOk.nil CstOk.nil (FreeOk.cons (He.free_ok Z.X Z.N (Z.d.fact 57 rfl)) (FreeOk.cons (He.free_ok Z.X Z.N (Z.d.fact 58 rfl)) (FreeOk.cons (He.free_ok Z.X Z.N (Z.d.fact 59 rfl)) FreeOk.nil))) (fun _ _ e => by cases e) MetsOk.nil ExcsOk.nil, He.glo_ok Z.X Z.N (Z.d.fact 0 rfl), F.kp, FunD.bindsN F fun _ _ _ _ _ _ us hl => match us, hl with | [_], _ => rfl⟩
theorem f_is_whole (Z : Wd w K mg base h) : FnFact PP w K mg base (GG w K mg) "is_whole" i_is_whole := by
  obtain ⟨fd, F, a, b, c⟩ := g_is_whole Z
  exact ⟨_, fd, _, a, b, c, F, fun _ _ _ _ h => fnM_len h⟩
def N_is_within : List Str := ["value", "least", "most"]
def c_is_within : S := (.seq (.ret (.and_ (.call m_is_whole (.cons (.var 0) .nil)) (.chain .LtE .LtE (.var 1) (.var 0) (.var 2)))) .pass)
def m_is_within : List D → M D := fnM 3 3 c_is_within
def i_is_within : FnI := ⟨2, 3, m_is_within⟩
def G_is_within : Gam := { N := N_is_within, sc := defScope (topS 9), lv := 1, fns := [("is_whole", i_is_whole)], cst := [], free := [], mu := [], asg := cellsOf (defScope (topS 9)) }
theorem k_is_within : compSs 400 G_is_within (defBody (topS 9)) = some c_is_within := by kernel_rfl
theorem s_is_within : FnScope N_is_within ["value", "least", "most"] (defScope (topS 9)) := ⟨rfl, rfl, rfl, by decide +kernel, rfl, by decide +kernel, by decide +kernel⟩
theorem g_is_within (Z : Wd w K mg base h) : ∃ fd, FnG PP w K mg base (L2.CX PP w) 2 (He.fAd K ("is_within", none)) fd ["value", "least", "most"] (spD (GG w K mg) (fnM 3 3 c_is_within) 3) ∧ mg "is_within" = some (.ref (He.fAd K ("is_within", none))) ∧ PySem.W.keepIn K (.ref (He.fAd K ("is_within", none))) = true ∧ Binds K fd ["value", "least", "most"] [] := by
  obtain ⟨fd, F⟩ := Z.d.def_ 1 (d := d_is_within) rfl
  exact ⟨fd, fn_core F s_is_within (Γ := G_is_within) rfl rfl k_is_within rfl rfl rfl (TabOk.cons (f_is_whole Z) TabOk.nil) CstOk.nil FreeOk.nil (fun _ _ e => by cases e) MetsOk.nil ExcsOk.nil, He.glo_ok Z.X Z.N (Z.d.fact 1 rfl), F.kp, FunD.bindsN F fun _ _ _ _ _ _ us hl => match us, hl with | [_, _, _], _ => rfl⟩
theorem f_is_within (Z : Wd w K mg base h) : FnFact PP w K mg base (GG w K mg) "is_within" i_is_within := by
  obtain ⟨fd, F, a, b, c⟩ := g_is_within Z
  exact ⟨_, fd, _, a, b, c, F, fun _ _ _ _ h => fnM_len h⟩
def N_require_within : List Str := ["value", "least", "most"]
def c_require_within : S := (.seq (.ifs (.not_ (.call m_is_within (.cons (.var 0) (.cons (.var 1) (.cons (.var 2) .nil))))) (.seq (.raise "InvalidNumber" (.var 0)) .pass) .pass) .pass)
def m_require_within : List D → M D := fnM 3 3 c_require_within
def i_require_within : FnI := ⟨3, 3, m_require_within⟩
def G_require_within : Gam := { N := N_require_within, sc := defScope (topS 10), lv := 2, fns := [("is_within", i_is_within)], cst := [], free := [], mu := [], asg := cellsOf (defScope (topS 10)), excs := [("InvalidNumber", some "given")] }
theorem k_require_within : compSs 400 G_require_within (defBody (topS 10)) = some c_require_within := by kernel_rfl
theorem s_require_within : FnScope N_require_within ["value", "least", "most"] (defScope (topS 10)) := ⟨rfl, rfl, rfl, by decide +kernel, rfl, by decide +kernel, by decide +kernel⟩
theorem g_require_within (Z : Wd w K mg base h) : ∃ fd, FnG PP w K mg base (L2.CX PP w) 3 (He.fAd K ("require_within", none)) fd ["value", "least", "most"] (spD (GG w K mg) (fnM 3 3 c_require_within) 3) ∧ mg "require_within" = some (.ref (He.fAd K ("require_within", none))) ∧ PySem.W.keepIn K (.ref (He.fAd K ("require_within", none))) = true ∧ Binds K fd ["value", "least", "most"] [] := by
  obtain ⟨fd, F⟩ := Z.d.def_ 2 (d := d_require_within) rfl
  exact ⟨fd, fn_core F s_require_within (Γ := G_require_within) rfl rfl k_require_within rfl rfl rfl (TabOk.cons (f_is_within Z) TabOk.nil) CstOk.nil FreeOk.nil (fun _ _ e => by cases e) MetsOk.nil (ExcsOk.cons (e_InvalidNumber Z) ExcsOk.nil), He.glo_ok Z.X Z.N (Z.d.fact 2 rfl), F.kp, FunD.bindsN F fun _ _ _ _ _ _ us hl => match us, hl with | [_, _, _], _ => rfl⟩
theorem f_require_within (Z : Wd w K mg base h) : FnFact PP w K mg base (GG w K mg) "require_within" i_require_within := by
  obtain ⟨fd, F, a, b, c⟩ := g_require_within Z
  exact ⟨_, fd, _, a, b, c, F, fun _ _ _ _ h => fnM_len h⟩
def N_is_cell : List Str := ["value", "point", "one", "other"]
def c_is_cell : S := (.seq (.ifs (.or_ (.not_ (.call (bi isiD) (.cons (.var 0) (.cons (.c (.ty "tuple")) .nil)))) (.not_ (.chain .LtE .LtE (.c (.int 1)) (.call (bi lenD) (.cons (.var 0) .nil)) (.c (.int 4))))) (.seq (.ret (.c (.bl false))) .pass) .pass) (.seq (.ifs (.not_ (.call (bi allD) (.cons (.lc [1] (.nm 1) (.it1 (.var 0)) (.c (.bl true)) (.call m_is_within (.cons (.var 1) (.cons (.c (.int 0)) (.cons (.c (.int 99)) .nil))))) .nil))) (.seq (.ret (.c (.bl false))) .pass) .pass) (.seq (.ret (.call (bi allD) (.cons (.lc [2, 3] (.cons (.nm 2) (.cons (.nm 3) .nil)) (.zip (.var 0) (.sl (.var 0) (.int_ (.c (.int 1))) (.c .non))) (.c (.bl true)) (.cmp .Lt (.var 2) (.var 3))) .nil))) .pass)))
def m_is_cell : List D → M D := fnM 4 1 c_is_cell
def i_is_cell : FnI := ⟨3, 1, m_is_cell⟩
def G_is_cell : Gam := { N := N_is_cell, sc := defScope (topS 19), lv := 2, fns := [("is_within", i_is_within)], cst := [("MOST_POINT", (.int 99)), ("MOST_LENGTH", (.int 4))], free := ["all", "zip", "isinstance", "tuple", "len"], mu := [], asg := cellsOf (defScope (topS 19)) }
theorem k_is_cell : compSs 400 G_is_cell (defBody (topS 19)) = some c_is_cell := by kernel_rfl
theorem s_is_cell : FnScope N_is_cell ["value"] (defScope (topS 19)) := ⟨rfl, rfl, rfl, by decide +kernel, rfl, by decide +kernel, by decide +kernel⟩
theorem g_is_cell (Z : Wd w K mg base h) : ∃ fd, FnG PP w K mg base (L2.CX PP w) 3 (He.fAd K ("is_cell", none)) fd ["value"] (spD (GG w K mg) (fnM 4 1 c_is_cell) 1) ∧ mg "is_cell" = some (.ref (He.fAd K ("is_cell", none))) ∧ PySem.W.keepIn K (.ref (He.fAd K ("is_cell", none))) = true ∧ Binds K fd ["value"] [] := by
  obtain ⟨fd, F⟩ := Z.d.def_ 3 (d := d_is_cell) rfl
  exact ⟨fd, fn_core F s_is_cell (Γ := G_is_cell) rfl rfl k_is_cell rfl rfl rfl (TabOk.cons (f_is_within Z) TabOk.nil) (CstOk.cons (cst_int (He.int_ok Z.X Z.N (Z.d.fact 73 rfl))) (CstOk.cons (cst_int (He.int_ok Z.X Z.N (Z.d.fact 74 rfl))) CstOk.nil)) (FreeOk.cons (He.free_ok Z.X Z.N (Z.d.fact 60 rfl)) (FreeOk.cons (He.free_ok Z.X Z.N (Z.d.fact 61 rfl)) (FreeOk.cons (He.free_ok Z.X Z.N (Z.d.fact 57 rfl)) (FreeOk.cons (He.free_ok Z.X Z.N (Z.d.fact 62 rfl)) (FreeOk.cons (He.free_ok Z.X Z.N (Z.d.fact 63 rfl)) FreeOk.nil))))) (fun _ _ e => by cases e) MetsOk.nil ExcsOk.nil, He.glo_ok Z.X Z.N (Z.d.fact 3 rfl), F.kp, FunD.bindsN F fun _ _ _ _ _ _ us hl => match us, hl with | [_], _ => rfl⟩
theorem f_is_cell (Z : Wd w K mg base h) : FnFact PP w K mg base (GG w K mg) "is_cell" i_is_cell := by
  obtain ⟨fd, F, a, b, c⟩ := g_is_cell Z
  exact ⟨_, fd, _, a, b, c, F, fun _ _ _ _ h => fnM_len h⟩
def N_faces_in : List Str := ["cell", "at"]
def c_faces_in : S := (.seq (.ifs (.cmp .Eq (.call (bi lenD) (.cons (.var 0) .nil)) (.c (.int 1))) (.seq (.ret (.lst .nil)) .pass) .pass) (.seq (.ret (.lc [1] (.nm 1) (.rng1 (.call (bi lenD) (.cons (.var 0) .nil))) (.c (.bl true)) (.tup (.cons (.ite (.cmp .Eq (.bin .Mod (.var 1) (.c (.int 2))) (.c (.int 0))) (.c (.int 1)) (.neg (.c (.int 1)))) (.cons (.bin .Add (.sl (.var 0) (.c .non) (.int_ (.var 1))) (.sl (.var 0) (.int_ (.bin .Add (.var 1) (.c (.int 1)))) (.c .non))) .nil))))) .pass))
def m_faces_in : List D → M D := fnM 2 1 c_faces_in
def i_faces_in : FnI := ⟨1, 1, m_faces_in⟩
def G_faces_in : Gam := { N := N_faces_in, sc := defScope (topS 20), lv := 0, fns := [], cst := [], free := ["range", "len"], mu := [], asg := cellsOf (defScope (topS 20)) }
theorem k_faces_in : compSs 400 G_faces_in (defBody (topS 20)) = some c_faces_in := by kernel_rfl
theorem s_faces_in : FnScope N_faces_in ["cell"] (defScope (topS 20)) := ⟨rfl, rfl, rfl, by decide +kernel, rfl, by decide +kernel, by decide +kernel⟩
theorem g_faces_in (Z : Wd w K mg base h) : ∃ fd, FnG PP w K mg base (L2.CX PP w) 1 (He.fAd K ("faces_in", none)) fd ["cell"] (spD (GG w K mg) (fnM 2 1 c_faces_in) 1) ∧ mg "faces_in" = some (.ref (He.fAd K ("faces_in", none))) ∧ PySem.W.keepIn K (.ref (He.fAd K ("faces_in", none))) = true ∧ Binds K fd ["cell"] [] := by
  obtain ⟨fd, F⟩ := Z.d.def_ 4 (d := d_faces_in) rfl
  exact ⟨fd, fn_core F s_faces_in (Γ := G_faces_in) rfl rfl k_faces_in rfl rfl rfl TabOk.nil CstOk.nil (FreeOk.cons (He.free_ok Z.X Z.N (Z.d.fact 64 rfl)) (FreeOk.cons (He.free_ok Z.X Z.N (Z.d.fact 63 rfl)) FreeOk.nil)) (fun _ _ e => by cases e) MetsOk.nil ExcsOk.nil, He.glo_ok Z.X Z.N (Z.d.fact 4 rfl), F.kp, FunD.bindsN F fun _ _ _ _ _ _ us hl => match us, hl with | [_], _ => rfl⟩
theorem f_faces_in (Z : Wd w K mg base h) : FnFact PP w K mg base (GG w K mg) "faces_in" i_faces_in := by
  obtain ⟨fd, F, a, b, c⟩ := g_faces_in Z
  exact ⟨_, fd, _, a, b, c, F, fun _ _ _ _ h => fnM_len h⟩
def N_in_sequence : List Str := ["cells", "size", "cell"]
def c_in_sequence : S := (.seq (.ret (.call (bi tupleD) (.cons (.lc [1, 2] (.cons (.nm 1) (.cons (.nm 2) .nil)) (.it1 (.call (bi sortedD) (.cons (.dc false [2] (.nm 2) (.it1 (.var 0)) (.c (.bl true)) (.tup (.cons (.call (bi lenD) (.cons (.var 2) .nil)) (.cons (.var 2) .nil))) (.c (.bl true))) .nil))) (.c (.bl true)) (.var 2)) .nil))) .pass)
def m_in_sequence : List D → M D := fnM 3 1 c_in_sequence
def i_in_sequence : FnI := ⟨1, 1, m_in_sequence⟩
def G_in_sequence : Gam := { N := N_in_sequence, sc := defScope (topS 21), lv := 0, fns := [], cst := [], free := ["tuple", "sorted", "len"], mu := [], asg := cellsOf (defScope (topS 21)) }
theorem k_in_sequence : compSs 400 G_in_sequence (defBody (topS 21)) = some c_in_sequence := by kernel_rfl
theorem s_in_sequence : FnScope N_in_sequence ["cells"] (defScope (topS 21)) := ⟨rfl, rfl, rfl, by decide +kernel, rfl, by decide +kernel, by decide +kernel⟩
theorem g_in_sequence (Z : Wd w K mg base h) : ∃ fd, FnG PP w K mg base (L2.CX PP w) 1 (He.fAd K ("in_sequence", none)) fd ["cells"] (spD (GG w K mg) (fnM 3 1 c_in_sequence) 1) ∧ mg "in_sequence" = some (.ref (He.fAd K ("in_sequence", none))) ∧ PySem.W.keepIn K (.ref (He.fAd K ("in_sequence", none))) = true ∧ Binds K fd ["cells"] [] := by
  obtain ⟨fd, F⟩ := Z.d.def_ 5 (d := d_in_sequence) rfl
  exact ⟨fd, fn_core F s_in_sequence (Γ := G_in_sequence) rfl rfl k_in_sequence rfl rfl rfl TabOk.nil CstOk.nil (FreeOk.cons (He.free_ok Z.X Z.N (Z.d.fact 62 rfl)) (FreeOk.cons (He.free_ok Z.X Z.N (Z.d.fact 65 rfl)) (FreeOk.cons (He.free_ok Z.X Z.N (Z.d.fact 63 rfl)) FreeOk.nil))) (fun _ _ e => by cases e) MetsOk.nil ExcsOk.nil, He.glo_ok Z.X Z.N (Z.d.fact 5 rfl), F.kp, FunD.bindsN F fun _ _ _ _ _ _ us hl => match us, hl with | [_], _ => rfl⟩
theorem f_in_sequence (Z : Wd w K mg base h) : FnFact PP w K mg base (GG w K mg) "in_sequence" i_in_sequence := by
  obtain ⟨fd, F, a, b, c⟩ := g_in_sequence Z
  exact ⟨_, fd, _, a, b, c, F, fun _ _ _ _ h => fnM_len h⟩
def N_parts_in : List Str := ["cell", "found", "point", "part"]
def c_parts_in : S := (.seq (.asg (.nm 1) (.lstM (.cons (.tup .nil) .nil))) (.seq (.for_ (.nm 2) (.it1 (.var 0)) (.seq (.expr (.ext (.var 1) (.lc [3] (.nm 3) (.it1 (.var 1)) (.c (.bl true)) (.tup (.star (.var 3) (.cons (.var 2) .nil)))))) .pass)) (.seq (.ret (.call m_in_sequence (.cons (.lc [3] (.nm 3) (.it1 (.var 1)) (.cmp .NotEq (.var 3) (.tup .nil)) (.var 3)) .nil))) .pass)))
def m_parts_in : List D → M D := soloM KT (fnM 4 1 c_parts_in)
def u_parts_in : List D → M D := runM KT TT (fnM 4 1 c_parts_in)
def i_parts_in : FnI := ⟨2, 1, m_parts_in⟩
def G_parts_in : Gam := { N := N_parts_in, sc := defScope (topS 22), lv := 1, fns := [("in_sequence", i_in_sequence)], cst := [], free := [], mu := [(49, 12)], asg := cellsOf (defScope (topS 22)) }
theorem k_parts_in : compSs 400 G_parts_in (defBody (topS 22)) = some c_parts_in := by kernel_rfl
theorem s_parts_in : FnScope N_parts_in ["cell"] (defScope (topS 22)) := ⟨rfl, rfl, rfl, by decide +kernel, rfl, by decide +kernel, by decide +kernel⟩
theorem g_parts_in (Z : Wd w K mg base h) : ∃ fd, FnG PP w K mg base (L2.CX PP w) 2 (He.fAd K ("parts_in", none)) fd ["cell"] (spD (GG w K mg) (fnM 4 1 c_parts_in) 1) ∧ mg "parts_in" = some (.ref (He.fAd K ("parts_in", none))) ∧ PySem.W.keepIn K (.ref (He.fAd K ("parts_in", none))) = true ∧ Binds K fd ["cell"] [] := by
  obtain ⟨fd, F⟩ := Z.d.def_ 6 (d := d_parts_in) rfl
  exact ⟨fd, fn_core F s_parts_in (Γ := G_parts_in) rfl rfl k_parts_in rfl rfl rfl (TabOk.cons (f_in_sequence Z) TabOk.nil) CstOk.nil FreeOk.nil (fun _ _ e => by cases e) MetsOk.nil ExcsOk.nil, He.glo_ok Z.X Z.N (Z.d.fact 6 rfl), F.kp, FunD.bindsN F fun _ _ _ _ _ _ us hl => match us, hl with | [_], _ => rfl⟩
theorem f_parts_in (Z : Wd w K mg base h) : FnFact PP w K mg base (GG w K mg) "parts_in" i_parts_in := by
  obtain ⟨fd, F, a, b, c⟩ := g_parts_in Z
  exact ⟨_, fd, _, a, b, c, solo_fn tLen F, fun _ _ _ _ h => solo_len h⟩
def N_is_part : List Str := ["part", "cell", "point"]
def c_is_part : S := (.seq (.ret (.call (bi allD) (.cons (.lc [2] (.nm 2) (.it1 (.var 0)) (.c (.bl true)) (.cmp .In (.var 2) (.var 1))) .nil))) .pass)
def m_is_part : List D → M D := fnM 3 2 c_is_part
def i_is_part : FnI := ⟨1, 2, m_is_part⟩
def G_is_part : Gam := { N := N_is_part, sc := defScope (topS 23), lv := 0, fns := [], cst := [], free := ["all"], mu := [], asg := cellsOf (defScope (topS 23)) }
theorem k_is_part : compSs 400 G_is_part (defBody (topS 23)) = some c_is_part := by kernel_rfl
theorem s_is_part : FnScope N_is_part ["part", "cell"] (defScope (topS 23)) := ⟨rfl, rfl, rfl, by decide +kernel, rfl, by decide +kernel, by decide +kernel⟩
theorem g_is_part (Z : Wd w K mg base h) : ∃ fd, FnG PP w K mg base (L2.CX PP w) 1 (He.fAd K ("is_part", none)) fd ["part", "cell"] (spD (GG w K mg) (fnM 3 2 c_is_part) 2) ∧ mg "is_part" = some (.ref (He.fAd K ("is_part", none))) ∧ PySem.W.keepIn K (.ref (He.fAd K ("is_part", none))) = true ∧ Binds K fd ["part", "cell"] [] := by
  obtain ⟨fd, F⟩ := Z.d.def_ 7 (d := d_is_part) rfl
  exact ⟨fd, fn_core F s_is_part (Γ := G_is_part) rfl rfl k_is_part rfl rfl rfl TabOk.nil CstOk.nil (FreeOk.cons (He.free_ok Z.X Z.N (Z.d.fact 60 rfl)) FreeOk.nil) (fun _ _ e => by cases e) MetsOk.nil ExcsOk.nil, He.glo_ok Z.X Z.N (Z.d.fact 7 rfl), F.kp, FunD.bindsN F fun _ _ _ _ _ _ us hl => match us, hl with | [_, _], _ => rfl⟩
theorem f_is_part (Z : Wd w K mg base h) : FnFact PP w K mg base (GG w K mg) "is_part" i_is_part := by
  obtain ⟨fd, F, a, b, c⟩ := g_is_part Z
  exact ⟨_, fd, _, a, b, c, F, fun _ _ _ _ h => fnM_len h⟩
def N_united : List Str := ["one", "other", "point"]
def c_united : S := (.seq (.ret (.call (bi tupleD) (.cons (.call (bi sortedD) (.cons (.dc false [2] (.nm 2) (.it1 (.tup (.star (.var 0) (.star (.var 1) .nil)))) (.c (.bl true)) (.var 2) (.c (.bl true))) .nil)) .nil))) .pass)
def m_united : List D → M D := fnM 3 2 c_united
def i_united : FnI := ⟨1, 2, m_united⟩
def G_united : Gam := { N := N_united, sc := defScope (topS 24), lv := 0, fns := [], cst := [], free := ["tuple", "sorted"], mu := [], asg := cellsOf (defScope (topS 24)) }
theorem k_united : compSs 400 G_united (defBody (topS 24)) = some c_united := by kernel_rfl
theorem s_united : FnScope N_united ["one", "other"] (defScope (topS 24)) := ⟨rfl, rfl, rfl, by decide +kernel, rfl, by decide +kernel, by decide +kernel⟩
theorem g_united (Z : Wd w K mg base h) : ∃ fd, FnG PP w K mg base (L2.CX PP w) 1 (He.fAd K ("united", none)) fd ["one", "other"] (spD (GG w K mg) (fnM 3 2 c_united) 2) ∧ mg "united" = some (.ref (He.fAd K ("united", none))) ∧ PySem.W.keepIn K (.ref (He.fAd K ("united", none))) = true ∧ Binds K fd ["one", "other"] [] := by
  obtain ⟨fd, F⟩ := Z.d.def_ 8 (d := d_united) rfl
  exact ⟨fd, fn_core F s_united (Γ := G_united) rfl rfl k_united rfl rfl rfl TabOk.nil CstOk.nil (FreeOk.cons (He.free_ok Z.X Z.N (Z.d.fact 62 rfl)) (FreeOk.cons (He.free_ok Z.X Z.N (Z.d.fact 65 rfl)) FreeOk.nil)) (fun _ _ e => by cases e) MetsOk.nil ExcsOk.nil, He.glo_ok Z.X Z.N (Z.d.fact 8 rfl), F.kp, FunD.bindsN F fun _ _ _ _ _ _ us hl => match us, hl with | [_, _], _ => rfl⟩
theorem f_united (Z : Wd w K mg base h) : FnFact PP w K mg base (GG w K mg) "united" i_united := by
  obtain ⟨fd, F, a, b, c⟩ := g_united Z
  exact ⟨_, fd, _, a, b, c, F, fun _ _ _ _ h => fnM_len h⟩
def N_is_space : List Str := ["value", "cell", "there", "sign", "face"]
def c_is_space : S := (.seq (.ifs (.or_ (.not_ (.call (bi isiD) (.cons (.var 0) (.cons (.c (.ty "tuple")) .nil)))) (.or_ (.cmp .Gt (.call (bi lenD) (.cons (.var 0) .nil)) (.c (.int 80))) (.not_ (.call (bi allD) (.cons (.lc [1] (.nm 1) (.it1 (.var 0)) (.c (.bl true)) (.call m_is_cell (.cons (.var 1) .nil))) .nil))))) (.seq (.ret (.c (.bl false))) .pass) .pass) (.seq (.ifs (.cmp .NotEq (.var 0) (.call m_in_sequence (.cons (.var 0) .nil))) (.seq (.ret (.c (.bl false))) .pass) .pass) (.seq (.asg (.nm 2) (.dc false [1] (.nm 1) (.it1 (.var 0)) (.c (.bl true)) (.var 1) (.c (.bl true)))) (.seq (.ret (.call (bi allD) (.cons (.lc2 [1, 3, 4] (.nm 1) (.it1 (.var 0)) (.c (.bl true)) [3, 4] (.cons (.nm 3) (.cons (.nm 4) .nil)) (.it1 (.call m_faces_in (.cons (.var 1) .nil))) (.c (.bl true)) (.cmp .In (.var 4) (.var 2))) .nil))) .pass))))
def m_is_space : List D → M D := fnM 5 1 c_is_space
def i_is_space : FnI := ⟨4, 1, m_is_space⟩
def G_is_space : Gam := { N := N_is_space, sc := defScope (topS 25), lv := 3, fns := [("faces_in", i_faces_in), ("in_sequence", i_in_sequence), ("is_cell", i_is_cell)], cst := [("MOST_CELLS", (.int 80))], free := ["all", "isinstance", "tuple", "len"], mu := [], asg := cellsOf (defScope (topS 25)) }
theorem k_is_space : compSs 400 G_is_space (defBody (topS 25)) = some c_is_space := by kernel_rfl
theorem s_is_space : FnScope N_is_space ["value"] (defScope (topS 25)) := ⟨rfl, rfl, rfl, by decide +kernel, rfl, by decide +kernel, by decide +kernel⟩
theorem g_is_space (Z : Wd w K mg base h) : ∃ fd, FnG PP w K mg base (L2.CX PP w) 4 (He.fAd K ("is_space", none)) fd ["value"] (spD (GG w K mg) (fnM 5 1 c_is_space) 1) ∧ mg "is_space" = some (.ref (He.fAd K ("is_space", none))) ∧ PySem.W.keepIn K (.ref (He.fAd K ("is_space", none))) = true ∧ Binds K fd ["value"] [] := by
  obtain ⟨fd, F⟩ := Z.d.def_ 9 (d := d_is_space) rfl
  exact ⟨fd, fn_core F s_is_space (Γ := G_is_space) rfl rfl k_is_space rfl rfl rfl (TabOk.cons (f_faces_in Z) (TabOk.cons (f_in_sequence Z) (TabOk.cons (f_is_cell Z) TabOk.nil))) (CstOk.cons (cst_int (He.int_ok Z.X Z.N (Z.d.fact 75 rfl))) CstOk.nil) (FreeOk.cons (He.free_ok Z.X Z.N (Z.d.fact 60 rfl)) (FreeOk.cons (He.free_ok Z.X Z.N (Z.d.fact 57 rfl)) (FreeOk.cons (He.free_ok Z.X Z.N (Z.d.fact 62 rfl)) (FreeOk.cons (He.free_ok Z.X Z.N (Z.d.fact 63 rfl)) FreeOk.nil)))) (fun _ _ e => by cases e) MetsOk.nil ExcsOk.nil, He.glo_ok Z.X Z.N (Z.d.fact 9 rfl), F.kp, FunD.bindsN F fun _ _ _ _ _ _ us hl => match us, hl with | [_], _ => rfl⟩
theorem f_is_space (Z : Wd w K mg base h) : FnFact PP w K mg base (GG w K mg) "is_space" i_is_space := by
  obtain ⟨fd, F, a, b, c⟩ := g_is_space Z
  exact ⟨_, fd, _, a, b, c, F, fun _ _ _ _ h => fnM_len h⟩
def N_closed_in : List Str := ["cells", "cell", "part"]
def c_closed_in : S := (.seq (.ret (.call m_in_sequence (.cons (.lc2 [1, 2] (.nm 1) (.it1 (.var 0)) (.c (.bl true)) [2] (.nm 2) (.it1 (.call m_parts_in (.cons (.var 1) .nil))) (.c (.bl true)) (.var 2)) .nil))) .pass)
def m_closed_in : List D → M D := fnM 3 1 c_closed_in
def i_closed_in : FnI := ⟨3, 1, m_closed_in⟩
def G_closed_in : Gam := { N := N_closed_in, sc := defScope (topS 26), lv := 2, fns := [("in_sequence", i_in_sequence), ("parts_in", i_parts_in)], cst := [], free := [], mu := [], asg := cellsOf (defScope (topS 26)) }
theorem k_closed_in : compSs 400 G_closed_in (defBody (topS 26)) = some c_closed_in := by kernel_rfl
theorem s_closed_in : FnScope N_closed_in ["cells"] (defScope (topS 26)) := ⟨rfl, rfl, rfl, by decide +kernel, rfl, by decide +kernel, by decide +kernel⟩
theorem g_closed_in (Z : Wd w K mg base h) : ∃ fd, FnG PP w K mg base (L2.CX PP w) 3 (He.fAd K ("closed_in", none)) fd ["cells"] (spD (GG w K mg) (fnM 3 1 c_closed_in) 1) ∧ mg "closed_in" = some (.ref (He.fAd K ("closed_in", none))) ∧ PySem.W.keepIn K (.ref (He.fAd K ("closed_in", none))) = true ∧ Binds K fd ["cells"] [] := by
  obtain ⟨fd, F⟩ := Z.d.def_ 10 (d := d_closed_in) rfl
  exact ⟨fd, fn_core F s_closed_in (Γ := G_closed_in) rfl rfl k_closed_in rfl rfl rfl (TabOk.cons (f_in_sequence Z) (TabOk.cons (f_parts_in Z) TabOk.nil)) CstOk.nil FreeOk.nil (fun _ _ e => by cases e) MetsOk.nil ExcsOk.nil, He.glo_ok Z.X Z.N (Z.d.fact 10 rfl), F.kp, FunD.bindsN F fun _ _ _ _ _ _ us hl => match us, hl with | [_], _ => rfl⟩
theorem f_closed_in (Z : Wd w K mg base h) : FnFact PP w K mg base (GG w K mg) "closed_in" i_closed_in := by
  obtain ⟨fd, F, a, b, c⟩ := g_closed_in Z
  exact ⟨_, fd, _, a, b, c, F, fun _ _ _ _ h => fnM_len h⟩
def N_cells_in : List Str := ["space", "degree", "cell"]
def c_cells_in : S := (.seq (.ret (.call (bi tupleD) (.cons (.lc [2] (.nm 2) (.it1 (.var 0)) (.cmp .Eq (.call (bi lenD) (.cons (.var 2) .nil)) (.bin .Add (.var 1) (.c (.int 1)))) (.var 2)) .nil))) .pass)
def m_cells_in : List D → M D := fnM 3 2 c_cells_in
def i_cells_in : FnI := ⟨1, 2, m_cells_in⟩
def G_cells_in : Gam := { N := N_cells_in, sc := defScope (topS 27), lv := 0, fns := [], cst := [], free := ["tuple", "len"], mu := [], asg := cellsOf (defScope (topS 27)) }
theorem k_cells_in : compSs 400 G_cells_in (defBody (topS 27)) = some c_cells_in := by kernel_rfl
theorem s_cells_in : FnScope N_cells_in ["space", "degree"] (defScope (topS 27)) := ⟨rfl, rfl, rfl, by decide +kernel, rfl, by decide +kernel, by decide +kernel⟩
theorem g_cells_in (Z : Wd w K mg base h) : ∃ fd, FnG PP w K mg base (L2.CX PP w) 1 (He.fAd K ("cells_in", none)) fd ["space", "degree"] (spD (GG w K mg) (fnM 3 2 c_cells_in) 2) ∧ mg "cells_in" = some (.ref (He.fAd K ("cells_in", none))) ∧ PySem.W.keepIn K (.ref (He.fAd K ("cells_in", none))) = true ∧ Binds K fd ["space", "degree"] [] := by
  obtain ⟨fd, F⟩ := Z.d.def_ 11 (d := d_cells_in) rfl
  exact ⟨fd, fn_core F s_cells_in (Γ := G_cells_in) rfl rfl k_cells_in rfl rfl rfl TabOk.nil CstOk.nil (FreeOk.cons (He.free_ok Z.X Z.N (Z.d.fact 62 rfl)) (FreeOk.cons (He.free_ok Z.X Z.N (Z.d.fact 63 rfl)) FreeOk.nil)) (fun _ _ e => by cases e) MetsOk.nil ExcsOk.nil, He.glo_ok Z.X Z.N (Z.d.fact 11 rfl), F.kp, FunD.bindsN F fun _ _ _ _ _ _ us hl => match us, hl with | [_, _], _ => rfl⟩
theorem f_cells_in (Z : Wd w K mg base h) : FnFact PP w K mg base (GG w K mg) "cells_in" i_cells_in := by
  obtain ⟨fd, F, a, b, c⟩ := g_cells_in Z
  exact ⟨_, fd, _, a, b, c, F, fun _ _ _ _ h => fnM_len h⟩
def N_points_in : List Str := ["space", "cell"]
def c_points_in : S := (.seq (.ret (.call (bi tupleD) (.cons (.lc [1] (.nm 1) (.it1 (.call m_cells_in (.cons (.var 0) (.cons (.c (.int 0)) .nil)))) (.c (.bl true)) (.ix (.var 1) (.c (.int 0)))) .nil))) .pass)
def m_points_in : List D → M D := fnM 2 1 c_points_in
def i_points_in : FnI := ⟨2, 1, m_points_in⟩
def G_points_in : Gam := { N := N_points_in, sc := defScope (topS 28), lv := 1, fns := [("cells_in", i_cells_in)], cst := [], free := ["tuple"], mu := [], asg := cellsOf (defScope (topS 28)) }
theorem k_points_in : compSs 400 G_points_in (defBody (topS 28)) = some c_points_in := by kernel_rfl
theorem s_points_in : FnScope N_points_in ["space"] (defScope (topS 28)) := ⟨rfl, rfl, rfl, by decide +kernel, rfl, by decide +kernel, by decide +kernel⟩
theorem g_points_in (Z : Wd w K mg base h) : ∃ fd, FnG PP w K mg base (L2.CX PP w) 2 (He.fAd K ("points_in", none)) fd ["space"] (spD (GG w K mg) (fnM 2 1 c_points_in) 1) ∧ mg "points_in" = some (.ref (He.fAd K ("points_in", none))) ∧ PySem.W.keepIn K (.ref (He.fAd K ("points_in", none))) = true ∧ Binds K fd ["space"] [] := by
  obtain ⟨fd, F⟩ := Z.d.def_ 12 (d := d_points_in) rfl
  exact ⟨fd, fn_core F s_points_in (Γ := G_points_in) rfl rfl k_points_in rfl rfl rfl (TabOk.cons (f_cells_in Z) TabOk.nil) CstOk.nil (FreeOk.cons (He.free_ok Z.X Z.N (Z.d.fact 62 rfl)) FreeOk.nil) (fun _ _ e => by cases e) MetsOk.nil ExcsOk.nil, He.glo_ok Z.X Z.N (Z.d.fact 12 rfl), F.kp, FunD.bindsN F fun _ _ _ _ _ _ us hl => match us, hl with | [_], _ => rfl⟩
theorem f_points_in (Z : Wd w K mg base h) : FnFact PP w K mg base (GG w K mg) "points_in" i_points_in := by
  obtain ⟨fd, F, a, b, c⟩ := g_points_in Z
  exact ⟨_, fd, _, a, b, c, F, fun _ _ _ _ h => fnM_len h⟩
def N_degree_in : List Str := ["space"]
def c_degree_in : S := (.seq (.ret (.ite (.cmp .NotEq (.var 0) (.tup .nil)) (.bin .Sub (.call (bi lenD) (.cons (.ix (.var 0) (.neg (.c (.int 1)))) .nil)) (.c (.int 1))) (.neg (.c (.int 1))))) .pass)
def m_degree_in : List D → M D := fnM 1 1 c_degree_in
def i_degree_in : FnI := ⟨1, 1, m_degree_in⟩
def G_degree_in : Gam := { N := N_degree_in, sc := defScope (topS 29), lv := 0, fns := [], cst := [], free := ["len"], mu := [], asg := cellsOf (defScope (topS 29)) }
theorem k_degree_in : compSs 400 G_degree_in (defBody (topS 29)) = some c_degree_in := by kernel_rfl
theorem s_degree_in : FnScope N_degree_in ["space"] (defScope (topS 29)) := ⟨rfl, rfl, rfl, by decide +kernel, rfl, by decide +kernel, by decide +kernel⟩
theorem g_degree_in (Z : Wd w K mg base h) : ∃ fd, FnG PP w K mg base (L2.CX PP w) 1 (He.fAd K ("degree_in", none)) fd ["space"] (spD (GG w K mg) (fnM 1 1 c_degree_in) 1) ∧ mg "degree_in" = some (.ref (He.fAd K ("degree_in", none))) ∧ PySem.W.keepIn K (.ref (He.fAd K ("degree_in", none))) = true ∧ Binds K fd ["space"] [] := by
  obtain ⟨fd, F⟩ := Z.d.def_ 13 (d := d_degree_in) rfl
  exact ⟨fd, fn_core F s_degree_in (Γ := G_degree_in) rfl rfl k_degree_in rfl rfl rfl TabOk.nil CstOk.nil (FreeOk.cons (He.free_ok Z.X Z.N (Z.d.fact 63 rfl)) FreeOk.nil) (fun _ _ e => by cases e) MetsOk.nil ExcsOk.nil, He.glo_ok Z.X Z.N (Z.d.fact 13 rfl), F.kp, FunD.bindsN F fun _ _ _ _ _ _ us hl => match us, hl with | [_], _ => rfl⟩
theorem f_degree_in (Z : Wd w K mg base h) : FnFact PP w K mg base (GG w K mg) "degree_in" i_degree_in := by
  obtain ⟨fd, F, a, b, c⟩ := g_degree_in Z
  exact ⟨_, fd, _, a, b, c, F, fun _ _ _ _ h => fnM_len h⟩
def N_star_in : List Str := ["space", "cell", "one"]
def c_star_in : S := (.seq (.ret (.call (bi tupleD) (.cons (.lc [2] (.nm 2) (.it1 (.var 0)) (.call m_is_part (.cons (.var 1) (.cons (.var 2) .nil))) (.var 2)) .nil))) .pass)
def m_star_in : List D → M D := fnM 3 2 c_star_in
def i_star_in : FnI := ⟨2, 2, m_star_in⟩
def G_star_in : Gam := { N := N_star_in, sc := defScope (topS 30), lv := 1, fns := [("is_part", i_is_part)], cst := [], free := ["tuple"], mu := [], asg := cellsOf (defScope (topS 30)) }
theorem k_star_in : compSs 400 G_star_in (defBody (topS 30)) = some c_star_in := by kernel_rfl
theorem s_star_in : FnScope N_star_in ["space", "cell"] (defScope (topS 30)) := ⟨rfl, rfl, rfl, by decide +kernel, rfl, by decide +kernel, by decide +kernel⟩
theorem g_star_in (Z : Wd w K mg base h) : ∃ fd, FnG PP w K mg base (L2.CX PP w) 2 (He.fAd K ("star_in", none)) fd ["space", "cell"] (spD (GG w K mg) (fnM 3 2 c_star_in) 2) ∧ mg "star_in" = some (.ref (He.fAd K ("star_in", none))) ∧ PySem.W.keepIn K (.ref (He.fAd K ("star_in", none))) = true ∧ Binds K fd ["space", "cell"] [] := by
  obtain ⟨fd, F⟩ := Z.d.def_ 14 (d := d_star_in) rfl
  exact ⟨fd, fn_core F s_star_in (Γ := G_star_in) rfl rfl k_star_in rfl rfl rfl (TabOk.cons (f_is_part Z) TabOk.nil) CstOk.nil (FreeOk.cons (He.free_ok Z.X Z.N (Z.d.fact 62 rfl)) FreeOk.nil) (fun _ _ e => by cases e) MetsOk.nil ExcsOk.nil, He.glo_ok Z.X Z.N (Z.d.fact 14 rfl), F.kp, FunD.bindsN F fun _ _ _ _ _ _ us hl => match us, hl with | [_, _], _ => rfl⟩
theorem f_star_in (Z : Wd w K mg base h) : FnFact PP w K mg base (GG w K mg) "star_in" i_star_in := by
  obtain ⟨fd, F, a, b, c⟩ := g_star_in Z
  exact ⟨_, fd, _, a, b, c, F, fun _ _ _ _ h => fnM_len h⟩
def N_link_in : List Str := ["space", "cell", "rest", "point", "one"]
def c_link_in : S := (.seq (.asg (.nm 2) (.lc [4] (.nm 4) (.it1 (.call m_star_in (.cons (.var 0) (.cons (.var 1) .nil)))) (.c (.bl true)) (.call (bi tupleD) (.cons (.lc [3] (.nm 3) (.it1 (.var 4)) (.cmp .NotIn (.var 3) (.var 1)) (.var 3)) .nil)))) (.seq (.ret (.call m_in_sequence (.cons (.lc [4] (.nm 4) (.it1 (.var 2)) (.cmp .NotEq (.var 4) (.tup .nil)) (.var 4)) .nil))) .pass))
def m_link_in : List D → M D := fnM 5 2 c_link_in
def i_link_in : FnI := ⟨3, 2, m_link_in⟩
def G_link_in : Gam := { N := N_link_in, sc := defScope (topS 31), lv := 2, fns := [("in_sequence", i_in_sequence), ("star_in", i_star_in)], cst := [], free := ["tuple"], mu := [], asg := cellsOf (defScope (topS 31)) }
theorem k_link_in : compSs 400 G_link_in (defBody (topS 31)) = some c_link_in := by kernel_rfl
theorem s_link_in : FnScope N_link_in ["space", "cell"] (defScope (topS 31)) := ⟨rfl, rfl, rfl, by decide +kernel, rfl, by decide +kernel, by decide +kernel⟩
theorem g_link_in (Z : Wd w K mg base h) : ∃ fd, FnG PP w K mg base (L2.CX PP w) 3 (He.fAd K ("link_in", none)) fd ["space", "cell"] (spD (GG w K mg) (fnM 5 2 c_link_in) 2) ∧ mg "link_in" = some (.ref (He.fAd K ("link_in", none))) ∧ PySem.W.keepIn K (.ref (He.fAd K ("link_in", none))) = true ∧ Binds K fd ["space", "cell"] [] := by
  obtain ⟨fd, F⟩ := Z.d.def_ 15 (d := d_link_in) rfl
  exact ⟨fd, fn_core F s_link_in (Γ := G_link_in) rfl rfl k_link_in rfl rfl rfl (TabOk.cons (f_in_sequence Z) (TabOk.cons (f_star_in Z) TabOk.nil)) CstOk.nil (FreeOk.cons (He.free_ok Z.X Z.N (Z.d.fact 62 rfl)) FreeOk.nil) (fun _ _ e => by cases e) MetsOk.nil ExcsOk.nil, He.glo_ok Z.X Z.N (Z.d.fact 15 rfl), F.kp, FunD.bindsN F fun _ _ _ _ _ _ us hl => match us, hl with | [_, _], _ => rfl⟩
theorem f_link_in (Z : Wd w K mg base h) : FnFact PP w K mg base (GG w K mg) "link_in" i_link_in := by
  obtain ⟨fd, F, a, b, c⟩ := g_link_in Z
  exact ⟨_, fd, _, a, b, c, F, fun _ _ _ _ h => fnM_len h⟩
def N_skeleton_in : List Str := ["space", "degree", "cell"]
def c_skeleton_in : S := (.seq (.ret (.call (bi tupleD) (.cons (.lc [2] (.nm 2) (.it1 (.var 0)) (.cmp .LtE (.call (bi lenD) (.cons (.var 2) .nil)) (.bin .Add (.var 1) (.c (.int 1)))) (.var 2)) .nil))) .pass)
def m_skeleton_in : List D → M D := fnM 3 2 c_skeleton_in
def i_skeleton_in : FnI := ⟨1, 2, m_skeleton_in⟩
def G_skeleton_in : Gam := { N := N_skeleton_in, sc := defScope (topS 32), lv := 0, fns := [], cst := [], free := ["tuple", "len"], mu := [], asg := cellsOf (defScope (topS 32)) }
theorem k_skeleton_in : compSs 400 G_skeleton_in (defBody (topS 32)) = some c_skeleton_in := by kernel_rfl
theorem s_skeleton_in : FnScope N_skeleton_in ["space", "degree"] (defScope (topS 32)) := ⟨rfl, rfl, rfl, by decide +kernel, rfl, by decide +kernel, by decide +kernel⟩
theorem g_skeleton_in (Z : Wd w K mg base h) : ∃ fd, FnG PP w K mg base (L2.CX PP w) 1 (He.fAd K ("skeleton_in", none)) fd ["space", "degree"] (spD (GG w K mg) (fnM 3 2 c_skeleton_in) 2) ∧ mg "skeleton_in" = some (.ref (He.fAd K ("skeleton_in", none))) ∧ PySem.W.keepIn K (.ref (He.fAd K ("skeleton_in", none))) = true ∧ Binds K fd ["space", "degree"] [] := by
  obtain ⟨fd, F⟩ := Z.d.def_ 16 (d := d_skeleton_in) rfl
  exact ⟨fd, fn_core F s_skeleton_in (Γ := G_skeleton_in) rfl rfl k_skeleton_in rfl rfl rfl TabOk.nil CstOk.nil (FreeOk.cons (He.free_ok Z.X Z.N (Z.d.fact 62 rfl)) (FreeOk.cons (He.free_ok Z.X Z.N (Z.d.fact 63 rfl)) FreeOk.nil)) (fun _ _ e => by cases e) MetsOk.nil ExcsOk.nil, He.glo_ok Z.X Z.N (Z.d.fact 16 rfl), F.kp, FunD.bindsN F fun _ _ _ _ _ _ us hl => match us, hl with | [_, _], _ => rfl⟩
theorem f_skeleton_in (Z : Wd w K mg base h) : FnFact PP w K mg base (GG w K mg) "skeleton_in" i_skeleton_in := by
  obtain ⟨fd, F, a, b, c⟩ := g_skeleton_in Z
  exact ⟨_, fd, _, a, b, c, F, fun _ _ _ _ h => fnM_len h⟩
def N_border_in : List Str := ["space", "degree", "columns", "sign", "face", "cell", "rows", "column"]
def c_border_in : S := (.seq (.asg (.nm 2) (.lc [5] (.nm 5) (.it1 (.call m_cells_in (.cons (.var 0) (.cons (.var 1) .nil)))) (.c (.bl true)) (.dc false [3, 4] (.cons (.nm 3) (.cons (.nm 4) .nil)) (.it1 (.call m_faces_in (.cons (.var 5) .nil))) (.c (.bl true)) (.var 4) (.var 3)))) (.seq (.asg (.nm 6) (.lc [4] (.nm 4) (.it1 (.call m_cells_in (.cons (.var 0) (.cons (.bin .Sub (.var 1) (.c (.int 1))) .nil)))) (.c (.bl true)) (.call (bi tupleD) (.cons (.lc [7] (.nm 7) (.it1 (.var 2)) (.c (.bl true)) (.dget (.var 7) (.var 4) (.c (.int 0)))) .nil)))) (.seq (.ret (.tup (.cons (.call (bi lenD) (.cons (.var 2) .nil)) (.cons (.call (bi tupleD) (.cons (.var 6) .nil)) .nil)))) .pass)))
def m_border_in : List D → M D := fnM 8 2 c_border_in
def i_border_in : FnI := ⟨2, 2, m_border_in⟩
def G_border_in : Gam := { N := N_border_in, sc := defScope (topS 33), lv := 1, fns := [("cells_in", i_cells_in), ("faces_in", i_faces_in)], cst := [], free := ["tuple", "len"], mu := [], asg := cellsOf (defScope (topS 33)) }
theorem k_border_in : compSs 400 G_border_in (defBody (topS 33)) = some c_border_in := by kernel_rfl
theorem s_border_in : FnScope N_border_in ["space", "degree"] (defScope (topS 33)) := ⟨rfl, rfl, rfl, by decide +kernel, rfl, by decide +kernel, by decide +kernel⟩
theorem g_border_in (Z : Wd w K mg base h) : ∃ fd, FnG PP w K mg base (L2.CX PP w) 2 (He.fAd K ("border_in", none)) fd ["space", "degree"] (spD (GG w K mg) (fnM 8 2 c_border_in) 2) ∧ mg "border_in" = some (.ref (He.fAd K ("border_in", none))) ∧ PySem.W.keepIn K (.ref (He.fAd K ("border_in", none))) = true ∧ Binds K fd ["space", "degree"] [] := by
  obtain ⟨fd, F⟩ := Z.d.def_ 17 (d := d_border_in) rfl
  exact ⟨fd, fn_core F s_border_in (Γ := G_border_in) rfl rfl k_border_in rfl rfl rfl (TabOk.cons (f_cells_in Z) (TabOk.cons (f_faces_in Z) TabOk.nil)) CstOk.nil (FreeOk.cons (He.free_ok Z.X Z.N (Z.d.fact 62 rfl)) (FreeOk.cons (He.free_ok Z.X Z.N (Z.d.fact 63 rfl)) FreeOk.nil)) (fun _ _ e => by cases e) MetsOk.nil ExcsOk.nil, He.glo_ok Z.X Z.N (Z.d.fact 17 rfl), F.kp, FunD.bindsN F fun _ _ _ _ _ _ us hl => match us, hl with | [_, _], _ => rfl⟩
theorem f_border_in (Z : Wd w K mg base h) : FnFact PP w K mg base (GG w K mg) "border_in" i_border_in := by
  obtain ⟨fd, F, a, b, c⟩ := g_border_in Z
  exact ⟨_, fd, _, a, b, c, F, fun _ _ _ _ h => fnM_len h⟩
def N_neighbours_in : List Str := ["space", "found", "point", "one", "other", "some"]
def c_neighbours_in : S := (.seq (.asg (.nm 1) (.dc false [2] (.nm 2) (.it1 (.call m_points_in (.cons (.var 0) .nil))) (.c (.bl true)) (.var 2) (.lst .nil))) (.seq (.for_ (.cons (.nm 3) (.cons (.nm 4) .nil)) (.it1 (.call m_cells_in (.cons (.var 0) (.cons (.c (.int 1)) .nil)))) (.seq .never (.seq .never .pass))) (.seq (.ret (.dc false [2, 5] (.cons (.nm 2) (.cons (.nm 5) .nil)) (.itms (.var 1)) (.c (.bl true)) (.var 2) (.call (bi sortedD) (.cons (.var 5) .nil)))) .pass)))
def m_neighbours_in : List D → M D := fnM 6 1 c_neighbours_in
def i_neighbours_in : FnI := ⟨3, 1, m_neighbours_in⟩
def G_neighbours_in : Gam := { N := N_neighbours_in, sc := defScope (topS 34), lv := 2, fns := [("cells_in", i_cells_in), ("points_in", i_points_in)], cst := [], free := ["sorted"], mu := [], asg := cellsOf (defScope (topS 34)) }
theorem k_neighbours_in : compSs 400 G_neighbours_in (defBody (topS 34)) = some c_neighbours_in := by kernel_rfl
theorem s_neighbours_in : FnScope N_neighbours_in ["space"] (defScope (topS 34)) := ⟨rfl, rfl, rfl, by decide +kernel, rfl, by decide +kernel, by decide +kernel⟩
theorem g_neighbours_in (Z : Wd w K mg base h) : ∃ fd, FnG PP w K mg base (L2.CX PP w) 3 (He.fAd K ("neighbours_in", none)) fd ["space"] (spD (GG w K mg) (fnM 6 1 c_neighbours_in) 1) ∧ mg "neighbours_in" = some (.ref (He.fAd K ("neighbours_in", none))) ∧ PySem.W.keepIn K (.ref (He.fAd K ("neighbours_in", none))) = true ∧ Binds K fd ["space"] [] := by
  obtain ⟨fd, F⟩ := Z.d.def_ 18 (d := d_neighbours_in) rfl
  exact ⟨fd, fn_core F s_neighbours_in (Γ := G_neighbours_in) rfl rfl k_neighbours_in rfl rfl rfl (TabOk.cons (f_cells_in Z) (TabOk.cons (f_points_in Z) TabOk.nil)) CstOk.nil (FreeOk.cons (He.free_ok Z.X Z.N (Z.d.fact 65 rfl)) FreeOk.nil) (fun _ _ e => by cases e) MetsOk.nil ExcsOk.nil, He.glo_ok Z.X Z.N (Z.d.fact 18 rfl), F.kp, FunD.bindsN F fun _ _ _ _ _ _ us hl => match us, hl with | [_], _ => rfl⟩
theorem f_neighbours_in (Z : Wd w K mg base h) : FnFact PP w K mg base (GG w K mg) "neighbours_in" i_neighbours_in := by
  obtain ⟨fd, F, a, b, c⟩ := g_neighbours_in Z
  exact ⟨_, fd, _, a, b, c, F, fun _ _ _ _ h => fnM_len h⟩
def N_paths_from : List Str := ["space", "point", "beside", "found", "waiting", "at", "other"]
def c_paths_from : S := (.seq (.asg (.cons (.nm 2) (.cons (.nm 3) (.cons (.nm 4) (.cons (.nm 5) .nil)))) (.tup (.cons (.call m_neighbours_in (.cons (.var 0) .nil)) (.cons (.d1 true (.var 1) (.tup (.cons (.var 1) .nil))) (.cons (.lstM (.cons (.var 1) .nil)) (.cons (.c (.int 0)) .nil)))))) (.seq (.whl fuelW (.cmp .Lt (.var 5) (.call (bi lenD) (.cons (.var 4) .nil))) (.seq (.for_ (.nm 6) (.it1 (.ix (.var 2) (.ix (.var 4) (.var 5)))) (.seq (.ifs (.cmp .NotIn (.var 6) (.var 3)) (.seq (.setix (.var 3) (.var 6) (.tup (.star (.ix (.var 3) (.ix (.var 4) (.var 5))) (.cons (.var 6) .nil)))) (.seq (.expr (.app (.var 4) (.var 6))) .pass)) .pass) .pass)) (.seq (.aug 5 .Add (.c (.int 1))) .pass))) (.seq (.ret (.var 3)) .pass)))
def m_paths_from : List D → M D := soloM KT (fnM 7 2 c_paths_from)
def u_paths_from : List D → M D := runM KT TT (fnM 7 2 c_paths_from)
def i_paths_from : FnI := ⟨4, 2, m_paths_from⟩
def G_paths_from : Gam := { N := N_paths_from, sc := defScope (topS 35), lv := 3, fns := [("neighbours_in", i_neighbours_in)], cst := [], free := ["len"], mu := [(90, 56), (90, 75)], asg := cellsOf (defScope (topS 35)) }
theorem k_paths_from : compSs 400 G_paths_from (defBody (topS 35)) = some c_paths_from := by kernel_rfl
theorem s_paths_from : FnScope N_paths_from ["space", "point"] (defScope (topS 35)) := ⟨rfl, rfl, rfl, by decide +kernel, rfl, by decide +kernel, by decide +kernel⟩
theorem g_paths_from (Z : Wd w K mg base h) : ∃ fd, FnG PP w K mg base (L2.CX PP w) 4 (He.fAd K ("paths_from", none)) fd ["space", "point"] (spD (GG w K mg) (fnM 7 2 c_paths_from) 2) ∧ mg "paths_from" = some (.ref (He.fAd K ("paths_from", none))) ∧ PySem.W.keepIn K (.ref (He.fAd K ("paths_from", none))) = true ∧ Binds K fd ["space", "point"] [] := by
  obtain ⟨fd, F⟩ := Z.d.def_ 19 (d := d_paths_from) rfl
  exact ⟨fd, fn_core F s_paths_from (Γ := G_paths_from) rfl rfl k_paths_from rfl rfl rfl (TabOk.cons (f_neighbours_in Z) TabOk.nil) CstOk.nil (FreeOk.cons (He.free_ok Z.X Z.N (Z.d.fact 63 rfl)) FreeOk.nil) (fun _ _ e => by cases e) MetsOk.nil ExcsOk.nil, He.glo_ok Z.X Z.N (Z.d.fact 19 rfl), F.kp, FunD.bindsN F fun _ _ _ _ _ _ us hl => match us, hl with | [_, _], _ => rfl⟩
theorem f_paths_from (Z : Wd w K mg base h) : FnFact PP w K mg base (GG w K mg) "paths_from" i_paths_from := by
  obtain ⟨fd, F, a, b, c⟩ := g_paths_from Z
  exact ⟨_, fd, _, a, b, c, solo_fn tLen F, fun _ _ _ _ h => solo_len h⟩
def N_pieces_in : List Str := ["space", "found", "known", "point", "some", "cell"]
def c_pieces_in : S := (.seq (.par 1 2 (.lstM .nil) .dnewM) (.seq (.for_ (.nm 3) (.it1 (.call m_points_in (.cons (.var 0) .nil))) (.seq (.ifs (.cmp .NotIn (.var 3) (.var 2)) (.seq (.asg (.nm 4) (.call m_paths_from (.cons (.var 0) (.cons (.var 3) .nil)))) (.seq (.expr (.dupd (.var 2) (.var 4))) (.seq (.expr (.app (.var 1) (.call (bi tupleD) (.cons (.lc [5] (.nm 5) (.it1 (.var 0)) (.cmp .In (.ix (.var 5) (.c (.int 0))) (.var 4)) (.var 5)) .nil)))) .pass))) .pass) .pass)) (.seq (.ret (.var 1)) .pass)))
def m_pieces_in : List D → M D := soloM KT (fnM 6 1 c_pieces_in)
def u_pieces_in : List D → M D := runM KT TT (fnM 6 1 c_pieces_in)
def i_pieces_in : FnI := ⟨5, 1, m_pieces_in⟩
def G_pieces_in : Gam := { N := N_pieces_in, sc := defScope (topS 36), lv := 4, fns := [("points_in", i_points_in), ("paths_from", i_paths_from)], cst := [], free := ["tuple"], mu := [(99, 20), (99, 24)], asg := cellsOf (defScope (topS 36)) }
theorem k_pieces_in : compSs 400 G_pieces_in (defBody (topS 36)) = some c_pieces_in := by kernel_rfl
theorem s_pieces_in : FnScope N_pieces_in ["space"] (defScope (topS 36)) := ⟨rfl, rfl, rfl, by decide +kernel, rfl, by decide +kernel, by decide +kernel⟩
theorem g_pieces_in (Z : Wd w K mg base h) : ∃ fd, FnG PP w K mg base (L2.CX PP w) 5 (He.fAd K ("pieces_in", none)) fd ["space"] (spD (GG w K mg) (fnM 6 1 c_pieces_in) 1) ∧ mg "pieces_in" = some (.ref (He.fAd K ("pieces_in", none))) ∧ PySem.W.keepIn K (.ref (He.fAd K ("pieces_in", none))) = true ∧ Binds K fd ["space"] [] := by
  obtain ⟨fd, F⟩ := Z.d.def_ 20 (d := d_pieces_in) rfl
  exact ⟨fd, fn_core F s_pieces_in (Γ := G_pieces_in) rfl rfl k_pieces_in rfl rfl rfl (TabOk.cons (f_points_in Z) (TabOk.cons (f_paths_from Z) TabOk.nil)) CstOk.nil (FreeOk.cons (He.free_ok Z.X Z.N (Z.d.fact 62 rfl)) FreeOk.nil) (fun _ _ e => by cases e) MetsOk.nil ExcsOk.nil, He.glo_ok Z.X Z.N (Z.d.fact 20 rfl), F.kp, FunD.bindsN F fun _ _ _ _ _ _ us hl => match us, hl with | [_], _ => rfl⟩
theorem f_pieces_in (Z : Wd w K mg base h) : FnFact PP w K mg base (GG w K mg) "pieces_in" i_pieces_in := by
  obtain ⟨fd, F, a, b, c⟩ := g_pieces_in Z
  exact ⟨_, fd, _, a, b, c, solo_fn tLen F, fun _ _ _ _ h => solo_len h⟩
def N_require_cell : List Str := ["value"]
def c_require_cell : S := (.seq (.ifs (.not_ (.call m_is_cell (.cons (.var 0) .nil))) (.seq (.raise "InvalidCell" (.c (.str (PySem.Str.ofString "an ascending tuple of one to four points is expected")))) .pass) .pass) .pass)
def m_require_cell : List D → M D := fnM 1 1 c_require_cell
def i_require_cell : FnI := ⟨4, 1, m_require_cell⟩
def G_require_cell : Gam := { N := N_require_cell, sc := defScope (topS 37), lv := 3, fns := [("is_cell", i_is_cell)], cst := [], free := [], mu := [], asg := cellsOf (defScope (topS 37)), excs := [("InvalidCell", none)] }
theorem k_require_cell : compSs 400 G_require_cell (defBody (topS 37)) = some c_require_cell := by kernel_rfl
theorem s_require_cell : FnScope N_require_cell ["value"] (defScope (topS 37)) := ⟨rfl, rfl, rfl, by decide +kernel, rfl, by decide +kernel, by decide +kernel⟩
theorem g_require_cell (Z : Wd w K mg base h) : ∃ fd, FnG PP w K mg base (L2.CX PP w) 4 (He.fAd K ("require_cell", none)) fd ["value"] (spD (GG w K mg) (fnM 1 1 c_require_cell) 1) ∧ mg "require_cell" = some (.ref (He.fAd K ("require_cell", none))) ∧ PySem.W.keepIn K (.ref (He.fAd K ("require_cell", none))) = true ∧ Binds K fd ["value"] [] := by
  obtain ⟨fd, F⟩ := Z.d.def_ 21 (d := d_require_cell) rfl
  exact ⟨fd, fn_core F s_require_cell (Γ := G_require_cell) rfl rfl k_require_cell rfl rfl rfl (TabOk.cons (f_is_cell Z) TabOk.nil) CstOk.nil FreeOk.nil (fun _ _ e => by cases e) MetsOk.nil (ExcsOk.cons (e_InvalidCell Z) ExcsOk.nil), He.glo_ok Z.X Z.N (Z.d.fact 21 rfl), F.kp, FunD.bindsN F fun _ _ _ _ _ _ us hl => match us, hl with | [_], _ => rfl⟩
theorem f_require_cell (Z : Wd w K mg base h) : FnFact PP w K mg base (GG w K mg) "require_cell" i_require_cell := by
  obtain ⟨fd, F, a, b, c⟩ := g_require_cell Z
  exact ⟨_, fd, _, a, b, c, F, fun _ _ _ _ h => fnM_len h⟩
def N_require_space : List Str := ["value"]
def c_require_space : S := (.seq (.ifs (.not_ (.call m_is_space (.cons (.var 0) .nil))) (.seq (.raise "InvalidSpace" (.c (.str (PySem.Str.ofString "a tuple of cells with all their faces is expected")))) .pass) .pass) .pass)
def m_require_space : List D → M D := fnM 1 1 c_require_space
def i_require_space : FnI := ⟨5, 1, m_require_space⟩
def G_require_space : Gam := { N := N_require_space, sc := defScope (topS 38), lv := 4, fns := [("is_space", i_is_space)], cst := [], free := [], mu := [], asg := cellsOf (defScope (topS 38)), excs := [("InvalidSpace", none)] }
theorem k_require_space : compSs 400 G_require_space (defBody (topS 38)) = some c_require_space := by kernel_rfl
theorem s_require_space : FnScope N_require_space ["value"] (defScope (topS 38)) := ⟨rfl, rfl, rfl, by decide +kernel, rfl, by decide +kernel, by decide +kernel⟩
theorem g_require_space (Z : Wd w K mg base h) : ∃ fd, FnG PP w K mg base (L2.CX PP w) 5 (He.fAd K ("require_space", none)) fd ["value"] (spD (GG w K mg) (fnM 1 1 c_require_space) 1) ∧ mg "require_space" = some (.ref (He.fAd K ("require_space", none))) ∧ PySem.W.keepIn K (.ref (He.fAd K ("require_space", none))) = true ∧ Binds K fd ["value"] [] := by
  obtain ⟨fd, F⟩ := Z.d.def_ 22 (d := d_require_space) rfl
  exact ⟨fd, fn_core F s_require_space (Γ := G_require_space) rfl rfl k_require_space rfl rfl rfl (TabOk.cons (f_is_space Z) TabOk.nil) CstOk.nil FreeOk.nil (fun _ _ e => by cases e) MetsOk.nil (ExcsOk.cons (e_InvalidSpace Z) ExcsOk.nil), He.glo_ok Z.X Z.N (Z.d.fact 22 rfl), F.kp, FunD.bindsN F fun _ _ _ _ _ _ us hl => match us, hl with | [_], _ => rfl⟩
theorem f_require_space (Z : Wd w K mg base h) : FnFact PP w K mg base (GG w K mg) "require_space" i_require_space := by
  obtain ⟨fd, F, a, b, c⟩ := g_require_space Z
  exact ⟨_, fd, _, a, b, c, F, fun _ _ _ _ h => fnM_len h⟩
def N_require_cell_of : List Str := ["space", "value"]
def c_require_cell_of : S := (.seq (.expr (.call m_require_space (.cons (.var 0) .nil))) (.seq (.ifs (.or_ (.not_ (.call m_is_cell (.cons (.var 1) .nil))) (.cmp .NotIn (.var 1) (.var 0))) (.seq (.raise "InvalidCell" (.c (.str (PySem.Str.ofString "a cell of the space is expected")))) .pass) .pass) .pass))
def m_require_cell_of : List D → M D := fnM 2 2 c_require_cell_of
def i_require_cell_of : FnI := ⟨6, 2, m_require_cell_of⟩
def G_require_cell_of : Gam := { N := N_require_cell_of, sc := defScope (topS 39), lv := 5, fns := [("is_cell", i_is_cell), ("require_space", i_require_space)], cst := [], free := [], mu := [], asg := cellsOf (defScope (topS 39)), excs := [("InvalidCell", none)] }
theorem k_require_cell_of : compSs 400 G_require_cell_of (defBody (topS 39)) = some c_require_cell_of := by kernel_rfl
theorem s_require_cell_of : FnScope N_require_cell_of ["space", "value"] (defScope (topS 39)) := ⟨rfl, rfl, rfl, by decide +kernel, rfl, by decide +kernel, by decide +kernel⟩
theorem g_require_cell_of (Z : Wd w K mg base h) : ∃ fd, FnG PP w K mg base (L2.CX PP w) 6 (He.fAd K ("require_cell_of", none)) fd ["space", "value"] (spD (GG w K mg) (fnM 2 2 c_require_cell_of) 2) ∧ mg "require_cell_of" = some (.ref (He.fAd K ("require_cell_of", none))) ∧ PySem.W.keepIn K (.ref (He.fAd K ("require_cell_of", none))) = true ∧ Binds K fd ["space", "value"] [] := by
  obtain ⟨fd, F⟩ := Z.d.def_ 23 (d := d_require_cell_of) rfl
  exact ⟨fd, fn_core F s_require_cell_of (Γ := G_require_cell_of) rfl rfl k_require_cell_of rfl rfl rfl (TabOk.cons (f_is_cell Z) (TabOk.cons (f_require_space Z) TabOk.nil)) CstOk.nil FreeOk.nil (fun _ _ e => by cases e) MetsOk.nil (ExcsOk.cons (e_InvalidCell Z) ExcsOk.nil), He.glo_ok Z.X Z.N (Z.d.fact 23 rfl), F.kp, FunD.bindsN F fun _ _ _ _ _ _ us hl => match us, hl with | [_, _], _ => rfl⟩
theorem f_require_cell_of (Z : Wd w K mg base h) : FnFact PP w K mg base (GG w K mg) "require_cell_of" i_require_cell_of := by
  obtain ⟨fd, F, a, b, c⟩ := g_require_cell_of Z
  exact ⟨_, fd, _, a, b, c, F, fun _ _ _ _ h => fnM_len h⟩
def N_require_few : List Str := ["cells"]
def c_require_few : S := (.seq (.ifs (.cmp .Gt (.call (bi lenD) (.cons (.var 0) .nil)) (.c (.int 80))) (.seq (.raise "TooMany" (.c (.int 80))) .pass) .pass) .pass)
def m_require_few : List D → M D := fnM 1 1 c_require_few
def i_require_few : FnI := ⟨3, 1, m_require_few⟩
def G_require_few : Gam := { N := N_require_few, sc := defScope (topS 40), lv := 2, fns := [], cst := [("MOST_CELLS", (.int 80))], free := ["len"], mu := [], asg := cellsOf (defScope (topS 40)), excs := [("TooMany", some "most")] }
theorem k_require_few : compSs 400 G_require_few (defBody (topS 40)) = some c_require_few := by kernel_rfl
theorem s_require_few : FnScope N_require_few ["cells"] (defScope (topS 40)) := ⟨rfl, rfl, rfl, by decide +kernel, rfl, by decide +kernel, by decide +kernel⟩
theorem g_require_few (Z : Wd w K mg base h) : ∃ fd, FnG PP w K mg base (L2.CX PP w) 3 (He.fAd K ("require_few", none)) fd ["cells"] (spD (GG w K mg) (fnM 1 1 c_require_few) 1) ∧ mg "require_few" = some (.ref (He.fAd K ("require_few", none))) ∧ PySem.W.keepIn K (.ref (He.fAd K ("require_few", none))) = true ∧ Binds K fd ["cells"] [] := by
  obtain ⟨fd, F⟩ := Z.d.def_ 24 (d := d_require_few) rfl
  exact ⟨fd, fn_core F s_require_few (Γ := G_require_few) rfl rfl k_require_few rfl rfl rfl TabOk.nil (CstOk.cons (cst_int (He.int_ok Z.X Z.N (Z.d.fact 75 rfl))) CstOk.nil) (FreeOk.cons (He.free_ok Z.X Z.N (Z.d.fact 63 rfl)) FreeOk.nil) (fun _ _ e => by cases e) MetsOk.nil (ExcsOk.cons (e_TooMany Z) ExcsOk.nil), He.glo_ok Z.X Z.N (Z.d.fact 24 rfl), F.kp, FunD.bindsN F fun _ _ _ _ _ _ us hl => match us, hl with | [_], _ => rfl⟩
theorem f_require_few (Z : Wd w K mg base h) : FnFact PP w K mg base (GG w K mg) "require_few" i_require_few := by
  obtain ⟨fd, F, a, b, c⟩ := g_require_few Z
  exact ⟨_, fd, _, a, b, c, F, fun _ _ _ _ h => fnM_len h⟩
def N_require_two_points : List Str := ["space", "one", "other", "point"]
def c_require_two_points : S := (.seq (.expr (.call m_require_space (.cons (.var 0) .nil))) (.seq (.for_ (.nm 3) (.it1 (.tup (.cons (.var 1) (.cons (.var 2) .nil)))) (.seq (.ifs (.or_ (.not_ (.call m_is_within (.cons (.var 3) (.cons (.c (.int 0)) (.cons (.c (.int 99)) .nil))))) (.cmp .NotIn (.tup (.cons (.var 3) .nil)) (.var 0))) (.seq (.raise "InvalidNumber" (.var 3)) .pass) .pass) .pass)) .pass))
def m_require_two_points : List D → M D := fnM 4 3 c_require_two_points
def i_require_two_points : FnI := ⟨6, 3, m_require_two_points⟩
def G_require_two_points : Gam := { N := N_require_two_points, sc := defScope (topS 41), lv := 5, fns := [("is_within", i_is_within), ("require_space", i_require_space)], cst := [("MOST_POINT", (.int 99))], free := [], mu := [], asg := cellsOf (defScope (topS 41)), excs := [("InvalidNumber", some "given")] }
theorem k_require_two_points : compSs 400 G_require_two_points (defBody (topS 41)) = some c_require_two_points := by kernel_rfl
theorem s_require_two_points : FnScope N_require_two_points ["space", "one", "other"] (defScope (topS 41)) := ⟨rfl, rfl, rfl, by decide +kernel, rfl, by decide +kernel, by decide +kernel⟩
theorem g_require_two_points (Z : Wd w K mg base h) : ∃ fd, FnG PP w K mg base (L2.CX PP w) 6 (He.fAd K ("require_two_points", none)) fd ["space", "one", "other"] (spD (GG w K mg) (fnM 4 3 c_require_two_points) 3) ∧ mg "require_two_points" = some (.ref (He.fAd K ("require_two_points", none))) ∧ PySem.W.keepIn K (.ref (He.fAd K ("require_two_points", none))) = true ∧ Binds K fd ["space", "one", "other"] [] := by
  obtain ⟨fd, F⟩ := Z.d.def_ 25 (d := d_require_two_points) rfl
  exact ⟨fd, fn_core F s_require_two_points (Γ := G_require_two_points) rfl rfl k_require_two_points rfl rfl rfl (TabOk.cons (f_is_within Z) (TabOk.cons (f_require_space Z) TabOk.nil)) (CstOk.cons (cst_int (He.int_ok Z.X Z.N (Z.d.fact 73 rfl))) CstOk.nil) FreeOk.nil (fun _ _ e => by cases e) MetsOk.nil (ExcsOk.cons (e_InvalidNumber Z) ExcsOk.nil), He.glo_ok Z.X Z.N (Z.d.fact 25 rfl), F.kp, FunD.bindsN F fun _ _ _ _ _ _ us hl => match us, hl with | [_, _, _], _ => rfl⟩
theorem f_require_two_points (Z : Wd w K mg base h) : FnFact PP w K mg base (GG w K mg) "require_two_points" i_require_two_points := by
  obtain ⟨fd, F, a, b, c⟩ := g_require_two_points Z
  exact ⟨_, fd, _, a, b, c, F, fun _ _ _ _ h => fnM_len h⟩
def N_require_two_spaces : List Str := ["one", "other"]
def c_require_two_spaces : S := (.seq (.expr (.call m_require_space (.cons (.var 0) .nil))) (.seq (.expr (.call m_require_space (.cons (.var 1) .nil))) .pass))
def m_require_two_spaces : List D → M D := fnM 2 2 c_require_two_spaces
def i_require_two_spaces : FnI := ⟨6, 2, m_require_two_spaces⟩
def G_require_two_spaces : Gam := { N := N_require_two_spaces, sc := defScope (topS 42), lv := 5, fns := [("require_space", i_require_space)], cst := [], free := [], mu := [], asg := cellsOf (defScope (topS 42)) }
theorem k_require_two_spaces : compSs 400 G_require_two_spaces (defBody (topS 42)) = some c_require_two_spaces := by kernel_rfl
theorem s_require_two_spaces : FnScope N_require_two_spaces ["one", "other"] (defScope (topS 42)) := ⟨rfl, rfl, rfl, by decide +kernel, rfl, by decide +kernel, by decide +kernel⟩
theorem g_require_two_spaces (Z : Wd w K mg base h) : ∃ fd, FnG PP w K mg base (L2.CX PP w) 6 (He.fAd K ("require_two_spaces", none)) fd ["one", "other"] (spD (GG w K mg) (fnM 2 2 c_require_two_spaces) 2) ∧ mg "require_two_spaces" = some (.ref (He.fAd K ("require_two_spaces", none))) ∧ PySem.W.keepIn K (.ref (He.fAd K ("require_two_spaces", none))) = true ∧ Binds K fd ["one", "other"] [] := by
  obtain ⟨fd, F⟩ := Z.d.def_ 26 (d := d_require_two_spaces) rfl
  exact ⟨fd, fn_core F s_require_two_spaces (Γ := G_require_two_spaces) rfl rfl k_require_two_spaces rfl rfl rfl (TabOk.cons (f_require_space Z) TabOk.nil) CstOk.nil FreeOk.nil (fun _ _ e => by cases e) MetsOk.nil ExcsOk.nil, He.glo_ok Z.X Z.N (Z.d.fact 26 rfl), F.kp, FunD.bindsN F fun _ _ _ _ _ _ us hl => match us, hl with | [_, _], _ => rfl⟩
theorem f_require_two_spaces (Z : Wd w K mg base h) : FnFact PP w K mg base (GG w K mg) "require_two_spaces" i_require_two_spaces := by
  obtain ⟨fd, F, a, b, c⟩ := g_require_two_spaces Z
  exact ⟨_, fd, _, a, b, c, F, fun _ _ _ _ h => fnM_len h⟩
def N_faces : List Str := ["cell"]
def c_faces : S := (.seq (.expr (.call m_require_cell (.cons (.var 0) .nil))) (.seq (.ret (.call (bi tupleD) (.cons (.call m_faces_in (.cons (.var 0) .nil)) .nil))) .pass))
def m_faces : List D → M D := soloM KT (fnM 1 1 c_faces)
def u_faces : List D → M D := runM KT TT (fnM 1 1 c_faces)
def i_faces : FnI := ⟨5, 1, m_faces⟩
def G_faces : Gam := { N := N_faces, sc := defScope (topS 43), lv := 4, fns := [("faces_in", i_faces_in), ("require_cell", i_require_cell)], cst := [], free := ["tuple"], mu := [], asg := cellsOf (defScope (topS 43)) }
theorem k_faces : compSs 400 G_faces (defBody (topS 43)) = some c_faces := by kernel_rfl
theorem s_faces : FnScope N_faces ["cell"] (defScope (topS 43)) := ⟨rfl, rfl, rfl, by decide +kernel, rfl, by decide +kernel, by decide +kernel⟩
theorem g_faces (Z : Wd w K mg base h) : ∃ fd, FnG PP w K mg base (L2.CX PP w) 5 (He.fAd K ("faces", none)) fd ["cell"] (spD (GG w K mg) (fnM 1 1 c_faces) 1) ∧ mg "faces" = some (.ref (He.fAd K ("faces", none))) ∧ PySem.W.keepIn K (.ref (He.fAd K ("faces", none))) = true ∧ Binds K fd ["cell"] [] := by
  obtain ⟨fd, F⟩ := Z.d.def_ 27 (d := d_faces) rfl
  exact ⟨fd, fn_core F s_faces (Γ := G_faces) rfl rfl k_faces rfl rfl rfl (TabOk.cons (f_faces_in Z) (TabOk.cons (f_require_cell Z) TabOk.nil)) CstOk.nil (FreeOk.cons (He.free_ok Z.X Z.N (Z.d.fact 62 rfl)) FreeOk.nil) (fun _ _ e => by cases e) MetsOk.nil ExcsOk.nil, He.glo_ok Z.X Z.N (Z.d.fact 27 rfl), F.kp, FunD.bindsN F fun _ _ _ _ _ _ us hl => match us, hl with | [_], _ => rfl⟩
theorem f_faces (Z : Wd w K mg base h) : FnFact PP w K mg base (GG w K mg) "faces" i_faces := by
  obtain ⟨fd, F, a, b, c⟩ := g_faces Z
  exact ⟨_, fd, _, a, b, c, solo_fn tLen F, fun _ _ _ _ h => solo_len h⟩
def N_parts : List Str := ["cell"]
def c_parts : S := (.seq (.expr (.call m_require_cell (.cons (.var 0) .nil))) (.seq (.ret (.call m_parts_in (.cons (.var 0) .nil))) .pass))
def m_parts : List D → M D := soloM KT (fnM 1 1 c_parts)
def u_parts : List D → M D := runM KT TT (fnM 1 1 c_parts)
def i_parts : FnI := ⟨5, 1, m_parts⟩
def G_parts : Gam := { N := N_parts, sc := defScope (topS 44), lv := 4, fns := [("parts_in", i_parts_in), ("require_cell", i_require_cell)], cst := [], free := [], mu := [], asg := cellsOf (defScope (topS 44)) }
theorem k_parts : compSs 400 G_parts (defBody (topS 44)) = some c_parts := by kernel_rfl
theorem s_parts : FnScope N_parts ["cell"] (defScope (topS 44)) := ⟨rfl, rfl, rfl, by decide +kernel, rfl, by decide +kernel, by decide +kernel⟩
theorem g_parts (Z : Wd w K mg base h) : ∃ fd, FnG PP w K mg base (L2.CX PP w) 5 (He.fAd K ("parts", none)) fd ["cell"] (spD (GG w K mg) (fnM 1 1 c_parts) 1) ∧ mg "parts" = some (.ref (He.fAd K ("parts", none))) ∧ PySem.W.keepIn K (.ref (He.fAd K ("parts", none))) = true ∧ Binds K fd ["cell"] [] := by
  obtain ⟨fd, F⟩ := Z.d.def_ 28 (d := d_parts) rfl
  exact ⟨fd, fn_core F s_parts (Γ := G_parts) rfl rfl k_parts rfl rfl rfl (TabOk.cons (f_parts_in Z) (TabOk.cons (f_require_cell Z) TabOk.nil)) CstOk.nil FreeOk.nil (fun _ _ e => by cases e) MetsOk.nil ExcsOk.nil, He.glo_ok Z.X Z.N (Z.d.fact 28 rfl), F.kp, FunD.bindsN F fun _ _ _ _ _ _ us hl => match us, hl with | [_], _ => rfl⟩
theorem f_parts (Z : Wd w K mg base h) : FnFact PP w K mg base (GG w K mg) "parts" i_parts := by
  obtain ⟨fd, F, a, b, c⟩ := g_parts Z
  exact ⟨_, fd, _, a, b, c, solo_fn tLen F, fun _ _ _ _ h => solo_len h⟩
def N_space_of : List Str := ["cells", "cell", "found"]
def c_space_of : S := (.seq (.ifs (.or_ (.not_ (.call (bi isiD) (.cons (.var 0) (.cons (.c (.ty "tuple")) .nil)))) (.or_ (.cmp .Gt (.call (bi lenD) (.cons (.var 0) .nil)) (.c (.int 80))) (.not_ (.call (bi allD) (.cons (.lc [1] (.nm 1) (.it1 (.var 0)) (.c (.bl true)) (.call m_is_cell (.cons (.var 1) .nil))) .nil))))) (.seq (.raise "InvalidCell" (.c (.str (PySem.Str.ofString "a tuple of at most 80 cells is expected")))) .pass) .pass) (.seq (.asg (.nm 2) (.call m_closed_in (.cons (.var 0) .nil))) (.seq (.expr (.call m_require_few (.cons (.var 2) .nil))) (.seq (.ret (.var 2)) .pass))))
def m_space_of : List D → M D := soloM KT (fnM 3 1 c_space_of)
def u_space_of : List D → M D := runM KT TT (fnM 3 1 c_space_of)
def i_space_of : FnI := ⟨4, 1, m_space_of⟩
def G_space_of : Gam := { N := N_space_of, sc := defScope (topS 45), lv := 3, fns := [("require_few", i_require_few), ("closed_in", i_closed_in), ("is_cell", i_is_cell)], cst := [("MOST_CELLS", (.int 80))], free := ["isinstance", "tuple", "len", "all"], mu := [], asg := cellsOf (defScope (topS 45)), excs := [("InvalidCell", none)] }
theorem k_space_of : compSs 400 G_space_of (defBody (topS 45)) = some c_space_of := by kernel_rfl
theorem s_space_of : FnScope N_space_of ["cells"] (defScope (topS 45)) := ⟨rfl, rfl, rfl, by decide +kernel, rfl, by decide +kernel, by decide +kernel⟩
theorem g_space_of (Z : Wd w K mg base h) : ∃ fd, FnG PP w K mg base (L2.CX PP w) 4 (He.fAd K ("space_of", none)) fd ["cells"] (spD (GG w K mg) (fnM 3 1 c_space_of) 1) ∧ mg "space_of" = some (.ref (He.fAd K ("space_of", none))) ∧ PySem.W.keepIn K (.ref (He.fAd K ("space_of", none))) = true ∧ Binds K fd ["cells"] [] := by
  obtain ⟨fd, F⟩ := Z.d.def_ 29 (d := d_space_of) rfl
  exact ⟨fd, fn_core F s_space_of (Γ := G_space_of) rfl rfl k_space_of rfl rfl rfl (TabOk.cons (f_require_few Z) (TabOk.cons (f_closed_in Z) (TabOk.cons (f_is_cell Z) TabOk.nil))) (CstOk.cons (cst_int (He.int_ok Z.X Z.N (Z.d.fact 75 rfl))) CstOk.nil) (FreeOk.cons (He.free_ok Z.X Z.N (Z.d.fact 57 rfl)) (FreeOk.cons (He.free_ok Z.X Z.N (Z.d.fact 62 rfl)) (FreeOk.cons (He.free_ok Z.X Z.N (Z.d.fact 63 rfl)) (FreeOk.cons (He.free_ok Z.X Z.N (Z.d.fact 60 rfl)) FreeOk.nil)))) (fun _ _ e => by cases e) MetsOk.nil (ExcsOk.cons (e_InvalidCell Z) ExcsOk.nil), He.glo_ok Z.X Z.N (Z.d.fact 29 rfl), F.kp, FunD.bindsN F fun _ _ _ _ _ _ us hl => match us, hl with | [_], _ => rfl⟩
theorem f_space_of (Z : Wd w K mg base h) : FnFact PP w K mg base (GG w K mg) "space_of" i_space_of := by
  obtain ⟨fd, F, a, b, c⟩ := g_space_of Z
  exact ⟨_, fd, _, a, b, c, solo_fn tLen F, fun _ _ _ _ h => solo_len h⟩
def N_degree_of : List Str := ["space"]
def c_degree_of : S := (.seq (.expr (.call m_require_space (.cons (.var 0) .nil))) (.seq (.ret (.call m_degree_in (.cons (.var 0) .nil))) .pass))
def m_degree_of : List D → M D := soloM KT (fnM 1 1 c_degree_of)
def u_degree_of : List D → M D := runM KT TT (fnM 1 1 c_degree_of)
def i_degree_of : FnI := ⟨6, 1, m_degree_of⟩
def G_degree_of : Gam := { N := N_degree_of, sc := defScope (topS 46), lv := 5, fns := [("degree_in", i_degree_in), ("require_space", i_require_space)], cst := [], free := [], mu := [], asg := cellsOf (defScope (topS 46)) }
theorem k_degree_of : compSs 400 G_degree_of (defBody (topS 46)) = some c_degree_of := by kernel_rfl
theorem s_degree_of : FnScope N_degree_of ["space"] (defScope (topS 46)) := ⟨rfl, rfl, rfl, by decide +kernel, rfl, by decide +kernel, by decide +kernel⟩
theorem g_degree_of (Z : Wd w K mg base h) : ∃ fd, FnG PP w K mg base (L2.CX PP w) 6 (He.fAd K ("degree_of", none)) fd ["space"] (spD (GG w K mg) (fnM 1 1 c_degree_of) 1) ∧ mg "degree_of" = some (.ref (He.fAd K ("degree_of", none))) ∧ PySem.W.keepIn K (.ref (He.fAd K ("degree_of", none))) = true ∧ Binds K fd ["space"] [] := by
  obtain ⟨fd, F⟩ := Z.d.def_ 30 (d := d_degree_of) rfl
  exact ⟨fd, fn_core F s_degree_of (Γ := G_degree_of) rfl rfl k_degree_of rfl rfl rfl (TabOk.cons (f_degree_in Z) (TabOk.cons (f_require_space Z) TabOk.nil)) CstOk.nil FreeOk.nil (fun _ _ e => by cases e) MetsOk.nil ExcsOk.nil, He.glo_ok Z.X Z.N (Z.d.fact 30 rfl), F.kp, FunD.bindsN F fun _ _ _ _ _ _ us hl => match us, hl with | [_], _ => rfl⟩
theorem f_degree_of (Z : Wd w K mg base h) : FnFact PP w K mg base (GG w K mg) "degree_of" i_degree_of := by
  obtain ⟨fd, F, a, b, c⟩ := g_degree_of Z
  exact ⟨_, fd, _, a, b, c, solo_fn tLen F, fun _ _ _ _ h => solo_len h⟩
def N_points : List Str := ["space"]
def c_points : S := (.seq (.expr (.call m_require_space (.cons (.var 0) .nil))) (.seq (.ret (.call m_points_in (.cons (.var 0) .nil))) .pass))
def m_points : List D → M D := soloM KT (fnM 1 1 c_points)
def u_points : List D → M D := runM KT TT (fnM 1 1 c_points)
def i_points : FnI := ⟨6, 1, m_points⟩
def G_points : Gam := { N := N_points, sc := defScope (topS 47), lv := 5, fns := [("points_in", i_points_in), ("require_space", i_require_space)], cst := [], free := [], mu := [], asg := cellsOf (defScope (topS 47)) }
theorem k_points : compSs 400 G_points (defBody (topS 47)) = some c_points := by kernel_rfl
theorem s_points : FnScope N_points ["space"] (defScope (topS 47)) := ⟨rfl, rfl, rfl, by decide +kernel, rfl, by decide +kernel, by decide +kernel⟩
theorem g_points (Z : Wd w K mg base h) : ∃ fd, FnG PP w K mg base (L2.CX PP w) 6 (He.fAd K ("points", none)) fd ["space"] (spD (GG w K mg) (fnM 1 1 c_points) 1) ∧ mg "points" = some (.ref (He.fAd K ("points", none))) ∧ PySem.W.keepIn K (.ref (He.fAd K ("points", none))) = true ∧ Binds K fd ["space"] [] := by
  obtain ⟨fd, F⟩ := Z.d.def_ 31 (d := d_points) rfl
  exact ⟨fd, fn_core F s_points (Γ := G_points) rfl rfl k_points rfl rfl rfl (TabOk.cons (f_points_in Z) (TabOk.cons (f_require_space Z) TabOk.nil)) CstOk.nil FreeOk.nil (fun _ _ e => by cases e) MetsOk.nil ExcsOk.nil, He.glo_ok Z.X Z.N (Z.d.fact 31 rfl), F.kp, FunD.bindsN F fun _ _ _ _ _ _ us hl => match us, hl with | [_], _ => rfl⟩
theorem f_points (Z : Wd w K mg base h) : FnFact PP w K mg base (GG w K mg) "points" i_points := by
  obtain ⟨fd, F, a, b, c⟩ := g_points Z
  exact ⟨_, fd, _, a, b, c, solo_fn tLen F, fun _ _ _ _ h => solo_len h⟩
def N_cells_of : List Str := ["space", "degree"]
def c_cells_of : S := (.seq (.expr (.call m_require_space (.cons (.var 0) .nil))) (.seq (.expr (.call m_require_within (.cons (.var 1) (.cons (.c (.int 0)) (.cons (.c (.int 3)) .nil))))) (.seq (.ret (.call m_cells_in (.cons (.var 0) (.cons (.var 1) .nil)))) .pass)))
def m_cells_of : List D → M D := soloM KT (fnM 2 2 c_cells_of)
def u_cells_of : List D → M D := runM KT TT (fnM 2 2 c_cells_of)
def i_cells_of : FnI := ⟨6, 2, m_cells_of⟩
def G_cells_of : Gam := { N := N_cells_of, sc := defScope (topS 48), lv := 5, fns := [("cells_in", i_cells_in), ("require_within", i_require_within), ("require_space", i_require_space)], cst := [("MOST_DEGREE", (.int 3))], free := [], mu := [], asg := cellsOf (defScope (topS 48)) }
theorem k_cells_of : compSs 400 G_cells_of (defBody (topS 48)) = some c_cells_of := by kernel_rfl
theorem s_cells_of : FnScope N_cells_of ["space", "degree"] (defScope (topS 48)) := ⟨rfl, rfl, rfl, by decide +kernel, rfl, by decide +kernel, by decide +kernel⟩
theorem g_cells_of (Z : Wd w K mg base h) : ∃ fd, FnG PP w K mg base (L2.CX PP w) 6 (He.fAd K ("cells_of", none)) fd ["space", "degree"] (spD (GG w K mg) (fnM 2 2 c_cells_of) 2) ∧ mg "cells_of" = some (.ref (He.fAd K ("cells_of", none))) ∧ PySem.W.keepIn K (.ref (He.fAd K ("cells_of", none))) = true ∧ Binds K fd ["space", "degree"] [] := by
  obtain ⟨fd, F⟩ := Z.d.def_ 32 (d := d_cells_of) rfl
  exact ⟨fd, fn_core F s_cells_of (Γ := G_cells_of) rfl rfl k_cells_of rfl rfl rfl (TabOk.cons (f_cells_in Z) (TabOk.cons (f_require_within Z) (TabOk.cons (f_require_space Z) TabOk.nil))) (CstOk.cons (cst_int (He.int_ok Z.X Z.N (Z.d.fact 76 rfl))) CstOk.nil) FreeOk.nil (fun _ _ e => by cases e) MetsOk.nil ExcsOk.nil, He.glo_ok Z.X Z.N (Z.d.fact 32 rfl), F.kp, FunD.bindsN F fun _ _ _ _ _ _ us hl => match us, hl with | [_, _], _ => rfl⟩
theorem f_cells_of (Z : Wd w K mg base h) : FnFact PP w K mg base (GG w K mg) "cells_of" i_cells_of := by
  obtain ⟨fd, F, a, b, c⟩ := g_cells_of Z
  exact ⟨_, fd, _, a, b, c, solo_fn tLen F, fun _ _ _ _ h => solo_len h⟩
def N_tops : List Str := ["space", "below", "cell", "sign", "face"]
def c_tops : S := (.seq (.expr (.call m_require_space (.cons (.var 0) .nil))) (.seq .never (.seq (.ret (.call (bi tupleD) (.cons (.lc [2] (.nm 2) (.it1 (.var 0)) (.cmp .NotIn (.var 2) (.var 1)) (.var 2)) .nil))) .pass)))
def m_tops : List D → M D := soloM KT (fnM 5 1 c_tops)
def u_tops : List D → M D := runM KT TT (fnM 5 1 c_tops)
def i_tops : FnI := ⟨6, 1, m_tops⟩
def G_tops : Gam := { N := N_tops, sc := defScope (topS 49), lv := 5, fns := [("require_space", i_require_space)], cst := [], free := ["tuple"], mu := [], asg := cellsOf (defScope (topS 49)) }
theorem k_tops : compSs 400 G_tops (defBody (topS 49)) = some c_tops := by kernel_rfl
theorem s_tops : FnScope N_tops ["space"] (defScope (topS 49)) := ⟨rfl, rfl, rfl, by decide +kernel, rfl, by decide +kernel, by decide +kernel⟩
theorem g_tops (Z : Wd w K mg base h) : ∃ fd, FnG PP w K mg base (L2.CX PP w) 6 (He.fAd K ("tops", none)) fd ["space"] (spD (GG w K mg) (fnM 5 1 c_tops) 1) ∧ mg "tops" = some (.ref (He.fAd K ("tops", none))) ∧ PySem.W.keepIn K (.ref (He.fAd K ("tops", none))) = true ∧ Binds K fd ["space"] [] := by
  obtain ⟨fd, F⟩ := Z.d.def_ 33 (d := d_tops) rfl
  exact ⟨fd, fn_core F s_tops (Γ := G_tops) rfl rfl k_tops rfl rfl rfl (TabOk.cons (f_require_space Z) TabOk.nil) CstOk.nil (FreeOk.cons (He.free_ok Z.X Z.N (Z.d.fact 62 rfl)) FreeOk.nil) (fun _ _ e => by cases e) MetsOk.nil ExcsOk.nil, He.glo_ok Z.X Z.N (Z.d.fact 33 rfl), F.kp, FunD.bindsN F fun _ _ _ _ _ _ us hl => match us, hl with | [_], _ => rfl⟩
theorem f_tops (Z : Wd w K mg base h) : FnFact PP w K mg base (GG w K mg) "tops" i_tops := by
  obtain ⟨fd, F, a, b, c⟩ := g_tops Z
  exact ⟨_, fd, _, a, b, c, solo_fn tLen F, fun _ _ _ _ h => solo_len h⟩
def N_count : List Str := ["space", "cell"]
def c_count : S := (.seq (.expr (.call m_require_space (.cons (.var 0) .nil))) (.seq (.ret (.call (bi sumD) (.cons (.lc [1] (.nm 1) (.it1 (.var 0)) (.c (.bl true)) (.ite (.cmp .Eq (.bin .Mod (.call (bi lenD) (.cons (.var 1) .nil)) (.c (.int 2))) (.c (.int 1))) (.c (.int 1)) (.neg (.c (.int 1))))) .nil))) .pass))
def m_count : List D → M D := soloM KT (fnM 2 1 c_count)
def u_count : List D → M D := runM KT TT (fnM 2 1 c_count)
def i_count : FnI := ⟨6, 1, m_count⟩
def G_count : Gam := { N := N_count, sc := defScope (topS 50), lv := 5, fns := [("require_space", i_require_space)], cst := [], free := ["sum", "len"], mu := [], asg := cellsOf (defScope (topS 50)) }
theorem k_count : compSs 400 G_count (defBody (topS 50)) = some c_count := by kernel_rfl
theorem s_count : FnScope N_count ["space"] (defScope (topS 50)) := ⟨rfl, rfl, rfl, by decide +kernel, rfl, by decide +kernel, by decide +kernel⟩
theorem g_count (Z : Wd w K mg base h) : ∃ fd, FnG PP w K mg base (L2.CX PP w) 6 (He.fAd K ("count", none)) fd ["space"] (spD (GG w K mg) (fnM 2 1 c_count) 1) ∧ mg "count" = some (.ref (He.fAd K ("count", none))) ∧ PySem.W.keepIn K (.ref (He.fAd K ("count", none))) = true ∧ Binds K fd ["space"] [] := by
  obtain ⟨fd, F⟩ := Z.d.def_ 34 (d := d_count) rfl
  exact ⟨fd, fn_core F s_count (Γ := G_count) rfl rfl k_count rfl rfl rfl (TabOk.cons (f_require_space Z) TabOk.nil) CstOk.nil (FreeOk.cons (He.free_ok Z.X Z.N (Z.d.fact 66 rfl)) (FreeOk.cons (He.free_ok Z.X Z.N (Z.d.fact 63 rfl)) FreeOk.nil)) (fun _ _ e => by cases e) MetsOk.nil ExcsOk.nil, He.glo_ok Z.X Z.N (Z.d.fact 34 rfl), F.kp, FunD.bindsN F fun _ _ _ _ _ _ us hl => match us, hl with | [_], _ => rfl⟩
theorem f_count (Z : Wd w K mg base h) : FnFact PP w K mg base (GG w K mg) "count" i_count := by
  obtain ⟨fd, F, a, b, c⟩ := g_count Z
  exact ⟨_, fd, _, a, b, c, solo_fn tLen F, fun _ _ _ _ h => solo_len h⟩
def N_border : List Str := ["space", "degree", "found"]
def c_border : S := (.seq (.expr (.call m_require_space (.cons (.var 0) .nil))) (.seq (.expr (.call m_require_within (.cons (.var 1) (.cons (.c (.int 1)) (.cons (.c (.int 3)) .nil))))) (.seq (.asg (.nm 2) (.call m_border_in (.cons (.var 0) (.cons (.var 1) .nil)))) (.seq (.ifs (.cmp .Gt (.call (bi maxD) (.cons (.ix (.var 2) (.c (.int 0))) (.cons (.call (bi lenD) (.cons (.ix (.var 2) (.c (.int 1))) .nil)) .nil))) (.c (.int 60))) (.seq (.raise "TooMany" (.c (.int 60))) .pass) .pass) (.seq (.ret (.var 2)) .pass)))))
def m_border : List D → M D := soloM KT (fnM 3 2 c_border)
def u_border : List D → M D := runM KT TT (fnM 3 2 c_border)
def i_border : FnI := ⟨6, 2, m_border⟩
def G_border : Gam := { N := N_border, sc := defScope (topS 51), lv := 5, fns := [("border_in", i_border_in), ("require_within", i_require_within), ("require_space", i_require_space)], cst := [("MOST_ROWS", (.int 60)), ("MOST_DEGREE", (.int 3))], free := ["max", "len"], mu := [], asg := cellsOf (defScope (topS 51)), excs := [("TooMany", some "most")] }
theorem k_border : compSs 400 G_border (defBody (topS 51)) = some c_border := by kernel_rfl
theorem s_border : FnScope N_border ["space", "degree"] (defScope (topS 51)) := ⟨rfl, rfl, rfl, by decide +kernel, rfl, by decide +kernel, by decide +kernel⟩
theorem g_border (Z : Wd w K mg base h) : ∃ fd, FnG PP w K mg base (L2.CX PP w) 6 (He.fAd K ("border", none)) fd ["space", "degree"] (spD (GG w K mg) (fnM 3 2 c_border) 2) ∧ mg "border" = some (.ref (He.fAd K ("border", none))) ∧ PySem.W.keepIn K (.ref (He.fAd K ("border", none))) = true ∧ Binds K fd ["space", "degree"] [] := by
  obtain ⟨fd, F⟩ := Z.d.def_ 35 (d := d_border) rfl
  exact ⟨fd, fn_core F s_border (Γ := G_border) rfl rfl k_border rfl rfl rfl (TabOk.cons (f_border_in Z) (TabOk.cons (f_require_within Z) (TabOk.cons (f_require_space Z) TabOk.nil))) (CstOk.cons (cst_int (He.int_ok Z.X Z.N (Z.d.fact 77 rfl))) (CstOk.cons (cst_int (He.int_ok Z.X Z.N (Z.d.fact 76 rfl))) CstOk.nil)) (FreeOk.cons (He.free_ok Z.X Z.N (Z.d.fact 67 rfl)) (FreeOk.cons (He.free_ok Z.X Z.N (Z.d.fact 63 rfl)) FreeOk.nil)) (fun _ _ e => by cases e) MetsOk.nil (ExcsOk.cons (e_TooMany Z) ExcsOk.nil), He.glo_ok Z.X Z.N (Z.d.fact 35 rfl), F.kp, FunD.bindsN F fun _ _ _ _ _ _ us hl => match us, hl with | [_, _], _ => rfl⟩
theorem f_border (Z : Wd w K mg base h) : FnFact PP w K mg base (GG w K mg) "border" i_border := by
  obtain ⟨fd, F, a, b, c⟩ := g_border Z
  exact ⟨_, fd, _, a, b, c, solo_fn tLen F, fun _ _ _ _ h => solo_len h⟩
def N_skeleton : List Str := ["space", "degree"]
def c_skeleton : S := (.seq (.expr (.call m_require_space (.cons (.var 0) .nil))) (.seq (.expr (.call m_require_within (.cons (.var 1) (.cons (.c (.int 0)) (.cons (.c (.int 3)) .nil))))) (.seq (.ret (.call m_skeleton_in (.cons (.var 0) (.cons (.var 1) .nil)))) .pass)))
def m_skeleton : List D → M D := soloM KT (fnM 2 2 c_skeleton)
def u_skeleton : List D → M D := runM KT TT (fnM 2 2 c_skeleton)
def i_skeleton : FnI := ⟨6, 2, m_skeleton⟩
def G_skeleton : Gam := { N := N_skeleton, sc := defScope (topS 52), lv := 5, fns := [("skeleton_in", i_skeleton_in), ("require_within", i_require_within), ("require_space", i_require_space)], cst := [("MOST_DEGREE", (.int 3))], free := [], mu := [], asg := cellsOf (defScope (topS 52)) }
theorem k_skeleton : compSs 400 G_skeleton (defBody (topS 52)) = some c_skeleton := by kernel_rfl
theorem s_skeleton : FnScope N_skeleton ["space", "degree"] (defScope (topS 52)) := ⟨rfl, rfl, rfl, by decide +kernel, rfl, by decide +kernel, by decide +kernel⟩
theorem g_skeleton (Z : Wd w K mg base h) : ∃ fd, FnG PP w K mg base (L2.CX PP w) 6 (He.fAd K ("skeleton", none)) fd ["space", "degree"] (spD (GG w K mg) (fnM 2 2 c_skeleton) 2) ∧ mg "skeleton" = some (.ref (He.fAd K ("skeleton", none))) ∧ PySem.W.keepIn K (.ref (He.fAd K ("skeleton", none))) = true ∧ Binds K fd ["space", "degree"] [] := by
  obtain ⟨fd, F⟩ := Z.d.def_ 36 (d := d_skeleton) rfl
  exact ⟨fd, fn_core F s_skeleton (Γ := G_skeleton) rfl rfl k_skeleton rfl rfl rfl (TabOk.cons (f_skeleton_in Z) (TabOk.cons (f_require_within Z) (TabOk.cons (f_require_space Z) TabOk.nil))) (CstOk.cons (cst_int (He.int_ok Z.X Z.N (Z.d.fact 76 rfl))) CstOk.nil) FreeOk.nil (fun _ _ e => by cases e) MetsOk.nil ExcsOk.nil, He.glo_ok Z.X Z.N (Z.d.fact 36 rfl), F.kp, FunD.bindsN F fun _ _ _ _ _ _ us hl => match us, hl with | [_, _], _ => rfl⟩
theorem f_skeleton (Z : Wd w K mg base h) : FnFact PP w K mg base (GG w K mg) "skeleton" i_skeleton := by
  obtain ⟨fd, F, a, b, c⟩ := g_skeleton Z
  exact ⟨_, fd, _, a, b, c, solo_fn tLen F, fun _ _ _ _ h => solo_len h⟩
def N_star : List Str := ["space", "cell"]
def c_star : S := (.seq (.expr (.call m_require_cell_of (.cons (.var 0) (.cons (.var 1) .nil)))) (.seq (.ret (.call m_star_in (.cons (.var 0) (.cons (.var 1) .nil)))) .pass))
def m_star : List D → M D := soloM KT (fnM 2 2 c_star)
def u_star : List D → M D := runM KT TT (fnM 2 2 c_star)
def i_star : FnI := ⟨7, 2, m_star⟩
def G_star : Gam := { N := N_star, sc := defScope (topS 53), lv := 6, fns := [("star_in", i_star_in), ("require_cell_of", i_require_cell_of)], cst := [], free := [], mu := [], asg := cellsOf (defScope (topS 53)) }
theorem k_star : compSs 400 G_star (defBody (topS 53)) = some c_star := by kernel_rfl
theorem s_star : FnScope N_star ["space", "cell"] (defScope (topS 53)) := ⟨rfl, rfl, rfl, by decide +kernel, rfl, by decide +kernel, by decide +kernel⟩
theorem g_star (Z : Wd w K mg base h) : ∃ fd, FnG PP w K mg base (L2.CX PP w) 7 (He.fAd K ("star", none)) fd ["space", "cell"] (spD (GG w K mg) (fnM 2 2 c_star) 2) ∧ mg "star" = some (.ref (He.fAd K ("star", none))) ∧ PySem.W.keepIn K (.ref (He.fAd K ("star", none))) = true ∧ Binds K fd ["space", "cell"] [] := by
  obtain ⟨fd, F⟩ := Z.d.def_ 37 (d := d_star) rfl
  exact ⟨fd, fn_core F s_star (Γ := G_star) rfl rfl k_star rfl rfl rfl (TabOk.cons (f_star_in Z) (TabOk.cons (f_require_cell_of Z) TabOk.nil)) CstOk.nil FreeOk.nil (fun _ _ e => by cases e) MetsOk.nil ExcsOk.nil, He.glo_ok Z.X Z.N (Z.d.fact 37 rfl), F.kp, FunD.bindsN F fun _ _ _ _ _ _ us hl => match us, hl with | [_, _], _ => rfl⟩
theorem f_star (Z : Wd w K mg base h) : FnFact PP w K mg base (GG w K mg) "star" i_star := by
  obtain ⟨fd, F, a, b, c⟩ := g_star Z
  exact ⟨_, fd, _, a, b, c, solo_fn tLen F, fun _ _ _ _ h => solo_len h⟩
def N_closed_star : List Str := ["space", "cell"]
def c_closed_star : S := (.seq (.expr (.call m_require_cell_of (.cons (.var 0) (.cons (.var 1) .nil)))) (.seq (.ret (.call m_closed_in (.cons (.call m_star_in (.cons (.var 0) (.cons (.var 1) .nil))) .nil))) .pass))
def m_closed_star : List D → M D := soloM KT (fnM 2 2 c_closed_star)
def u_closed_star : List D → M D := runM KT TT (fnM 2 2 c_closed_star)
def i_closed_star : FnI := ⟨7, 2, m_closed_star⟩
def G_closed_star : Gam := { N := N_closed_star, sc := defScope (topS 54), lv := 6, fns := [("closed_in", i_closed_in), ("star_in", i_star_in), ("require_cell_of", i_require_cell_of)], cst := [], free := [], mu := [], asg := cellsOf (defScope (topS 54)) }
theorem k_closed_star : compSs 400 G_closed_star (defBody (topS 54)) = some c_closed_star := by kernel_rfl
theorem s_closed_star : FnScope N_closed_star ["space", "cell"] (defScope (topS 54)) := ⟨rfl, rfl, rfl, by decide +kernel, rfl, by decide +kernel, by decide +kernel⟩
theorem g_closed_star (Z : Wd w K mg base h) : ∃ fd, FnG PP w K mg base (L2.CX PP w) 7 (He.fAd K ("closed_star", none)) fd ["space", "cell"] (spD (GG w K mg) (fnM 2 2 c_closed_star) 2) ∧ mg "closed_star" = some (.ref (He.fAd K ("closed_star", none))) ∧ PySem.W.keepIn K (.ref (He.fAd K ("closed_star", none))) = true ∧ Binds K fd ["space", "cell"] [] := by
  obtain ⟨fd, F⟩ := Z.d.def_ 38 (d := d_closed_star) rfl
  exact ⟨fd, fn_core F s_closed_star (Γ := G_closed_star) rfl rfl k_closed_star rfl rfl rfl (TabOk.cons (f_closed_in Z) (TabOk.cons (f_star_in Z) (TabOk.cons (f_require_cell_of Z) TabOk.nil))) CstOk.nil FreeOk.nil (fun _ _ e => by cases e) MetsOk.nil ExcsOk.nil, He.glo_ok Z.X Z.N (Z.d.fact 38 rfl), F.kp, FunD.bindsN F fun _ _ _ _ _ _ us hl => match us, hl with | [_, _], _ => rfl⟩
theorem f_closed_star (Z : Wd w K mg base h) : FnFact PP w K mg base (GG w K mg) "closed_star" i_closed_star := by
  obtain ⟨fd, F, a, b, c⟩ := g_closed_star Z
  exact ⟨_, fd, _, a, b, c, solo_fn tLen F, fun _ _ _ _ h => solo_len h⟩
def N_link : List Str := ["space", "cell"]
def c_link : S := (.seq (.expr (.call m_require_cell_of (.cons (.var 0) (.cons (.var 1) .nil)))) (.seq (.ret (.call m_link_in (.cons (.var 0) (.cons (.var 1) .nil)))) .pass))
def m_link : List D → M D := soloM KT (fnM 2 2 c_link)
def u_link : List D → M D := runM KT TT (fnM 2 2 c_link)
def i_link : FnI := ⟨7, 2, m_link⟩
def G_link : Gam := { N := N_link, sc := defScope (topS 55), lv := 6, fns := [("link_in", i_link_in), ("require_cell_of", i_require_cell_of)], cst := [], free := [], mu := [], asg := cellsOf (defScope (topS 55)) }
theorem k_link : compSs 400 G_link (defBody (topS 55)) = some c_link := by kernel_rfl
theorem s_link : FnScope N_link ["space", "cell"] (defScope (topS 55)) := ⟨rfl, rfl, rfl, by decide +kernel, rfl, by decide +kernel, by decide +kernel⟩
theorem g_link (Z : Wd w K mg base h) : ∃ fd, FnG PP w K mg base (L2.CX PP w) 7 (He.fAd K ("link", none)) fd ["space", "cell"] (spD (GG w K mg) (fnM 2 2 c_link) 2) ∧ mg "link" = some (.ref (He.fAd K ("link", none))) ∧ PySem.W.keepIn K (.ref (He.fAd K ("link", none))) = true ∧ Binds K fd ["space", "cell"] [] := by
  obtain ⟨fd, F⟩ := Z.d.def_ 39 (d := d_link) rfl
  exact ⟨fd, fn_core F s_link (Γ := G_link) rfl rfl k_link rfl rfl rfl (TabOk.cons (f_link_in Z) (TabOk.cons (f_require_cell_of Z) TabOk.nil)) CstOk.nil FreeOk.nil (fun _ _ e => by cases e) MetsOk.nil ExcsOk.nil, He.glo_ok Z.X Z.N (Z.d.fact 39 rfl), F.kp, FunD.bindsN F fun _ _ _ _ _ _ us hl => match us, hl with | [_, _], _ => rfl⟩
theorem f_link (Z : Wd w K mg base h) : FnFact PP w K mg base (GG w K mg) "link" i_link := by
  obtain ⟨fd, F, a, b, c⟩ := g_link Z
  exact ⟨_, fd, _, a, b, c, solo_fn tLen F, fun _ _ _ _ h => solo_len h⟩
def N_is_sub : List Str := ["space", "value", "cell"]
def c_is_sub : S := (.seq (.expr (.call m_require_space (.cons (.var 0) .nil))) (.seq (.ret (.and_ (.call m_is_space (.cons (.var 1) .nil)) (.call (bi allD) (.cons (.lc [2] (.nm 2) (.it1 (.var 1)) (.c (.bl true)) (.cmp .In (.var 2) (.var 0))) .nil)))) .pass))
def m_is_sub : List D → M D := soloM KT (fnM 3 2 c_is_sub)
def u_is_sub : List D → M D := runM KT TT (fnM 3 2 c_is_sub)
def i_is_sub : FnI := ⟨6, 2, m_is_sub⟩
def G_is_sub : Gam := { N := N_is_sub, sc := defScope (topS 56), lv := 5, fns := [("is_space", i_is_space), ("require_space", i_require_space)], cst := [], free := ["all"], mu := [], asg := cellsOf (defScope (topS 56)) }
theorem k_is_sub : compSs 400 G_is_sub (defBody (topS 56)) = some c_is_sub := by kernel_rfl
theorem s_is_sub : FnScope N_is_sub ["space", "value"] (defScope (topS 56)) := ⟨rfl, rfl, rfl, by decide +kernel, rfl, by decide +kernel, by decide +kernel⟩
theorem g_is_sub (Z : Wd w K mg base h) : ∃ fd, FnG PP w K mg base (L2.CX PP w) 6 (He.fAd K ("is_sub", none)) fd ["space", "value"] (spD (GG w K mg) (fnM 3 2 c_is_sub) 2) ∧ mg "is_sub" = some (.ref (He.fAd K ("is_sub", none))) ∧ PySem.W.keepIn K (.ref (He.fAd K ("is_sub", none))) = true ∧ Binds K fd ["space", "value"] [] := by
  obtain ⟨fd, F⟩ := Z.d.def_ 40 (d := d_is_sub) rfl
  exact ⟨fd, fn_core F s_is_sub (Γ := G_is_sub) rfl rfl k_is_sub rfl rfl rfl (TabOk.cons (f_is_space Z) (TabOk.cons (f_require_space Z) TabOk.nil)) CstOk.nil (FreeOk.cons (He.free_ok Z.X Z.N (Z.d.fact 60 rfl)) FreeOk.nil) (fun _ _ e => by cases e) MetsOk.nil ExcsOk.nil, He.glo_ok Z.X Z.N (Z.d.fact 40 rfl), F.kp, FunD.bindsN F fun _ _ _ _ _ _ us hl => match us, hl with | [_, _], _ => rfl⟩
theorem f_is_sub (Z : Wd w K mg base h) : FnFact PP w K mg base (GG w K mg) "is_sub" i_is_sub := by
  obtain ⟨fd, F, a, b, c⟩ := g_is_sub Z
  exact ⟨_, fd, _, a, b, c, solo_fn tLen F, fun _ _ _ _ h => solo_len h⟩
def N_is_open : List Str := ["space", "value", "cell", "one"]
def c_is_open : S := (.seq (.expr (.call m_require_space (.cons (.var 0) .nil))) (.seq (.ifs (.or_ (.not_ (.call (bi isiD) (.cons (.var 1) (.cons (.c (.ty "tuple")) .nil)))) (.not_ (.call (bi allD) (.cons (.lc [2] (.nm 2) (.it1 (.var 1)) (.c (.bl true)) (.and_ (.call m_is_cell (.cons (.var 2) .nil)) (.cmp .In (.var 2) (.var 0)))) .nil)))) (.seq (.ret (.c (.bl false))) .pass) .pass) (.seq (.ret (.and_ (.cmp .Eq (.var 1) (.call m_in_sequence (.cons (.var 1) .nil))) (.call (bi allD) (.cons (.lc2 [2, 3] (.nm 2) (.it1 (.var 1)) (.c (.bl true)) [3] (.nm 3) (.it1 (.call m_star_in (.cons (.var 0) (.cons (.var 2) .nil)))) (.c (.bl true)) (.cmp .In (.var 3) (.var 1))) .nil)))) .pass)))
def m_is_open : List D → M D := soloM KT (fnM 4 2 c_is_open)
def u_is_open : List D → M D := runM KT TT (fnM 4 2 c_is_open)
def i_is_open : FnI := ⟨6, 2, m_is_open⟩
def G_is_open : Gam := { N := N_is_open, sc := defScope (topS 57), lv := 5, fns := [("in_sequence", i_in_sequence), ("star_in", i_star_in), ("is_cell", i_is_cell), ("require_space", i_require_space)], cst := [], free := ["all", "isinstance", "tuple"], mu := [], asg := cellsOf (defScope (topS 57)) }
theorem k_is_open : compSs 400 G_is_open (defBody (topS 57)) = some c_is_open := by kernel_rfl
theorem s_is_open : FnScope N_is_open ["space", "value"] (defScope (topS 57)) := ⟨rfl, rfl, rfl, by decide +kernel, rfl, by decide +kernel, by decide +kernel⟩
theorem g_is_open (Z : Wd w K mg base h) : ∃ fd, FnG PP w K mg base (L2.CX PP w) 6 (He.fAd K ("is_open", none)) fd ["space", "value"] (spD (GG w K mg) (fnM 4 2 c_is_open) 2) ∧ mg "is_open" = some (.ref (He.fAd K ("is_open", none))) ∧ PySem.W.keepIn K (.ref (He.fAd K ("is_open", none))) = true ∧ Binds K fd ["space", "value"] [] := by
  obtain ⟨fd, F⟩ := Z.d.def_ 41 (d := d_is_open) rfl
  exact ⟨fd, fn_core F s_is_open (Γ := G_is_open) rfl rfl k_is_open rfl rfl rfl (TabOk.cons (f_in_sequence Z) (TabOk.cons (f_star_in Z) (TabOk.cons (f_is_cell Z) (TabOk.cons (f_require_space Z) TabOk.nil)))) CstOk.nil (FreeOk.cons (He.free_ok Z.X Z.N (Z.d.fact 60 rfl)) (FreeOk.cons (He.free_ok Z.X Z.N (Z.d.fact 57 rfl)) (FreeOk.cons (He.free_ok Z.X Z.N (Z.d.fact 62 rfl)) FreeOk.nil))) (fun _ _ e => by cases e) MetsOk.nil ExcsOk.nil, He.glo_ok Z.X Z.N (Z.d.fact 41 rfl), F.kp, FunD.bindsN F fun _ _ _ _ _ _ us hl => match us, hl with | [_, _], _ => rfl⟩
theorem f_is_open (Z : Wd w K mg base h) : FnFact PP w K mg base (GG w K mg) "is_open" i_is_open := by
  obtain ⟨fd, F, a, b, c⟩ := g_is_open Z
  exact ⟨_, fd, _, a, b, c, solo_fn tLen F, fun _ _ _ _ h => solo_len h⟩
def N_joined : List Str := ["one", "other", "found"]
def c_joined : S := (.seq (.expr (.call m_require_two_spaces (.cons (.var 0) (.cons (.var 1) .nil)))) (.seq (.asg (.nm 2) (.call m_in_sequence (.cons (.lst (.star (.var 0) (.star (.var 1) .nil))) .nil))) (.seq (.expr (.call m_require_few (.cons (.var 2) .nil))) (.seq (.ret (.var 2)) .pass))))
def m_joined : List D → M D := soloM KT (fnM 3 2 c_joined)
def u_joined : List D → M D := runM KT TT (fnM 3 2 c_joined)
def i_joined : FnI := ⟨7, 2, m_joined⟩
def G_joined : Gam := { N := N_joined, sc := defScope (topS 58), lv := 6, fns := [("require_few", i_require_few), ("in_sequence", i_in_sequence), ("require_two_spaces", i_require_two_spaces)], cst := [], free := [], mu := [], asg := cellsOf (defScope (topS 58)) }
theorem k_joined : compSs 400 G_joined (defBody (topS 58)) = some c_joined := by kernel_rfl
theorem s_joined : FnScope N_joined ["one", "other"] (defScope (topS 58)) := ⟨rfl, rfl, rfl, by decide +kernel, rfl, by decide +kernel, by decide +kernel⟩
theorem g_joined (Z : Wd w K mg base h) : ∃ fd, FnG PP w K mg base (L2.CX PP w) 7 (He.fAd K ("joined", none)) fd ["one", "other"] (spD (GG w K mg) (fnM 3 2 c_joined) 2) ∧ mg "joined" = some (.ref (He.fAd K ("joined", none))) ∧ PySem.W.keepIn K (.ref (He.fAd K ("joined", none))) = true ∧ Binds K fd ["one", "other"] [] := by
  obtain ⟨fd, F⟩ := Z.d.def_ 42 (d := d_joined) rfl
  exact ⟨fd, fn_core F s_joined (Γ := G_joined) rfl rfl k_joined rfl rfl rfl (TabOk.cons (f_require_few Z) (TabOk.cons (f_in_sequence Z) (TabOk.cons (f_require_two_spaces Z) TabOk.nil))) CstOk.nil FreeOk.nil (fun _ _ e => by cases e) MetsOk.nil ExcsOk.nil, He.glo_ok Z.X Z.N (Z.d.fact 42 rfl), F.kp, FunD.bindsN F fun _ _ _ _ _ _ us hl => match us, hl with | [_, _], _ => rfl⟩
theorem f_joined (Z : Wd w K mg base h) : FnFact PP w K mg base (GG w K mg) "joined" i_joined := by
  obtain ⟨fd, F, a, b, c⟩ := g_joined Z
  exact ⟨_, fd, _, a, b, c, solo_fn tLen F, fun _ _ _ _ h => solo_len h⟩
def N_common : List Str := ["one", "other", "cell"]
def c_common : S := (.seq (.expr (.call m_require_two_spaces (.cons (.var 0) (.cons (.var 1) .nil)))) (.seq (.ret (.call (bi tupleD) (.cons (.lc [2] (.nm 2) (.it1 (.var 0)) (.cmp .In (.var 2) (.var 1)) (.var 2)) .nil))) .pass))
def m_common : List D → M D := soloM KT (fnM 3 2 c_common)
def u_common : List D → M D := runM KT TT (fnM 3 2 c_common)
def i_common : FnI := ⟨7, 2, m_common⟩
def G_common : Gam := { N := N_common, sc := defScope (topS 59), lv := 6, fns := [("require_two_spaces", i_require_two_spaces)], cst := [], free := ["tuple"], mu := [], asg := cellsOf (defScope (topS 59)) }
theorem k_common : compSs 400 G_common (defBody (topS 59)) = some c_common := by kernel_rfl
theorem s_common : FnScope N_common ["one", "other"] (defScope (topS 59)) := ⟨rfl, rfl, rfl, by decide +kernel, rfl, by decide +kernel, by decide +kernel⟩
theorem g_common (Z : Wd w K mg base h) : ∃ fd, FnG PP w K mg base (L2.CX PP w) 7 (He.fAd K ("common", none)) fd ["one", "other"] (spD (GG w K mg) (fnM 3 2 c_common) 2) ∧ mg "common" = some (.ref (He.fAd K ("common", none))) ∧ PySem.W.keepIn K (.ref (He.fAd K ("common", none))) = true ∧ Binds K fd ["one", "other"] [] := by
  obtain ⟨fd, F⟩ := Z.d.def_ 43 (d := d_common) rfl
  exact ⟨fd, fn_core F s_common (Γ := G_common) rfl rfl k_common rfl rfl rfl (TabOk.cons (f_require_two_spaces Z) TabOk.nil) CstOk.nil (FreeOk.cons (He.free_ok Z.X Z.N (Z.d.fact 62 rfl)) FreeOk.nil) (fun _ _ e => by cases e) MetsOk.nil ExcsOk.nil, He.glo_ok Z.X Z.N (Z.d.fact 43 rfl), F.kp, FunD.bindsN F fun _ _ _ _ _ _ us hl => match us, hl with | [_, _], _ => rfl⟩
theorem f_common (Z : Wd w K mg base h) : FnFact PP w K mg base (GG w K mg) "common" i_common := by
  obtain ⟨fd, F, a, b, c⟩ := g_common Z
  exact ⟨_, fd, _, a, b, c, solo_fn tLen F, fun _ _ _ _ h => solo_len h⟩
def N_cone : List Str := ["space", "point", "found", "cell"]
def c_cone : S := (.seq (.expr (.call m_require_space (.cons (.var 0) .nil))) (.seq (.expr (.call m_require_within (.cons (.var 1) (.cons (.c (.int 0)) (.cons (.c (.int 99)) .nil))))) (.seq (.ifs (.cmp .In (.tup (.cons (.var 1) .nil)) (.var 0)) (.seq (.raise "InvalidOperation" (.c (.str (PySem.Str.ofString "a further point is expected")))) .pass) .pass) (.seq (.ifs (.cmp .Eq (.call m_degree_in (.cons (.var 0) .nil)) (.c (.int 3))) (.seq (.raise "TooMany" (.c (.int 4))) .pass) .pass) (.seq (.asg (.nm 2) (.call m_in_sequence (.cons (.lst (.cons (.tup (.cons (.var 1) .nil)) (.star (.var 0) (.star (.lc [3] (.nm 3) (.it1 (.var 0)) (.c (.bl true)) (.call m_united (.cons (.var 3) (.cons (.tup (.cons (.var 1) .nil)) .nil)))) .nil)))) .nil))) (.seq (.expr (.call m_require_few (.cons (.var 2) .nil))) (.seq (.ret (.var 2)) .pass)))))))
def m_cone : List D → M D := soloM KT (fnM 4 2 c_cone)
def u_cone : List D → M D := runM KT TT (fnM 4 2 c_cone)
def i_cone : FnI := ⟨6, 2, m_cone⟩
def G_cone : Gam := { N := N_cone, sc := defScope (topS 60), lv := 5, fns := [("require_few", i_require_few), ("in_sequence", i_in_sequence), ("united", i_united), ("degree_in", i_degree_in), ("require_within", i_require_within), ("require_space", i_require_space)], cst := [("MOST_DEGREE", (.int 3)), ("MOST_LENGTH", (.int 4)), ("MOST_POINT", (.int 99))], free := [], mu := [], asg := cellsOf (defScope (topS 60)), excs := [("TooMany", some "most"), ("InvalidOperation", none)] }
theorem k_cone : compSs 400 G_cone (defBody (topS 60)) = some c_cone := by kernel_rfl
theorem s_cone : FnScope N_cone ["space", "point"] (defScope (topS 60)) := ⟨rfl, rfl, rfl, by decide +kernel, rfl, by decide +kernel, by decide +kernel⟩
theorem g_cone (Z : Wd w K mg base h) : ∃ fd, FnG PP w K mg base (L2.CX PP w) 6 (He.fAd K ("cone", none)) fd ["space", "point"] (spD (GG w K mg) (fnM 4 2 c_cone) 2) ∧ mg "cone" = some (.ref (He.fAd K ("cone", none))) ∧ PySem.W.keepIn K (.ref (He.fAd K ("cone", none))) = true ∧ Binds K fd ["space", "point"] [] := by
  obtain ⟨fd, F⟩ := Z.d.def_ 44 (d := d_cone) rfl
  exact ⟨fd, fn_core F s_cone (Γ := G_cone) rfl rfl k_cone rfl rfl rfl (TabOk.cons (f_require_few Z) (TabOk.cons (f_in_sequence Z) (TabOk.cons (f_united Z) (TabOk.cons (f_degree_in Z) (TabOk.cons (f_require_within Z) (TabOk.cons (f_require_space Z) TabOk.nil)))))) (CstOk.cons (cst_int (He.int_ok Z.X Z.N (Z.d.fact 76 rfl))) (CstOk.cons (cst_int (He.int_ok Z.X Z.N (Z.d.fact 74 rfl))) (CstOk.cons (cst_int (He.int_ok Z.X Z.N (Z.d.fact 73 rfl))) CstOk.nil))) FreeOk.nil (fun _ _ e => by cases e) MetsOk.nil (ExcsOk.cons (e_TooMany Z) (ExcsOk.cons (e_InvalidOperation Z) ExcsOk.nil)), He.glo_ok Z.X Z.N (Z.d.fact 44 rfl), F.kp, FunD.bindsN F fun _ _ _ _ _ _ us hl => match us, hl with | [_, _], _ => rfl⟩
theorem f_cone (Z : Wd w K mg base h) : FnFact PP w K mg base (GG w K mg) "cone" i_cone := by
  obtain ⟨fd, F, a, b, c⟩ := g_cone Z
  exact ⟨_, fd, _, a, b, c, solo_fn tLen F, fun _ _ _ _ h => solo_len h⟩
def N_hang_answer : List Str := ["space", "one", "other", "found"]
def c_hang_answer : S := (.seq (.expr (.call m_require_two_points (.cons (.var 0) (.cons (.var 1) (.cons (.var 2) .nil))))) (.seq (.asg (.nm 3) (.call m_paths_from (.cons (.var 0) (.cons (.var 1) .nil)))) (.seq (.ret (.ite (.cmp .In (.var 2) (.var 3)) (.tup (.cons (.c (.str (PySem.Str.ofString "path"))) (.cons (.ix (.var 3) (.var 2)) .nil))) (.tup (.cons (.c (.str (PySem.Str.ofString "side"))) (.cons (.call (bi tupleD) (.cons (.call (bi sortedD) (.cons (.var 3) .nil)) .nil)) .nil))))) .pass)))
def m_hang_answer : List D → M D := soloM KT (fnM 4 3 c_hang_answer)
def u_hang_answer : List D → M D := runM KT TT (fnM 4 3 c_hang_answer)
def i_hang_answer : FnI := ⟨7, 3, m_hang_answer⟩
def G_hang_answer : Gam := { N := N_hang_answer, sc := defScope (topS 61), lv := 6, fns := [("paths_from", i_paths_from), ("require_two_points", i_require_two_points)], cst := [("PATH", (.str (PySem.Str.ofString "path"))), ("SIDE", (.str (PySem.Str.ofString "side")))], free := ["tuple", "sorted"], mu := [], asg := cellsOf (defScope (topS 61)) }
theorem k_hang_answer : compSs 400 G_hang_answer (defBody (topS 61)) = some c_hang_answer := by kernel_rfl
theorem s_hang_answer : FnScope N_hang_answer ["space", "one", "other"] (defScope (topS 61)) := ⟨rfl, rfl, rfl, by decide +kernel, rfl, by decide +kernel, by decide +kernel⟩
theorem g_hang_answer (Z : Wd w K mg base h) : ∃ fd, FnG PP w K mg base (L2.CX PP w) 7 (He.fAd K ("hang_answer", none)) fd ["space", "one", "other"] (spD (GG w K mg) (fnM 4 3 c_hang_answer) 3) ∧ mg "hang_answer" = some (.ref (He.fAd K ("hang_answer", none))) ∧ PySem.W.keepIn K (.ref (He.fAd K ("hang_answer", none))) = true ∧ Binds K fd ["space", "one", "other"] [] := by
  obtain ⟨fd, F⟩ := Z.d.def_ 45 (d := d_hang_answer) rfl
  exact ⟨fd, fn_core F s_hang_answer (Γ := G_hang_answer) rfl rfl k_hang_answer rfl rfl rfl (TabOk.cons (f_paths_from Z) (TabOk.cons (f_require_two_points Z) TabOk.nil)) (CstOk.cons (cst_str (He.str_ok Z.X Z.N (Z.d.fact 78 rfl))) (CstOk.cons (cst_str (He.str_ok Z.X Z.N (Z.d.fact 79 rfl))) CstOk.nil)) (FreeOk.cons (He.free_ok Z.X Z.N (Z.d.fact 62 rfl)) (FreeOk.cons (He.free_ok Z.X Z.N (Z.d.fact 65 rfl)) FreeOk.nil)) (fun _ _ e => by cases e) MetsOk.nil ExcsOk.nil, He.glo_ok Z.X Z.N (Z.d.fact 45 rfl), F.kp, FunD.bindsN F fun _ _ _ _ _ _ us hl => match us, hl with | [_, _, _], _ => rfl⟩
theorem f_hang_answer (Z : Wd w K mg base h) : FnFact PP w K mg base (GG w K mg) "hang_answer" i_hang_answer := by
  obtain ⟨fd, F, a, b, c⟩ := g_hang_answer Z
  exact ⟨_, fd, _, a, b, c, solo_fn tLen F, fun _ _ _ _ h => solo_len h⟩
def N_are_points_of : List Str := ["space", "value", "point"]
def c_are_points_of : S := (.seq (.ret (.and_ (.call (bi isiD) (.cons (.var 1) (.cons (.c (.ty "tuple")) .nil))) (.call (bi allD) (.cons (.lc [2] (.nm 2) (.it1 (.var 1)) (.c (.bl true)) (.and_ (.call m_is_cell (.cons (.tup (.cons (.var 2) .nil)) .nil)) (.cmp .In (.tup (.cons (.var 2) .nil)) (.var 0)))) .nil)))) .pass)
def m_are_points_of : List D → M D := fnM 3 2 c_are_points_of
def i_are_points_of : FnI := ⟨4, 2, m_are_points_of⟩
def G_are_points_of : Gam := { N := N_are_points_of, sc := defScope (topS 62), lv := 3, fns := [("is_cell", i_is_cell)], cst := [], free := ["isinstance", "tuple", "all"], mu := [], asg := cellsOf (defScope (topS 62)) }
theorem k_are_points_of : compSs 400 G_are_points_of (defBody (topS 62)) = some c_are_points_of := by kernel_rfl
theorem s_are_points_of : FnScope N_are_points_of ["space", "value"] (defScope (topS 62)) := ⟨rfl, rfl, rfl, by decide +kernel, rfl, by decide +kernel, by decide +kernel⟩
theorem g_are_points_of (Z : Wd w K mg base h) : ∃ fd, FnG PP w K mg base (L2.CX PP w) 4 (He.fAd K ("are_points_of", none)) fd ["space", "value"] (spD (GG w K mg) (fnM 3 2 c_are_points_of) 2) ∧ mg "are_points_of" = some (.ref (He.fAd K ("are_points_of", none))) ∧ PySem.W.keepIn K (.ref (He.fAd K ("are_points_of", none))) = true ∧ Binds K fd ["space", "value"] [] := by
  obtain ⟨fd, F⟩ := Z.d.def_ 46 (d := d_are_points_of) rfl
  exact ⟨fd, fn_core F s_are_points_of (Γ := G_are_points_of) rfl rfl k_are_points_of rfl rfl rfl (TabOk.cons (f_is_cell Z) TabOk.nil) CstOk.nil (FreeOk.cons (He.free_ok Z.X Z.N (Z.d.fact 57 rfl)) (FreeOk.cons (He.free_ok Z.X Z.N (Z.d.fact 62 rfl)) (FreeOk.cons (He.free_ok Z.X Z.N (Z.d.fact 60 rfl)) FreeOk.nil))) (fun _ _ e => by cases e) MetsOk.nil ExcsOk.nil, He.glo_ok Z.X Z.N (Z.d.fact 46 rfl), F.kp, FunD.bindsN F fun _ _ _ _ _ _ us hl => match us, hl with | [_, _], _ => rfl⟩
theorem f_are_points_of (Z : Wd w K mg base h) : FnFact PP w K mg base (GG w K mg) "are_points_of" i_are_points_of := by
  obtain ⟨fd, F, a, b, c⟩ := g_are_points_of Z
  exact ⟨_, fd, _, a, b, c, F, fun _ _ _ _ h => fnM_len h⟩
def N_is_path : List Str := ["space", "one", "other", "value", "here", "there"]
def c_is_path : S := (.seq (.expr (.call m_require_two_points (.cons (.var 0) (.cons (.var 1) (.cons (.var 2) .nil))))) (.seq (.ifs (.or_ (.not_ (.call m_are_points_of (.cons (.var 0) (.cons (.var 3) .nil)))) (.or_ (.cmp .Eq (.var 3) (.tup .nil)) (.cmp .NotEq (.tup (.cons (.ix (.var 3) (.c (.int 0))) (.cons (.ix (.var 3) (.neg (.c (.int 1)))) .nil))) (.tup (.cons (.var 1) (.cons (.var 2) .nil)))))) (.seq (.ret (.c (.bl false))) .pass) .pass) (.seq (.ret (.call (bi allD) (.cons (.lc [4, 5] (.cons (.nm 4) (.cons (.nm 5) .nil)) (.zip (.var 3) (.sl (.var 3) (.int_ (.c (.int 1))) (.c .non))) (.c (.bl true)) (.cmp .In (.call m_united (.cons (.tup (.cons (.var 4) .nil)) (.cons (.tup (.cons (.var 5) .nil)) .nil))) (.call m_cells_in (.cons (.var 0) (.cons (.c (.int 1)) .nil))))) .nil))) .pass)))
def m_is_path : List D → M D := soloM KT (fnM 6 4 c_is_path)
def u_is_path : List D → M D := runM KT TT (fnM 6 4 c_is_path)
def i_is_path : FnI := ⟨7, 4, m_is_path⟩
def G_is_path : Gam := { N := N_is_path, sc := defScope (topS 63), lv := 6, fns := [("united", i_united), ("cells_in", i_cells_in), ("are_points_of", i_are_points_of), ("require_two_points", i_require_two_points)], cst := [], free := ["all", "zip"], mu := [], asg := cellsOf (defScope (topS 63)) }
theorem k_is_path : compSs 400 G_is_path (defBody (topS 63)) = some c_is_path := by kernel_rfl
theorem s_is_path : FnScope N_is_path ["space", "one", "other", "value"] (defScope (topS 63)) := ⟨rfl, rfl, rfl, by decide +kernel, rfl, by decide +kernel, by decide +kernel⟩
theorem g_is_path (Z : Wd w K mg base h) : ∃ fd, FnG PP w K mg base (L2.CX PP w) 7 (He.fAd K ("is_path", none)) fd ["space", "one", "other", "value"] (spD (GG w K mg) (fnM 6 4 c_is_path) 4) ∧ mg "is_path" = some (.ref (He.fAd K ("is_path", none))) ∧ PySem.W.keepIn K (.ref (He.fAd K ("is_path", none))) = true ∧ Binds K fd ["space", "one", "other", "value"] [] := by
  obtain ⟨fd, F⟩ := Z.d.def_ 47 (d := d_is_path) rfl
  exact ⟨fd, fn_core F s_is_path (Γ := G_is_path) rfl rfl k_is_path rfl rfl rfl (TabOk.cons (f_united Z) (TabOk.cons (f_cells_in Z) (TabOk.cons (f_are_points_of Z) (TabOk.cons (f_require_two_points Z) TabOk.nil)))) CstOk.nil (FreeOk.cons (He.free_ok Z.X Z.N (Z.d.fact 60 rfl)) (FreeOk.cons (He.free_ok Z.X Z.N (Z.d.fact 61 rfl)) FreeOk.nil)) (fun _ _ e => by cases e) MetsOk.nil ExcsOk.nil, He.glo_ok Z.X Z.N (Z.d.fact 47 rfl), F.kp, FunD.bindsN F fun _ _ _ _ _ _ us hl => match us, hl with | [_, _, _, _], _ => rfl⟩
theorem f_is_path (Z : Wd w K mg base h) : FnFact PP w K mg base (GG w K mg) "is_path" i_is_path := by
  obtain ⟨fd, F, a, b, c⟩ := g_is_path Z
  exact ⟨_, fd, _, a, b, c, solo_fn tLen F, fun _ _ _ _ h => solo_len h⟩
def N_is_side : List Str := ["space", "one", "other", "value", "point", "here", "there"]
def c_is_side : S := (.seq (.expr (.call m_require_two_points (.cons (.var 0) (.cons (.var 1) (.cons (.var 2) .nil))))) (.seq (.ifs (.or_ (.not_ (.call m_are_points_of (.cons (.var 0) (.cons (.var 3) .nil)))) (.cmp .NotEq (.call (bi listD) (.cons (.var 3) .nil)) (.call (bi sortedD) (.cons (.dc false [4] (.nm 4) (.it1 (.var 3)) (.c (.bl true)) (.var 4) (.c (.bl true))) .nil)))) (.seq (.ret (.c (.bl false))) .pass) .pass) (.seq (.ifs (.or_ (.cmp .NotIn (.var 1) (.var 3)) (.cmp .In (.var 2) (.var 3))) (.seq (.ret (.c (.bl false))) .pass) .pass) (.seq (.ret (.call (bi allD) (.cons (.lc [5, 6] (.cons (.nm 5) (.cons (.nm 6) .nil)) (.it1 (.call m_cells_in (.cons (.var 0) (.cons (.c (.int 1)) .nil)))) (.c (.bl true)) (.cmp .Eq (.cmp .In (.var 5) (.var 3)) (.cmp .In (.var 6) (.var 3)))) .nil))) .pass))))
def m_is_side : List D → M D := soloM KT (fnM 7 4 c_is_side)
def u_is_side : List D → M D := runM KT TT (fnM 7 4 c_is_side)
def i_is_side : FnI := ⟨7, 4, m_is_side⟩
def G_is_side : Gam := { N := N_is_side, sc := defScope (topS 64), lv := 6, fns := [("cells_in", i_cells_in), ("are_points_of", i_are_points_of), ("require_two_points", i_require_two_points)], cst := [], free := ["all", "list", "sorted"], mu := [], asg := cellsOf (defScope (topS 64)) }
theorem k_is_side : compSs 400 G_is_side (defBody (topS 64)) = some c_is_side := by kernel_rfl
theorem s_is_side : FnScope N_is_side ["space", "one", "other", "value"] (defScope (topS 64)) := ⟨rfl, rfl, rfl, by decide +kernel, rfl, by decide +kernel, by decide +kernel⟩
theorem g_is_side (Z : Wd w K mg base h) : ∃ fd, FnG PP w K mg base (L2.CX PP w) 7 (He.fAd K ("is_side", none)) fd ["space", "one", "other", "value"] (spD (GG w K mg) (fnM 7 4 c_is_side) 4) ∧ mg "is_side" = some (.ref (He.fAd K ("is_side", none))) ∧ PySem.W.keepIn K (.ref (He.fAd K ("is_side", none))) = true ∧ Binds K fd ["space", "one", "other", "value"] [] := by
  obtain ⟨fd, F⟩ := Z.d.def_ 48 (d := d_is_side) rfl
  exact ⟨fd, fn_core F s_is_side (Γ := G_is_side) rfl rfl k_is_side rfl rfl rfl (TabOk.cons (f_cells_in Z) (TabOk.cons (f_are_points_of Z) (TabOk.cons (f_require_two_points Z) TabOk.nil))) CstOk.nil (FreeOk.cons (He.free_ok Z.X Z.N (Z.d.fact 60 rfl)) (FreeOk.cons (He.free_ok Z.X Z.N (Z.d.fact 68 rfl)) (FreeOk.cons (He.free_ok Z.X Z.N (Z.d.fact 65 rfl)) FreeOk.nil))) (fun _ _ e => by cases e) MetsOk.nil ExcsOk.nil, He.glo_ok Z.X Z.N (Z.d.fact 48 rfl), F.kp, FunD.bindsN F fun _ _ _ _ _ _ us hl => match us, hl with | [_, _, _, _], _ => rfl⟩
theorem f_is_side (Z : Wd w K mg base h) : FnFact PP w K mg base (GG w K mg) "is_side" i_is_side := by
  obtain ⟨fd, F, a, b, c⟩ := g_is_side Z
  exact ⟨_, fd, _, a, b, c, solo_fn tLen F, fun _ _ _ _ h => solo_len h⟩
def N_pieces : List Str := ["space"]
def c_pieces : S := (.seq (.expr (.call m_require_space (.cons (.var 0) .nil))) (.seq (.ret (.call (bi tupleD) (.cons (.call m_pieces_in (.cons (.var 0) .nil)) .nil))) .pass))
def m_pieces : List D → M D := soloM KT (fnM 1 1 c_pieces)
def u_pieces : List D → M D := runM KT TT (fnM 1 1 c_pieces)
def i_pieces : FnI := ⟨6, 1, m_pieces⟩
def G_pieces : Gam := { N := N_pieces, sc := defScope (topS 65), lv := 5, fns := [("pieces_in", i_pieces_in), ("require_space", i_require_space)], cst := [], free := ["tuple"], mu := [], asg := cellsOf (defScope (topS 65)) }
theorem k_pieces : compSs 400 G_pieces (defBody (topS 65)) = some c_pieces := by kernel_rfl
theorem s_pieces : FnScope N_pieces ["space"] (defScope (topS 65)) := ⟨rfl, rfl, rfl, by decide +kernel, rfl, by decide +kernel, by decide +kernel⟩
theorem g_pieces (Z : Wd w K mg base h) : ∃ fd, FnG PP w K mg base (L2.CX PP w) 6 (He.fAd K ("pieces", none)) fd ["space"] (spD (GG w K mg) (fnM 1 1 c_pieces) 1) ∧ mg "pieces" = some (.ref (He.fAd K ("pieces", none))) ∧ PySem.W.keepIn K (.ref (He.fAd K ("pieces", none))) = true ∧ Binds K fd ["space"] [] := by
  obtain ⟨fd, F⟩ := Z.d.def_ 49 (d := d_pieces) rfl
  exact ⟨fd, fn_core F s_pieces (Γ := G_pieces) rfl rfl k_pieces rfl rfl rfl (TabOk.cons (f_pieces_in Z) (TabOk.cons (f_require_space Z) TabOk.nil)) CstOk.nil (FreeOk.cons (He.free_ok Z.X Z.N (Z.d.fact 62 rfl)) FreeOk.nil) (fun _ _ e => by cases e) MetsOk.nil ExcsOk.nil, He.glo_ok Z.X Z.N (Z.d.fact 49 rfl), F.kp, FunD.bindsN F fun _ _ _ _ _ _ us hl => match us, hl with | [_], _ => rfl⟩
theorem f_pieces (Z : Wd w K mg base h) : FnFact PP w K mg base (GG w K mg) "pieces" i_pieces := by
  obtain ⟨fd, F, a, b, c⟩ := g_pieces Z
  exact ⟨_, fd, _, a, b, c, solo_fn tLen F, fun _ _ _ _ h => solo_len h⟩
def N__law_hat : List Str := ["_law_script", "_law_spot", "_law_cell", "_law_great", "_law_seed"]
def c__law_hat : S := (.seq (.asg (.nm 2) (.ite (.cmp .Lt (.var 1) (.call (bi lenD) (.cons (.var 0) .nil))) (.call (bi intD) (.cons (.ix (.var 0) (.var 1)) .nil)) (.bin .Add (.bin .Mult (.c (.int 311)) (.var 1)) (.c (.int 47))))) (.seq (.asg (.nm 3) (.bin .Mod (.call (bi intD) (.cons (.call (bi absD) (.cons (.var 2) .nil)) .nil)) (.bin .Pow (.bin .Pow (.c (.int 10)) (.c (.int 51))) (.c (.int 8))))) (.seq (.asg (.nm 4) (.call (bi intD) (.cons (.bin .Add (.bin .Add (.bin .Add (.bin .Mult (.bin .Mod (.var 3) (.c (.int 2305843009213693907))) (.c (.int 83))) (.bin .Mult (.c (.int 5261)) (.var 1))) (.bin .Mult (.c (.int 29)) (.call (bi intD) (.cons (.cmp .Lt (.var 2) (.c (.int 0))) .nil)))) (.c (.int 61))) .nil))) (.seq (.ret (.lstM (.cons (.call (bi maxD) (.cons (.c (.int 0)) (.cons (.bin .Sub (.var 3) (.bin .Pow (.c (.int 10)) (.c (.int 16)))) .nil))) (.cons (.bin .Mod (.var 4) (.c (.int 2305843009213693951))) (.cons (.c (.int 0)) .nil))))) .pass))))
def r__law_hat : List D → M D := fnM 5 2 c__law_hat
def m__law_hat : List D → M D := mHat
def i__law_hat : FnI := ⟨1, 2, m__law_hat⟩
def G__law_hat : Gam := { N := N__law_hat, sc := defScope (topS 67), lv := 0, fns := [], cst := [], free := ["max", "int", "abs", "len"], mu := [(228, 11)], asg := cellsOf (defScope (topS 67)) }
theorem k__law_hat : compSs 400 G__law_hat (defBody (topS 67)) = some c__law_hat := by kernel_rfl
theorem s__law_hat : FnScope N__law_hat ["_law_script", "_law_spot"] (defScope (topS 67)) := ⟨rfl, rfl, rfl, by decide +kernel, rfl, by decide +kernel, by decide +kernel⟩
theorem g__law_hat (Z : Wd w K mg base h) : ∃ fd, FnG PP w K mg base (L2.CX PP w) 1 (He.fAd K ("_law_hat", none)) fd ["_law_script", "_law_spot"] (spD (GG w K mg) (fnM 5 2 c__law_hat) 2) ∧ mg "_law_hat" = some (.ref (He.fAd K ("_law_hat", none))) ∧ PySem.W.keepIn K (.ref (He.fAd K ("_law_hat", none))) = true ∧ Binds K fd ["_law_script", "_law_spot"] [] := by
  obtain ⟨fd, F⟩ := Z.d.def_ 50 (d := d__law_hat) rfl
  exact ⟨fd, fn_core F s__law_hat (Γ := G__law_hat) rfl rfl k__law_hat rfl rfl rfl TabOk.nil CstOk.nil (FreeOk.cons (He.free_ok Z.X Z.N (Z.d.fact 67 rfl)) (FreeOk.cons (He.free_ok Z.X Z.N (Z.d.fact 58 rfl)) (FreeOk.cons (He.free_ok Z.X Z.N (Z.d.fact 69 rfl)) (FreeOk.cons (He.free_ok Z.X Z.N (Z.d.fact 63 rfl)) FreeOk.nil)))) (fun _ _ e => by cases e) MetsOk.nil ExcsOk.nil, He.glo_ok Z.X Z.N (Z.d.fact 50 rfl), F.kp, FunD.bindsN F fun _ _ _ _ _ _ us hl => match us, hl with | [_, _], _ => rfl⟩
theorem f__law_hat (Z : Wd w K mg base h) : FnFact PP w K mg base (GG w K mg) "_law_hat" i__law_hat := by
  obtain ⟨fd, F, a, b, c⟩ := g__law_hat Z
  exact ⟨_, fd, _, a, b, c, hat_fn F (hat_law c__law_hat rfl), fun _ _ _ _ h => hat_len h⟩
def N__law_up_to : List Str := ["_law_hat_here", "_law_total", "_law_found", "_law_one", "_law_two"]
def c__law_up_to : S := (.seq (.ifs (.cmp .Gt (.ix (.var 0) (.c (.int 0))) (.c (.int 0))) (.seq (.asg (.nm 2) (.bin .Mod (.call (bi intD) (.cons (.ix (.var 0) (.c (.int 0))) .nil)) (.var 1))) (.seq (.setix (.var 0) (.c (.int 0)) (.bin .FloorDiv (.ix (.var 0) (.c (.int 0))) (.var 1))) (.seq (.ret (.var 2)) .pass))) .pass) (.seq (.setix (.var 0) (.c (.int 2)) (.bin .Add (.ix (.var 0) (.c (.int 2))) (.c (.int 1)))) (.seq (.asg (.nm 3) (.bin .Mod (.call (bi intD) (.cons (.bin .Add (.ix (.var 0) (.c (.int 1))) (.bin .Mult (.c (.int 86028157)) (.ix (.var 0) (.c (.int 2))))) .nil)) (.c (.int 2305843009213693951)))) (.seq (.asg (.nm 4) (.bin .Add (.bin .Add (.bin .Mult (.bin .Mod (.call (bi intD) (.cons (.bin .Add (.bin .Mult (.var 3) (.var 3)) (.c (.int 67867967))) .nil)) (.c (.int 2305843009213693921))) (.c (.int 15485863))) (.var 3)) (.bin .Mult (.c (.int 19)) (.ix (.var 0) (.c (.int 2)))))) (.seq (.ret (.bin .Mod (.call (bi intD) (.cons (.bin .FloorDiv (.var 4) (.c (.int 65539))) .nil)) (.var 1))) .pass)))))
def r__law_up_to : List D → M D := fnM 5 2 c__law_up_to
def m__law_up_to : List D → M D := mDraw
def i__law_up_to : FnI := ⟨1, 2, m__law_up_to⟩
def G__law_up_to : Gam := { N := N__law_up_to, sc := defScope (topS 68), lv := 0, fns := [], cst := [], free := ["int"], mu := [], asg := cellsOf (defScope (topS 68)) }
theorem k__law_up_to : compSs 400 G__law_up_to (defBody (topS 68)) = some c__law_up_to := by kernel_rfl
theorem s__law_up_to : FnScope N__law_up_to ["_law_hat_here", "_law_total"] (defScope (topS 68)) := ⟨rfl, rfl, rfl, by decide +kernel, rfl, by decide +kernel, by decide +kernel⟩
theorem g__law_up_to (Z : Wd w K mg base h) : ∃ fd, FnG PP w K mg base (L2.CX PP w) 1 (He.fAd K ("_law_up_to", none)) fd ["_law_hat_here", "_law_total"] (spD (GG w K mg) (fnM 5 2 c__law_up_to) 2) ∧ mg "_law_up_to" = some (.ref (He.fAd K ("_law_up_to", none))) ∧ PySem.W.keepIn K (.ref (He.fAd K ("_law_up_to", none))) = true ∧ Binds K fd ["_law_hat_here", "_law_total"] [] := by
  obtain ⟨fd, F⟩ := Z.d.def_ 51 (d := d__law_up_to) rfl
  exact ⟨fd, fn_core F s__law_up_to (Γ := G__law_up_to) rfl rfl k__law_up_to rfl rfl rfl TabOk.nil CstOk.nil (FreeOk.cons (He.free_ok Z.X Z.N (Z.d.fact 58 rfl)) FreeOk.nil) (fun _ _ e => by cases e) MetsOk.nil ExcsOk.nil, He.glo_ok Z.X Z.N (Z.d.fact 51 rfl), F.kp, FunD.bindsN F fun _ _ _ _ _ _ us hl => match us, hl with | [_, _], _ => rfl⟩
theorem f__law_up_to (Z : Wd w K mg base h) : FnFact PP w K mg base (GG w K mg) "_law_up_to" i__law_up_to := by
  obtain ⟨fd, F, a, b, c⟩ := g__law_up_to Z
  exact ⟨_, fd, _, a, b, c, up_fn F (up_law c__law_up_to rfl), fun _ _ _ _ h => draw_len h⟩
def N__law_out_of : List Str := ["_law_hat_here", "_law_items"]
def c__law_out_of : S := (.seq (.ret (.ix (.var 1) (.call m__law_up_to (.cons (.var 0) (.cons (.call (bi lenD) (.cons (.var 1) .nil)) .nil))))) .pass)
def m__law_out_of : List D → M D := fnM 2 2 c__law_out_of
def i__law_out_of : FnI := ⟨2, 2, m__law_out_of⟩
def G__law_out_of : Gam := { N := N__law_out_of, sc := defScope (topS 69), lv := 1, fns := [("_law_up_to", i__law_up_to)], cst := [], free := ["len"], mu := [], asg := cellsOf (defScope (topS 69)) }
theorem k__law_out_of : compSs 400 G__law_out_of (defBody (topS 69)) = some c__law_out_of := by kernel_rfl
theorem s__law_out_of : FnScope N__law_out_of ["_law_hat_here", "_law_items"] (defScope (topS 69)) := ⟨rfl, rfl, rfl, by decide +kernel, rfl, by decide +kernel, by decide +kernel⟩
theorem g__law_out_of (Z : Wd w K mg base h) : ∃ fd, FnG PP w K mg base (L2.CX PP w) 2 (He.fAd K ("_law_out_of", none)) fd ["_law_hat_here", "_law_items"] (spD (GG w K mg) (fnM 2 2 c__law_out_of) 2) ∧ mg "_law_out_of" = some (.ref (He.fAd K ("_law_out_of", none))) ∧ PySem.W.keepIn K (.ref (He.fAd K ("_law_out_of", none))) = true ∧ Binds K fd ["_law_hat_here", "_law_items"] [] := by
  obtain ⟨fd, F⟩ := Z.d.def_ 52 (d := d__law_out_of) rfl
  exact ⟨fd, fn_core F s__law_out_of (Γ := G__law_out_of) rfl rfl k__law_out_of rfl rfl rfl (TabOk.cons (f__law_up_to Z) TabOk.nil) CstOk.nil (FreeOk.cons (He.free_ok Z.X Z.N (Z.d.fact 63 rfl)) FreeOk.nil) (fun _ _ e => by cases e) MetsOk.nil ExcsOk.nil, He.glo_ok Z.X Z.N (Z.d.fact 52 rfl), F.kp, FunD.bindsN F fun _ _ _ _ _ _ us hl => match us, hl with | [_, _], _ => rfl⟩
theorem f__law_out_of (Z : Wd w K mg base h) : FnFact PP w K mg base (GG w K mg) "_law_out_of" i__law_out_of := by
  obtain ⟨fd, F, a, b, c⟩ := g__law_out_of Z
  exact ⟨_, fd, _, a, b, c, F, fun _ _ _ _ h => fnM_len h⟩
def N__law_space : List Str := ["_law_lots", "_law_found", "_law_lot", "_law_some", "_law_point", "_law_one"]
abbrev lq__law_space : Str := PySem.Str.ofString "_law_space.<locals>.<lambda>"
def c__law_space : S := (.seq (.asg (.nm 1) .dnewM) (.seq (.for_ (.nm 2) (.it1 (.var 0)) (.seq (.asg (.nm 3) (.lst (.cons (.tup .nil) .nil))) (.seq (.for_ (.nm 4) (.it1 (.var 2)) (.seq (.asg (.nm 3) (.bin .Add (.var 3) (.lc [5] (.nm 5) (.it1 (.var 3)) (.c (.bl true)) (.bin .Add (.var 5) (.tup (.cons (.var 4) .nil)))))) .pass)) (.seq (.expr (.dupd (.var 1) (.call (bi dictD) (.cons (.lc [5] (.nm 5) (.it1 (.var 3)) (.cmp .NotEq (.var 5) (.tup .nil)) (.tup (.cons (.var 5) (.cons (.c (.bl true)) .nil)))) .nil)))) .pass)))) (.seq (.ret (.call (bi tupleD) (.cons (.lamB 0 lq__law_space sortLcD (.var 1)) .nil))) .pass)))
def m__law_space : List D → M D := soloM KT (fnM 6 1 c__law_space)
def u__law_space : List D → M D := runM KT TT (fnM 6 1 c__law_space)
def i__law_space : FnI := ⟨3, 1, m__law_space⟩
def G__law_space : Gam := { N := N__law_space, sc := defScope (topS 70), lv := 2, fns := [], cst := [], free := ["tuple", "sorted", "len", "dict"], mu := [(241, 17)], asg := cellsOf (defScope (topS 70)), lam := some (0, lq__law_space) }
theorem k__law_space : compSs 400 G__law_space (defBody (topS 70)) = some c__law_space := by kernel_rfl
theorem s__law_space : FnScope N__law_space ["_law_lots"] (defScope (topS 70)) := ⟨rfl, rfl, rfl, by decide +kernel, rfl, by decide +kernel, by decide +kernel⟩
theorem g__law_space (Z : Wd w K mg base h) : ∃ fd, FnG PP w K mg base (L2.CX PP w) 3 (He.fAd K ("_law_space", none)) fd ["_law_lots"] (spD (GG w K mg) (fnM 6 1 c__law_space) 1) ∧ mg "_law_space" = some (.ref (He.fAd K ("_law_space", none))) ∧ PySem.W.keepIn K (.ref (He.fAd K ("_law_space", none))) = true ∧ Binds K fd ["_law_lots"] [] := by
  obtain ⟨fd, F⟩ := Z.d.def_ 53 (d := d__law_space) rfl
  exact ⟨fd, fn_core F s__law_space (Γ := G__law_space) rfl rfl k__law_space rfl rfl rfl TabOk.nil CstOk.nil (FreeOk.cons (He.free_ok Z.X Z.N (Z.d.fact 62 rfl)) (FreeOk.cons (He.free_ok Z.X Z.N (Z.d.fact 65 rfl)) (FreeOk.cons (He.free_ok Z.X Z.N (Z.d.fact 63 rfl)) (FreeOk.cons (He.free_ok Z.X Z.N (Z.d.fact 70 rfl)) FreeOk.nil)))) (fun _ _ e => by cases e; exact ⟨fun _ _ => by kernel_rfl, lam_of_ (p := ("_law_space", none)) F (Z.tb _ (by unfold tfL; simp)) rfl⟩) MetsOk.nil ExcsOk.nil, He.glo_ok Z.X Z.N (Z.d.fact 53 rfl), F.kp, FunD.bindsN F fun _ _ _ _ _ _ us hl => match us, hl with | [_], _ => rfl⟩
theorem f__law_space (Z : Wd w K mg base h) : FnFact PP w K mg base (GG w K mg) "_law_space" i__law_space := by
  obtain ⟨fd, F, a, b, c⟩ := g__law_space Z
  exact ⟨_, fd, _, a, b, c, solo_fn tLen F, fun _ _ _ _ h => solo_len h⟩
def N__law_met : List Str := ["_law_call", "error"]
def h__law_met : List Hd := [⟨[("InvalidCell", none)], ["InvalidNumber", "InvalidSpace", "TooMany", "InvalidOperation"], (.tup (.cons (.c (.str (PySem.Str.ofString "met"))) (.cons (.c (.str (PySem.Str.ofString "cell"))) .nil)))⟩,
  ⟨[("InvalidSpace", none)], ["InvalidNumber", "InvalidCell", "TooMany", "InvalidOperation"], (.tup (.cons (.c (.str (PySem.Str.ofString "met"))) (.cons (.c (.str (PySem.Str.ofString "space"))) .nil)))⟩,
  ⟨[("InvalidOperation", none)], ["InvalidNumber", "InvalidCell", "InvalidSpace", "TooMany"], (.tup (.cons (.c (.str (PySem.Str.ofString "met"))) (.cons (.c (.str (PySem.Str.ofString "operation"))) .nil)))⟩,
  ⟨[("InvalidNumber", some "given")], ["InvalidCell", "InvalidSpace", "TooMany", "InvalidOperation"], (.tup (.cons (.c (.str (PySem.Str.ofString "met"))) (.cons (.add (.c (.str (PySem.Str.ofString "number "))) (.repr (.fld "given"))) .nil)))⟩,
  ⟨[("TooMany", some "most")], ["InvalidNumber", "InvalidCell", "InvalidSpace", "InvalidOperation"], (.tup (.cons (.c (.str (PySem.Str.ofString "met"))) (.cons (.add (.c (.str (PySem.Str.ofString "many "))) (.repr (.fld "most"))) .nil)))⟩]
def z__law_met : Option HE := some (.tup (.cons (.c (.str (PySem.Str.ofString "met"))) (.cons (.c (.str (PySem.Str.ofString "fine"))) .nil)))
def mi__law_met : MetI := ⟨h__law_met, z__law_met⟩
def l__law_met : List Cl := [⟨"InvalidCell", none, (.tup (.cons (.c (.str (PySem.Str.ofString "met"))) (.cons (.c (.str (PySem.Str.ofString "cell"))) .nil)))⟩, ⟨"InvalidSpace", none, (.tup (.cons (.c (.str (PySem.Str.ofString "met"))) (.cons (.c (.str (PySem.Str.ofString "space"))) .nil)))⟩, ⟨"InvalidOperation", none, (.tup (.cons (.c (.str (PySem.Str.ofString "met"))) (.cons (.c (.str (PySem.Str.ofString "operation"))) .nil)))⟩, ⟨"InvalidNumber", some "error", (.tup (.cons (.c (.str (PySem.Str.ofString "met"))) (.cons (.add (.c (.str (PySem.Str.ofString "number "))) (.repr (.fld "given"))) .nil)))⟩, ⟨"TooMany", some "error", (.tup (.cons (.c (.str (PySem.Str.ofString "met"))) (.cons (.add (.c (.str (PySem.Str.ofString "many "))) (.repr (.fld "most"))) .nil)))⟩]
theorem k__law_met : metC N__law_met ["repr"] (defScope (topS 71)) "_law_call" 400 (defBody (topS 71)) = some (l__law_met, z__law_met) := by kernel_rfl
theorem s__law_met : FnScope N__law_met ["_law_call"] (defScope (topS 71)) := ⟨rfl, rfl, rfl, by decide +kernel, rfl, by decide +kernel, by decide +kernel⟩
theorem f__law_met (Z : Wd w K mg base h) : MetFact PP w K mg base (GG w K mg) "_law_met" mi__law_met := by
  obtain ⟨fd, F⟩ := Z.d.def_ 54 (d := d__law_met) rfl
  obtain ⟨cdv, D⟩ := got_of (P := PP) F (He.glo_ok Z.X Z.N (Z.d.fact 54 rfl)) (fun _ _ _ _ _ _ us hl => match us, hl with | [_], _ => rfl)
  exact met_fact (fr := ["repr"]) rfl rfl (FreeOk.cons (He.free_ok Z.X Z.N (Z.d.fact 71 rfl)) FreeOk.nil) (a := PySem.Str.ofString "_law_call") D s__law_met rfl (.inl (by kernel_rfl)) (by decide +kernel) k__law_met (.cons (cl_of Z.X Z.N rfl (Z.d.fact 80 rfl) (fa_cons ⟨show fdL.lookup (PySem.Str.ofString "InvalidCell") = none from by decide +kernel, (Z.d.fact 80 rfl), (Z.d.fact 95 rfl), fun _ e => by cases e⟩ fa_nil) (fa_cons ⟨(Z.d.fact 86 rfl), (Z.d.fact 90 rfl)⟩ (fa_cons ⟨(Z.d.fact 82 rfl), (Z.d.fact 100 rfl)⟩ (fa_cons ⟨(Z.d.fact 88 rfl), (Z.d.fact 105 rfl)⟩ (fa_cons ⟨(Z.d.fact 84 rfl), (Z.d.fact 110 rfl)⟩ fa_nil))))) (.cons (cl_of Z.X Z.N rfl (Z.d.fact 82 rfl) (fa_cons ⟨show fdL.lookup (PySem.Str.ofString "InvalidSpace") = none from by decide +kernel, (Z.d.fact 82 rfl), (Z.d.fact 101 rfl), fun _ e => by cases e⟩ fa_nil) (fa_cons ⟨(Z.d.fact 86 rfl), (Z.d.fact 91 rfl)⟩ (fa_cons ⟨(Z.d.fact 80 rfl), (Z.d.fact 96 rfl)⟩ (fa_cons ⟨(Z.d.fact 88 rfl), (Z.d.fact 106 rfl)⟩ (fa_cons ⟨(Z.d.fact 84 rfl), (Z.d.fact 111 rfl)⟩ fa_nil))))) (.cons (cl_of Z.X Z.N rfl (Z.d.fact 84 rfl) (fa_cons ⟨show fdL.lookup (PySem.Str.ofString "InvalidOperation") = none from by decide +kernel, (Z.d.fact 84 rfl), (Z.d.fact 112 rfl), fun _ e => by cases e⟩ fa_nil) (fa_cons ⟨(Z.d.fact 86 rfl), (Z.d.fact 92 rfl)⟩ (fa_cons ⟨(Z.d.fact 80 rfl), (Z.d.fact 97 rfl)⟩ (fa_cons ⟨(Z.d.fact 82 rfl), (Z.d.fact 102 rfl)⟩ (fa_cons ⟨(Z.d.fact 88 rfl), (Z.d.fact 107 rfl)⟩ fa_nil))))) (.cons (cl_of Z.X Z.N rfl (Z.d.fact 86 rfl) (fa_cons ⟨show fdL.lookup (PySem.Str.ofString "InvalidNumber") = some (PySem.Str.ofString "given") from by decide +kernel, (Z.d.fact 86 rfl), (Z.d.fact 93 rfl), fun _ e => by cases e; exact ⟨Z.xf n_InvalidNumber (by unfold inL; simp), (Z.d.fact 87 rfl)⟩⟩ fa_nil) (fa_cons ⟨(Z.d.fact 80 rfl), (Z.d.fact 98 rfl)⟩ (fa_cons ⟨(Z.d.fact 82 rfl), (Z.d.fact 103 rfl)⟩ (fa_cons ⟨(Z.d.fact 88 rfl), (Z.d.fact 108 rfl)⟩ (fa_cons ⟨(Z.d.fact 84 rfl), (Z.d.fact 113 rfl)⟩ fa_nil))))) (.cons (cl_of Z.X Z.N rfl (Z.d.fact 88 rfl) (fa_cons ⟨show fdL.lookup (PySem.Str.ofString "TooMany") = some (PySem.Str.ofString "most") from by decide +kernel, (Z.d.fact 88 rfl), (Z.d.fact 109 rfl), fun _ e => by cases e; exact ⟨Z.xf n_TooMany (by unfold inL; simp), (Z.d.fact 89 rfl)⟩⟩ fa_nil) (fa_cons ⟨(Z.d.fact 86 rfl), (Z.d.fact 94 rfl)⟩ (fa_cons ⟨(Z.d.fact 80 rfl), (Z.d.fact 99 rfl)⟩ (fa_cons ⟨(Z.d.fact 82 rfl), (Z.d.fact 104 rfl)⟩ (fa_cons ⟨(Z.d.fact 84 rfl), (Z.d.fact 114 rfl)⟩ fa_nil))))) .nil)))))
def N__law_right : List Str := ["_law_hat_here", "_law_line", "_law_bad", "_law_at", "_law_odd", "_law_cell", "_law_degree", "_law_point", "_law_told", "_law_due", "_law_call", "_law_lots", "_law_far", "_law_word"]
abbrev lq__law_right : Str := PySem.Str.ofString "_law_right.<locals>.<lambda>"
def v__law_right : List (Str × (List D → M D)) := [("is_side", m_is_side), ("is_path", m_is_path), ("common", m_common), ("joined", m_joined), ("is_open", m_is_open), ("is_sub", m_is_sub), ("link", m_link), ("closed_star", m_closed_star), ("star", m_star), ("border", m_border), ("skeleton", m_skeleton), ("cells_of", m_cells_of), ("parts", m_parts), ("faces", m_faces), ("pieces", m_pieces), ("count", m_count), ("tops", m_tops), ("points", m_points), ("degree_of", m_degree_of)]
def c__law_right : S := (.seq (.asg (.nm 1) (.tup (.cons (.tup (.cons (.c (.int 0)) .nil)) (.cons (.tup (.cons (.c (.int 1)) .nil)) (.cons (.tup (.cons (.c (.int 0)) (.cons (.c (.int 1)) .nil))) .nil))))) (.seq (.asg (.nm 2) (.lst (.cons (.c .non) (.cons (.c (.int 5)) (.cons (.c (.str (PySem.Str.ofString "space"))) (.cons .dnew (.cons (.lst .nil) (.cons (.lst (.cons (.tup (.cons (.c (.int 0)) .nil)) .nil)) (.cons (.tup (.cons (.tup (.cons (.c (.int 0)) (.cons (.c (.int 1)) .nil))) .nil)) (.cons (.tup (.cons (.tup (.cons (.c (.int 0)) (.cons (.c (.int 1)) .nil))) (.cons (.tup (.cons (.c (.int 0)) .nil)) (.cons (.tup (.cons (.c (.int 1)) .nil)) .nil)))) (.cons (.tup (.cons (.tup (.cons (.c (.int 1)) .nil)) (.cons (.tup (.cons (.c (.int 0)) .nil)) .nil))) (.cons (.tup (.cons (.tup (.cons (.c (.int 0)) .nil)) (.cons (.tup (.cons (.c (.int 0)) .nil)) .nil))) (.cons (.tup (.cons (.tup (.cons (.c (.int 100)) .nil)) .nil)) (.cons (.tup (.cons (.tup (.cons (.c (.bl true)) .nil)) .nil)) (.cons (.tup (.cons (.c (.int 0)) (.cons (.c (.int 1)) .nil))) .nil))))))))))))))) (.seq (.asg (.nm 2) (.call m__law_out_of (.cons (.var 0) (.cons (.bin .Add (.var 2) (.lst (.cons (.bin .Add (.var 1) (.tup (.cons (.c .non) .nil))) (.cons (.call (bi tupleD) (.cons (.lc [3] (.nm 3) (.rng1 (.c (.int 81))) (.c (.bl true)) (.tup (.cons (.var 3) .nil))) .nil)) (.cons (.tup (.cons (.tup (.cons (.c (.str (PySem.Str.ofString "0"))) .nil)) .nil)) (.cons (.tup (.cons (.tup (.cons (.bin .Pow (.c (.int 10)) (.c (.int 50))) .nil)) .nil)) .nil)))))) .nil)))) (.seq (.asg (.nm 4) (.lst (.cons (.c .non) (.cons (.c (.int 0)) (.cons (.tup .nil) (.cons (.tup (.cons (.c (.int 1)) (.cons (.c (.int 0)) .nil))) (.cons (.tup (.cons (.c (.int 0)) (.cons (.c (.int 0)) .nil))) (.cons (.tup (.cons (.c (.int 0)) (.cons (.c (.int 100)) .nil))) (.cons (.tup (.cons (.neg (.c (.int 1))) .nil)) (.cons (.tup (.cons (.c (.bl true)) .nil)) (.cons (.lst (.cons (.c (.int 0)) .nil)) (.cons (.c (.str (PySem.Str.ofString "0"))) (.cons (.tup (.cons (.c (.int 0)) (.cons (.c (.int 1)) (.cons (.c (.int 2)) (.cons (.c (.int 3)) (.cons (.c (.int 4)) .nil)))))) (.cons (.tup (.cons (.bin .Pow (.c (.int 10)) (.c (.int 60))) .nil)) (.cons .dnew .nil))))))))))))))) (.seq (.asg (.nm 5) (.call m__law_out_of (.cons (.var 0) (.cons (.var 4) .nil)))) (.seq (.asg (.nm 6) (.call m__law_out_of (.cons (.var 0) (.cons (.lst (.cons (.c .non) (.cons (.neg (.c (.int 1))) (.cons (.c (.int 4)) (.cons (.c (.bl true)) (.cons (.c (.str (PySem.Str.ofString "1"))) (.cons (.tup (.cons (.c (.int 1)) .nil)) (.cons (.bin .Pow (.c (.int 10)) (.c (.int 60))) (.cons (.lst .nil) .nil))))))))) .nil)))) (.seq (.asg (.nm 7) (.call m__law_out_of (.cons (.var 0) (.cons (.lst (.cons (.c .non) (.cons (.neg (.c (.int 1))) (.cons (.c (.int 100)) (.cons (.c (.int 2)) (.cons (.c (.bl true)) (.cons (.c (.str (PySem.Str.ofString "0"))) (.cons (.tup (.cons (.c (.int 0)) .nil)) (.cons (.bin .Pow (.c (.int 10)) (.c (.int 60))) .nil))))))))) .nil)))) (.seq (.par 8 9 (.lstM .nil) (.lstM .nil)) (.seq (.for_ (.nm 10) (.it1 (.tup (.cons (.c (.fn "degree_of")) (.cons (.c (.fn "points")) (.cons (.c (.fn "tops")) (.cons (.c (.fn "count")) (.cons (.c (.fn "pieces")) .nil))))))) (.seq (.expr (.app (.var 8) (.met 1 lq__law_right (.callV v__law_right (.var 10) (.cons (.var 2) .nil)) h__law_met z__law_met))) (.seq (.expr (.app (.var 9) (.c (.str (PySem.Str.ofString "space"))))) .pass))) (.seq (.for_ (.nm 10) (.it1 (.tup (.cons (.c (.fn "faces")) (.cons (.c (.fn "parts")) .nil)))) (.seq (.expr (.app (.var 8) (.met 1 lq__law_right (.callV v__law_right (.var 10) (.cons (.var 5) .nil)) h__law_met z__law_met))) (.seq (.expr (.app (.var 9) (.c (.str (PySem.Str.ofString "cell"))))) .pass))) (.seq (.for_ (.nm 10) (.it1 (.tup (.cons (.c (.fn "cells_of")) (.cons (.c (.fn "skeleton")) (.cons (.c (.fn "border")) .nil))))) (.seq (.expr (.app (.var 8) (.met 1 lq__law_right (.callV v__law_right (.var 10) (.cons (.var 2) (.cons (.var 6) .nil))) h__law_met z__law_met))) (.seq (.expr (.app (.var 8) (.met 1 lq__law_right (.callV v__law_right (.var 10) (.cons (.var 1) (.cons (.var 6) .nil))) h__law_met z__law_met))) (.seq (.asg (.nm 9) (.catL (.var 9) (.lst (.cons (.c (.str (PySem.Str.ofString "space"))) (.cons (.bin .Add (.c (.str (PySem.Str.ofString "number "))) (.call (bi reprD) (.cons (.var 6) .nil))) .nil))))) .pass)))) (.seq (.for_ (.nm 10) (.it1 (.tup (.cons (.c (.fn "star")) (.cons (.c (.fn "closed_star")) (.cons (.c (.fn "link")) .nil))))) (.seq (.expr (.app (.var 8) (.met 1 lq__law_right (.callV v__law_right (.var 10) (.cons (.var 2) (.cons (.var 5) .nil))) h__law_met z__law_met))) (.seq (.expr (.app (.var 8) (.met 1 lq__law_right (.callV v__law_right (.var 10) (.cons (.var 1) (.cons (.var 5) .nil))) h__law_met z__law_met))) (.seq (.expr (.app (.var 8) (.met 1 lq__law_right (.callV v__law_right (.var 10) (.cons (.var 1) (.cons (.tup (.cons (.c (.int 0)) (.cons (.c (.int 7)) .nil))) .nil))) h__law_met z__law_met))) (.seq (.asg (.nm 9) (.catL (.var 9) (.lst (.cons (.c (.str (PySem.Str.ofString "space"))) (.cons (.c (.str (PySem.Str.ofString "cell"))) (.cons (.c (.str (PySem.Str.ofString "cell"))) .nil)))))) .pass))))) (.seq (.for_ (.nm 10) (.it1 (.tup (.cons (.c (.fn "is_sub")) (.cons (.c (.fn "is_open")) (.cons (.c (.fn "joined")) (.cons (.c (.fn "common")) .nil)))))) (.seq (.expr (.app (.var 8) (.met 1 lq__law_right (.callV v__law_right (.var 10) (.cons (.var 2) (.cons (.var 2) .nil))) h__law_met z__law_met))) (.seq (.expr (.app (.var 9) (.c (.str (PySem.Str.ofString "space"))))) .pass))) (.seq (.for_ (.nm 10) (.it1 (.tup (.cons (.c (.fn "joined")) (.cons (.c (.fn "common")) .nil)))) (.seq (.expr (.app (.var 8) (.met 1 lq__law_right (.callV v__law_right (.var 10) (.cons (.var 1) (.cons (.var 2) .nil))) h__law_met z__law_met))) (.seq (.expr (.app (.var 9) (.c (.str (PySem.Str.ofString "space"))))) .pass))) (.seq (.expr (.app (.var 8) (.met 1 lq__law_right (.call m_hang_answer (.cons (.var 2) (.cons (.var 7) (.cons (.var 7) .nil)))) h__law_met z__law_met))) (.seq (.expr (.app (.var 8) (.met 1 lq__law_right (.call m_hang_answer (.cons (.var 1) (.cons (.var 7) (.cons (.c (.int 0)) .nil)))) h__law_met z__law_met))) (.seq (.expr (.app (.var 8) (.met 1 lq__law_right (.call m_hang_answer (.cons (.var 1) (.cons (.c (.int 1)) (.cons (.var 7) .nil)))) h__law_met z__law_met))) (.seq (.asg (.nm 9) (.catL (.catL (.var 9) (.lst (.cons (.c (.str (PySem.Str.ofString "space"))) .nil))) (.bin .Mult (.c (.int 2)) (.lst (.cons (.bin .Add (.c (.str (PySem.Str.ofString "number "))) (.call (bi reprD) (.cons (.var 7) .nil))) .nil))))) (.seq (.for_ (.nm 10) (.it1 (.tup (.cons (.c (.fn "is_path")) (.cons (.c (.fn "is_side")) .nil)))) (.seq (.expr (.app (.var 8) (.met 1 lq__law_right (.callV v__law_right (.var 10) (.cons (.var 2) (.cons (.var 7) (.cons (.var 7) (.cons (.c .non) .nil))))) h__law_met z__law_met))) (.seq (.expr (.app (.var 8) (.met 1 lq__law_right (.callV v__law_right (.var 10) (.cons (.var 1) (.cons (.var 7) (.cons (.c (.int 0)) (.cons (.c .non) .nil))))) h__law_met z__law_met))) (.seq (.expr (.app (.var 8) (.met 1 lq__law_right (.callV v__law_right (.var 10) (.cons (.var 1) (.cons (.c (.int 1)) (.cons (.var 7) (.cons (.c .non) .nil))))) h__law_met z__law_met))) (.seq (.asg (.nm 9) (.catL (.catL (.var 9) (.lst (.cons (.c (.str (PySem.Str.ofString "space"))) .nil))) (.bin .Mult (.c (.int 2)) (.lst (.cons (.bin .Add (.c (.str (PySem.Str.ofString "number "))) (.call (bi reprD) (.cons (.var 7) .nil))) .nil))))) .pass))))) (.seq (.asg (.nm 11) (.call m__law_out_of (.cons (.var 0) (.cons (.lst (.cons (.c .non) (.cons (.c (.int 5)) (.cons (.lst (.cons (.tup (.cons (.c (.int 0)) .nil)) .nil)) (.cons (.tup (.cons (.c (.int 0)) (.cons (.c (.int 1)) .nil))) (.cons (.tup (.cons (.tup (.cons (.c (.int 0)) .nil)) (.cons (.c .non) .nil))) (.cons (.tup (.cons (.tup (.cons (.c (.int 1)) (.cons (.c (.int 0)) .nil))) .nil)) (.cons (.bin .Mult (.tup (.cons (.tup (.cons (.c (.int 0)) .nil)) .nil)) (.c (.int 81))) (.cons .dnew (.cons (.c (.str (PySem.Str.ofString "lots"))) (.cons (.tup (.cons (.var 5) .nil)) .nil))))))))))) .nil)))) (.seq (.expr (.app (.var 8) (.met 1 lq__law_right (.call m_space_of (.cons (.var 11) .nil)) h__law_met z__law_met))) (.seq (.asg (.nm 12) (.call m__law_out_of (.cons (.var 0) (.cons (.lst (.cons (.c .non) (.cons (.neg (.c (.int 1))) (.cons (.c (.int 100)) (.cons (.c (.bl true)) (.cons (.c (.str (PySem.Str.ofString "0"))) (.cons (.tup (.cons (.c (.int 0)) .nil)) (.cons (.bin .Pow (.c (.int 10)) (.c (.int 60))) .nil)))))))) .nil)))) (.seq (.expr (.app (.var 8) (.met 1 lq__law_right (.call m_cone (.cons (.var 2) (.cons (.var 12) .nil))) h__law_met z__law_met))) (.seq (.expr (.app (.var 8) (.met 1 lq__law_right (.call m_cone (.cons (.var 1) (.cons (.var 12) .nil))) h__law_met z__law_met))) (.seq (.expr (.app (.var 8) (.met 1 lq__law_right (.call m_cone (.cons (.var 1) (.cons (.c (.int 1)) .nil))) h__law_met z__law_met))) (.seq (.ret (.cmp .Eq (.var 8) (.lc [13] (.nm 13) (.it1 (.bin .Add (.var 9) (.lst (.cons (.c (.str (PySem.Str.ofString "cell"))) (.cons (.c (.str (PySem.Str.ofString "space"))) (.cons (.bin .Add (.c (.str (PySem.Str.ofString "number "))) (.call (bi reprD) (.cons (.var 12) .nil))) (.cons (.c (.str (PySem.Str.ofString "operation"))) .nil))))))) (.c (.bl true)) (.tup (.cons (.c (.str (PySem.Str.ofString "met"))) (.cons (.var 13) .nil)))))) .pass))))))))))))))))))))))))))
def m__law_right : List D → M D := trimM (fnM 14 1 c__law_right)
def i__law_right : FnI := ⟨10, 1, m__law_right⟩
def G__law_right : Gam := { N := N__law_right, sc := defScope (topS 72), lv := 9, fns := [("cone", i_cone), ("_law_out_of", i__law_out_of), ("space_of", i_space_of), ("is_side", i_is_side), ("is_path", i_is_path), ("hang_answer", i_hang_answer), ("common", i_common), ("joined", i_joined), ("is_open", i_is_open), ("is_sub", i_is_sub), ("link", i_link), ("closed_star", i_closed_star), ("star", i_star), ("border", i_border), ("skeleton", i_skeleton), ("cells_of", i_cells_of), ("parts", i_parts), ("faces", i_faces), ("pieces", i_pieces), ("count", i_count), ("tops", i_tops), ("points", i_points), ("degree_of", i_degree_of)], cst := [], free := ["repr", "tuple", "range"], mu := [(270, 27), (270, 31), (280, 19), (285, 19), (295, 15), (300, 19)], asg := cellsOf (defScope (topS 72)), vfn := ["is_side", "is_path", "common", "joined", "is_open", "is_sub", "link", "closed_star", "star", "border", "skeleton", "cells_of", "parts", "faces", "pieces", "count", "tops", "points", "degree_of"], lam := some (1, lq__law_right), mets := [("_law_met", mi__law_met)] }
theorem k__law_right : compSs 400 G__law_right (defBody (topS 72)) = some c__law_right := by kernel_rfl
theorem s__law_right : FnScope N__law_right ["_law_hat_here"] (defScope (topS 72)) := ⟨rfl, rfl, rfl, by decide +kernel, rfl, by decide +kernel, by decide +kernel⟩
theorem g__law_right (Z : Wd w K mg base h) : ∃ fd, FnG PP w K mg base (L2.CX PP w) 10 (He.fAd K ("_law_right", none)) fd ["_law_hat_here"] (spD (GG w K mg) (fnM 14 1 c__law_right) 1) ∧ mg "_law_right" = some (.ref (He.fAd K ("_law_right", none))) ∧ PySem.W.keepIn K (.ref (He.fAd K ("_law_right", none))) = true ∧ Binds K fd ["_law_hat_here"] [] := by
  obtain ⟨fd, F⟩ := Z.d.def_ 55 (d := d__law_right) rfl
  exact ⟨fd, fn_core F s__law_right (Γ := G__law_right) rfl rfl k__law_right rfl rfl rfl (TabOk.cons (f_cone Z) (TabOk.cons (f__law_out_of Z) (TabOk.cons (f_space_of Z) (TabOk.cons (f_is_side Z) (TabOk.cons (f_is_path Z) (TabOk.cons (f_hang_answer Z) (TabOk.cons (f_common Z) (TabOk.cons (f_joined Z) (TabOk.cons (f_is_open Z) (TabOk.cons (f_is_sub Z) (TabOk.cons (f_link Z) (TabOk.cons (f_closed_star Z) (TabOk.cons (f_star Z) (TabOk.cons (f_border Z) (TabOk.cons (f_skeleton Z) (TabOk.cons (f_cells_of Z) (TabOk.cons (f_parts Z) (TabOk.cons (f_faces Z) (TabOk.cons (f_pieces Z) (TabOk.cons (f_count Z) (TabOk.cons (f_tops Z) (TabOk.cons (f_points Z) (TabOk.cons (f_degree_of Z) TabOk.nil))))))))))))))))))))))) CstOk.nil (FreeOk.cons (He.free_ok Z.X Z.N (Z.d.fact 71 rfl)) (FreeOk.cons (He.free_ok Z.X Z.N (Z.d.fact 62 rfl)) (FreeOk.cons (He.free_ok Z.X Z.N (Z.d.fact 64 rfl)) FreeOk.nil))) (fun _ _ e => by cases e; exact ⟨fun _ _ => by kernel_rfl, lam_of_ (p := ("_law_right", none)) F (Z.tb _ (by unfold tfL; simp)) rfl⟩) (MetsOk.cons (f__law_met Z) MetsOk.nil) ExcsOk.nil, He.glo_ok Z.X Z.N (Z.d.fact 55 rfl), F.kp, FunD.bindsN F fun _ _ _ _ _ _ us hl => match us, hl with | [_], _ => rfl⟩
theorem f__law_right (Z : Wd w K mg base h) : FnFact PP w K mg base (GG w K mg) "_law_right" i__law_right := by
  obtain ⟨fd, F, a, b, c⟩ := g__law_right Z
  exact ⟨_, fd, _, a, b, c, trim_fn F, fun _ _ _ _ h => trim_len h⟩
def N_law : List Str := ["_law_script", "_law_spot", "_law_great", "_law_lone", "_law_at", "_law_told", "_law_due", "_law_word"]
abbrev lq_law : Str := PySem.Str.ofString "law.<locals>.<lambda>"
def c_law : S := (.seq (.for_ (.nm 1) (.rng1 (.call (bi maxD) (.cons (.c (.int 1)) (.cons (.call (bi minD) (.cons (.c (.int 4)) (.cons (.call (bi lenD) (.cons (.var 0) .nil)) .nil))) .nil)))) (.seq (.ifs (.not_ (.call m__law_right (.cons (.call m__law_hat (.cons (.var 0) (.cons (.var 1) .nil))) .nil))) (.seq (.ret (.c (.bl false))) .pass) .pass) .pass)) (.seq (.asg (.cons (.nm 2) (.cons (.nm 3) .nil)) (.tup (.cons (.call (bi tupleD) (.cons (.lc [4] (.nm 4) (.rng3 (.c (.int 0)) (.c (.int 24)) (.c (.int 4))) (.c (.bl true)) (.tup (.cons (.var 4) (.cons (.bin .Add (.var 4) (.c (.int 1))) (.cons (.bin .Add (.var 4) (.c (.int 2))) (.cons (.bin .Add (.var 4) (.c (.int 3))) .nil)))))) .nil)) (.cons (.call (bi tupleD) (.cons (.lc [4] (.nm 4) (.rng1 (.c (.int 80))) (.c (.bl true)) (.tup (.cons (.var 4) .nil))) .nil)) .nil)))) (.seq (.asg (.nm 5) (.lstM (.cons (.met 2 lq_law (.call m_space_of (.cons (.var 2) .nil)) h__law_met z__law_met) .nil))) (.seq (.expr (.app (.var 5) (.met 2 lq_law (.call m_space_of (.cons (.sl (.var 2) (.c .non) (.int_ (.c (.int 5)))) .nil)) h__law_met z__law_met))) (.seq (.expr (.app (.var 5) (.met 2 lq_law (.call m_space_of (.cons (.var 3) .nil)) h__law_met z__law_met))) (.seq (.expr (.app (.var 5) (.met 2 lq_law (.call m_cone (.cons (.var 3) (.cons (.c (.int 99)) .nil))) h__law_met z__law_met))) (.seq (.expr (.app (.var 5) (.met 2 lq_law (.call m_cone (.cons (.call m__law_space (.cons (.lst (.cons (.tup (.cons (.c (.int 0)) (.cons (.c (.int 1)) (.cons (.c (.int 2)) (.cons (.c (.int 3)) .nil))))) .nil)) .nil)) (.cons (.c (.int 9)) .nil))) h__law_met z__law_met))) (.seq (.expr (.app (.var 5) (.met 2 lq_law (.call m_border (.cons (.var 3) (.cons (.c (.int 1)) .nil))) h__law_met z__law_met))) (.seq (.expr (.app (.var 5) (.met 2 lq_law (.call m_joined (.cons (.var 3) (.cons (.tup (.cons (.tup (.cons (.c (.int 80)) .nil)) .nil)) .nil))) h__law_met z__law_met))) (.seq (.expr (.app (.var 5) (.met 2 lq_law (.call m_cone (.cons (.call m__law_space (.cons (.lst (.cons (.tup (.cons (.c (.int 0)) (.cons (.c (.int 1)) (.cons (.c (.int 2)) (.cons (.c (.int 3)) .nil))))) .nil)) .nil)) (.cons (.c (.int 3)) .nil))) h__law_met z__law_met))) (.seq (.expr (.app (.var 5) (.met 2 lq_law (.call m_border (.cons (.var 3) (.cons (.c (.int 3)) .nil))) h__law_met z__law_met))) (.seq (.asg (.nm 6) (.lst (.cons (.c (.str (PySem.Str.ofString "many 80"))) (.cons (.c (.str (PySem.Str.ofString "fine"))) (.cons (.c (.str (PySem.Str.ofString "fine"))) (.cons (.c (.str (PySem.Str.ofString "many 80"))) (.cons (.c (.str (PySem.Str.ofString "many 4"))) (.cons (.c (.str (PySem.Str.ofString "many 60"))) (.cons (.c (.str (PySem.Str.ofString "many 80"))) (.cons (.c (.str (PySem.Str.ofString "operation"))) (.cons (.c (.str (PySem.Str.ofString "fine"))) .nil))))))))))) (.seq (.ret (.and_ (.cmp .Eq (.var 5) (.lc [7] (.nm 7) (.it1 (.var 6)) (.c (.bl true)) (.tup (.cons (.c (.str (PySem.Str.ofString "met"))) (.cons (.var 7) .nil))))) (.cmp .Eq (.call m_pieces (.cons (.var 3) .nil)) (.call (bi tupleD) (.cons (.lc [4] (.nm 4) (.rng1 (.c (.int 80))) (.c (.bl true)) (.tup (.cons (.tup (.cons (.var 4) .nil)) .nil))) .nil))))) .pass)))))))))))))
def m_law : List D → M D := trimM (fnM 8 1 c_law)
def i_law : FnI := ⟨11, 1, m_law⟩
def G_law : Gam := { N := N_law, sc := defScope (topS 73), lv := 10, fns := [("pieces", i_pieces), ("border", i_border), ("cone", i_cone), ("_law_space", i__law_space), ("joined", i_joined), ("space_of", i_space_of), ("_law_right", i__law_right), ("_law_hat", i__law_hat)], cst := [], free := ["tuple", "range", "max", "min", "len"], mu := [(313, 16)], asg := cellsOf (defScope (topS 73)), lam := some (2, lq_law), mets := [("_law_met", mi__law_met)] }
theorem k_law : compSs 400 G_law (defBody (topS 73)) = some c_law := by kernel_rfl
theorem s_law : FnScope N_law ["_law_script"] (defScope (topS 73)) := ⟨rfl, rfl, rfl, by decide +kernel, rfl, by decide +kernel, by decide +kernel⟩
theorem g_law (Z : Wd w K mg base h) : ∃ fd, FnG PP w K mg base (L2.CX PP w) 11 (He.fAd K ("law", none)) fd ["_law_script"] (spD (GG w K mg) (fnM 8 1 c_law) 1) ∧ mg "law" = some (.ref (He.fAd K ("law", none))) ∧ PySem.W.keepIn K (.ref (He.fAd K ("law", none))) = true ∧ Binds K fd ["_law_script"] [] := by
  obtain ⟨fd, F⟩ := Z.d.def_ 56 (d := d_law) rfl
  exact ⟨fd, fn_core F s_law (Γ := G_law) rfl rfl k_law rfl rfl rfl (TabOk.cons (f_pieces Z) (TabOk.cons (f_border Z) (TabOk.cons (f_cone Z) (TabOk.cons (f__law_space Z) (TabOk.cons (f_joined Z) (TabOk.cons (f_space_of Z) (TabOk.cons (f__law_right Z) (TabOk.cons (f__law_hat Z) TabOk.nil)))))))) CstOk.nil (FreeOk.cons (He.free_ok Z.X Z.N (Z.d.fact 62 rfl)) (FreeOk.cons (He.free_ok Z.X Z.N (Z.d.fact 64 rfl)) (FreeOk.cons (He.free_ok Z.X Z.N (Z.d.fact 67 rfl)) (FreeOk.cons (He.free_ok Z.X Z.N (Z.d.fact 72 rfl)) (FreeOk.cons (He.free_ok Z.X Z.N (Z.d.fact 63 rfl)) FreeOk.nil))))) (fun _ _ e => by cases e; exact ⟨fun _ _ => by kernel_rfl, lam_of_ (p := ("law", none)) F (Z.tb _ (by unfold tfL; simp)) rfl⟩) (MetsOk.cons (f__law_met Z) MetsOk.nil) ExcsOk.nil, He.glo_ok Z.X Z.N (Z.d.fact 56 rfl), F.kp, FunD.bindsN F fun _ _ _ _ _ _ us hl => match us, hl with | [_], _ => rfl⟩
theorem f_law (Z : Wd w K mg base h) : FnFact PP w K mg base (GG w K mg) "law" i_law := by
  obtain ⟨fd, F, a, b, c⟩ := g_law Z
  exact ⟨_, fd, _, a, b, c, trim_fn F, fun _ _ _ _ h => trim_len h⟩
end
end K16

set_option Elab.async false
set_option linter.all false
set_option maxRecDepth 100000
set_option maxHeartbeats 4000000
/-! K16b (printed by tell2.py). -/
namespace K16
open PySem L2 Gw
theorem eOut : m__law_out_of = mOut := rfl
abbrev K_law_right__law_line0 : D := (.tup [(.tup [(.int 0)]), (.tup [(.int 1)]), (.tup [(.int 0), (.int 1)])])
theorem eK_law_right__law_line0 (e : Ev) : ev (.tup (.cons (.tup (.cons (.c (.int 0)) .nil)) (.cons (.tup (.cons (.c (.int 1)) .nil)) (.cons (.tup (.cons (.c (.int 0)) (.cons (.c (.int 1)) .nil))) .nil)))) e = ret K_law_right__law_line0 := by kernel_rfl
abbrev K_law_right__law_bad1 : D := (.lst [.non, (.int 5), (.str (PySem.Str.ofString "space")), .emp, (.lst []), (.lst [(.tup [(.int 0)])]), (.tup [(.tup [(.int 0), (.int 1)])]), (.tup [(.tup [(.int 0), (.int 1)]), (.tup [(.int 0)]), (.tup [(.int 1)])]), (.tup [(.tup [(.int 1)]), (.tup [(.int 0)])]), (.tup [(.tup [(.int 0)]), (.tup [(.int 0)])]), (.tup [(.tup [(.int 100)])]), (.tup [(.tup [(.bl true)])]), (.tup [(.int 0), (.int 1)])])
theorem eK_law_right__law_bad1 (e : Ev) : ev (.lst (.cons (.c .non) (.cons (.c (.int 5)) (.cons (.c (.str (PySem.Str.ofString "space"))) (.cons .dnew (.cons (.lst .nil) (.cons (.lst (.cons (.tup (.cons (.c (.int 0)) .nil)) .nil)) (.cons (.tup (.cons (.tup (.cons (.c (.int 0)) (.cons (.c (.int 1)) .nil))) .nil)) (.cons (.tup (.cons (.tup (.cons (.c (.int 0)) (.cons (.c (.int 1)) .nil))) (.cons (.tup (.cons (.c (.int 0)) .nil)) (.cons (.tup (.cons (.c (.int 1)) .nil)) .nil)))) (.cons (.tup (.cons (.tup (.cons (.c (.int 1)) .nil)) (.cons (.tup (.cons (.c (.int 0)) .nil)) .nil))) (.cons (.tup (.cons (.tup (.cons (.c (.int 0)) .nil)) (.cons (.tup (.cons (.c (.int 0)) .nil)) .nil))) (.cons (.tup (.cons (.tup (.cons (.c (.int 100)) .nil)) .nil)) (.cons (.tup (.cons (.tup (.cons (.c (.bl true)) .nil)) .nil)) (.cons (.tup (.cons (.c (.int 0)) (.cons (.c (.int 1)) .nil))) .nil)))))))))))))) e = ret K_law_right__law_bad1 := by kernel_rfl
abbrev K_law_right__law_odd2 : D := (.lst [.non, (.int 0), (.tup []), (.tup [(.int 1), (.int 0)]), (.tup [(.int 0), (.int 0)]), (.tup [(.int 0), (.int 100)]), (.tup [(.int (-1))]), (.tup [(.bl true)]), (.lst [(.int 0)]), (.str (PySem.Str.ofString "0")), (.tup [(.int 0), (.int 1), (.int 2), (.int 3), (.int 4)]), (.tup [(.int 1000000000000000000000000000000000000000000000000000000000000)]), .emp])
theorem eK_law_right__law_odd2 (e : Ev) : ev (.lst (.cons (.c .non) (.cons (.c (.int 0)) (.cons (.tup .nil) (.cons (.tup (.cons (.c (.int 1)) (.cons (.c (.int 0)) .nil))) (.cons (.tup (.cons (.c (.int 0)) (.cons (.c (.int 0)) .nil))) (.cons (.tup (.cons (.c (.int 0)) (.cons (.c (.int 100)) .nil))) (.cons (.tup (.cons (.neg (.c (.int 1))) .nil)) (.cons (.tup (.cons (.c (.bl true)) .nil)) (.cons (.lst (.cons (.c (.int 0)) .nil)) (.cons (.c (.str (PySem.Str.ofString "0"))) (.cons (.tup (.cons (.c (.int 0)) (.cons (.c (.int 1)) (.cons (.c (.int 2)) (.cons (.c (.int 3)) (.cons (.c (.int 4)) .nil)))))) (.cons (.tup (.cons (.bin .Pow (.c (.int 10)) (.c (.int 60))) .nil)) (.cons .dnew .nil)))))))))))))) e = ret K_law_right__law_odd2 := by kernel_rfl
abbrev KA_law_right_0 : D := (.tup [(.int 0), (.int 7)])
theorem eKA_law_right_0 (e : Ev) : ev (.tup (.cons (.c (.int 0)) (.cons (.c (.int 7)) .nil))) e = ret KA_law_right_0 := by kernel_rfl
def L_law_right__law_bad : List D := [.non, (.int 5), (.str (PySem.Str.ofString "space")), .emp, (.lst []), (.lst [(.tup [(.int 0)])]), (.tup [(.tup [(.int 0), (.int 1)])]), (.tup [(.tup [(.int 0), (.int 1)]), (.tup [(.int 0)]), (.tup [(.int 1)])]), (.tup [(.tup [(.int 1)]), (.tup [(.int 0)])]), (.tup [(.tup [(.int 0)]), (.tup [(.int 0)])]), (.tup [(.tup [(.int 100)])]), (.tup [(.tup [(.bl true)])]), (.tup [(.int 0), (.int 1)]), (.tup [(.tup [(.int 0)]), (.tup [(.int 1)]), (.tup [(.int 0), (.int 1)]), .non]), (.tup ((List.range 81).map fun (i : Nat) => D.tup [D.int i])), (.tup [(.tup [(.str (PySem.Str.ofString "0"))])]), (.tup [(.tup [(.int 100000000000000000000000000000000000000000000000000)])])]
theorem eL_law_right__law_bad (x0 x3 : Option D) (r : Ev) : ev (.bin .Add (.var 2) (.lst (.cons (.bin .Add (.var 1) (.tup (.cons (.c .non) .nil))) (.cons (.call (bi tupleD) (.cons (.lc [3] (.nm 3) (.rng1 (.c (.int 81))) (.c (.bl true)) (.tup (.cons (.var 3) .nil))) .nil)) (.cons (.tup (.cons (.tup (.cons (.c (.str (PySem.Str.ofString "0"))) .nil)) .nil)) (.cons (.tup (.cons (.tup (.cons (.bin .Pow (.c (.int 10)) (.c (.int 50))) .nil)) .nil)) .nil)))))) (x0 :: some K_law_right__law_line0 :: some K_law_right__law_bad1 :: x3 :: r) = ret (.lst (L_law_right__law_bad)) := by kernel_rfl
theorem rfL_law_right__law_bad : ((L_law_right__law_bad).all D.rf) = true := by kernel_rfl
def L_law_right__law_cell : List D := [.non, (.int 0), (.tup []), (.tup [(.int 1), (.int 0)]), (.tup [(.int 0), (.int 0)]), (.tup [(.int 0), (.int 100)]), (.tup [(.int (-1))]), (.tup [(.bl true)]), (.lst [(.int 0)]), (.str (PySem.Str.ofString "0")), (.tup [(.int 0), (.int 1), (.int 2), (.int 3), (.int 4)]), (.tup [(.int 1000000000000000000000000000000000000000000000000000000000000)]), .emp]
theorem rfL_law_right__law_cell : ((L_law_right__law_cell).all D.rf) = true := by kernel_rfl
def L_law_right__law_degree : List D := [.non, (.int (-1)), (.int 4), (.bl true), (.str (PySem.Str.ofString "1")), (.tup [(.int 1)]), (.int 1000000000000000000000000000000000000000000000000000000000000), (.lst [])]
theorem eL_law_right__law_degree (e : Ev) : ev (.lst (.cons (.c .non) (.cons (.neg (.c (.int 1))) (.cons (.c (.int 4)) (.cons (.c (.bl true)) (.cons (.c (.str (PySem.Str.ofString "1"))) (.cons (.tup (.cons (.c (.int 1)) .nil)) (.cons (.bin .Pow (.c (.int 10)) (.c (.int 60))) (.cons (.lst .nil) .nil))))))))) e = ret (.lst (L_law_right__law_degree)) := by kernel_rfl
theorem rfL_law_right__law_degree : ((L_law_right__law_degree).all D.rf) = true := by kernel_rfl
def L_law_right__law_point : List D := [.non, (.int (-1)), (.int 100), (.int 2), (.bl true), (.str (PySem.Str.ofString "0")), (.tup [(.int 0)]), (.int 1000000000000000000000000000000000000000000000000000000000000)]
theorem eL_law_right__law_point (e : Ev) : ev (.lst (.cons (.c .non) (.cons (.neg (.c (.int 1))) (.cons (.c (.int 100)) (.cons (.c (.int 2)) (.cons (.c (.bl true)) (.cons (.c (.str (PySem.Str.ofString "0"))) (.cons (.tup (.cons (.c (.int 0)) .nil)) (.cons (.bin .Pow (.c (.int 10)) (.c (.int 60))) .nil))))))))) e = ret (.lst (L_law_right__law_point)) := by kernel_rfl
theorem rfL_law_right__law_point : ((L_law_right__law_point).all D.rf) = true := by kernel_rfl
def L_law_right__law_lots (v_law_cell : D) : List D := [.non, (.int 5), (.lst [(.tup [(.int 0)])]), (.tup [(.int 0), (.int 1)]), (.tup [(.tup [(.int 0)]), .non]), (.tup [(.tup [(.int 1), (.int 0)])]), (.tup (List.replicate 81 (.tup [(.int 0)]))), .emp, (.str (PySem.Str.ofString "lots")), (.tup [v_law_cell])]
theorem eL_law_right__law_lots (v_law_cell : D) (x0 x1 x2 x3 x4 : Option D) (r : Ev) : ev (.lst (.cons (.c .non) (.cons (.c (.int 5)) (.cons (.lst (.cons (.tup (.cons (.c (.int 0)) .nil)) .nil)) (.cons (.tup (.cons (.c (.int 0)) (.cons (.c (.int 1)) .nil))) (.cons (.tup (.cons (.tup (.cons (.c (.int 0)) .nil)) (.cons (.c .non) .nil))) (.cons (.tup (.cons (.tup (.cons (.c (.int 1)) (.cons (.c (.int 0)) .nil))) .nil)) (.cons (.bin .Mult (.tup (.cons (.tup (.cons (.c (.int 0)) .nil)) .nil)) (.c (.int 81))) (.cons .dnew (.cons (.c (.str (PySem.Str.ofString "lots"))) (.cons (.tup (.cons (.var 5) .nil)) .nil))))))))))) (x0 :: x1 :: x2 :: x3 :: x4 :: some v_law_cell :: r) = ret (.lst (L_law_right__law_lots v_law_cell)) := by kernel_rfl
theorem rfL_law_right__law_lots : (L_law_right__law_cell.all fun v_law_cell => (L_law_right__law_lots v_law_cell).all D.rf) = true := by kernel_rfl
def L_law_right__law_far : List D := [.non, (.int (-1)), (.int 100), (.bl true), (.str (PySem.Str.ofString "0")), (.tup [(.int 0)]), (.int 1000000000000000000000000000000000000000000000000000000000000)]
theorem eL_law_right__law_far (e : Ev) : ev (.lst (.cons (.c .non) (.cons (.neg (.c (.int 1))) (.cons (.c (.int 100)) (.cons (.c (.bl true)) (.cons (.c (.str (PySem.Str.ofString "0"))) (.cons (.tup (.cons (.c (.int 0)) .nil)) (.cons (.bin .Pow (.c (.int 10)) (.c (.int 60))) .nil)))))))) e = ret (.lst (L_law_right__law_far)) := by kernel_rfl
theorem rfL_law_right__law_far : ((L_law_right__law_far).all D.rf) = true := by kernel_rfl
theorem r_law_right_v_law_degree : ∀ v_law_degree ∈ L_law_right__law_degree, bi reprD [v_law_degree] = (ret (rpD v_law_degree) : M D) := all1 (by kernel_rfl)
theorem r_law_right_v_law_point : ∀ v_law_point ∈ L_law_right__law_point, bi reprD [v_law_point] = (ret (rpD v_law_point) : M D) := all1 (by kernel_rfl)
theorem r_law_right_v_law_far : ∀ v_law_far ∈ L_law_right__law_far, bi reprD [v_law_far] = (ret (rpD v_law_far) : M D) := all1 (by kernel_rfl)
theorem s_law_right_0 : ∀ v_law_degree ∈ L_law_right__law_degree, binM .Add (.str (PySem.Str.ofString "number ")) (rpD v_law_degree) = (ret (cat2 (.str (PySem.Str.ofString "number ")) (rpD v_law_degree)) : M D) := all1 (by kernel_rfl)
theorem s_law_right_1 : ∀ v_law_point ∈ L_law_right__law_point, binM .Add (.str (PySem.Str.ofString "number ")) (rpD v_law_point) = (ret (cat2 (.str (PySem.Str.ofString "number ")) (rpD v_law_point)) : M D) := all1 (by kernel_rfl)
theorem s_law_right_2 : ∀ v_law_far ∈ L_law_right__law_far, binM .Add (.str (PySem.Str.ofString "number ")) (rpD v_law_far) = (ret (cat2 (.str (PySem.Str.ofString "number ")) (rpD v_law_far)) : M D) := all1 (by kernel_rfl)
theorem tv_law_right_is_side (xs : List D) : tabM v__law_right (.fn (PySem.Str.ofString "is_side")) (ret xs) = m_is_side xs := by kernel_rfl
theorem tv_law_right_is_path (xs : List D) : tabM v__law_right (.fn (PySem.Str.ofString "is_path")) (ret xs) = m_is_path xs := by kernel_rfl
theorem tv_law_right_common (xs : List D) : tabM v__law_right (.fn (PySem.Str.ofString "common")) (ret xs) = m_common xs := by kernel_rfl
theorem tv_law_right_joined (xs : List D) : tabM v__law_right (.fn (PySem.Str.ofString "joined")) (ret xs) = m_joined xs := by kernel_rfl
theorem tv_law_right_is_open (xs : List D) : tabM v__law_right (.fn (PySem.Str.ofString "is_open")) (ret xs) = m_is_open xs := by kernel_rfl
theorem tv_law_right_is_sub (xs : List D) : tabM v__law_right (.fn (PySem.Str.ofString "is_sub")) (ret xs) = m_is_sub xs := by kernel_rfl
theorem tv_law_right_link (xs : List D) : tabM v__law_right (.fn (PySem.Str.ofString "link")) (ret xs) = m_link xs := by kernel_rfl
theorem tv_law_right_closed_star (xs : List D) : tabM v__law_right (.fn (PySem.Str.ofString "closed_star")) (ret xs) = m_closed_star xs := by kernel_rfl
theorem tv_law_right_star (xs : List D) : tabM v__law_right (.fn (PySem.Str.ofString "star")) (ret xs) = m_star xs := by kernel_rfl
theorem tv_law_right_border (xs : List D) : tabM v__law_right (.fn (PySem.Str.ofString "border")) (ret xs) = m_border xs := by kernel_rfl
theorem tv_law_right_skeleton (xs : List D) : tabM v__law_right (.fn (PySem.Str.ofString "skeleton")) (ret xs) = m_skeleton xs := by kernel_rfl
theorem tv_law_right_cells_of (xs : List D) : tabM v__law_right (.fn (PySem.Str.ofString "cells_of")) (ret xs) = m_cells_of xs := by kernel_rfl
theorem tv_law_right_parts (xs : List D) : tabM v__law_right (.fn (PySem.Str.ofString "parts")) (ret xs) = m_parts xs := by kernel_rfl
theorem tv_law_right_faces (xs : List D) : tabM v__law_right (.fn (PySem.Str.ofString "faces")) (ret xs) = m_faces xs := by kernel_rfl
theorem tv_law_right_pieces (xs : List D) : tabM v__law_right (.fn (PySem.Str.ofString "pieces")) (ret xs) = m_pieces xs := by kernel_rfl
theorem tv_law_right_count (xs : List D) : tabM v__law_right (.fn (PySem.Str.ofString "count")) (ret xs) = m_count xs := by kernel_rfl
theorem tv_law_right_tops (xs : List D) : tabM v__law_right (.fn (PySem.Str.ofString "tops")) (ret xs) = m_tops xs := by kernel_rfl
theorem tv_law_right_points (xs : List D) : tabM v__law_right (.fn (PySem.Str.ofString "points")) (ret xs) = m_points xs := by kernel_rfl
theorem tv_law_right_degree_of (xs : List D) : tabM v__law_right (.fn (PySem.Str.ofString "degree_of")) (ret xs) = m_degree_of xs := by kernel_rfl
theorem t_law_right_0 : ∀ v_law_bad ∈ L_law_right__law_bad, tryM h__law_met z__law_met (u_degree_of [v_law_bad]) = (ret (.tup [(.str (PySem.Str.ofString "met")), (.str (PySem.Str.ofString "space"))]) : M D) := all1 (by kernel_rfl)
theorem t_law_right_1 : ∀ v_law_bad ∈ L_law_right__law_bad, tryM h__law_met z__law_met (u_points [v_law_bad]) = (ret (.tup [(.str (PySem.Str.ofString "met")), (.str (PySem.Str.ofString "space"))]) : M D) := all1 (by kernel_rfl)
theorem t_law_right_2 : ∀ v_law_bad ∈ L_law_right__law_bad, tryM h__law_met z__law_met (u_tops [v_law_bad]) = (ret (.tup [(.str (PySem.Str.ofString "met")), (.str (PySem.Str.ofString "space"))]) : M D) := all1 (by kernel_rfl)
theorem t_law_right_3 : ∀ v_law_bad ∈ L_law_right__law_bad, tryM h__law_met z__law_met (u_count [v_law_bad]) = (ret (.tup [(.str (PySem.Str.ofString "met")), (.str (PySem.Str.ofString "space"))]) : M D) := all1 (by kernel_rfl)
theorem t_law_right_4 : ∀ v_law_bad ∈ L_law_right__law_bad, tryM h__law_met z__law_met (u_pieces [v_law_bad]) = (ret (.tup [(.str (PySem.Str.ofString "met")), (.str (PySem.Str.ofString "space"))]) : M D) := all1 (by kernel_rfl)
theorem t_law_right_5 : ∀ v_law_cell ∈ L_law_right__law_cell, tryM h__law_met z__law_met (u_faces [v_law_cell]) = (ret (.tup [(.str (PySem.Str.ofString "met")), (.str (PySem.Str.ofString "cell"))]) : M D) := all1 (by kernel_rfl)
theorem t_law_right_6 : ∀ v_law_cell ∈ L_law_right__law_cell, tryM h__law_met z__law_met (u_parts [v_law_cell]) = (ret (.tup [(.str (PySem.Str.ofString "met")), (.str (PySem.Str.ofString "cell"))]) : M D) := all1 (by kernel_rfl)
theorem t_law_right_7 : ∀ (v_law_degree : D), ∀ v_law_bad ∈ L_law_right__law_bad, tryM h__law_met z__law_met (u_cells_of [v_law_bad, v_law_degree]) = (ret (.tup [(.str (PySem.Str.ofString "met")), (.str (PySem.Str.ofString "space"))]) : M D) := fun _ => all1 (by kernel_rfl)
theorem t_law_right_8 : ∀ v_law_degree ∈ L_law_right__law_degree, tryM h__law_met z__law_met (u_cells_of [(.tup [(.tup [(.int 0)]), (.tup [(.int 1)]), (.tup [(.int 0), (.int 1)])]), v_law_degree]) = (ret (.tup [(.str (PySem.Str.ofString "met")), (cat2 (.str (PySem.Str.ofString "number ")) (rpD v_law_degree))]) : M D) := all1 (by kernel_rfl)
theorem t_law_right_9 : ∀ (v_law_degree : D), ∀ v_law_bad ∈ L_law_right__law_bad, tryM h__law_met z__law_met (u_skeleton [v_law_bad, v_law_degree]) = (ret (.tup [(.str (PySem.Str.ofString "met")), (.str (PySem.Str.ofString "space"))]) : M D) := fun _ => all1 (by kernel_rfl)
theorem t_law_right_10 : ∀ v_law_degree ∈ L_law_right__law_degree, tryM h__law_met z__law_met (u_skeleton [(.tup [(.tup [(.int 0)]), (.tup [(.int 1)]), (.tup [(.int 0), (.int 1)])]), v_law_degree]) = (ret (.tup [(.str (PySem.Str.ofString "met")), (cat2 (.str (PySem.Str.ofString "number ")) (rpD v_law_degree))]) : M D) := all1 (by kernel_rfl)
theorem t_law_right_11 : ∀ (v_law_degree : D), ∀ v_law_bad ∈ L_law_right__law_bad, tryM h__law_met z__law_met (u_border [v_law_bad, v_law_degree]) = (ret (.tup [(.str (PySem.Str.ofString "met")), (.str (PySem.Str.ofString "space"))]) : M D) := fun _ => all1 (by kernel_rfl)
theorem t_law_right_12 : ∀ v_law_degree ∈ L_law_right__law_degree, tryM h__law_met z__law_met (u_border [(.tup [(.tup [(.int 0)]), (.tup [(.int 1)]), (.tup [(.int 0), (.int 1)])]), v_law_degree]) = (ret (.tup [(.str (PySem.Str.ofString "met")), (cat2 (.str (PySem.Str.ofString "number ")) (rpD v_law_degree))]) : M D) := all1 (by kernel_rfl)
theorem t_law_right_13 : ∀ (v_law_cell : D), ∀ v_law_bad ∈ L_law_right__law_bad, tryM h__law_met z__law_met (u_star [v_law_bad, v_law_cell]) = (ret (.tup [(.str (PySem.Str.ofString "met")), (.str (PySem.Str.ofString "space"))]) : M D) := fun _ => all1 (by kernel_rfl)
theorem t_law_right_14 : ∀ v_law_cell ∈ L_law_right__law_cell, tryM h__law_met z__law_met (u_star [(.tup [(.tup [(.int 0)]), (.tup [(.int 1)]), (.tup [(.int 0), (.int 1)])]), v_law_cell]) = (ret (.tup [(.str (PySem.Str.ofString "met")), (.str (PySem.Str.ofString "cell"))]) : M D) := all1 (by kernel_rfl)
theorem t_law_right_15 : tryM h__law_met z__law_met (u_star [(.tup [(.tup [(.int 0)]), (.tup [(.int 1)]), (.tup [(.int 0), (.int 1)])]), (.tup [(.int 0), (.int 7)])]) = (ret (.tup [(.str (PySem.Str.ofString "met")), (.str (PySem.Str.ofString "cell"))]) : M D) := (by kernel_rfl)
theorem t_law_right_16 : ∀ (v_law_cell : D), ∀ v_law_bad ∈ L_law_right__law_bad, tryM h__law_met z__law_met (u_closed_star [v_law_bad, v_law_cell]) = (ret (.tup [(.str (PySem.Str.ofString "met")), (.str (PySem.Str.ofString "space"))]) : M D) := fun _ => all1 (by kernel_rfl)
theorem t_law_right_17 : ∀ v_law_cell ∈ L_law_right__law_cell, tryM h__law_met z__law_met (u_closed_star [(.tup [(.tup [(.int 0)]), (.tup [(.int 1)]), (.tup [(.int 0), (.int 1)])]), v_law_cell]) = (ret (.tup [(.str (PySem.Str.ofString "met")), (.str (PySem.Str.ofString "cell"))]) : M D) := all1 (by kernel_rfl)
theorem t_law_right_18 : tryM h__law_met z__law_met (u_closed_star [(.tup [(.tup [(.int 0)]), (.tup [(.int 1)]), (.tup [(.int 0), (.int 1)])]), (.tup [(.int 0), (.int 7)])]) = (ret (.tup [(.str (PySem.Str.ofString "met")), (.str (PySem.Str.ofString "cell"))]) : M D) := (by kernel_rfl)
theorem t_law_right_19 : ∀ (v_law_cell : D), ∀ v_law_bad ∈ L_law_right__law_bad, tryM h__law_met z__law_met (u_link [v_law_bad, v_law_cell]) = (ret (.tup [(.str (PySem.Str.ofString "met")), (.str (PySem.Str.ofString "space"))]) : M D) := fun _ => all1 (by kernel_rfl)
theorem t_law_right_20 : ∀ v_law_cell ∈ L_law_right__law_cell, tryM h__law_met z__law_met (u_link [(.tup [(.tup [(.int 0)]), (.tup [(.int 1)]), (.tup [(.int 0), (.int 1)])]), v_law_cell]) = (ret (.tup [(.str (PySem.Str.ofString "met")), (.str (PySem.Str.ofString "cell"))]) : M D) := all1 (by kernel_rfl)
theorem t_law_right_21 : tryM h__law_met z__law_met (u_link [(.tup [(.tup [(.int 0)]), (.tup [(.int 1)]), (.tup [(.int 0), (.int 1)])]), (.tup [(.int 0), (.int 7)])]) = (ret (.tup [(.str (PySem.Str.ofString "met")), (.str (PySem.Str.ofString "cell"))]) : M D) := (by kernel_rfl)
theorem t_law_right_22 : ∀ v_law_bad ∈ L_law_right__law_bad, tryM h__law_met z__law_met (u_is_sub [v_law_bad, v_law_bad]) = (ret (.tup [(.str (PySem.Str.ofString "met")), (.str (PySem.Str.ofString "space"))]) : M D) := all1 (by kernel_rfl)
theorem t_law_right_23 : ∀ v_law_bad ∈ L_law_right__law_bad, tryM h__law_met z__law_met (u_is_open [v_law_bad, v_law_bad]) = (ret (.tup [(.str (PySem.Str.ofString "met")), (.str (PySem.Str.ofString "space"))]) : M D) := all1 (by kernel_rfl)
theorem t_law_right_24 : ∀ v_law_bad ∈ L_law_right__law_bad, tryM h__law_met z__law_met (u_joined [v_law_bad, v_law_bad]) = (ret (.tup [(.str (PySem.Str.ofString "met")), (.str (PySem.Str.ofString "space"))]) : M D) := all1 (by kernel_rfl)
theorem t_law_right_25 : ∀ v_law_bad ∈ L_law_right__law_bad, tryM h__law_met z__law_met (u_common [v_law_bad, v_law_bad]) = (ret (.tup [(.str (PySem.Str.ofString "met")), (.str (PySem.Str.ofString "space"))]) : M D) := all1 (by kernel_rfl)
theorem t_law_right_26 : ∀ v_law_bad ∈ L_law_right__law_bad, tryM h__law_met z__law_met (u_joined [(.tup [(.tup [(.int 0)]), (.tup [(.int 1)]), (.tup [(.int 0), (.int 1)])]), v_law_bad]) = (ret (.tup [(.str (PySem.Str.ofString "met")), (.str (PySem.Str.ofString "space"))]) : M D) := all1 (by kernel_rfl)
theorem t_law_right_27 : ∀ v_law_bad ∈ L_law_right__law_bad, tryM h__law_met z__law_met (u_common [(.tup [(.tup [(.int 0)]), (.tup [(.int 1)]), (.tup [(.int 0), (.int 1)])]), v_law_bad]) = (ret (.tup [(.str (PySem.Str.ofString "met")), (.str (PySem.Str.ofString "space"))]) : M D) := all1 (by kernel_rfl)
theorem t_law_right_28 : ∀ (v_law_point : D), ∀ v_law_bad ∈ L_law_right__law_bad, tryM h__law_met z__law_met (u_hang_answer [v_law_bad, v_law_point, v_law_point]) = (ret (.tup [(.str (PySem.Str.ofString "met")), (.str (PySem.Str.ofString "space"))]) : M D) := fun _ => all1 (by kernel_rfl)
theorem t_law_right_29 : ∀ v_law_point ∈ L_law_right__law_point, tryM h__law_met z__law_met (u_hang_answer [(.tup [(.tup [(.int 0)]), (.tup [(.int 1)]), (.tup [(.int 0), (.int 1)])]), v_law_point, (.int 0)]) = (ret (.tup [(.str (PySem.Str.ofString "met")), (cat2 (.str (PySem.Str.ofString "number ")) (rpD v_law_point))]) : M D) := all1 (by kernel_rfl)
theorem t_law_right_30 : ∀ v_law_point ∈ L_law_right__law_point, tryM h__law_met z__law_met (u_hang_answer [(.tup [(.tup [(.int 0)]), (.tup [(.int 1)]), (.tup [(.int 0), (.int 1)])]), (.int 1), v_law_point]) = (ret (.tup [(.str (PySem.Str.ofString "met")), (cat2 (.str (PySem.Str.ofString "number ")) (rpD v_law_point))]) : M D) := all1 (by kernel_rfl)
theorem t_law_right_31 : ∀ (v_law_point : D), ∀ v_law_bad ∈ L_law_right__law_bad, tryM h__law_met z__law_met (u_is_path [v_law_bad, v_law_point, v_law_point, .non]) = (ret (.tup [(.str (PySem.Str.ofString "met")), (.str (PySem.Str.ofString "space"))]) : M D) := fun _ => all1 (by kernel_rfl)
theorem t_law_right_32 : ∀ v_law_point ∈ L_law_right__law_point, tryM h__law_met z__law_met (u_is_path [(.tup [(.tup [(.int 0)]), (.tup [(.int 1)]), (.tup [(.int 0), (.int 1)])]), v_law_point, (.int 0), .non]) = (ret (.tup [(.str (PySem.Str.ofString "met")), (cat2 (.str (PySem.Str.ofString "number ")) (rpD v_law_point))]) : M D) := all1 (by kernel_rfl)
theorem t_law_right_33 : ∀ v_law_point ∈ L_law_right__law_point, tryM h__law_met z__law_met (u_is_path [(.tup [(.tup [(.int 0)]), (.tup [(.int 1)]), (.tup [(.int 0), (.int 1)])]), (.int 1), v_law_point, .non]) = (ret (.tup [(.str (PySem.Str.ofString "met")), (cat2 (.str (PySem.Str.ofString "number ")) (rpD v_law_point))]) : M D) := all1 (by kernel_rfl)
theorem t_law_right_34 : ∀ (v_law_point : D), ∀ v_law_bad ∈ L_law_right__law_bad, tryM h__law_met z__law_met (u_is_side [v_law_bad, v_law_point, v_law_point, .non]) = (ret (.tup [(.str (PySem.Str.ofString "met")), (.str (PySem.Str.ofString "space"))]) : M D) := fun _ => all1 (by kernel_rfl)
theorem t_law_right_35 : ∀ v_law_point ∈ L_law_right__law_point, tryM h__law_met z__law_met (u_is_side [(.tup [(.tup [(.int 0)]), (.tup [(.int 1)]), (.tup [(.int 0), (.int 1)])]), v_law_point, (.int 0), .non]) = (ret (.tup [(.str (PySem.Str.ofString "met")), (cat2 (.str (PySem.Str.ofString "number ")) (rpD v_law_point))]) : M D) := all1 (by kernel_rfl)
theorem t_law_right_36 : ∀ v_law_point ∈ L_law_right__law_point, tryM h__law_met z__law_met (u_is_side [(.tup [(.tup [(.int 0)]), (.tup [(.int 1)]), (.tup [(.int 0), (.int 1)])]), (.int 1), v_law_point, .non]) = (ret (.tup [(.str (PySem.Str.ofString "met")), (cat2 (.str (PySem.Str.ofString "number ")) (rpD v_law_point))]) : M D) := all1 (by kernel_rfl)
theorem t_law_right_37 : ∀ v_law_cell ∈ L_law_right__law_cell, ∀ v_law_lots ∈ (L_law_right__law_lots v_law_cell), tryM h__law_met z__law_met (u_space_of [v_law_lots]) = (ret (.tup [(.str (PySem.Str.ofString "met")), (.str (PySem.Str.ofString "cell"))]) : M D) := all2d (by kernel_rfl)
theorem t_law_right_38 : ∀ (v_law_far : D), ∀ v_law_bad ∈ L_law_right__law_bad, tryM h__law_met z__law_met (u_cone [v_law_bad, v_law_far]) = (ret (.tup [(.str (PySem.Str.ofString "met")), (.str (PySem.Str.ofString "space"))]) : M D) := fun _ => all1 (by kernel_rfl)
theorem t_law_right_39 : ∀ v_law_far ∈ L_law_right__law_far, tryM h__law_met z__law_met (u_cone [(.tup [(.tup [(.int 0)]), (.tup [(.int 1)]), (.tup [(.int 0), (.int 1)])]), v_law_far]) = (ret (.tup [(.str (PySem.Str.ofString "met")), (cat2 (.str (PySem.Str.ofString "number ")) (rpD v_law_far))]) : M D) := all1 (by kernel_rfl)
theorem t_law_right_40 : tryM h__law_met z__law_met (u_cone [(.tup [(.tup [(.int 0)]), (.tup [(.int 1)]), (.tup [(.int 0), (.int 1)])]), (.int 1)]) = (ret (.tup [(.str (PySem.Str.ofString "met")), (.str (PySem.Str.ofString "operation"))]) : M D) := (by kernel_rfl)
def due_law_right (v_law_degree : D) (v_law_point : D) (v_law_far : D) : List D := [(.tup [(.str (PySem.Str.ofString "met")), (.str (PySem.Str.ofString "space"))]), (.tup [(.str (PySem.Str.ofString "met")), (.str (PySem.Str.ofString "space"))]), (.tup [(.str (PySem.Str.ofString "met")), (.str (PySem.Str.ofString "space"))]), (.tup [(.str (PySem.Str.ofString "met")), (.str (PySem.Str.ofString "space"))]), (.tup [(.str (PySem.Str.ofString "met")), (.str (PySem.Str.ofString "space"))]), (.tup [(.str (PySem.Str.ofString "met")), (.str (PySem.Str.ofString "cell"))]), (.tup [(.str (PySem.Str.ofString "met")), (.str (PySem.Str.ofString "cell"))]), (.tup [(.str (PySem.Str.ofString "met")), (.str (PySem.Str.ofString "space"))]), (.tup [(.str (PySem.Str.ofString "met")), (cat2 (.str (PySem.Str.ofString "number ")) (rpD v_law_degree))]), (.tup [(.str (PySem.Str.ofString "met")), (.str (PySem.Str.ofString "space"))]), (.tup [(.str (PySem.Str.ofString "met")), (cat2 (.str (PySem.Str.ofString "number ")) (rpD v_law_degree))]), (.tup [(.str (PySem.Str.ofString "met")), (.str (PySem.Str.ofString "space"))]), (.tup [(.str (PySem.Str.ofString "met")), (cat2 (.str (PySem.Str.ofString "number ")) (rpD v_law_degree))]), (.tup [(.str (PySem.Str.ofString "met")), (.str (PySem.Str.ofString "space"))]), (.tup [(.str (PySem.Str.ofString "met")), (.str (PySem.Str.ofString "cell"))]), (.tup [(.str (PySem.Str.ofString "met")), (.str (PySem.Str.ofString "cell"))]), (.tup [(.str (PySem.Str.ofString "met")), (.str (PySem.Str.ofString "space"))]), (.tup [(.str (PySem.Str.ofString "met")), (.str (PySem.Str.ofString "cell"))]), (.tup [(.str (PySem.Str.ofString "met")), (.str (PySem.Str.ofString "cell"))]), (.tup [(.str (PySem.Str.ofString "met")), (.str (PySem.Str.ofString "space"))]), (.tup [(.str (PySem.Str.ofString "met")), (.str (PySem.Str.ofString "cell"))]), (.tup [(.str (PySem.Str.ofString "met")), (.str (PySem.Str.ofString "cell"))]), (.tup [(.str (PySem.Str.ofString "met")), (.str (PySem.Str.ofString "space"))]), (.tup [(.str (PySem.Str.ofString "met")), (.str (PySem.Str.ofString "space"))]), (.tup [(.str (PySem.Str.ofString "met")), (.str (PySem.Str.ofString "space"))]), (.tup [(.str (PySem.Str.ofString "met")), (.str (PySem.Str.ofString "space"))]), (.tup [(.str (PySem.Str.ofString "met")), (.str (PySem.Str.ofString "space"))]), (.tup [(.str (PySem.Str.ofString "met")), (.str (PySem.Str.ofString "space"))]), (.tup [(.str (PySem.Str.ofString "met")), (.str (PySem.Str.ofString "space"))]), (.tup [(.str (PySem.Str.ofString "met")), (cat2 (.str (PySem.Str.ofString "number ")) (rpD v_law_point))]), (.tup [(.str (PySem.Str.ofString "met")), (cat2 (.str (PySem.Str.ofString "number ")) (rpD v_law_point))]), (.tup [(.str (PySem.Str.ofString "met")), (.str (PySem.Str.ofString "space"))]), (.tup [(.str (PySem.Str.ofString "met")), (cat2 (.str (PySem.Str.ofString "number ")) (rpD v_law_point))]), (.tup [(.str (PySem.Str.ofString "met")), (cat2 (.str (PySem.Str.ofString "number ")) (rpD v_law_point))]), (.tup [(.str (PySem.Str.ofString "met")), (.str (PySem.Str.ofString "space"))]), (.tup [(.str (PySem.Str.ofString "met")), (cat2 (.str (PySem.Str.ofString "number ")) (rpD v_law_point))]), (.tup [(.str (PySem.Str.ofString "met")), (cat2 (.str (PySem.Str.ofString "number ")) (rpD v_law_point))]), (.tup [(.str (PySem.Str.ofString "met")), (.str (PySem.Str.ofString "cell"))]), (.tup [(.str (PySem.Str.ofString "met")), (.str (PySem.Str.ofString "space"))]), (.tup [(.str (PySem.Str.ofString "met")), (cat2 (.str (PySem.Str.ofString "number ")) (rpD v_law_far))]), (.tup [(.str (PySem.Str.ofString "met")), (.str (PySem.Str.ofString "operation"))])]
theorem sh_law_right : (L_law_right__law_degree.all fun v_law_degree => L_law_right__law_point.all fun v_law_point => L_law_right__law_far.all fun v_law_far => D.shp (.lst (due_law_right v_law_degree v_law_point v_law_far)) 64) = true := by kernel_rfl
end K16

set_option Elab.async false
set_option linter.all false
set_option maxRecDepth 100000
set_option maxHeartbeats 4000000
/-! K16c (printed by tell2.py). -/
namespace K16
open PySem L2 Gw
theorem ok_law_right {st : Sto} {i : Nat} (hs : st[i]? = some .hat) (ht : tabOk st 1 lq__law_right = true) (hT : Tb KT TT st) (hr : st.all MO.rf = true) : OkM (m__law_right [.ref i]) st (fun v s => s = st ∧ v = .bl true) NX := by
  unfold m__law_right
  refine trim_use ?_
  rw [fn1]
  unfold c__law_right
  simp only [↓eK_law_right__law_line0, ↓eK_law_right__law_bad1, ↓eK_law_right__law_odd2, ↓eKA_law_right_0, ↓eL_law_right__law_bad, ↓eL_law_right__law_degree, ↓eL_law_right__law_point, ↓eL_law_right__law_lots, ↓eL_law_right__law_far, ex_seq, nxt_nx, nxt_rt, nxt_ct, nxt_bk, ex_ifs, brn_t, brn_f, ex_pass, ex_ret, ex_expr, ex_asg, bndM_so, ex_par, ex_aug, ex_for, endD_nx, endD_rt, bind_nm, bind_nil, bind_cons, bind_consl, ev_var, ev_c, ev_bin, ev_neg, ev_cmp, chn_t, chn_f, ev_chain, ev_and, ev_or, ev_ite, and_t, and_f, or_t, or_f, ite_t, ite_f, ev_not, ev_tup, ev_lst, ev_ix, ev_sl, intM_int, ev_int, ev_lc, ev_call, evs_nil, evs_cons, evs_star, evi_it1, evi_rng1, evi_rng2, evi_zip, evi_enum, lsM_tup, lsM_lst, zipM_tup, zipM_lst, enuM_lst, forP_nil, lcP_nil, andThen_ret, andThen_assoc, optM_so, List.getElem?_cons_succ, List.getElem?_cons_zero, slotM_so, Option.bind_some, Option.map_some, bi_eq, binM_eq, cmpM_eq, slM_eq, nr_non, nr_bl, nr_int, nr_str, nr_tup, nr_lst, nr_ty, nr_scr, nr_emp, nrs_nil, nrs_cons, Bool.and_self, Bool.and_true, ev_dnew, List.set_cons_succ, List.set_cons_zero, ev_lstM, ev_app, ev_met, ev_callV, ex_raise, forC_so, forGo_c, forGo_nil, forK_nx, bin_add, bin_sub, neg_int, cmp_lt, cmp_le, cmp_gt, cmp_ge, cmp_isbl, cmp_notbl, cmp_eq_int, cmp_ne_int, cmp_eq_bl, cmp_ne_bl, truthM_bl, Bool.not_true, Bool.not_false, lenOk0, lenOk1, lenOk2, lenOk3, intD_int, absD_int, lenD_tup, lenD_lst, lenD_scr, tupD_lst, tupD_tup, startE, List.map_cons, List.map_nil, List.length_cons, List.length_nil, Nat.zero_add, Nat.reduceAdd, Nat.reduceSub, List.replicate_succ, List.replicate_zero, List.cons_append, List.nil_append, lenOk_small, Nat.reduceLeDiff, eq_self, items_tup, items_lst, ixM_tup, ixM_lst, decide_true, decide_false, wipeE, lcF_eq, lcB_so, lcC_t, lcC_f, noXM_ret, List.length_map, List.length_range, atI0, atI1, atI2, nc0, nc1, nc2, nc3, nc4, nc5, nc6, nc7, nc8, nc9, eOut, bin_lst1, bin_tup1, mul_l2, mul_l3, mul_l4, mul_l5, mul_i2, mul_i3, mul_i4, ev_catL, tv_law_right_is_side, tv_law_right_is_path, tv_law_right_common, tv_law_right_joined, tv_law_right_is_open, tv_law_right_is_sub, tv_law_right_link, tv_law_right_closed_star, tv_law_right_star, tv_law_right_border, tv_law_right_skeleton, tv_law_right_cells_of, tv_law_right_parts, tv_law_right_faces, tv_law_right_pieces, tv_law_right_count, tv_law_right_tops, tv_law_right_points, tv_law_right_degree_of]
  refine out_all hs (show 0 < 17 by decide) (show 17 < 2 ^ 64 by decide) fun v_law_bad hv_law_bad => ?_
  refine out_all hs (show 0 < 13 by decide) (show 13 < 2 ^ 64 by decide) fun v_law_cell hv_law_cell => ?_
  refine out_all hs (show 0 < 8 by decide) (show 8 < 2 ^ 64 by decide) fun v_law_degree hv_law_degree => ?_
  refine out_all hs (show 0 < 8 by decide) (show 8 < 2 ^ 64 by decide) fun v_law_point hv_law_point => ?_
  refine new0 ?_
  refine newN (l := [.lst []]) ?_
  show OkM _ (st ++ (.lst [] :: ([] ++ [.lst []]))) _ _
  refine tell2 ht hT (rfs_cons (allr rfL_law_right__law_bad v_law_bad hv_law_bad) rfs_nil) (t_law_right_0 v_law_bad hv_law_bad) (by kernel_rfl) rfl ?_
  refine due_app (j := 1) (by rfl) (by kernel_rfl) ?_
  refine tell2 ht hT (rfs_cons (allr rfL_law_right__law_bad v_law_bad hv_law_bad) rfs_nil) (t_law_right_1 v_law_bad hv_law_bad) (by kernel_rfl) rfl ?_
  refine due_app (j := 1) (by rfl) (by kernel_rfl) ?_
  refine tell2 ht hT (rfs_cons (allr rfL_law_right__law_bad v_law_bad hv_law_bad) rfs_nil) (t_law_right_2 v_law_bad hv_law_bad) (by kernel_rfl) rfl ?_
  refine due_app (j := 1) (by rfl) (by kernel_rfl) ?_
  refine tell2 ht hT (rfs_cons (allr rfL_law_right__law_bad v_law_bad hv_law_bad) rfs_nil) (t_law_right_3 v_law_bad hv_law_bad) (by kernel_rfl) rfl ?_
  refine due_app (j := 1) (by rfl) (by kernel_rfl) ?_
  refine tell2 ht hT (rfs_cons (allr rfL_law_right__law_bad v_law_bad hv_law_bad) rfs_nil) (t_law_right_4 v_law_bad hv_law_bad) (by kernel_rfl) rfl ?_
  refine due_app (j := 1) (by rfl) (by kernel_rfl) ?_
  refine tell2 ht hT (rfs_cons (allr rfL_law_right__law_cell v_law_cell hv_law_cell) rfs_nil) (t_law_right_5 v_law_cell hv_law_cell) (by kernel_rfl) rfl ?_
  refine due_app (j := 1) (by rfl) (by kernel_rfl) ?_
  refine tell2 ht hT (rfs_cons (allr rfL_law_right__law_cell v_law_cell hv_law_cell) rfs_nil) (t_law_right_6 v_law_cell hv_law_cell) (by kernel_rfl) rfl ?_
  refine due_app (j := 1) (by rfl) (by kernel_rfl) ?_
  refine tell2 ht hT (rfs_cons (allr rfL_law_right__law_bad v_law_bad hv_law_bad) (rfs_cons (allr rfL_law_right__law_degree v_law_degree hv_law_degree) rfs_nil)) (t_law_right_7 v_law_degree v_law_bad hv_law_bad) (by kernel_rfl) rfl ?_
  refine tell2 ht hT (rfs_cons (by kernel_rfl) (rfs_cons (allr rfL_law_right__law_degree v_law_degree hv_law_degree) rfs_nil)) (t_law_right_8 v_law_degree hv_law_degree) (by kernel_rfl) rfl ?_
  refine pure_all (r_law_right_v_law_degree v_law_degree hv_law_degree) ?_
  refine pure_all (s_law_right_0 v_law_degree hv_law_degree) ?_
  refine due_cat (j := 1) (by rfl) (by kernel_rfl) ?_
  refine tell2 ht hT (rfs_cons (allr rfL_law_right__law_bad v_law_bad hv_law_bad) (rfs_cons (allr rfL_law_right__law_degree v_law_degree hv_law_degree) rfs_nil)) (t_law_right_9 v_law_degree v_law_bad hv_law_bad) (by kernel_rfl) rfl ?_
  refine tell2 ht hT (rfs_cons (by kernel_rfl) (rfs_cons (allr rfL_law_right__law_degree v_law_degree hv_law_degree) rfs_nil)) (t_law_right_10 v_law_degree hv_law_degree) (by kernel_rfl) rfl ?_
  refine pure_all (r_law_right_v_law_degree v_law_degree hv_law_degree) ?_
  refine pure_all (s_law_right_0 v_law_degree hv_law_degree) ?_
  refine due_cat (j := 2) (by rfl) (by kernel_rfl) ?_
  refine tell2 ht hT (rfs_cons (allr rfL_law_right__law_bad v_law_bad hv_law_bad) (rfs_cons (allr rfL_law_right__law_degree v_law_degree hv_law_degree) rfs_nil)) (t_law_right_11 v_law_degree v_law_bad hv_law_bad) (by kernel_rfl) rfl ?_
  refine tell2 ht hT (rfs_cons (by kernel_rfl) (rfs_cons (allr rfL_law_right__law_degree v_law_degree hv_law_degree) rfs_nil)) (t_law_right_12 v_law_degree hv_law_degree) (by kernel_rfl) rfl ?_
  refine pure_all (r_law_right_v_law_degree v_law_degree hv_law_degree) ?_
  refine pure_all (s_law_right_0 v_law_degree hv_law_degree) ?_
  refine due_cat (j := 3) (by rfl) (by kernel_rfl) ?_
  refine tell2 ht hT (rfs_cons (allr rfL_law_right__law_bad v_law_bad hv_law_bad) (rfs_cons (allr rfL_law_right__law_cell v_law_cell hv_law_cell) rfs_nil)) (t_law_right_13 v_law_cell v_law_bad hv_law_bad) (by kernel_rfl) rfl ?_
  refine tell2 ht hT (rfs_cons (by kernel_rfl) (rfs_cons (allr rfL_law_right__law_cell v_law_cell hv_law_cell) rfs_nil)) (t_law_right_14 v_law_cell hv_law_cell) (by kernel_rfl) rfl ?_
  refine tell2 ht hT (rfs_cons (by kernel_rfl) (rfs_cons (by kernel_rfl) rfs_nil)) t_law_right_15 (by kernel_rfl) rfl ?_
  refine due_cat (j := 4) (by rfl) (by kernel_rfl) ?_
  refine tell2 ht hT (rfs_cons (allr rfL_law_right__law_bad v_law_bad hv_law_bad) (rfs_cons (allr rfL_law_right__law_cell v_law_cell hv_law_cell) rfs_nil)) (t_law_right_16 v_law_cell v_law_bad hv_law_bad) (by kernel_rfl) rfl ?_
  refine tell2 ht hT (rfs_cons (by kernel_rfl) (rfs_cons (allr rfL_law_right__law_cell v_law_cell hv_law_cell) rfs_nil)) (t_law_right_17 v_law_cell hv_law_cell) (by kernel_rfl) rfl ?_
  refine tell2 ht hT (rfs_cons (by kernel_rfl) (rfs_cons (by kernel_rfl) rfs_nil)) t_law_right_18 (by kernel_rfl) rfl ?_
  refine due_cat (j := 5) (by rfl) (by kernel_rfl) ?_
  refine tell2 ht hT (rfs_cons (allr rfL_law_right__law_bad v_law_bad hv_law_bad) (rfs_cons (allr rfL_law_right__law_cell v_law_cell hv_law_cell) rfs_nil)) (t_law_right_19 v_law_cell v_law_bad hv_law_bad) (by kernel_rfl) rfl ?_
  refine tell2 ht hT (rfs_cons (by kernel_rfl) (rfs_cons (allr rfL_law_right__law_cell v_law_cell hv_law_cell) rfs_nil)) (t_law_right_20 v_law_cell hv_law_cell) (by kernel_rfl) rfl ?_
  refine tell2 ht hT (rfs_cons (by kernel_rfl) (rfs_cons (by kernel_rfl) rfs_nil)) t_law_right_21 (by kernel_rfl) rfl ?_
  refine due_cat (j := 6) (by rfl) (by kernel_rfl) ?_
  refine tell2 ht hT (rfs_cons (allr rfL_law_right__law_bad v_law_bad hv_law_bad) (rfs_cons (allr rfL_law_right__law_bad v_law_bad hv_law_bad) rfs_nil)) (t_law_right_22 v_law_bad hv_law_bad) (by kernel_rfl) rfl ?_
  refine due_app (j := 7) (by rfl) (by kernel_rfl) ?_
  refine tell2 ht hT (rfs_cons (allr rfL_law_right__law_bad v_law_bad hv_law_bad) (rfs_cons (allr rfL_law_right__law_bad v_law_bad hv_law_bad) rfs_nil)) (t_law_right_23 v_law_bad hv_law_bad) (by kernel_rfl) rfl ?_
  refine due_app (j := 7) (by rfl) (by kernel_rfl) ?_
  refine tell2 ht hT (rfs_cons (allr rfL_law_right__law_bad v_law_bad hv_law_bad) (rfs_cons (allr rfL_law_right__law_bad v_law_bad hv_law_bad) rfs_nil)) (t_law_right_24 v_law_bad hv_law_bad) (by kernel_rfl) rfl ?_
  refine due_app (j := 7) (by rfl) (by kernel_rfl) ?_
  refine tell2 ht hT (rfs_cons (allr rfL_law_right__law_bad v_law_bad hv_law_bad) (rfs_cons (allr rfL_law_right__law_bad v_law_bad hv_law_bad) rfs_nil)) (t_law_right_25 v_law_bad hv_law_bad) (by kernel_rfl) rfl ?_
  refine due_app (j := 7) (by rfl) (by kernel_rfl) ?_
  refine tell2 ht hT (rfs_cons (by kernel_rfl) (rfs_cons (allr rfL_law_right__law_bad v_law_bad hv_law_bad) rfs_nil)) (t_law_right_26 v_law_bad hv_law_bad) (by kernel_rfl) rfl ?_
  refine due_app (j := 7) (by rfl) (by kernel_rfl) ?_
  refine tell2 ht hT (rfs_cons (by kernel_rfl) (rfs_cons (allr rfL_law_right__law_bad v_law_bad hv_law_bad) rfs_nil)) (t_law_right_27 v_law_bad hv_law_bad) (by kernel_rfl) rfl ?_
  refine due_app (j := 7) (by rfl) (by kernel_rfl) ?_
  refine tell2 ht hT (rfs_cons (allr rfL_law_right__law_bad v_law_bad hv_law_bad) (rfs_cons (allr rfL_law_right__law_point v_law_point hv_law_point) (rfs_cons (allr rfL_law_right__law_point v_law_point hv_law_point) rfs_nil))) (t_law_right_28 v_law_point v_law_bad hv_law_bad) (by kernel_rfl) rfl ?_
  refine tell2 ht hT (rfs_cons (by kernel_rfl) (rfs_cons (allr rfL_law_right__law_point v_law_point hv_law_point) (rfs_cons (by kernel_rfl) rfs_nil))) (t_law_right_29 v_law_point hv_law_point) (by kernel_rfl) rfl ?_
  refine tell2 ht hT (rfs_cons (by kernel_rfl) (rfs_cons (by kernel_rfl) (rfs_cons (allr rfL_law_right__law_point v_law_point hv_law_point) rfs_nil))) (t_law_right_30 v_law_point hv_law_point) (by kernel_rfl) rfl ?_
  refine due_cat (j := 7) (by rfl) (by kernel_rfl) ?_
  refine pure_all (r_law_right_v_law_point v_law_point hv_law_point) ?_
  refine pure_all (s_law_right_1 v_law_point hv_law_point) ?_
  refine due_cat (j := 8) (by rfl) (by kernel_rfl) ?_
  refine tell2 ht hT (rfs_cons (allr rfL_law_right__law_bad v_law_bad hv_law_bad) (rfs_cons (allr rfL_law_right__law_point v_law_point hv_law_point) (rfs_cons (allr rfL_law_right__law_point v_law_point hv_law_point) (rfs_cons (by kernel_rfl) rfs_nil)))) (t_law_right_31 v_law_point v_law_bad hv_law_bad) (by kernel_rfl) rfl ?_
  refine tell2 ht hT (rfs_cons (by kernel_rfl) (rfs_cons (allr rfL_law_right__law_point v_law_point hv_law_point) (rfs_cons (by kernel_rfl) (rfs_cons (by kernel_rfl) rfs_nil)))) (t_law_right_32 v_law_point hv_law_point) (by kernel_rfl) rfl ?_
  refine tell2 ht hT (rfs_cons (by kernel_rfl) (rfs_cons (by kernel_rfl) (rfs_cons (allr rfL_law_right__law_point v_law_point hv_law_point) (rfs_cons (by kernel_rfl) rfs_nil)))) (t_law_right_33 v_law_point hv_law_point) (by kernel_rfl) rfl ?_
  refine due_cat (j := 9) (by rfl) (by kernel_rfl) ?_
  refine pure_all (r_law_right_v_law_point v_law_point hv_law_point) ?_
  refine pure_all (s_law_right_1 v_law_point hv_law_point) ?_
  refine due_cat (j := 10) (by rfl) (by kernel_rfl) ?_
  refine tell2 ht hT (rfs_cons (allr rfL_law_right__law_bad v_law_bad hv_law_bad) (rfs_cons (allr rfL_law_right__law_point v_law_point hv_law_point) (rfs_cons (allr rfL_law_right__law_point v_law_point hv_law_point) (rfs_cons (by kernel_rfl) rfs_nil)))) (t_law_right_34 v_law_point v_law_bad hv_law_bad) (by kernel_rfl) rfl ?_
  refine tell2 ht hT (rfs_cons (by kernel_rfl) (rfs_cons (allr rfL_law_right__law_point v_law_point hv_law_point) (rfs_cons (by kernel_rfl) (rfs_cons (by kernel_rfl) rfs_nil)))) (t_law_right_35 v_law_point hv_law_point) (by kernel_rfl) rfl ?_
  refine tell2 ht hT (rfs_cons (by kernel_rfl) (rfs_cons (by kernel_rfl) (rfs_cons (allr rfL_law_right__law_point v_law_point hv_law_point) (rfs_cons (by kernel_rfl) rfs_nil)))) (t_law_right_36 v_law_point hv_law_point) (by kernel_rfl) rfl ?_
  refine due_cat (j := 11) (by rfl) (by kernel_rfl) ?_
  refine pure_all (r_law_right_v_law_point v_law_point hv_law_point) ?_
  refine pure_all (s_law_right_1 v_law_point hv_law_point) ?_
  refine due_cat (j := 12) (by rfl) (by kernel_rfl) ?_
  refine out_all (hat_app hs) (show 0 < 10 by decide) (show 10 < 2 ^ 64 by decide) fun v_law_lots hv_law_lots => ?_
  refine tell2 ht hT (rfs_cons (allr (List.all_eq_true.mp (rfL_law_right__law_lots) v_law_cell hv_law_cell) v_law_lots hv_law_lots) rfs_nil) (t_law_right_37 v_law_cell hv_law_cell v_law_lots hv_law_lots) (by kernel_rfl) rfl ?_
  refine out_all (hat_app hs) (show 0 < 7 by decide) (show 7 < 2 ^ 64 by decide) fun v_law_far hv_law_far => ?_
  refine tell2 ht hT (rfs_cons (allr rfL_law_right__law_bad v_law_bad hv_law_bad) (rfs_cons (allr rfL_law_right__law_far v_law_far hv_law_far) rfs_nil)) (t_law_right_38 v_law_far v_law_bad hv_law_bad) (by kernel_rfl) rfl ?_
  refine tell2 ht hT (rfs_cons (by kernel_rfl) (rfs_cons (allr rfL_law_right__law_far v_law_far hv_law_far) rfs_nil)) (t_law_right_39 v_law_far hv_law_far) (by kernel_rfl) rfl ?_
  refine tell2 ht hT (rfs_cons (by kernel_rfl) (rfs_cons (by kernel_rfl) rfs_nil)) t_law_right_40 (by kernel_rfl) rfl ?_
  refine pure_all (r_law_right_v_law_far v_law_far hv_law_far) ?_
  refine pure_all (s_law_right_2 v_law_far hv_law_far) ?_
  refine due_bin (j := 13) (by rfl) (by kernel_rfl) ?_
  refine lsm_all ?_
  refine lc_all (g := fun x => (.tup [(.str (PySem.Str.ofString "met")), x])) (fun x => by simp only [ex_seq, nxt_nx, nxt_rt, nxt_ct, nxt_bk, ex_ifs, brn_t, brn_f, ex_pass, ex_ret, ex_expr, ex_asg, bndM_so, ex_par, ex_aug, ex_for, endD_nx, endD_rt, bind_nm, bind_nil, bind_cons, bind_consl, ev_var, ev_c, ev_bin, ev_neg, ev_cmp, chn_t, chn_f, ev_chain, ev_and, ev_or, ev_ite, and_t, and_f, or_t, or_f, ite_t, ite_f, ev_not, ev_tup, ev_lst, ev_ix, ev_sl, intM_int, ev_int, ev_lc, ev_call, evs_nil, evs_cons, evs_star, evi_it1, evi_rng1, evi_rng2, evi_zip, evi_enum, lsM_tup, lsM_lst, zipM_tup, zipM_lst, enuM_lst, forP_nil, lcP_nil, andThen_ret, andThen_assoc, optM_so, List.getElem?_cons_succ, List.getElem?_cons_zero, slotM_so, Option.bind_some, Option.map_some, bi_eq, binM_eq, cmpM_eq, slM_eq, nr_non, nr_bl, nr_int, nr_str, nr_tup, nr_lst, nr_ty, nr_scr, nr_emp, nrs_nil, nrs_cons, Bool.and_self, Bool.and_true, ev_dnew, List.set_cons_succ, List.set_cons_zero, ev_lstM, ev_app, ev_met, ev_callV, ex_raise, forC_so, forGo_c, forGo_nil, forK_nx, bin_add, bin_sub, neg_int, cmp_lt, cmp_le, cmp_gt, cmp_ge, cmp_isbl, cmp_notbl, cmp_eq_int, cmp_ne_int, cmp_eq_bl, cmp_ne_bl, truthM_bl, Bool.not_true, Bool.not_false, lenOk0, lenOk1, lenOk2, lenOk3, intD_int, absD_int, lenD_tup, lenD_lst, lenD_scr, tupD_lst, tupD_tup, startE, List.map_cons, List.map_nil, List.length_cons, List.length_nil, Nat.zero_add, Nat.reduceAdd, Nat.reduceSub, List.replicate_succ, List.replicate_zero, List.cons_append, List.nil_append, lenOk_small, Nat.reduceLeDiff, eq_self, items_tup, items_lst, ixM_tup, ixM_lst, decide_true, decide_false, wipeE, lcF_eq, lcB_so, lcC_t, lcC_f, noXM_ret, List.length_map, List.length_range, atI0, atI1, atI2, nc0, nc1, nc2, nc3, nc4, nc5, nc6, nc7, nc8, nc9]) (by kernel_rfl) ?_
  refine told_is (z := due_law_right v_law_degree v_law_point v_law_far) (by kernel_rfl) (by kernel_rfl) (List.all_eq_true.mp ((List.all_eq_true.mp ((List.all_eq_true.mp (sh_law_right) v_law_degree hv_law_degree)) v_law_point hv_law_point)) v_law_far hv_law_far) ?_
  refine ⟨rfl, ?_, ?_, rfl⟩
  · rw [List.take_left]; exact hr
  · exact List.take_left
end K16

set_option Elab.async false
set_option linter.all false
set_option maxRecDepth 100000
set_option maxHeartbeats 4000000
/-! K16d: what k16's end tells. -/
namespace K16
open PySem L2 Gw
abbrev wd (x : Str) : D := .tup [.str (PySem.Str.ofString "met"), .str x]
def lone : D := .tup ((List.range 80).map fun (i : Nat) => D.tup [D.int i])
def great : D := .tup ((List.range 6).map fun (i : Nat) => D.tup [D.int (4 * i), D.int (4 * i + 1), D.int (4 * i + 2), D.int (4 * i + 3)])
def five : D := .tup ((List.range 5).map fun (i : Nat) => D.tup [D.int (4 * i), D.int (4 * i + 1), D.int (4 * i + 2), D.int (4 * i + 3)])
def cell4 : D := .lst [.tup [.int 0, .int 1, .int 2, .int 3]]
def sp4 : D := .tup [.tup [.int 0], .tup [.int 1], .tup [.int 2], .tup [.int 3], .tup [.int 0, .int 1], .tup [.int 0, .int 2], .tup [.int 0, .int 3], .tup [.int 1, .int 2], .tup [.int 1, .int 3], .tup [.int 2, .int 3], .tup [.int 0, .int 1, .int 2], .tup [.int 0, .int 1, .int 3], .tup [.int 0, .int 2, .int 3], .tup [.int 1, .int 2, .int 3], .tup [.int 0, .int 1, .int 2, .int 3]]
theorem q1 : tryM h__law_met z__law_met (u_space_of [great]) = (ret (wd (PySem.Str.ofString "many 80")) : M D) := by kernel_rfl
theorem q2 : tryM h__law_met z__law_met (u_space_of [five]) = (ret (wd (PySem.Str.ofString "fine")) : M D) := by kernel_rfl
theorem q3 : tryM h__law_met z__law_met (u_space_of [lone]) = (ret (wd (PySem.Str.ofString "fine")) : M D) := by kernel_rfl
theorem q4 : tryM h__law_met z__law_met (u_cone [lone, .int 99]) = (ret (wd (PySem.Str.ofString "many 80")) : M D) := by kernel_rfl
theorem q5 : u__law_space [cell4] = ret sp4 := by kernel_rfl
theorem q6 : tryM h__law_met z__law_met (u_cone [sp4, .int 9]) = (ret (wd (PySem.Str.ofString "many 4")) : M D) := by kernel_rfl
theorem q7 : tryM h__law_met z__law_met (u_border [lone, .int 1]) = (ret (wd (PySem.Str.ofString "many 60")) : M D) := by kernel_rfl
theorem q8 : tryM h__law_met z__law_met (u_joined [lone, .tup [.tup [.int 80]]]) = (ret (wd (PySem.Str.ofString "many 80")) : M D) := by kernel_rfl
theorem q9 : tryM h__law_met z__law_met (u_cone [sp4, .int 3]) = (ret (wd (PySem.Str.ofString "operation")) : M D) := by kernel_rfl
theorem q10 : tryM h__law_met z__law_met (u_border [lone, .int 3]) = (ret (wd (PySem.Str.ofString "fine")) : M D) := by kernel_rfl
end K16

set_option Elab.async false
set_option linter.all false
set_option maxRecDepth 100000
set_option maxHeartbeats 4000000
/-! K16e: the pieces of lone points. -/
namespace K16
open PySem L2 Gw
def nbL : D := .dct ((List.range 80).map fun (i : Nat) => D.int i) (List.replicate 80 (.lst []))
theorem nb1 : m_neighbours_in [lone] = ret nbL := by kernel_rfl
def tabN : List D → Option D
  | [x] => if D.beq x lone then some nbL else none
  | _ => none
theorem nb2 : m_neighbours_in = memo0 tabN m_neighbours_in := (memo0_eq fun ds v h => by
  unfold tabN at h
  split at h
  · rename_i x
    split at h
    · rename_i hb
      cases h
      rw [D.beq_eq _ _ hb]
      exact nb1
    · cases h
  · cases h).symm
def cPaths (φ : List D → M D) : S := (.seq (.asg (.cons (.nm 2) (.cons (.nm 3) (.cons (.nm 4) (.cons (.nm 5) .nil)))) (.tup (.cons (.call φ (.cons (.var 0) .nil)) (.cons (.d1 true (.var 1) (.tup (.cons (.var 1) .nil))) (.cons (.lstM (.cons (.var 1) .nil)) (.cons (.c (.int 0)) .nil)))))) (.seq (.whl fuelW (.cmp .Lt (.var 5) (.call (bi lenD) (.cons (.var 4) .nil))) (.seq (.for_ (.nm 6) (.it1 (.ix (.var 2) (.ix (.var 4) (.var 5)))) (.seq (.ifs (.cmp .NotIn (.var 6) (.var 3)) (.seq (.setix (.var 3) (.var 6) (.tup (.star (.ix (.var 3) (.ix (.var 4) (.var 5))) (.cons (.var 6) .nil)))) (.seq (.expr (.app (.var 4) (.var 6))) .pass)) .pass) .pass)) (.seq (.aug 5 .Add (.c (.int 1))) .pass))) (.seq (.ret (.var 3)) .pass)))
theorem ptC : c_paths_from = cPaths (memo0 tabN m_neighbours_in) := by
  show cPaths m_neighbours_in = _
  rw [← nb2]
def ptV (i : Int) : D := .dct [.int i] [.tup [.int i]]
def ints80 : List D := (List.range 80).map fun (i : Nat) => D.int i
def ptD : D → D
  | .int i => ptV i
  | _ => .non
theorem pt1 : ∀ d ∈ ints80, runM KT TT (fnM 7 2 c_paths_from) [lone, d] = ret (ptD d) := by
  rw [ptC]
  exact all1 (by kernel_rfl)
def tabP : List D → Option D
  | [x, d] => if D.beq x lone && ints80.any (D.beq d) then some (ptD d) else none
  | _ => none
theorem int_rf : ∀ d ∈ ints80, d.rf = true := List.all_eq_true.mp (by kernel_rfl)
theorem lone_rf : lone.rf = true := by kernel_rfl
theorem pt2 : m_paths_from = memoM KT TT tabP m_paths_from := (memo_eq fun ds v h => by
  unfold tabP at h
  split at h
  · rename_i x d
    split at h
    · rename_i hc
      cases h
      obtain ⟨h1, h2⟩ := Bool.and_eq_true_iff.mp hc
      obtain ⟨y, hy, e⟩ := List.any_eq_true.mp h2
      rw [D.beq_eq _ _ h1, D.beq_eq _ _ e]
      exact ⟨rfs_cons lone_rf (rfs_cons (int_rf y hy) rfs_nil), pt1 y hy⟩
    · cases h
  · cases h).symm
def cPieces (φ : List D → M D) : S := (.seq (.par 1 2 (.lstM .nil) .dnewM) (.seq (.for_ (.nm 3) (.it1 (.call m_points_in (.cons (.var 0) .nil))) (.seq (.ifs (.cmp .NotIn (.var 3) (.var 2)) (.seq (.asg (.nm 4) (.call φ (.cons (.var 0) (.cons (.var 3) .nil)))) (.seq (.expr (.dupd (.var 2) (.var 4))) (.seq (.expr (.app (.var 1) (.call (bi tupleD) (.cons (.lc [5] (.nm 5) (.it1 (.var 0)) (.cmp .In (.ix (.var 5) (.c (.int 0))) (.var 4)) (.var 5)) .nil)))) .pass))) .pass) .pass)) (.seq (.ret (.var 1)) .pass)))
theorem piC : c_pieces_in = cPieces (memoM KT TT tabP m_paths_from) := by
  show cPieces m_paths_from = _
  rw [← pt2]
def pcs : D := .lst ((List.range 80).map fun (i : Nat) => D.tup [.tup [D.int i]])
def pct : D := .tup ((List.range 80).map fun (i : Nat) => D.tup [.tup [D.int i]])
theorem pi1 : runM KT TT (fnM 6 1 c_pieces_in) [lone] = ret pcs := by
  rw [piC]
  kernel_rfl
def tabI : List D → Option D
  | [x] => if D.beq x lone then some pcs else none
  | _ => none
theorem pi2 : m_pieces_in = memoM KT TT tabI m_pieces_in := (memo_eq fun ds v h => by
  unfold tabI at h
  split at h
  · rename_i x
    split at h
    · rename_i hb
      cases h
      rw [D.beq_eq _ _ hb]
      exact ⟨rfs_cons lone_rf rfs_nil, pi1⟩
    · cases h
  · cases h).symm
def cTop (φ : List D → M D) : S := (.seq (.expr (.call m_require_space (.cons (.var 0) .nil))) (.seq (.ret (.call (bi tupleD) (.cons (.call φ (.cons (.var 0) .nil)) .nil))) .pass))
theorem topC : c_pieces = cTop (memoM KT TT tabI m_pieces_in) := by
  show cTop m_pieces_in = _
  rw [← pi2]
theorem pieces1 : runM KT TT (fnM 1 1 c_pieces) [lone] = ret pct := by
  rw [topC]
  kernel_rfl
end K16

set_option Elab.async false
set_option linter.all false
set_option maxRecDepth 100000
set_option maxHeartbeats 4000000
/-! K16f: the law of k16. -/
namespace K16
open PySem L2 Gw
def sBody : S := (.seq (.ifs (.not_ (.call m__law_right (.cons (.call m__law_hat (.cons (.var 0) (.cons (.var 1) .nil))) .nil))) (.seq (.ret (.c (.bl false))) .pass) .pass) .pass)
theorem cell {ns : List Int} {j : Int} {w : Option D} {s : Sto} {rest : Ev} (h0 : 0 ≤ j) (h1 : j ≤ 1000) (hj : J2 qsL s) : OkM (ex sBody (some (.scr ns) :: some (.int j) :: w :: rest)) s (fun r s' => J2 qsL s' ∧ ∃ u v, r = (.nx, some (.scr ns) :: u :: v :: rest)) NX := by
  unfold sBody
  simp only [ex_seq, nxt_nx, nxt_rt, nxt_ct, nxt_bk, ex_ifs, brn_t, brn_f, ex_pass, ex_ret, ex_expr, ex_asg, bndM_so, ex_par, ex_aug, ex_for, endD_nx, endD_rt, bind_nm, bind_nil, bind_cons, bind_consl, ev_var, ev_c, ev_bin, ev_neg, ev_cmp, chn_t, chn_f, ev_chain, ev_and, ev_or, ev_ite, and_t, and_f, or_t, or_f, ite_t, ite_f, ev_not, ev_tup, ev_lst, ev_ix, ev_sl, intM_int, ev_int, ev_lc, ev_call, evs_nil, evs_cons, evs_star, evi_it1, evi_rng1, evi_rng2, evi_zip, evi_enum, lsM_tup, lsM_lst, zipM_tup, zipM_lst, enuM_lst, forP_nil, lcP_nil, andThen_ret, andThen_assoc, optM_so, List.getElem?_cons_succ, List.getElem?_cons_zero, slotM_so, Option.bind_some, Option.map_some, bi_eq, binM_eq, cmpM_eq, slM_eq, nr_non, nr_bl, nr_int, nr_str, nr_tup, nr_lst, nr_ty, nr_scr, nr_emp, nrs_nil, nrs_cons, Bool.and_self, Bool.and_true, ev_dnew, List.set_cons_succ, List.set_cons_zero, ev_lstM, ev_app, ev_met, ev_callV, ex_raise, forC_so, forGo_c, forGo_nil, forK_nx, bin_add, bin_sub, neg_int, cmp_lt, cmp_le, cmp_gt, cmp_ge, cmp_isbl, cmp_notbl, cmp_eq_int, cmp_ne_int, cmp_eq_bl, cmp_ne_bl, truthM_bl, Bool.not_true, Bool.not_false, lenOk0, lenOk1, lenOk2, lenOk3, intD_int, absD_int, lenD_tup, lenD_lst, lenD_scr, tupD_lst, tupD_tup, startE, List.map_cons, List.map_nil, List.length_cons, List.length_nil, Nat.zero_add, Nat.reduceAdd, Nat.reduceSub, List.replicate_succ, List.replicate_zero, List.cons_append, List.nil_append, lenOk_small, Nat.reduceLeDiff, eq_self, items_tup, items_lst, ixM_tup, ixM_lst, decide_true, decide_false, wipeE, lcF_eq, lcB_so, lcC_t, lcC_f, noXM_ret, List.length_map, List.length_range, atI0, atI1, atI2, nc0, nc1, nc2, nc3, nc4, nc5, nc6, nc7, nc8, nc9, show m__law_hat = mHat from rfl]
  refine hat_all h0 h1 ?_
  have hh := hj.hat
  refine OkM.use (ok_law_right hat_last (hh.j.tab rfl) (hh.tb rfl) hh.2) fun d hd => ?_
  subst hd
  simp only [ex_seq, nxt_nx, nxt_rt, nxt_ct, nxt_bk, ex_ifs, brn_t, brn_f, ex_pass, ex_ret, ex_expr, ex_asg, bndM_so, ex_par, ex_aug, ex_for, endD_nx, endD_rt, bind_nm, bind_nil, bind_cons, bind_consl, ev_var, ev_c, ev_bin, ev_neg, ev_cmp, chn_t, chn_f, ev_chain, ev_and, ev_or, ev_ite, and_t, and_f, or_t, or_f, ite_t, ite_f, ev_not, ev_tup, ev_lst, ev_ix, ev_sl, intM_int, ev_int, ev_lc, ev_call, evs_nil, evs_cons, evs_star, evi_it1, evi_rng1, evi_rng2, evi_zip, evi_enum, lsM_tup, lsM_lst, zipM_tup, zipM_lst, enuM_lst, forP_nil, lcP_nil, andThen_ret, andThen_assoc, optM_so, List.getElem?_cons_succ, List.getElem?_cons_zero, slotM_so, Option.bind_some, Option.map_some, bi_eq, binM_eq, cmpM_eq, slM_eq, nr_non, nr_bl, nr_int, nr_str, nr_tup, nr_lst, nr_ty, nr_scr, nr_emp, nrs_nil, nrs_cons, Bool.and_self, Bool.and_true, ev_dnew, List.set_cons_succ, List.set_cons_zero, ev_lstM, ev_app, ev_met, ev_callV, ex_raise, forC_so, forGo_c, forGo_nil, forK_nx, bin_add, bin_sub, neg_int, cmp_lt, cmp_le, cmp_gt, cmp_ge, cmp_isbl, cmp_notbl, cmp_eq_int, cmp_ne_int, cmp_eq_bl, cmp_ne_bl, truthM_bl, Bool.not_true, Bool.not_false, lenOk0, lenOk1, lenOk2, lenOk3, intD_int, absD_int, lenD_tup, lenD_lst, lenD_scr, tupD_lst, tupD_tup, startE, List.map_cons, List.map_nil, List.length_cons, List.length_nil, Nat.zero_add, Nat.reduceAdd, Nat.reduceSub, List.replicate_succ, List.replicate_zero, List.cons_append, List.nil_append, lenOk_small, Nat.reduceLeDiff, eq_self, items_tup, items_lst, ixM_tup, ixM_lst, decide_true, decide_false, wipeE, lcF_eq, lcB_so, lcC_t, lcC_f, noXM_ret, List.length_map, List.length_range, atI0, atI1, atI2, nc0, nc1, nc2, nc3, nc4, nc5, nc6, nc7, nc8, nc9]
  exact ⟨⟨hh, _, _, rfl⟩⟩
abbrev xGreat : E := (.call (bi tupleD) (.cons (.lc [4] (.nm 4) (.rng3 (.c (.int 0)) (.c (.int 24)) (.c (.int 4))) (.c (.bl true)) (.tup (.cons (.var 4) (.cons (.bin .Add (.var 4) (.c (.int 1))) (.cons (.bin .Add (.var 4) (.c (.int 2))) (.cons (.bin .Add (.var 4) (.c (.int 3))) .nil)))))) .nil))
abbrev xLone : E := (.call (bi tupleD) (.cons (.lc [4] (.nm 4) (.rng1 (.c (.int 80))) (.c (.bl true)) (.tup (.cons (.var 4) .nil))) .nil))
theorem e1 (a b c d f : Option D) (r : Ev) : ev xGreat (a :: b :: c :: d :: f :: r) = ret great := by kernel_rfl
theorem e2 (a b c d f : Option D) (r : Ev) : ev xLone (a :: b :: c :: d :: f :: r) = ret lone := by kernel_rfl
theorem e3 : slM great .non (.int 5) = ret five := by kernel_rfl
abbrev xPc : E := (.call (bi tupleD) (.cons (.lc [4] (.nm 4) (.rng1 (.c (.int 80))) (.c (.bl true)) (.tup (.cons (.tup (.cons (.var 4) .nil)) .nil))) .nil))
theorem e4 (a b c d f : Option D) (r : Ev) : ev xPc (a :: b :: c :: d :: f :: r) = ret pct := by kernel_rfl
theorem e5 (a b c d f : Option D) (r : Ev) : ev (.tup (.cons xGreat (.cons xLone .nil))) (a :: b :: c :: d :: f :: r) = ret (.tup [great, lone]) := by kernel_rfl
theorem e6 (e : Ev) : ev (.lst (.cons (.tup (.cons (.c (.int 0)) (.cons (.c (.int 1)) (.cons (.c (.int 2)) (.cons (.c (.int 3)) .nil))))) .nil)) e = ret cell4 := by kernel_rfl
theorem e7 : cmpM .Eq pct pct = ret (.bl true) := by kernel_rfl
abbrev sx (x : String) : D := wd (PySem.Str.ofString x)
def dueL : List D := [sx "many 80", sx "fine", sx "fine", sx "many 80", sx "many 4", sx "many 60", sx "many 80", sx "operation", sx "fine"]
theorem rG : great.rf = true := by kernel_rfl
theorem rF : five.rf = true := by kernel_rfl
theorem rC : cell4.rf = true := by kernel_rfl
theorem rS : sp4.rf = true := by kernel_rfl
theorem lcg_all {α : Type} {P : α → Sto → Prop} {E : Str → D → Sto → Prop} {st : Sto} {F : D → M (Option D)} {g : D → D} {xs : List D} {f : List D → M α} (hF : ∀ x, F x = ret (some (g x))) (hl : decide (xs.length ≤ 1000000) = true) (h : OkM (f (xs.map g)) st P E) : OkM (andThen (lcGo0 F [] xs) f) st P E := by
  rw [lcGo_map (g := g) xs [] (fun x _ => hF x) (by rw [List.length_nil, Nat.zero_add]; exact Nat.le_trans (of_decide_eq_true hl) line_big), andThen_ret, List.nil_append]
  exact h
theorem main (ns : List Int) (h : ns.length ≤ 63) : (m_law [.scr ns] (qsL.map .tab)).All (fun v _ => v = .bl true) (fun _ _ _ => False) := by
  suffices hq : OkM (m_law [.scr ns]) (qsL.map .tab) (fun v _ => v = .bl true) NX from hq.all
  unfold m_law
  refine trim_use ?_
  rw [fn1]
  obtain ⟨n, hm, hn, n1', n2'⟩ := cells_ok (ns := ns) 4 (by decide) (by decide)
  have hc : c_law = .seq (.for_ (.nm 1) (.rng1 (.call (bi maxD) (.cons (.c (.int 1)) (.cons (.call (bi minD) (.cons (.c (.int 4)) (.cons (.call (bi lenD) (.cons (.var 0) .nil)) .nil))) .nil)))) sBody) (match c_law with
    | .seq _ t => t
    | t => t) := rfl
  rw [hc]
  simp only [ex_seq, nxt_nx, nxt_rt, nxt_ct, nxt_bk, ex_ifs, brn_t, brn_f, ex_pass, ex_ret, ex_expr, ex_asg, bndM_so, ex_par, ex_aug, ex_for, endD_nx, endD_rt, bind_nm, bind_nil, bind_cons, bind_consl, ev_var, ev_c, ev_bin, ev_neg, ev_cmp, chn_t, chn_f, ev_chain, ev_and, ev_or, ev_ite, and_t, and_f, or_t, or_f, ite_t, ite_f, ev_not, ev_tup, ev_lst, ev_ix, ev_sl, intM_int, ev_int, ev_lc, ev_call, evs_nil, evs_cons, evs_star, evi_it1, evi_rng1, evi_rng2, evi_zip, evi_enum, lsM_tup, lsM_lst, zipM_tup, zipM_lst, enuM_lst, forP_nil, lcP_nil, andThen_ret, andThen_assoc, optM_so, List.getElem?_cons_succ, List.getElem?_cons_zero, slotM_so, Option.bind_some, Option.map_some, bi_eq, binM_eq, cmpM_eq, slM_eq, nr_non, nr_bl, nr_int, nr_str, nr_tup, nr_lst, nr_ty, nr_scr, nr_emp, nrs_nil, nrs_cons, Bool.and_self, Bool.and_true, ev_dnew, List.set_cons_succ, List.set_cons_zero, ev_lstM, ev_app, ev_met, ev_callV, ex_raise, forC_so, forGo_c, forGo_nil, forK_nx, bin_add, bin_sub, neg_int, cmp_lt, cmp_le, cmp_gt, cmp_ge, cmp_isbl, cmp_notbl, cmp_eq_int, cmp_ne_int, cmp_eq_bl, cmp_ne_bl, truthM_bl, Bool.not_true, Bool.not_false, lenOk0, lenOk1, lenOk2, lenOk3, intD_int, absD_int, lenD_tup, lenD_lst, lenD_scr, tupD_lst, tupD_tup, startE, List.map_cons, List.map_nil, List.length_cons, List.length_nil, Nat.zero_add, Nat.reduceAdd, Nat.reduceSub, List.replicate_succ, List.replicate_zero, List.cons_append, List.nil_append, lenOk_small, Nat.reduceLeDiff, eq_self, items_tup, items_lst, ixM_tup, ixM_lst, decide_true, decide_false, wipeE, lcF_eq, lcB_so, lcC_t, lcC_f, noXM_ret, List.length_map, List.length_range, atI0, atI1, atI2, nc0, nc1, nc2, nc3, nc4, nc5, nc6, nc7, nc8, nc9, hm, hn, rng1_ok (show 0 ≤ n by omega) (by omega)]
  refine OkM.then (law_loop2 (qs := qsL) (fun j w s j0 j1 hj => cell j0 (by omega) hj) (fun u v s hj => ?_) J2.start)
  unfold c_law
  simp only [↓e5, ↓e4, ↓e6, e3, ex_seq, nxt_nx, nxt_rt, nxt_ct, nxt_bk, ex_ifs, brn_t, brn_f, ex_pass, ex_ret, ex_expr, ex_asg, bndM_so, ex_par, ex_aug, ex_for, endD_nx, endD_rt, bind_nm, bind_nil, bind_cons, bind_consl, ev_var, ev_c, ev_bin, ev_neg, ev_cmp, chn_t, chn_f, ev_chain, ev_and, ev_or, ev_ite, and_t, and_f, or_t, or_f, ite_t, ite_f, ev_not, ev_tup, ev_lst, ev_ix, ev_sl, intM_int, ev_int, ev_lc, ev_call, evs_nil, evs_cons, evs_star, evi_it1, evi_rng1, evi_rng2, evi_zip, evi_enum, lsM_tup, lsM_lst, zipM_tup, zipM_lst, enuM_lst, forP_nil, lcP_nil, andThen_ret, andThen_assoc, optM_so, List.getElem?_cons_succ, List.getElem?_cons_zero, slotM_so, Option.bind_some, Option.map_some, bi_eq, binM_eq, cmpM_eq, slM_eq, nr_non, nr_bl, nr_int, nr_str, nr_tup, nr_lst, nr_ty, nr_scr, nr_emp, nrs_nil, nrs_cons, Bool.and_self, Bool.and_true, ev_dnew, List.set_cons_succ, List.set_cons_zero, ev_lstM, ev_app, ev_met, ev_callV, ex_raise, forC_so, forGo_c, forGo_nil, forK_nx, bin_add, bin_sub, neg_int, cmp_lt, cmp_le, cmp_gt, cmp_ge, cmp_isbl, cmp_notbl, cmp_eq_int, cmp_ne_int, cmp_eq_bl, cmp_ne_bl, truthM_bl, Bool.not_true, Bool.not_false, lenOk0, lenOk1, lenOk2, lenOk3, intD_int, absD_int, lenD_tup, lenD_lst, lenD_scr, tupD_lst, tupD_tup, startE, List.map_cons, List.map_nil, List.length_cons, List.length_nil, Nat.zero_add, Nat.reduceAdd, Nat.reduceSub, List.replicate_succ, List.replicate_zero, List.cons_append, List.nil_append, lenOk_small, Nat.reduceLeDiff, eq_self, items_tup, items_lst, ixM_tup, ixM_lst, decide_true, decide_false, wipeE, lcF_eq, lcB_so, lcC_t, lcC_f, noXM_ret, List.length_map, List.length_range, atI0, atI1, atI2, nc0, nc1, nc2, nc3, nc4, nc5, nc6, nc7, nc8, nc9, ev_sl]
  have ht : tabOk s 2 lq_law = true := hj.j.tab rfl
  have hT : Tb KT TT s := hj.tb rfl
  refine met_all ht hT (try1 (rfs_cons rG rfs_nil) q1) ?_
  refine new0 ?_
  refine tell3 ht hT (try1 (rfs_cons rF rfs_nil) q2) (by kernel_rfl) rfl ?_
  refine tell3 ht hT (try1 (rfs_cons lone_rf rfs_nil) q3) (by kernel_rfl) rfl ?_
  refine tell3 ht hT (try1 (rfs_cons lone_rf (rfs_cons rfl rfs_nil)) q4) (by kernel_rfl) rfl ?_
  refine tell3 ht hT (try2 (rfs_cons rC rfs_nil) q5 (try1 (rfs_cons rS (rfs_cons rfl rfs_nil)) q6)) (by kernel_rfl) rfl ?_
  refine tell3 ht hT (try1 (rfs_cons lone_rf (rfs_cons rfl rfs_nil)) q7) (by kernel_rfl) rfl ?_
  refine tell3 ht hT (try1 (rfs_cons lone_rf (rfs_cons rfl rfs_nil)) q8) (by kernel_rfl) rfl ?_
  refine tell3 ht hT (try2 (rfs_cons rC rfs_nil) q5 (try1 (rfs_cons rS (rfs_cons rfl rfs_nil)) q9)) (by kernel_rfl) rfl ?_
  refine tell3 ht hT (try1 (rfs_cons lone_rf (rfs_cons rfl rfs_nil)) q10) (by kernel_rfl) rfl ?_
  refine lcg_all (g := fun x => (.tup [(.str (PySem.Str.ofString "met")), x])) (fun x => by simp only [ex_seq, nxt_nx, nxt_rt, nxt_ct, nxt_bk, ex_ifs, brn_t, brn_f, ex_pass, ex_ret, ex_expr, ex_asg, bndM_so, ex_par, ex_aug, ex_for, endD_nx, endD_rt, bind_nm, bind_nil, bind_cons, bind_consl, ev_var, ev_c, ev_bin, ev_neg, ev_cmp, chn_t, chn_f, ev_chain, ev_and, ev_or, ev_ite, and_t, and_f, or_t, or_f, ite_t, ite_f, ev_not, ev_tup, ev_lst, ev_ix, ev_sl, intM_int, ev_int, ev_lc, ev_call, evs_nil, evs_cons, evs_star, evi_it1, evi_rng1, evi_rng2, evi_zip, evi_enum, lsM_tup, lsM_lst, zipM_tup, zipM_lst, enuM_lst, forP_nil, lcP_nil, andThen_ret, andThen_assoc, optM_so, List.getElem?_cons_succ, List.getElem?_cons_zero, slotM_so, Option.bind_some, Option.map_some, bi_eq, binM_eq, cmpM_eq, slM_eq, nr_non, nr_bl, nr_int, nr_str, nr_tup, nr_lst, nr_ty, nr_scr, nr_emp, nrs_nil, nrs_cons, Bool.and_self, Bool.and_true, ev_dnew, List.set_cons_succ, List.set_cons_zero, ev_lstM, ev_app, ev_met, ev_callV, ex_raise, forC_so, forGo_c, forGo_nil, forK_nx, bin_add, bin_sub, neg_int, cmp_lt, cmp_le, cmp_gt, cmp_ge, cmp_isbl, cmp_notbl, cmp_eq_int, cmp_ne_int, cmp_eq_bl, cmp_ne_bl, truthM_bl, Bool.not_true, Bool.not_false, lenOk0, lenOk1, lenOk2, lenOk3, intD_int, absD_int, lenD_tup, lenD_lst, lenD_scr, tupD_lst, tupD_tup, startE, List.map_cons, List.map_nil, List.length_cons, List.length_nil, Nat.zero_add, Nat.reduceAdd, Nat.reduceSub, List.replicate_succ, List.replicate_zero, List.cons_append, List.nil_append, lenOk_small, Nat.reduceLeDiff, eq_self, items_tup, items_lst, ixM_tup, ixM_lst, decide_true, decide_false, wipeE, lcF_eq, lcB_so, lcC_t, lcC_f, noXM_ret, List.length_map, List.length_range, atI0, atI1, atI2, nc0, nc1, nc2, nc3, nc4, nc5, nc6, nc7, nc8, nc9]) (by kernel_rfl) ?_
  refine told_is (z := dueL) (by kernel_rfl) (by kernel_rfl) (by kernel_rfl) ?_
  simp only [and_t, ↓e4, ex_seq, nxt_nx, nxt_rt, nxt_ct, nxt_bk, ex_ifs, brn_t, brn_f, ex_pass, ex_ret, ex_expr, ex_asg, bndM_so, ex_par, ex_aug, ex_for, endD_nx, endD_rt, bind_nm, bind_nil, bind_cons, bind_consl, ev_var, ev_c, ev_bin, ev_neg, ev_cmp, chn_t, chn_f, ev_chain, ev_and, ev_or, ev_ite, and_t, and_f, or_t, or_f, ite_t, ite_f, ev_not, ev_tup, ev_lst, ev_ix, ev_sl, intM_int, ev_int, ev_lc, ev_call, evs_nil, evs_cons, evs_star, evi_it1, evi_rng1, evi_rng2, evi_zip, evi_enum, lsM_tup, lsM_lst, zipM_tup, zipM_lst, enuM_lst, forP_nil, lcP_nil, andThen_ret, andThen_assoc, optM_so, List.getElem?_cons_succ, List.getElem?_cons_zero, slotM_so, Option.bind_some, Option.map_some, bi_eq, binM_eq, cmpM_eq, slM_eq, nr_non, nr_bl, nr_int, nr_str, nr_tup, nr_lst, nr_ty, nr_scr, nr_emp, nrs_nil, nrs_cons, Bool.and_self, Bool.and_true, ev_dnew, List.set_cons_succ, List.set_cons_zero, ev_lstM, ev_app, ev_met, ev_callV, ex_raise, forC_so, forGo_c, forGo_nil, forK_nx, bin_add, bin_sub, neg_int, cmp_lt, cmp_le, cmp_gt, cmp_ge, cmp_isbl, cmp_notbl, cmp_eq_int, cmp_ne_int, cmp_eq_bl, cmp_ne_bl, truthM_bl, Bool.not_true, Bool.not_false, lenOk0, lenOk1, lenOk2, lenOk3, intD_int, absD_int, lenD_tup, lenD_lst, lenD_scr, tupD_lst, tupD_tup, startE, List.map_cons, List.map_nil, List.length_cons, List.length_nil, Nat.zero_add, Nat.reduceAdd, Nat.reduceSub, List.replicate_succ, List.replicate_zero, List.cons_append, List.nil_append, lenOk_small, Nat.reduceLeDiff, eq_self, items_tup, items_lst, ixM_tup, ixM_lst, decide_true, decide_false, wipeE, lcF_eq, lcB_so, lcC_t, lcC_f, noXM_ret, List.length_map, List.length_range, atI0, atI1, atI2, nc0, nc1, nc2, nc3, nc4, nc5, nc6, nc7, nc8, nc9]
  refine call_at (hT.app (by rfl)) (rfs_cons lone_rf rfs_nil) pieces1 ?_
  rw [e7]
  simp only [ex_seq, nxt_nx, nxt_rt, nxt_ct, nxt_bk, ex_ifs, brn_t, brn_f, ex_pass, ex_ret, ex_expr, ex_asg, bndM_so, ex_par, ex_aug, ex_for, endD_nx, endD_rt, bind_nm, bind_nil, bind_cons, bind_consl, ev_var, ev_c, ev_bin, ev_neg, ev_cmp, chn_t, chn_f, ev_chain, ev_and, ev_or, ev_ite, and_t, and_f, or_t, or_f, ite_t, ite_f, ev_not, ev_tup, ev_lst, ev_ix, ev_sl, intM_int, ev_int, ev_lc, ev_call, evs_nil, evs_cons, evs_star, evi_it1, evi_rng1, evi_rng2, evi_zip, evi_enum, lsM_tup, lsM_lst, zipM_tup, zipM_lst, enuM_lst, forP_nil, lcP_nil, andThen_ret, andThen_assoc, optM_so, List.getElem?_cons_succ, List.getElem?_cons_zero, slotM_so, Option.bind_some, Option.map_some, bi_eq, binM_eq, cmpM_eq, slM_eq, nr_non, nr_bl, nr_int, nr_str, nr_tup, nr_lst, nr_ty, nr_scr, nr_emp, nrs_nil, nrs_cons, Bool.and_self, Bool.and_true, ev_dnew, List.set_cons_succ, List.set_cons_zero, ev_lstM, ev_app, ev_met, ev_callV, ex_raise, forC_so, forGo_c, forGo_nil, forK_nx, bin_add, bin_sub, neg_int, cmp_lt, cmp_le, cmp_gt, cmp_ge, cmp_isbl, cmp_notbl, cmp_eq_int, cmp_ne_int, cmp_eq_bl, cmp_ne_bl, truthM_bl, Bool.not_true, Bool.not_false, lenOk0, lenOk1, lenOk2, lenOk3, intD_int, absD_int, lenD_tup, lenD_lst, lenD_scr, tupD_lst, tupD_tup, startE, List.map_cons, List.map_nil, List.length_cons, List.length_nil, Nat.zero_add, Nat.reduceAdd, Nat.reduceSub, List.replicate_succ, List.replicate_zero, List.cons_append, List.nil_append, lenOk_small, Nat.reduceLeDiff, eq_self, items_tup, items_lst, ixM_tup, ixM_lst, decide_true, decide_false, wipeE, lcF_eq, lcB_so, lcC_t, lcC_f, noXM_ret, List.length_map, List.length_range, atI0, atI1, atI2, nc0, nc1, nc2, nc3, nc4, nc5, nc6, nc7, nc8, nc9]
  exact ⟨rfl, J.cut hj.j (by first | rfl | simp), rfl⟩
end K16

set_option Elab.async false
set_option linter.all false
set_option maxRecDepth 100000
set_option maxHeartbeats 4000000
namespace K16
open PySem PySem.Spec PyProof.Rows L2 Gw
abbrev RR : PySem.W.OpenRow := PySem.W.OpenLaw.row PySem.Challenge.rw_gluewhole_k16_errors_of_spaces
abbrev hk : PySem.W.Hook := hookY 5 faL fnL [] tfL inL exL
def ob (s : PySem.W.SharedT) : AlY := obsY 5 faL fnL [] tfL inL exL (HandSHeadRun.getT s)
theorem ob_eq (s : PySem.W.SharedT) : ob s = hk.obs s.abs := obsY_eq (HandSHeadRun.getT_eq s)
def loose : List PySem.Str := ((["GlueError", "InvalidCell", "InvalidSpace", "InvalidOperation", "InvalidNumber", "TooMany", "is_whole", "is_within", "require_within", "MOST_POINT", "MOST_LENGTH", "MOST_CELLS", "MOST_DEGREE", "MOST_ROWS", "PATH"] : List PySem.Str) ++ (["SIDE", "is_cell", "faces_in", "in_sequence", "parts_in", "is_part", "united", "is_space", "closed_in", "cells_in", "points_in", "degree_in", "star_in", "link_in", "skeleton_in"] : List PySem.Str) ++ (["border_in", "neighbours_in", "paths_from", "pieces_in", "require_cell", "require_space", "require_cell_of", "require_few", "require_two_points", "require_two_spaces", "faces", "parts", "space_of", "degree_of", "points"] : List PySem.Str) ++ (["cells_of", "tops", "count", "border", "skeleton", "star", "closed_star", "link", "is_sub", "is_open", "joined", "common", "cone", "hang_answer", "are_points_of"] : List PySem.Str) ++ (["is_path", "is_side", "pieces", "_law_hat", "_law_up_to", "_law_out_of", "_law_space", "_law_met", "_law_right"] : List PySem.Str))
theorem run (w : World) : HandSHeadRun.RunEq RR (PySem.W.view RR.prog [73]) hk ob 4000 loose w := by
  intro os
  kernel_rfl
theorem law_all {w : World} {K : PySem.W.Frag} {mg : Str → Option Value} {h : Heap} {f : Addr} (X : K.In h) (N : h.Ns mainGlobals mg) (hfa : mg ("law" : Str) = some (.ref f)) (c : SaysY faL fnL [] tfL inL exL w h K) :
    LawIs PySem.Challenge.rw_gluewhole_k16_errors_of_spaces w K 11 63 "_law_script" mg f h := by
  obtain ⟨fd, F⟩ := c.s.t.d.def_ 56 (d := d_law) rfl
  have e := hfa.symm.trans (He.glo_ok X N (c.s.t.d.fact 56 (f := .glo "law") rfl))
  cases e
  have b := FunD.bindsA (ps := ["_law_script"]) F fun _ _ _ _ _ _ us hl => match us, hl with | [_], _ => rfl
  have nd : (tfL.map fun p => (He.cT K p).2).Nodup := of_decide_eq_true (He.ba (He.ba c.s.more).2).2
  refine ⟨fd, tfL.map (He.cT K), spEnd (GG w K mg) m_law, fun p hp => ?_, fun p hp => ?_, fun p hp => ?_, fun s v => b s [v] rfl, fun H a ns hl hT hO hS => ?_, fun base KB NB TB => ?_⟩
  · obtain ⟨d, hd, rfl⟩ := List.mem_map.mp hp
    exact c.s.empty d hd
  · obtain ⟨d, hd, rfl⟩ := List.mem_map.mp hp
    exact c.s.out d hd
  · obtain ⟨d, hd, rfl⟩ := List.mem_map.mp hp
    exact PySem.W.codeHd_of_K X (c.s.hd d hd)
  · refine law_start (G := GG w K mg) (qs := qsL) rfl rfl nd main H a ns hl (fun b hb => ?_) (fun b ps z => ?_) hS
    · obtain ⟨d, hd, rfl⟩ := List.mem_map.mp hb
      exact hT _ (List.mem_map.mpr ⟨d, hd, rfl⟩)
    · obtain ⟨p, hp, rfl⟩ := List.mem_map.mp (hO b ps z)
      obtain ⟨d, hd, rfl⟩ := List.mem_map.mp hp
      exact List.mem_map.mpr ⟨d, hd, rfl⟩
  · have Z : Wd w K mg base h := ⟨X, N, c, fun p hp => TB _ (List.mem_map.mpr ⟨p, hp, rfl⟩)⟩
    exact law_end (G := GG w K mg) (trim_fn (fn_core (G := GG w K mg) F s_law (Γ := G_law) rfl rfl k_law rfl rfl rfl (TabOk.cons (f_pieces Z) (TabOk.cons (f_border Z) (TabOk.cons (f_cone Z) (TabOk.cons (f__law_space Z) (TabOk.cons (f_joined Z) (TabOk.cons (f_space_of Z) (TabOk.cons (f__law_right Z) (TabOk.cons (f__law_hat Z) TabOk.nil)))))))) CstOk.nil (FreeOk.cons (He.free_ok Z.X Z.N (Z.d.fact 62 rfl)) (FreeOk.cons (He.free_ok Z.X Z.N (Z.d.fact 64 rfl)) (FreeOk.cons (He.free_ok Z.X Z.N (Z.d.fact 67 rfl)) (FreeOk.cons (He.free_ok Z.X Z.N (Z.d.fact 72 rfl)) (FreeOk.cons (He.free_ok Z.X Z.N (Z.d.fact 63 rfl)) FreeOk.nil))))) (fun _ _ e => by cases e; exact ⟨fun _ _ => by kernel_rfl, lam_of_ (p := ("law", none)) F (Z.tb _ (by unfold tfL; simp)) rfl⟩) (MetsOk.cons (f__law_met Z) MetsOk.nil) ExcsOk.nil))
end K16
open PySem PySem.W PySem.Calls PyProof.Rows
theorem PySem.Challenge.cw_gluewhole_k16_errors_of_spaces_holds : PySem.Challenge.rw_gluewhole_k16_errors_of_spaces.Holds := by
  w_on; o_law
  refine HandSHeadRun.head_any (r := OpenLaw.row PySem.Challenge.rw_gluewhole_k16_errors_of_spaces) (q := view (OpenLaw.row PySem.Challenge.rw_gluewhole_k16_errors_of_spaces).prog [73]) (H := K16.hk) (ob := K16.ob) (M := 4000) (loose := K16.loose) (d := HandSHeadRun.topDef (OpenLaw.row PySem.Challenge.rw_gluewhole_k16_errors_of_spaces).prog 73) (kwd := []) K16.ob_eq
    (by kernel_rfl) (fun s => by kernel_rfl) K16.run (by kernel_rfl) (by kernel_rfl) (by kernel_rfl) (by rfl) (by first | assumption | decide +kernel) (by decide +kernel) ⟨rfl, rfl, rfl, rfl, rfl, by decide +kernel⟩ ?hw ?hc
  case hw => w_witness2
  case hc =>
    refine Gw.walk_G (l := PySem.Challenge.rw_gluewhole_k16_errors_of_spaces) (n := 63) (k := 11) (x := "_law_script") rfl (by decide) (by kernel_rfl) ⟨rfl, by decide, by decide⟩ fun w mg fa h Y G hmg0 => ?_
    obtain ⟨K, KX, c⟩ := Y
    have hmg : mg ("law" : PySem.Str) = some (.ref fa) := by
      have e : (HandSHeadRun.topDef (OpenLaw.row PySem.Challenge.rw_gluewhole_k16_errors_of_spaces).prog 73).name = ("law" : PySem.Str) := by kernel_rfl
      rw [← e]
      exact hmg0
    exact ⟨K, KX, K16.law_all KX G hmg c⟩
