import PyProof.Rows.All
import Wide.All
import OpenK.AllK
import Wide.FinOn
import HandS.ForMost
import HandS.ForExc
import HandS.Flow
import HandS.Walk
import HandS.Wide
import HandS.IsInst
import HandS.Zip
import HandS.TupAny
import HandS.TupMul
import HandS.TupLe
import HandS.Star
import HandS.Conv
import HandS.Style
import HandS.TryMany
import HandS.HeadEnd
import HandS.HeadHook1
import HandS.HeadHook2
import HandS.Head0
import HandS.Head1
import HandS.Head2
import HandS.WordsExc
import PySem.Challenge.RW_gluewhole_k03_whole_rows_and_grids_judge
set_option Elab.async false
set_option linter.all false
set_option maxRecDepth 100000
/-! Gw1: a small core language with values without a heap, its meaning as trees of choices. -/
namespace Gw
open PySem

inductive D where
  | non | bl (b : Bool) | int (i : Int) | str (s : Str)
  | tup (xs : List D) | lst (xs : List D)
  | ref (i : Nat) | fn (x : Str) | ty (n : String)
  | scr (ns : List Int) | emp

/-- a changing object -/
inductive MO where
  | lst (xs : List D) | hat

abbrev Sto := List MO
/-- what comes of a run: a value, an error, a choice of one of n ways, nothing told -/
inductive Tr (α : Type) where
  | ok (a : α) (s : Sto)
  | ex (x : Str) (v : D) (s : Sto)
  | pick (n : Nat) (k : Nat → Tr α)
  | bad
abbrev M (α : Type) := Sto → Tr α
def Tr.bind {α β : Type} : Tr α → (α → Sto → Tr β) → Tr β
  | .ok a s, f => f a s
  | .ex x v s, _ => .ex x v s
  | .pick n k, f => .pick n fun i => (k i).bind f
  | .bad, _ => .bad
def ret {α : Type} (a : α) : M α := fun s => .ok a s
def badM {α : Type} : M α := fun _ => .bad
def andThen {α β : Type} (m : M α) (f : α → M β) : M β := fun s => (m s).bind f
def optM {α : Type} : Option α → M α
  | some a => ret a
  | none => badM

/-- an error within is not told -/
def Tr.noX {α : Type} : Tr α → Tr α
  | .ok a s => .ok a s
  | .ex _ _ _ => .bad
  | .pick n k => .pick n fun i => (k i).noX
  | .bad => .bad
def noXM {α : Type} (m : M α) : M α := fun s => (m s).noX
def Tr.All {α : Type} : Tr α → (α → Sto → Prop) → (Str → D → Sto → Prop) → Prop
  | .ok a s, P, _ => P a s
  | .ex x v s, _, E => E x v s
  | .pick n k, P, E => ∀ i, i < n → (k i).All P E
  | .bad, _, _ => False
theorem Tr.All_mono {α : Type} {P P' : α → Sto → Prop} {E E' : Str → D → Sto → Prop} (hP : ∀ a s, P a s → P' a s) (hE : ∀ x v s, E x v s → E' x v s) : ∀ t : Tr α, t.All P E → t.All P' E'
  | .ok a s, h => hP a s h
  | .ex x v s, h => hE x v s h
  | .pick n k, h => fun i hi => Tr.All_mono hP hE (k i) (h i hi)
  | .bad, h => h
theorem Tr.All_noX {α : Type} {P : α → Sto → Prop} {E E' : Str → D → Sto → Prop} : ∀ t : Tr α, t.noX.All P E → t.All P E'
  | .ok a s, h => h
  | .ex x v s, h => h.elim
  | .pick n k, h => fun i hi => Tr.All_noX (k i) (h i hi)
  | .bad, h => h
theorem Tr.All_bind {α β : Type} {f : α → Sto → Tr β} {P : β → Sto → Prop} {E : Str → D → Sto → Prop} : ∀ t : Tr α, (t.bind f).All P E ↔ t.All (fun a s => (f a s).All P E) E
  | .ok a s => Iff.rfl
  | .ex x v s => Iff.rfl
  | .pick n k => ⟨fun h i hi => (Tr.All_bind (k i)).mp (h i hi), fun h i hi => (Tr.All_bind (k i)).mpr (h i hi)⟩
  | .bad => Iff.rfl

/-! ### values -/
mutual
/-- no changing object within -/
def D.rf : D → Bool
  | .ref _ => false
  | .tup xs => D.rfs xs
  | .lst xs => D.rfs xs
  | _ => true
def D.rfs : List D → Bool
  | [] => true
  | x :: xs => D.rf x && D.rfs xs
end
def MO.rf : MO → Bool
  | .lst xs => D.rfs xs
  | .hat => true
mutual
/-- as plain data -/
def D.data : D → Option PyData
  | .non => some .none
  | .bl b => some (.bool b)
  | .int i => some (.int i)
  | .str s => some (.str s)
  | .tup xs => (D.datas xs).map .tuple
  | .lst xs => (D.datas xs).map .list
  | _ => none
def D.datas : List D → Option (List PyData)
  | [] => some []
  | x :: xs => (D.data x).bind fun d => (D.datas xs).map fun ds => d :: ds
end
/-- Python's == on plain data -/
def D.eq? (x y : D) : Option Bool := match x.data, y.data with
  | some a, some b => if SeqAt.shaped a && SeqAt.shaped b then some (PyData.eqv a b) else none
  | _, _ => none
def D.truth : D → Option Bool
  | .non => some false
  | .bl b => some b
  | .int i => some (i != 0)
  | .str y => if y.length ≤ sizeLine then some ((y.length : Int) != 0) else none
  | .tup xs => some (!xs.isEmpty)
  | .lst xs => some (!xs.isEmpty)
  | _ => none
def lexLtI : List D → List D → Option Bool
  | [], [] => some false
  | [], .int _ :: r => (lexLtI [] r).map fun _ => true
  | .int _ :: r, [] => (lexLtI r []).map fun _ => false
  | .int a :: r, .int b :: r' => (lexLtI r r').map fun z => if a = b then z else decide (a < b)
  | _, _ => none
def D.isNon : D → Bool
  | .non => true
  | _ => false
def cmpD (o : CmpOp) (x y : D) : Option D :=
  match o, x, y with
  | .Eq, x, y => (x.eq? y).map .bl
  | .NotEq, x, y => (x.eq? y).map fun b => .bl (!b)
  | .Lt, .int a, .int b => some (.bl (decide (a < b)))
  | .LtE, .int a, .int b => some (.bl (decide (a ≤ b)))
  | .Gt, .int a, .int b => some (.bl (decide (b < a)))
  | .GtE, .int a, .int b => some (.bl (decide (b ≤ a)))
  | .Is, .bl a, .bl b => some (.bl (decide (a = b)))
  | .IsNot, .bl a, .bl b => some (.bl (!decide (a = b)))
  | .Is, x, .non => some (.bl x.isNon)
  | .IsNot, x, .non => some (.bl (!x.isNon))
  | _, _, _ => none
def okMul (i j : Int) : Bool := decide (i.natAbs < 2 ^ 64) || decide (j.natAbs < 2 ^ 64) || decide (i.natAbs.log2 + j.natAbs.log2 < 1000000)
def okDiv (j : Int) : Bool := decide (j ≠ 0) && decide (j.natAbs.log2 < 9000)
def okPow (i j : Int) : Bool := decide (0 ≤ j) && decide ((Builtin.Int.intBits i : Int) * j ≤ 2 ^ 27)
def binD (o : Operator) (x y : D) : Option D :=
  match o, x, y with
  | .Add, .int a, .int b => some (.int (a + b))
  | .Sub, .int a, .int b => some (.int (a - b))
  | .Mult, .int a, .int b => if okMul a b then some (.int (a * b)) else none
  | .FloorDiv, .int a, .int b => if okDiv b then some (.int (a.fdiv b)) else none
  | .Mod, .int a, .int b => if decide (b ≠ 0) then some (.int (a.fmod b)) else none
  | .Pow, .int a, .int b => if okPow a b then some (.int (a ^ b.toNat)) else none
  | .Add, .tup xs, .tup ys => if decide (xs.length + ys.length ≤ sizeLine) then some (.tup (xs ++ ys)) else none
  | .Add, .lst xs, .lst ys => if decide (xs.length + ys.length ≤ sizeLine) then some (.lst (xs ++ ys)) else none
  | .Add, .str a, .str b => if decide (a.length + b.length ≤ sizeLine) then some (.str (a ++ b)) else none
  | .Mult, .tup xs, .int k => if decide (-1000 ≤ k) && (decide (k ≤ 1000) && decide (xs.length ≤ 1000)) then some (.tup (List.replicate k.toNat xs).flatten) else none
  | _, _, _ => none
def augD (o : Operator) (x y : D) : Option D :=
  match o, x, y with
  | .Add, .int a, .int b => some (.int (a + b))
  | .Sub, .int a, .int b => some (.int (a - b))
  | .Mult, .int a, .int b => if okMul a b then some (.int (a * b)) else none
  | .Add, .str a, .str b => if decide (a.length + b.length ≤ sizeLine) then some (.str (a ++ b)) else none
  | _, _, _ => none
def negD : D → Option D
  | .int a => some (.int (-a))
  | _ => none
def ixD (x i : D) : Option D :=
  match x, i with
  | .tup xs, .int k => L2.atI xs k
  | .lst xs, .int k => L2.atI xs k
  | .scr ns, .int k => (L2.atI ns k).map .int
  | _, _ => none
/-- a changing list, as it is now -/
def drf (s : Sto) : D → D
  | .ref r => match s[r]? with
    | some (.lst xs) => .lst xs
    | _ => .ref r
  | x => x
def D.nr : D → Bool
  | .ref _ => false
  | _ => true
def cutD (xs : List D) (lo hi : Option Int) : List D := (xs.drop (HT.sIx xs.length 0 lo)).take (HT.sIx xs.length xs.length hi - HT.sIx xs.length 0 lo)
def partD : D → Option (Option Int)
  | .non => some none
  | .int i => some (some i)
  | _ => none
def slD (x lo hi : D) : Option D :=
  match x, partD lo, partD hi with
  | .tup xs, some a, some b => some (.tup (cutD xs a b))
  | .lst xs, some a, some b => some (.lst (cutD xs a b))
  | _, _, _ => none
def ixM (x i : D) : M D := fun s => optM (ixD (drf s x) (drf s i)) s
def slM (x l h : D) : M D := fun s => optM (slD (drf s x) l h) s
def binM (o : Operator) (x y : D) : M D := fun s => optM (binD o (drf s x) (drf s y)) s
def cmpM (o : CmpOp) (x y : D) : M D := fun s => optM (cmpD o (drf s x) (drf s y)) s
def appM (r : Nat) (d : D) : M D := fun s => match s[r]? with
  | some (.lst xs) => if xs.length < sizeLine then .ok .non (s.set r (.lst (xs ++ [d]))) else .bad
  | _ => .bad
def itemsD : D → Option (List D)
  | .tup xs => some xs
  | .lst xs => some xs
  | _ => none
def rangeD (a b : Int) : List D := (List.range (b - a).toNat).map fun (i : Nat) => D.int (a + (i : Int))
def okRng (a b : Int) : Bool := decide (-(2 ^ 62) ≤ a) && decide (a < 2 ^ 62) && decide (-(2 ^ 62) ≤ b) && decide (b < 2 ^ 62)
def rngD : List D → Option (List D)
  | [.int b] => if okRng 0 b then some (rangeD 0 b) else none
  | [.int a, .int b] => if okRng a b then some (rangeD a b) else none
  | _ => none
def zipD : List D → Option (List D)
  | [.tup xs, .tup ys] => some ((xs.zip ys).map fun p => .tup [p.1, p.2])
  | [.lst xs, .lst ys] => some ((xs.zip ys).map fun p => .tup [p.1, p.2])
  | _ => none
def enumD : List D → Option (List D)
  | [.lst xs] => some ((List.range xs.length).zip xs |>.map fun p => .tup [.int (p.1 : Int), p.2])
  | _ => none

/-! ### the core language -/
inductive T where
  | nm (i : Nat) | nil | cons (t : T) (ts : T)
abbrev Ev := List (Option D)
/-- a target takes a value -/
def T.bind : T → D → Ev → Option Ev
  | .nm i, d, e => some (e.set i (some d))
  | .nil, .tup [], e => some e
  | .cons t ts, .tup (x :: xs), e => (t.bind x e).bind fun e' => ts.bind (.tup xs) e'
  | .nil, .lst [], e => some e
  | .cons t ts, .lst (x :: xs), e => (t.bind x e).bind fun e' => ts.bind (.tup xs) e'
  | _, _, _ => none

inductive E where
  | var (i : Nat)
  | c (d : D)
  | bin (o : Operator) (a b : E)
  | neg (a : E)
  | cmp (o : CmpOp) (a b : E)
  | chain (o p : CmpOp) (a b c : E)
  | and_ (a b : E) | or_ (a b : E) | not_ (a : E)
  | ite (c a b : E)
  | tup (es : E) | lst (es : E) | lstM (es : E)
  | nil | cons (e es : E) | star (e es : E)
  | ix (a i : E) | sl (a lo hi : E) | int_ (a : E)
  | app (o a : E) | dnew
  | it1 (a : E) | rng1 (a : E) | rng2 (a b : E) | zip (a b : E) | enum (a : E)
  | lc (own : List Nat) (g : T) (it : E) (cnd : E) (elt : E)
  | call (f : List D → M D) (es : E)

def truthM (d : D) : M Bool := fun s => optM (drf s d).truth s
def wipeE (e : Ev) : List Nat → Ev
  | [] => e
  | v :: vs => (wipeE e vs).set v none
/-- a comprehension's turns -/
def lcGo (f : D → M (Option D)) : List D → List D → M (List D)
  | acc, [] => ret acc
  | acc, x :: xs => andThen (f x) fun o => match o with
    | some y => if acc.length < sizeLine then lcGo f (acc ++ [y]) xs else badM
    | none => lcGo f acc xs
def lenOk (xs : List D) : M (List D) := if xs.length ≤ sizeLine then ret xs else badM
mutual
def ev : E → Ev → M D
  | .var i, e => optM ((e[i]?).bind id)
  | .c d, _ => ret d
  | .bin o a b, e => andThen (ev a e) fun x => andThen (ev b e) fun y => binM o x y
  | .neg a, e => andThen (ev a e) fun x => optM (negD x)
  | .cmp o a b, e => andThen (ev a e) fun x => andThen (ev b e) fun y => cmpM o x y
  | .chain o p a b c, e => andThen (ev a e) fun x => andThen (ev b e) fun y => andThen (cmpM o x y) fun z => match z with
    | .bl true => andThen (ev c e) fun w => cmpM p y w
    | .bl false => ret (.bl false)
    | _ => badM
  | .and_ a b, e => andThen (ev a e) fun x => andThen (truthM x) fun t => if t = true then ev b e else ret x
  | .or_ a b, e => andThen (ev a e) fun x => andThen (truthM x) fun t => if t = true then ret x else ev b e
  | .not_ a, e => andThen (ev a e) fun x => andThen (truthM x) fun t => ret (.bl (!t))
  | .ite c a b, e => andThen (ev c e) fun x => andThen (truthM x) fun t => if t = true then ev a e else ev b e
  | .tup es, e => andThen (evs es e) fun xs => andThen (lenOk xs) fun xs => ret (.tup xs)
  | .lst es, e => andThen (evs es e) fun xs => andThen (lenOk xs) fun xs => ret (.lst xs)
  | .lstM es, e => andThen (evs es e) fun xs => andThen (lenOk xs) fun xs => fun s => .ok (.ref s.length) (s ++ [.lst xs])
  | .int_ a, e => andThen (ev a e) fun x => match x with
    | .int i => ret (.int i)
    | _ => badM
  | .ix a i, e => andThen (ev a e) fun x => andThen (ev i e) fun k => ixM x k
  | .sl a lo hi, e => andThen (ev a e) fun x => andThen (ev lo e) fun l => andThen (ev hi e) fun h => slM x l h
  | .lc own g it cnd elt, e => andThen (evs it e) fun xs => andThen (lcGo (fun x => match g.bind x (wipeE e own) with
      | none => badM
      | some e' => andThen (noXM (andThen (ev cnd e') truthM)) fun t => if t = true then andThen (noXM (ev elt e')) fun y => ret (some y) else ret none) [] xs) fun ys => ret (.lst ys)
  | .call f es, e => andThen (evs es e) fun xs => f xs
  | .app o a, e => andThen (ev o e) fun x => match x with
    | .ref r => andThen (ev a e) fun d => appM r d
    | _ => badM
  | .dnew, _ => ret .emp
  | _, _ => badM
def evs : E → Ev → M (List D)
  | .nil, _ => ret []
  | .cons a es, e => andThen (ev a e) fun x => andThen (evs es e) fun xs => ret (x :: xs)
  | .star a es, e => andThen (ev a e) fun x => andThen (optM (itemsD x)) fun ys => andThen (evs es e) fun xs => ret (ys ++ xs)
  | .it1 a, e => andThen (ev a e) fun x => optM (itemsD x)
  | .rng1 a, e => andThen (ev a e) fun x => optM (rngD [x])
  | .rng2 a b, e => andThen (ev a e) fun x => andThen (ev b e) fun y => optM (rngD [x, y])
  | .zip a b, e => andThen (ev a e) fun x => andThen (ev b e) fun y => optM (zipD [x, y])
  | .enum a, e => andThen (ev a e) fun x => optM (enumD [x])
  | _, _ => badM
end

/-! ### statements -/
inductive Fl where
  | nx | rt (d : D) | bk | ct
inductive S where
  | pass | brk | cnt
  | asg (g : T) (a : E)
  | par (i j : Nat) (a b : E)
  | setix (o i a : E)
  | expr (a : E)
  | ret (a : E)
  | ifs (c : E) (t u : S)
  | whl (n : Nat) (c : E) (b : S)
  | for_ (g : T) (it : E) (b : S)
  | seq (a b : S)
  | raise (x : Str) (a : E)
  | never
  | aug (i : Nat) (o : Operator) (a : E)
def setStore (s : Sto) (x i d : D) : Option Sto := match x, i with
  | .ref r, .int k => match s[r]? with
    | some (.lst xs) => (L2.ixN xs.length k).map fun j => s.set r (.lst (xs.set j d))
    | _ => none
  | _, _ => none
def whlGo (c : Ev → M Bool) (b : Ev → M (Fl × Ev)) : Nat → Ev → M (Fl × Ev)
  | 0, _ => badM
  | n + 1, e => andThen (c e) fun t => if t = true then andThen (b e) fun r => match r.1 with
      | .nx => whlGo c b n r.2
      | .ct => whlGo c b n r.2
      | .bk => Gw.ret (.nx, r.2)
      | .rt d => Gw.ret (.rt d, r.2)
    else Gw.ret (.nx, e)
def forGo (g : T) (b : Ev → M (Fl × Ev)) : List D → Ev → M (Fl × Ev)
  | [], e => Gw.ret (.nx, e)
  | x :: xs, e => match g.bind x e with
    | none => badM
    | some e' => andThen (b e') fun r => match r.1 with
      | .nx => forGo g b xs r.2
      | .ct => forGo g b xs r.2
      | .bk => Gw.ret (.nx, r.2)
      | .rt d => Gw.ret (.rt d, r.2)
def ex : S → Ev → M (Fl × Ev)
  | .pass, e => Gw.ret (.nx, e)
  | .brk, e => Gw.ret (.bk, e)
  | .cnt, e => Gw.ret (.ct, e)
  | .asg g a, e => andThen (ev a e) fun x => match g.bind x e with
    | some e' => Gw.ret (.nx, e')
    | none => badM
  | .par i j a b, e => andThen (ev a e) fun x => andThen (ev b e) fun y => Gw.ret (.nx, (e.set i (some x)).set j (some y))
  | .setix o i a, e => andThen (ev a e) fun x => andThen (ev o e) fun y => andThen (ev i e) fun k => fun s => match setStore s y k x with
    | some s' => .ok (.nx, e) s'
    | none => .bad
  | .expr a, e => andThen (ev a e) fun _ => Gw.ret (.nx, e)
  | .ret a, e => andThen (ev a e) fun x => Gw.ret (.rt x, e)
  | .ifs c t u, e => andThen (ev c e) fun x => andThen (truthM x) fun k => if k = true then ex t e else ex u e
  | .whl n c b, e => whlGo (fun e => andThen (ev c e) truthM) (ex b) n e
  | .for_ g it b, e => andThen (evs it e) fun xs => forGo g (ex b) xs e
  | .seq a b, e => andThen (ex a e) fun r => match r.1 with
    | .nx => ex b r.2
    | f => Gw.ret (f, r.2)
  | .raise x a, e => andThen (ev a e) fun v => fun s => .ex x v s
  | .never, _ => badM
  | .aug i o a, e => andThen (optM ((e[i]?).bind id)) fun x => andThen (ev a e) fun y => andThen (optM (augD o x y)) fun z => Gw.ret (.nx, e.set i (some z))
def startE (n : Nat) (ds : List D) : Ev := ds.map some ++ List.replicate (n - ds.length) none
def endD : Fl → M D
  | .nx => Gw.ret .non
  | .rt d => Gw.ret d
  | _ => badM
/-- a def: n slots, p parameters -/
def fnM (n p : Nat) (b : S) : List D → M D := fun ds => if ds.length = p then andThen (ex b (startE n ds)) fun r => endD r.1 else badM
/-- what a def made for itself is forgotten at its end -/
def frzT (n : Nat) (v : D) (s : Sto) : D := match v with
  | .ref r => if n ≤ r then (match s[r]? with
    | some (.lst xs) => .lst xs
    | _ => .ref r) else .ref r
  | v => v
def trimT (n : Nat) : Tr D → Tr D
  | .ok v s => if (frzT n v s).rf && (s.take n).all MO.rf then .ok (frzT n v s) (s.take n) else .ok v s
  | .ex x v s => if v.rf && (s.take n).all MO.rf then .ex x v (s.take n) else .ex x v s
  | .pick m k => .pick m fun i => trimT n (k i)
  | .bad => .bad
def trimM (f : List D → M D) : List D → M D := fun ds s => trimT s.length (f ds s)
end Gw

set_option Elab.async false
set_option linter.all false
set_option maxRecDepth 100000
/-! Gw2: how plain values lie in the heap; readings by trees. -/
namespace Gw
open PySem PySem.Spec PyProof.Rows L2

structure Glo where
  K : PySem.W.Frag
  mg : Str → Option Value
  fld : Str → Option Str
/-- which addresses may change (all of them, and those at hand by number) -/
structure Mp where
  M : List Addr
  m : List Addr
def LsM (_G : Glo) (μ : Mp) (H : Hp) (a : Addr) (vs : List V) : Prop := a ∉ μ.M ∧ H a = some (.lst vs)
def ScM (G : Glo) (μ : Mp) (H : Hp) (a : Addr) (vs : List V) : Prop :=
  (a ∉ μ.M ∧ Rd H a (.lst vs)) ∨ ∃ (o : Obj) (its : Array Value) (n : Nat), G.K.lookup a = some o ∧ o.cls = .type "list" ∧ o.dict = none ∧ o.data = .seq its n ∧ its.size ≤ sizeLine ∧ Vals vs its.toList
def TpM (G : Glo) (μ : Mp) (H : Hp) (a : Addr) (vs : List V) : Prop :=
  (a ∉ μ.M ∧ Rd H a (.tup vs)) ∨ ∃ (o : Obj) (its : Array Value) (n : Nat), G.K.lookup a = some o ∧ o.cls = .type "tuple" ∧ o.data = .seq its n ∧ its.size ≤ sizeLine ∧ Vals vs its.toList
theorem LsM.sq {G : Glo} {μ : Mp} {H : Hp} {a : Addr} {vs : List V} (h : LsM G μ H a vs) : SqL G.K H a vs := .inl (.inl h.2)
theorem ScM.sq {G : Glo} {μ : Mp} {H : Hp} {a : Addr} {vs : List V} (h : ScM G μ H a vs) : SqL G.K H a vs := h.elim (fun z => .inl z.2) .inr
theorem TpM.sq {G : Glo} {μ : Mp} {H : Hp} {a : Addr} {vs : List V} (h : TpM G μ H a vs) : SqT G.K H a vs := h.elim (fun z => .inl z.2) .inr
mutual
inductive Rep (G : Glo) (μ : Mp) (H : Hp) : D → V → Prop
  | non : Rep G μ H .non .non
  | bl (b : Bool) : Rep G μ H (.bl b) (.bl b)
  | int (i : Int) : Rep G μ H (.int i) (.int i)
  | str (x : Str) : Rep G μ H (.str x) (.str x)
  | ty (n : String) : Rep G μ H (.ty n) (.ty n)
  | fn {x : Str} {f : Addr} : G.mg x = some (.ref f) → Rep G μ H (.fn x) (.ref f)
  | ref {i : Nat} {a : Addr} : μ.m[i]? = some a → Rep G μ H (.ref i) (.ref a)
  | tup {a : Addr} {vs : List V} {xs : List D} : TpM G μ H a vs → Reps G μ H xs vs → Rep G μ H (.tup xs) (.ref a)
  | scr {a : Addr} {ns : List Int} : ScM G μ H a (ns.map V.int) → Rep G μ H (.scr ns) (.ref a)
  | lst {a : Addr} {vs : List V} {xs : List D} : LsM G μ H a vs → Reps G μ H xs vs → Rep G μ H (.lst xs) (.ref a)
  | emp {a : Addr} : a ∉ μ.M → Rd H a (.dK []) → Rep G μ H .emp (.ref a)
inductive Reps (G : Glo) (μ : Mp) (H : Hp) : List D → List V → Prop
  | nil : Reps G μ H [] []
  | cons {d : D} {v : V} {ds : List D} {vs : List V} : Rep G μ H d v → Reps G μ H ds vs → Reps G μ H (d :: ds) (v :: vs)
end
structure Gr (μ : Mp) (H : Hp) (μ' : Mp) (H' : Hp) : Prop where
  keep : ∀ a o, H a = some o → a ∉ μ.m → H' a = some o
  there : ∀ a, H' a = none → H a = none
  pre : ∃ r, μ'.m = μ.m ++ r ∧ ∀ a ∈ r, H a = none
  sub : ∀ a ∈ μ.M, a ∈ μ'.M
  new : ∀ a ∈ μ'.M, a ∈ μ.M ∨ H a = none
  ms : ∀ a ∈ μ.m, a ∈ μ.M
theorem Gr.refl {μ : Mp} {H : Hp} (s : ∀ a ∈ μ.m, a ∈ μ.M) : Gr μ H μ H := ⟨fun _ _ e _ => e, fun _ e => e, ⟨[], by simp, by simp⟩, fun _ h => h, fun _ h => .inl h, s⟩
theorem Gr.trans {μ μ1 μ2 : Mp} {H H1 H2 : Hp} (a : Gr μ H μ1 H1) (b : Gr μ1 H1 μ2 H2) : Gr μ H μ2 H2 := by
  obtain ⟨r, e, hr⟩ := a.pre
  obtain ⟨r', e', hr'⟩ := b.pre
  refine ⟨fun x o h n => b.keep x o (a.keep x o h n) fun z => ?_, fun x h => a.there x (b.there x h), ⟨r ++ r', by rw [e', e, List.append_assoc], fun x hx => ?_⟩, fun x h => b.sub x (a.sub x h), fun x h => ?_, a.ms⟩
  · rw [e] at z
    rcases List.mem_append.mp z with z | z
    · exact n z
    · rw [hr x z] at h; cases h
  · rcases List.mem_append.mp hx with z | z
    · exact hr x z
    · exact a.there x (hr' x z)
  · rcases b.new x h with z | z
    · exact a.new x z
    · exact .inr (a.there x z)
theorem Rd.gr {μ μ' : Mp} {H H' : Hp} {a : Addr} {u : HO} (g : Gr μ H μ' H') (n : a ∉ μ.M) (h : Rd H a u) : a ∉ μ'.M ∧ Rd H' a u := by
  have hm : a ∉ μ.m := fun z => n (g.ms a z)
  have ht : H a ≠ none := by rcases h with h | ⟨o, h⟩ <;> rw [h] <;> simp
  refine ⟨fun z => (g.new a z).elim n ht, ?_⟩
  rcases h with h | ⟨o, h⟩
  · exact .inl (g.keep a _ h hm)
  · exact .inr ⟨o, g.keep a _ h hm⟩
theorem LsM.gr {G : Glo} {μ μ' : Mp} {H H' : Hp} {a : Addr} {vs : List V} (g : Gr μ H μ' H') (h : LsM G μ H a vs) : LsM G μ' H' a vs :=
  ⟨(Rd.gr g h.1 (.inl h.2)).1, g.keep a _ h.2 fun z => h.1 (g.ms a z)⟩
theorem ScM.gr {G : Glo} {μ μ' : Mp} {H H' : Hp} {a : Addr} {vs : List V} (g : Gr μ H μ' H') (h : ScM G μ H a vs) : ScM G μ' H' a vs := h.elim (fun z => .inl (Rd.gr g z.1 z.2)) .inr
theorem TpM.gr {G : Glo} {μ μ' : Mp} {H H' : Hp} {a : Addr} {vs : List V} (g : Gr μ H μ' H') (h : TpM G μ H a vs) : TpM G μ' H' a vs := h.elim (fun z => .inl (Rd.gr g z.1 z.2)) .inr
mutual
theorem Rep.gr {G : Glo} {μ μ' : Mp} {H H' : Hp} (g : Gr μ H μ' H') : ∀ (d : D) (v : V), Rep G μ H d v → Rep G μ' H' d v
  | .non, _, h => by cases h; exact .non
  | .bl b, _, h => by cases h; exact .bl b
  | .int i, _, h => by cases h; exact .int i
  | .str x, _, h => by cases h; exact .str x
  | .ty n, _, h => by cases h; exact .ty n
  | .fn x, _, h => by cases h with | fn e => exact .fn e
  | .ref i, _, h => by
    cases h with
    | ref e =>
      obtain ⟨r, q, _⟩ := g.pre
      refine .ref ?_
      rw [q, List.getElem?_append_left (List.getElem?_eq_some_iff.mp e).1]
      exact e
  | .tup xs, _, h => by cases h with | tup a b => exact .tup (a.gr g) (Reps.gr g xs _ b)
  | .lst xs, _, h => by cases h with | lst a b => exact .lst (a.gr g) (Reps.gr g xs _ b)
  | .scr ns, _, h => by cases h with | scr a => exact .scr (a.gr g)
  | .emp, _, h => by cases h with | emp n r => exact .emp (Rd.gr g n r).1 (Rd.gr g n r).2
theorem Reps.gr {G : Glo} {μ μ' : Mp} {H H' : Hp} (g : Gr μ H μ' H') : ∀ (ds : List D) (vs : List V), Reps G μ H ds vs → Reps G μ' H' ds vs
  | [], _, h => by cases h; exact .nil
  | d :: ds, _, h => by cases h with | cons a b => exact .cons (Rep.gr g d _ a) (Reps.gr g ds _ b)
end
section
variable {G : Glo} {μ μ' : Mp} {H H' : Hp}
theorem Reps.length : ∀ {ds : List D} {vs : List V}, Reps G μ H ds vs → ds.length = vs.length
  | [], _, h => by cases h; rfl
  | d :: ds, _, h => by cases h with | cons a b => rw [List.length_cons, List.length_cons, Reps.length b]
theorem Reps.get : ∀ {ds : List D} {vs : List V} {i : Nat} {d : D}, Reps G μ H ds vs → ds[i]? = some d → ∃ v, vs[i]? = some v ∧ Rep G μ H d v
  | [], _, _, _, _, e => by simp at e
  | d :: ds, _, 0, _, h, e => by
    cases h with
    | cons a b => simp at e; subst e; exact ⟨_, rfl, a⟩
  | d :: ds, _, i + 1, _, h, e => by
    cases h with
    | cons a b =>
      obtain ⟨v, h1, h2⟩ := Reps.get (i := i) b (by simpa using e)
      exact ⟨v, by simpa using h1, h2⟩
theorem Reps.getV : ∀ {ds : List D} {vs : List V} {i : Nat} {v : V}, Reps G μ H ds vs → vs[i]? = some v → ∃ d, ds[i]? = some d ∧ Rep G μ H d v
  | [], _, _, _, h, e => by cases h; simp at e
  | d :: ds, _, 0, _, h, e => by
    cases h with
    | cons a b => simp at e; subst e; exact ⟨_, rfl, a⟩
  | d :: ds, _, i + 1, _, h, e => by
    cases h with
    | cons a b =>
      obtain ⟨v, h1, h2⟩ := Reps.getV (i := i) b (by simpa using e)
      exact ⟨v, by simpa using h1, h2⟩
theorem Reps.append : ∀ {ds ds' : List D} {vs vs' : List V}, Reps G μ H ds vs → Reps G μ H ds' vs' → Reps G μ H (ds ++ ds') (vs ++ vs')
  | [], _, _, _, h, k => by cases h; exact k
  | d :: ds, _, _, _, h, k => by cases h with | cons a b => exact .cons a (Reps.append b k)
theorem Reps.rep {ds : List D} {vs : List V} (h : Reps G μ H ds vs) : ∀ n : Nat, Reps G μ H (List.replicate n ds).flatten (List.replicate n vs).flatten
  | 0 => .nil
  | n + 1 => by
    rw [List.replicate_succ, List.replicate_succ, List.flatten_cons, List.flatten_cons]
    exact h.append (Reps.rep h n)
theorem Reps.take : ∀ {ds : List D} {vs : List V} (n : Nat), Reps G μ H ds vs → Reps G μ H (ds.take n) (vs.take n)
  | _, _, 0, _ => by simp; exact .nil
  | [], _, _, h => by cases h; simp; exact .nil
  | d :: ds, _, n + 1, h => by cases h with | cons a b => simp; exact .cons a (Reps.take n b)
theorem Reps.drop : ∀ {ds : List D} {vs : List V} (n : Nat), Reps G μ H ds vs → Reps G μ H (ds.drop n) (vs.drop n)
  | _, _, 0, h => by simpa using h
  | [], _, _, h => by cases h; simp; exact .nil
  | d :: ds, _, n + 1, h => by cases h with | cons a b => simp; exact Reps.drop n b
theorem Reps.set {d : D} {v : V} (r : Rep G μ H d v) : ∀ {ds : List D} {vs : List V} (i : Nat), Reps G μ H ds vs → Reps G μ H (ds.set i d) (vs.set i v)
  | [], _, _, h => by cases h; simp; exact .nil
  | x :: ds, _, 0, h => by cases h with | cons a b => simp; exact .cons r b
  | x :: ds, _, i + 1, h => by cases h with | cons a b => simp; exact .cons a (Reps.set r i b)
theorem Reps.isEmpty {ds : List D} {vs : List V} (h : Reps G μ H ds vs) : ds.isEmpty = vs.isEmpty := by
  have := h.length
  cases ds <;> cases vs <;> simp at * 
theorem Reps.cut {ds : List D} {vs : List V} (h : Reps G μ H ds vs) (lo hi : Option Int) : Reps G μ H (cutD ds lo hi) (cutV vs lo hi) := by
  unfold cutD cutV
  rw [h.length]
  exact (h.drop _).take _
theorem Reps.at {ds : List D} {vs : List V} {k : Int} {d : D} (h : Reps G μ H ds vs) (e : atI ds k = some d) : ∃ v, atI vs k = some v ∧ Rep G μ H d v := by
  unfold atI at e ⊢
  rw [h.length] at e
  cases q : ixN vs.length k with
  | none => rw [q] at e; cases e
  | some j =>
    rw [q] at e
    exact h.get e
mutual
theorem Rep.data : ∀ (d : D) (v : V) (p : PyData), Rep G μ H d v → d.data = some p → Dp G.K H v p
  | .non, _, _, h, e => by cases h; cases e; exact .non
  | .bl b, _, _, h, e => by cases h; cases e; exact .bl b
  | .int i, _, _, h, e => by cases h; cases e; exact .int i
  | .str x, _, _, h, e => by cases h; cases e; exact .str x
  | .ty n, _, _, h, e => by cases e
  | .fn x, _, _, h, e => by cases e
  | .ref i, _, _, h, e => by cases e
  | .scr ns, _, _, h, e => by cases e
  | .emp, _, _, h, e => by cases e
  | .tup xs, _, p, h, e => by
    cases h with
    | tup a b =>
      unfold D.data at e
      cases q : D.datas xs with
      | none => rw [q] at e; cases e
      | some ps => rw [q] at e; cases e; exact .tup a.sq (Reps.datas xs _ ps b q)
  | .lst xs, _, p, h, e => by
    cases h with
    | lst a b =>
      unfold D.data at e
      cases q : D.datas xs with
      | none => rw [q] at e; cases e
      | some ps => rw [q] at e; cases e; exact .lst a.sq (Reps.datas xs _ ps b q)
theorem Reps.datas : ∀ (ds : List D) (vs : List V) (ps : List PyData), Reps G μ H ds vs → D.datas ds = some ps → DpAll G.K H vs ps
  | [], _, _, h, e => by cases h; cases e; exact .nil
  | d :: ds, _, _, h, e => by
    cases h with
    | cons a b =>
      unfold D.datas at e
      cases q : d.data with
      | none => rw [q] at e; cases e
      | some p =>
        cases q2 : D.datas ds with
        | none => rw [q, q2] at e; cases e
        | some ps => rw [q, q2] at e; cases e; exact .cons (Rep.data d _ p a q) (Reps.datas ds _ ps b q2)
end
end
/-! ### the changing objects, the slots -/
def HatOk (g s c : Int) : Prop := 0 ≤ g ∧ g < 2 ^ 1400 ∧ 0 ≤ s ∧ s < 2 ^ 62
def ORep (G : Glo) (μ : Mp) (H : Hp) (a : Addr) : MO → Prop
  | .lst xs => ∃ vs, H a = some (.lst vs) ∧ Reps G μ H xs vs
  | .hat => ∃ g s c, H a = some (.lst [.int g, .int s, .int c]) ∧ HatOk g s c
structure STR (G : Glo) (μ : Mp) (st : Sto) (H : Hp) : Prop where
  len : μ.m.length = st.length
  at_ : ∀ (i : Nat) (o : MO), st[i]? = some o → ∃ a, μ.m[i]? = some a ∧ ORep G μ H a o
  sub : ∀ a ∈ μ.m, a ∈ μ.M
  nd : μ.m.Nodup
  tr : ∀ a ∈ μ.M, H a ≠ none
structure SR (G : Glo) (μ : Mp) (e : Ev) (σ : L2.St) (H : Hp) : Prop where
  len : e.length = σ.length
  slot : ∀ (i : Nat) (d : D), e[i]? = some (some d) → ∃ v, σ[i]? = some (some v) ∧ Rep G μ H d v
theorem SR.gr {G : Glo} {μ μ' : Mp} {H H' : Hp} {e : Ev} {σ : L2.St} (s : SR G μ e σ H) (g : Gr μ H μ' H') : SR G μ' e σ H' :=
  ⟨s.len, fun i d h => let ⟨v, h1, h2⟩ := s.slot i d h; ⟨v, h1, h2.gr g⟩⟩
theorem SR.set {G : Glo} {μ : Mp} {H : Hp} {e : Ev} {σ : L2.St} {d : D} {v : V} (s : SR G μ e σ H) (i : Nat) (r : Rep G μ H d v) : SR G μ (e.set i (some d)) (σ.set i (some v)) H := by
  refine ⟨by simp [s.len], fun j x h => ?_⟩
  by_cases hj : i = j
  · subst hj
    have hl : i < e.length := by
      have := (List.getElem?_eq_some_iff.mp h).1
      simpa using this
    rw [List.getElem?_set_self hl] at h
    cases h
    exact ⟨v, by rw [List.getElem?_set_self (by rw [← s.len]; exact hl)], r⟩
  · rw [List.getElem?_set_ne hj] at h ⊢
    exact s.slot j x h
theorem ORep.same {G : Glo} {μ μ' : Mp} {H H' : Hp} {a : Addr} {o : MO} (h : ORep G μ H a o) (g : Gr μ H μ' H') (e : H' a = H a) : ORep G μ' H' a o := by
  cases o with
  | lst xs => obtain ⟨vs, h1, h2⟩ := h; exact ⟨vs, e.trans h1, h2.gr g⟩
  | hat => obtain ⟨x, y, z, h1, h2⟩ := h; exact ⟨x, y, z, e.trans h1, h2⟩
theorem STR.same {G : Glo} {μ : Mp} {H H' : Hp} {st : Sto} (s : STR G μ st H) (g : Gr μ H μ H') (e : ∀ a ∈ μ.m, H' a = H a) : STR G μ st H' := by
  refine ⟨s.len, fun i o h => ?_, s.sub, s.nd, fun a h z => s.tr a h (g.there a z)⟩
  obtain ⟨a, h1, h2⟩ := s.at_ i o h
  exact ⟨a, h1, h2.same g (e a (List.mem_of_getElem? h1))⟩
theorem Gr.new_ {μ : Mp} {H : Hp} {p : Addr} {o : HO} (s : ∀ a ∈ μ.m, a ∈ μ.M) (h : H p = none) : Gr μ H μ (upd H p o) := by
  refine ⟨fun a u e _ => by rw [upd_ne (ne_of_none e h)]; exact e, fun a e => ?_, ⟨[], by simp, by simp⟩, fun _ h => h, fun _ h => .inl h, s⟩
  by_cases z : a = p
  · subst z; exact h
  · rw [upd_ne z] at e; exact e
theorem STR.new_ {G : Glo} {μ : Mp} {H : Hp} {st : Sto} {p : Addr} {o : HO} (s : STR G μ st H) (h : H p = none) : STR G μ st (upd H p o) :=
  s.same (Gr.new_ s.sub h) fun a ha => upd_ne fun z => by subst z; exact s.tr _ (s.sub _ ha) h
/-- a new tuple, a new list -/
theorem Rep.tup_new {G : Glo} {μ : Mp} {H : Hp} {st : Sto} {p : Addr} {xs : List D} {vs : List V} (s : STR G μ st H) (h : H p = none) (r : Reps G μ H xs vs) : Rep G μ (upd H p (.tup vs)) (.tup xs) (.ref p) :=
  .tup (.inl ⟨fun z => s.tr _ z h, .inl upd_same⟩) (r.gr (Gr.new_ s.sub h))
theorem Rep.lst_new {G : Glo} {μ : Mp} {H : Hp} {st : Sto} {p : Addr} {xs : List D} {vs : List V} (s : STR G μ st H) (h : H p = none) (r : Reps G μ H xs vs) : Rep G μ (upd H p (.lst vs)) (.lst xs) (.ref p) :=
  .lst ⟨fun z => s.tr _ z h, upd_same⟩ (r.gr (Gr.new_ s.sub h))

/-! ### a value, or a changing list as it is now -/
inductive RV (G : Glo) (μ : Mp) (H : Hp) : D → V → Prop
  | rep {d : D} {v : V} : Rep G μ H d v → RV G μ H d v
  | lst {a : Addr} {vs : List V} {xs : List D} : H a = some (.lst vs) → Reps G μ H xs vs → RV G μ H (.lst xs) (.ref a)
inductive RVs (G : Glo) (μ : Mp) (H : Hp) : List D → List V → Prop
  | nil : RVs G μ H [] []
  | cons {d : D} {v : V} {ds : List D} {vs : List V} : RV G μ H d v → RVs G μ H ds vs → RVs G μ H (d :: ds) (v :: vs)
theorem RVs.one {G : Glo} {μ : Mp} {H : Hp} {x : D} {vs : List V} (h : RVs G μ H [x] vs) : ∃ v, vs = [v] ∧ RV G μ H x v := by
  cases h with
  | cons a b => cases b; exact ⟨_, rfl, a⟩
theorem RVs.two {G : Glo} {μ : Mp} {H : Hp} {x y : D} {vs : List V} (h : RVs G μ H [x, y] vs) : ∃ v w, vs = [v, w] ∧ RV G μ H x v ∧ RV G μ H y w := by
  cases h with
  | cons a b =>
    obtain ⟨w, rfl, c⟩ := b.one
    exact ⟨_, _, rfl, a, c⟩
theorem STR.drf {G : Glo} {μ : Mp} {H : Hp} {st : Sto} {x : D} {v : V} (t : STR G μ st H) (r : Rep G μ H x v) : RV G μ H (Gw.drf st x) v := by
  cases x <;> first | exact .rep r | skip
  rename_i i
  cases r with
  | ref e =>
    show RV G μ H (match st[i]? with
      | some (.lst xs) => .lst xs
      | _ => .ref i) _
    cases hs : st[i]? with
    | none => exact .rep (.ref e)
    | some o =>
      cases o with
      | hat => exact .rep (.ref e)
      | lst xs =>
        obtain ⟨a, h1, vs, h2, h3⟩ := t.at_ i _ hs
        rw [e] at h1
        cases h1
        exact .lst h2 h3
theorem STR.drfs {G : Glo} {μ : Mp} {H : Hp} {st : Sto} (t : STR G μ st H) : ∀ {ds : List D} {vs : List V}, Reps G μ H ds vs → RVs G μ H (ds.map (Gw.drf st)) vs
  | [], _, h => by cases h; exact .nil
  | _ :: _, _, h => by cases h with | cons a b => exact .cons (t.drf a) (t.drfs b)
section
variable {G : Glo} {μ : Mp} {H : Hp} {v : V}
theorem RV.int {i : Int} (r : RV G μ H (.int i) v) : v = .int i := by cases r with | rep r => cases r; rfl
theorem RV.bl {i : Bool} (r : RV G μ H (.bl i) v) : v = .bl i := by cases r with | rep r => cases r; rfl
theorem RV.str {i : Str} (r : RV G μ H (.str i) v) : v = .str i := by cases r with | rep r => cases r; rfl
theorem RV.non (r : RV G μ H .non v) : v = .non := by cases r with | rep r => cases r; rfl
theorem RV.ty {n : String} (r : RV G μ H (.ty n) v) : v = .ty n := by cases r with | rep r => cases r; rfl
theorem RV.tup {xs : List D} (r : RV G μ H (.tup xs) v) : ∃ a vs, v = .ref a ∧ TpM G μ H a vs ∧ Reps G μ H xs vs := by cases r with | rep r => cases r with | tup a b => exact ⟨_, _, rfl, a, b⟩
theorem RV.scr {ns : List Int} (r : RV G μ H (.scr ns) v) : ∃ a, v = .ref a ∧ ScM G μ H a (ns.map V.int) := by cases r with | rep r => cases r with | scr a => exact ⟨_, rfl, a⟩
theorem RV.lstE {xs : List D} (r : RV G μ H (.lst xs) v) : ∃ a vs, v = .ref a ∧ H a = some (.lst vs) ∧ Reps G μ H xs vs := by
  cases r with
  | rep r => cases r with | lst a b => exact ⟨_, _, rfl, a.2, b⟩
  | lst a b => exact ⟨_, _, rfl, a, b⟩
theorem RV.emp (r : RV G μ H .emp v) : ∃ a, v = .ref a ∧ Rd H a (.dK []) := by cases r with | rep r => cases r with | emp a b => exact ⟨_, rfl, b⟩
theorem RV.data {d : D} {p : PyData} (r : RV G μ H d v) (e : d.data = some p) : Dp G.K H v p := by
  cases r with
  | rep r => exact r.data _ _ _ e
  | @lst a vs xs h q =>
    unfold D.data at e
    cases hq : D.datas xs with
    | none => rw [hq] at e; cases e
    | some ps => rw [hq] at e; cases e; exact .lst (.inl (.inl h)) (Reps.datas xs _ ps q hq)
theorem RV.isNon {d : D} (r : RV G μ H d v) : decide (v = .non) = d.isNon := by
  cases r with
  | rep r => cases r <;> rfl
  | lst a b => rfl
end
/-! ### readings by trees -/
def RepX (G : Glo) (μ : Mp) (H : Hp) (x : Str) (d : D) (cls : Value) (dd : Option Addr) : Prop :=
  ∃ C, G.mg x = some (.ref C) ∧ cls = .ref C ∧ match G.fld x with
    | none => dd = none
    | some f => ∃ dx v, dd = some dx ∧ H dx = some (.xd [(f, v)]) ∧ Rep G μ H d v
def KE {α β : Type} (G : Glo) (R : Mp → Hp → α → β → Prop) (μ : Mp) (H : Hp) (Q : β → Hp → Prop) : α → Sto → Prop :=
  fun d st' => ∀ μ' H' x, Gr μ H μ' H' → STR G μ' st' H' → R μ' H' d x → Q x H'
def KX (G : Glo) (W : WX) (σ : L2.St) (μ : Mp) (H : Hp) : Str → D → Sto → Prop :=
  fun e d st' => ∀ μ' H' cls dd, Gr μ H μ' H' → STR G μ' st' H' → RepX G μ' H' e d cls dd → W cls dd σ H'
/-- the reading of a tree of α, told as β -/
def tG {α β : Type} (G : Glo) (R : Mp → Hp → α → β → Prop) (W : WX) (den : Ev → M α) : L2.St → Hp → (β → Hp → Prop) → Prop :=
  fun σ H Q => ∃ μ e st, SR G μ e σ H ∧ STR G μ st H ∧ (den e st).All (KE G R μ H Q) (KX G W σ μ H)
abbrev tE (G : Glo) (W : WX) (den : Ev → M D) : TE := tG G (Rep G) W den
abbrev tL (G : Glo) (W : WX) (den : Ev → M (List D)) : TA := tG G (Reps G) W den
abbrev tB (G : Glo) (W : WX) (den : Ev → M Bool) : TT := tG G (fun _ _ a b => a = b) W den
theorem KE.gr {α β : Type} {G : Glo} {R : Mp → Hp → α → β → Prop} {μ μ1 : Mp} {H H1 : Hp} {Q : β → Hp → Prop} {a : α} {st : Sto} (g : Gr μ H μ1 H1) (h : KE G R μ H Q a st) : KE G R μ1 H1 Q a st :=
  fun μ' H' x g' s r => h μ' H' x (g.trans g') s r
theorem KX.gr {G : Glo} {W : WX} {σ : L2.St} {μ μ1 : Mp} {H H1 : Hp} {x : Str} {d : D} {st : Sto} (g : Gr μ H μ1 H1) (h : KX G W σ μ H x d st) : KX G W σ μ1 H1 x d st :=
  fun μ' H' c dd g' s r => h μ' H' c dd (g.trans g') s r
/-- one part, then the rest -/
theorem tG_then {α β γ δ : Type} {G : Glo} {R : Mp → Hp → α → β → Prop} {R' : Mp → Hp → γ → δ → Prop} {W : WX} {da : Ev → M α} {f : α → Sto → Tr γ} {μ : Mp} {e : Ev} {st : Sto} {σ : L2.St} {H : Hp} {Q : δ → Hp → Prop} {P : β → Hp → Prop}
    (s : SR G μ e σ H) (t : STR G μ st H) (h : ((da e st).bind f).All (KE G R' μ H Q) (KX G W σ μ H))
    (k : ∀ μ1 H1 d st1 x, Gr μ H μ1 H1 → SR G μ1 e σ H1 → STR G μ1 st1 H1 → R μ1 H1 d x → (f d st1).All (KE G R' μ1 H1 Q) (KX G W σ μ1 H1) → P x H1) : tG G R W da σ H P := by
  refine ⟨μ, e, st, s, t, Tr.All_mono (fun d st1 hq μ1 H1 x g t1 r => ?_) (fun _ _ _ z => z) _ ((Tr.All_bind _).mp h)⟩
  exact k μ1 H1 d st1 x g (s.gr g) t1 r (Tr.All_mono (fun _ _ z => KE.gr g z) (fun _ _ _ z => KX.gr g z) _ hq)
theorem KE.here {α β : Type} {G : Glo} {R : Mp → Hp → α → β → Prop} {μ : Mp} {H : Hp} {Q : β → Hp → Prop} {a : α} {st : Sto} {x : β} (h : KE G R μ H Q a st) (t : STR G μ st H) (r : R μ H a x) : Q x H :=
  h μ H x (Gr.refl t.sub) t r
theorem optM_some {α : Type} {o : Option α} {st : Sto} {P : α → Sto → Prop} {E : Str → D → Sto → Prop} (h : (optM o st).All P E) : ∃ a, o = some a ∧ P a st := by
  cases o with
  | none => exact h.elim
  | some a => exact ⟨a, rfl, h⟩
theorem PE.conv {X : Cx} {e : Expr} {t t' : TE} (h : PE X e t) (k : ∀ σ H Q, t' σ H Q → t σ H Q) : PE X e t' := ⟨fun pins s σ H Q I q => h.run pins s σ H Q I (k σ H Q q)⟩
theorem PT.conv {X : Cx} {e : Expr} {t t' : TT} (h : PT X e t) (k : ∀ σ H Q, t' σ H Q → t σ H Q) : PT X e t' := ⟨fun pins s σ H Q I q => h.run pins s σ H Q I (k σ H Q q)⟩
theorem PA.conv {X : Cx} {e : List Expr} {t t' : TA} (h : PA X e t) (k : ∀ σ H Q, t' σ H Q → t σ H Q) : PA X e t' := ⟨fun pos pins s σ H Q I q => h.run pos pins s σ H Q I (k σ H Q q)⟩
theorem PS.conv {X : Cx} {e : Stmt} {t t' : TS} (h : PS X e t) (k : ∀ D σ H, t' D σ H → t D σ H) : PS X e t' := ⟨fun pins s σ H D I q => h.run pins s σ H D I (k D σ H q)⟩
theorem PSs.conv {X : Cx} {e : List Stmt} {t t' : TS} (h : PSs X e t) (k : ∀ D σ H, t' D σ H → t D σ H) : PSs X e t' := ⟨fun pins s σ H D I q => h.run pins s σ H D I (k D σ H q)⟩
end Gw

set_option Elab.async false
set_option linter.all false
set_option maxRecDepth 100000
set_option maxHeartbeats 1000000
/-! Gw3: operators and built-ins by values. -/
namespace Gw
open PySem PySem.Spec PyProof.Rows L2
set_option maxHeartbeats 4000000 in
theorem tuple_mul_same (l : Addr) (items : Array Value) (n : Nat) (dd : Option Addr) (sl : Array (Option Value)) (x : Int) (u : Tok) (c0 : (decide (x < -(2 ^ 63)) || decide (x ≥ 2 ^ 63)) = false) (c1 : (items.isEmpty || x == 1) = true) :
    Meets (Builtin.«tuple.__mul__» ⟨[.ref l, .int x u], []⟩) (fun _ R s => s.heap.get? l = some { cls := .type "tuple", dict := dd, data := .seq items n, slots := sl } ∧ R (.ok (.ret (Value.ref l))) s) :=
  .of_wp fun prog w A R s h => by
    obtain ⟨hp, g, d, tk, os⟩ := s
    obtain ⟨hl, h⟩ := h
    have f1 := AutoSeq1.idx_int
    wp_walk using wpAny_loadPart' hl
    repeat (first
      | (refine wpAny_ite_false (decide_eq_false (by rw [c0]; exact Bool.false_ne_true)) ?_; wp_walk using wpAny_loadPart' hl)
      | (refine wpAny_ite_true (decide_eq_true c1) ?_; wp_walk using wpAny_loadPart' hl))
    exact ⟨_, rfl, h⟩
theorem tuple_mul_none (l : Addr) (items : Array Value) (n : Nat) (dd : Option Addr) (sl : Array (Option Value)) (x : Int) (u : Tok) (c0 : (decide (x < -(2 ^ 63)) || decide (x ≥ 2 ^ 63)) = false) (c1 : (items.isEmpty || x == 1) = false) (c2 : (decide (x ≤ 0) || items.isEmpty) = true) :
    Meets (Builtin.«tuple.__mul__» ⟨[.ref l, .int x u], []⟩) (fun _ R s => s.heap.get? l = some { cls := .type "tuple", dict := dd, data := .seq items n, slots := sl } ∧ R (.ok (.ret (Value.ref s.heap.objs.size))) { s with heap := s.heap.push { cls := Value.type "tuple", data := Data.seq #[] }, toks := s.toks }) :=
  .of_wp fun prog w A R s h => by
    obtain ⟨hp, g, d, tk, os⟩ := s
    obtain ⟨hl, h⟩ := h
    have f1 := AutoSeq1.idx_int
    wp_walk using wpAny_loadPart' hl
    repeat (first
      | (refine wpAny_ite_false (decide_eq_false (by rw [c0]; exact Bool.false_ne_true)) ?_; wp_walk using wpAny_loadPart' hl)
      | (refine wpAny_ite_false (decide_eq_false (by rw [c1]; exact Bool.false_ne_true)) ?_; wp_walk using wpAny_loadPart' hl)
      | (refine wpAny_ite_true (decide_eq_true c2) ?_; wp_walk using wpAny_loadPart' hl))
    exact ⟨_, rfl, h⟩
def rRepS (K : PySem.W.Frag) : R2 := fun x y H Q => ∃ l k xs, x = .ref l ∧ y = .int k ∧ SqT K H l xs ∧ (xs = [] ∨ k = 1) ∧ -1000 ≤ k ∧ k ≤ 1000 ∧ Q (.ref l) H
def rRep0 (K : PySem.W.Frag) : R2 := fun x y H Q => ∃ l k xs, x = .ref l ∧ y = .int k ∧ SqT K H l xs ∧ xs ≠ [] ∧ -1000 ≤ k ∧ k ≤ 0 ∧ ∀ p, H p = none → Q (.ref p) (upd H p (.tup []))
theorem op_repS {X : Cx} : OpR X (binaryOp .Mult) (rRepS X.K) := by
  intro pins s σ H x y v u Q I rx ry h
  obtain ⟨l, k, xs, rfl, rfl, hT, hne, h1, h2, q⟩ := h
  cases rx
  obtain ⟨t, rfl⟩ := ry
  obtain ⟨its, r, ⟨⟨cls, dd, data, sl⟩, ho, hc, n, hd⟩, hs⟩ := I.tuple hT
  simp only at hc hd
  subst hc hd
  have hle : its.length = xs.length := r.length.symm
  have c0 : (decide (k < -(2 ^ 63)) || decide (k ≥ 2 ^ 63)) = false := by
    rw [decide_eq_false (by omega), decide_eq_false (by omega)] <;> rfl
  have c1 : (its.toArray.isEmpty || k == 1) = true := by
    rcases hne with rfl | rfl
    · have : its = [] := List.eq_nil_of_length_eq_zero hle
      rw [this]; rfl
    · rw [show ((1 : Int) == 1) = true from rfl, Bool.or_true]
  exact wpAny_binaryOp_repeat_ref (T := "tuple") (U := "int") (by decide) ⟨_, ho, rfl⟩ (fun s' => typeIs_int s' k t) noFill_tuple_mul F.fills_int_mul F.slot_int_rmul repeat_tuple F.slot_int_index.lookup
    (call_meets F.slot_int_rmul (typeIs_int s k t) F.entry_int_rmul (F.args_int_rmul_2 _ _) (int_rmul_tuple k t l its.toArray n dd sl)
      ⟨ho, rfl, ⟨_, ho, rfl⟩, call_meets F.slot_tuple_mul ⟨_, ho, rfl⟩ F.entry_tuple_mul (F.args_tuple_mul_2 _ _) (tuple_mul_same l its.toArray n dd sl k t c0 c1) ⟨ho, ⟨.ref l, H, I, rfl, q⟩⟩⟩)
theorem op_rep0 {X : Cx} : OpR X (binaryOp .Mult) (rRep0 X.K) := by
  intro pins s σ H x y v u Q I rx ry h
  obtain ⟨l, k, xs, rfl, rfl, hT, hne, h1, h2, q⟩ := h
  cases rx
  obtain ⟨t, rfl⟩ := ry
  obtain ⟨its, r, ⟨⟨cls, dd, data, sl⟩, ho, hc, n, hd⟩, hs⟩ := I.tuple hT
  simp only at hc hd
  subst hc hd
  have hle : its.length = xs.length := r.length.symm
  have hn : its ≠ [] := fun e => hne (by
    rw [e] at hle
    exact List.eq_nil_of_length_eq_zero hle.symm)
  have hi : its.toArray.isEmpty = false := by
    cases its with
    | nil => exact absurd rfl hn
    | cons a b => rfl
  have c0 : (decide (k < -(2 ^ 63)) || decide (k ≥ 2 ^ 63)) = false := by
    rw [decide_eq_false (by omega), decide_eq_false (by omega)] <;> rfl
  have c1 : (its.toArray.isEmpty || k == 1) = false := by
    rw [hi, Bool.false_or]
    exact beq_eq_false_iff_ne.mpr (by omega)
  have c2 : (decide (k ≤ 0) || its.toArray.isEmpty) = true := by rw [decide_eq_true h2]; rfl
  refine wpAny_binaryOp_repeat_ref (T := "tuple") (U := "int") (by decide) ⟨_, ho, rfl⟩ (fun s' => typeIs_int s' k t) noFill_tuple_mul F.fills_int_mul F.slot_int_rmul repeat_tuple F.slot_int_index.lookup
    (call_meets F.slot_int_rmul (typeIs_int s k t) F.entry_int_rmul (F.args_int_rmul_2 _ _) (int_rmul_tuple k t l its.toArray n dd sl)
      ⟨ho, rfl, ⟨_, ho, rfl⟩, call_meets F.slot_tuple_mul ⟨_, ho, rfl⟩ F.entry_tuple_mul (F.args_tuple_mul_2 _ _) (tuple_mul_none l its.toArray n dd sl k t c0 c1 c2) ⟨ho, ?_⟩⟩)
  refine ⟨.ref s.heap.objs.size, _, I.laid (t' := s.toks) (o := .tup []) (fun b ob q => Heap.get?_push_of_some _ q) (Nat.le_refl _) ?_, rfl, q _ (I.hok.fresh (Nat.le_refl _))⟩
  exact ⟨Nat.zero_le _, [], .nil, IsTup.new _ _⟩
section
variable {G : Glo} {X : Cx} {W : WX}
/-- what an operator over plain values asks -/
def rD (G : Glo) (f : D → D → Option D) : R2 := fun v w H Q => ∃ μ st x y z, STR G μ st H ∧ RV G μ H x v ∧ RV G μ H y w ∧ f x y = some z ∧ KE G (Rep G) μ H Q z st
theorem KE.tup {μ : Mp} {H : Hp} {Q : VK} {st : Sto} {xs : List D} {vs : List V} {p : Addr} (k : KE G (Rep G) μ H Q (.tup xs) st) (t : STR G μ st H) (r : Reps G μ H xs vs) (h : H p = none) : Q (.ref p) (upd H p (.tup vs)) :=
  k μ _ _ (Gr.new_ t.sub h) (t.new_ h) (Rep.tup_new t h r)
theorem KE.lst {μ : Mp} {H : Hp} {Q : VK} {st : Sto} {xs : List D} {vs : List V} {p : Addr} (k : KE G (Rep G) μ H Q (.lst xs) st) (t : STR G μ st H) (r : Reps G μ H xs vs) (h : H p = none) : Q (.ref p) (upd H p (.lst vs)) :=
  k μ _ _ (Gr.new_ t.sub h) (t.new_ h) (Rep.lst_new t h r)
theorem if_some {α : Type} {c : Prop} [Decidable c] {a z : α} (h : (if c then some a else none) = some z) : c ∧ a = z := by
  split at h
  · rename_i hc; exact ⟨hc, Option.some.inj h⟩
  · cases h
theorem okMul_ok {i j : Int} (h : okMul i j = true) : IntMulOk i j := by
  unfold okMul at h
  simp only [Bool.or_eq_true, decide_eq_true_eq] at h
  rcases h with (h | h) | h
  · exact CMul.ok (.inl (by omega))
  · exact CMul.ok (.inr (by omega))
  · exact CMulW.ok h
theorem op_mulO : OpR X (binaryOp .Mult) (rI (fun i j => okMul i j = true) fun i j => .int (i * j)) := opI fun i j _ _ _ _ _ hc q => by
  exact mul_int q (okMul_ok hc)
theorem op_fdivO : OpR X (binaryOp .FloorDiv) (rI (fun _ j => okDiv j = true) fun i j => .int (i.fdiv j)) := opI fun _ j _ _ _ _ _ hc q => by
  obtain ⟨h1, h2⟩ := Bool.and_eq_true_iff.mp (show (decide (j ≠ 0) && decide (j.natAbs.log2 < 9000)) = true from hc)
  exact floordiv_int (of_decide_eq_true h1) q (.inl (PyProof.noPylong_of_log2 (of_decide_eq_true h2)))
theorem op_powO : OpR X (binaryOp .Pow) (rI (fun i j => okPow i j = true) fun i j => .int (i ^ j.toNat)) := opI fun i j _ _ _ _ _ hc q => by
  obtain ⟨h1, h2⟩ := Bool.and_eq_true_iff.mp (show (decide (0 ≤ j) && decide ((Builtin.Int.intBits i : Int) * j ≤ 2 ^ 27)) = true from hc)
  exact pow_int (of_decide_eq_true h1) (of_decide_eq_true h2) q
theorem flat_nil {α : Type} (n : Nat) : (List.replicate n ([] : List α)).flatten = [] := by
  induction n with
  | zero => rfl
  | succ n ih => rw [List.replicate_succ, List.flatten_cons, ih]; rfl
theorem bin_ok (hK : G.K = X.K) : ∀ (o : Operator), OpR X (binaryOp o) (rD G (binD o)) := by
  intro o pins s σ H v w u1 u2 Q I q1 q2 ⟨μ, st, x, y, z, t, rx, ry, e, k⟩
  cases o with
  | Add =>
    cases x <;> cases y <;> first | (cases e; done) | skip
    · cases e; cases rx.int; cases ry.int
      exact op_add pins s σ H _ _ u1 u2 Q I q1 q2 ⟨_, _, rfl, rfl, k.here t (.int _)⟩
    · obtain ⟨hc, rfl⟩ := if_some e
      cases rx.str; cases ry.str
      exact op_add_str pins s σ H _ _ u1 u2 Q I q1 q2 ⟨_, _, rfl, rfl, of_decide_eq_true hc, k.here t (.str _)⟩
    · obtain ⟨hc, rfl⟩ := if_some e
      obtain ⟨a, vs, rfl, a1, r1⟩ := rx.tup
      obtain ⟨b, ws, rfl, a2, r2⟩ := ry.tup
      refine op_catA pins s σ H _ _ u1 u2 Q I q1 q2 ⟨a, b, vs, ws, rfl, rfl, hK ▸ a1.sq, hK ▸ a2.sq, by rw [← r1.length, ← r2.length]; exact of_decide_eq_true hc, fun z => ?_, fun _ z => ?_, fun _ _ p hp => k.tup t (r1.append r2) hp⟩
      · subst z
        cases r1
        exact k.here t (.tup a2 r2)
      · subst z
        cases r2
        rw [List.append_nil] at k
        exact k.here t (.tup a1 r1)
    · obtain ⟨hc, rfl⟩ := if_some e
      obtain ⟨a, vs, rfl, a1, r1⟩ := rx.lstE
      obtain ⟨b, ws, rfl, a2, r2⟩ := ry.lstE
      exact op_cat pins s σ H _ _ u1 u2 Q I q1 q2 ⟨a, b, vs, ws, rfl, rfl, a1, a2, by rw [← r1.length, ← r2.length]; exact of_decide_eq_true hc, fun p hp => k.lst t (r1.append r2) hp⟩
  | Sub =>
    cases x <;> cases y <;> first | (cases e; done) | skip
    cases e; cases rx.int; cases ry.int
    exact op_sub pins s σ H _ _ u1 u2 Q I q1 q2 ⟨_, _, rfl, rfl, k.here t (.int _)⟩
  | Mult =>
    cases x <;> cases y <;> first | (cases e; done) | skip
    · obtain ⟨hc, rfl⟩ := if_some e
      cases rx.int; cases ry.int
      exact op_mulO pins s σ H _ _ u1 u2 Q I q1 q2 ⟨_, _, rfl, rfl, hc, k.here t (.int _)⟩
    · obtain ⟨hc, rfl⟩ := if_some e
      simp only [Bool.and_eq_true, decide_eq_true_eq] at hc
      cases ry.int
      rename_i xs n
      obtain ⟨a, vs, rfl, a1, r1⟩ := rx.tup
      by_cases c : vs = [] ∨ n = 1
      · refine op_repS pins s σ H _ _ u1 u2 Q I q1 q2 ⟨a, n, vs, rfl, rfl, hK ▸ a1.sq, c, hc.1, hc.2.1, ?_⟩
        have e2 : (List.replicate n.toNat xs).flatten = xs := by
          rcases c with c | c
          · subst c
            cases r1
            exact flat_nil _
          · subst c
            show (List.replicate 1 xs).flatten = xs
            simp
        rw [e2] at k
        exact k.here t (.tup a1 r1)
      · by_cases c2 : n ≤ 0
        · refine op_rep0 pins s σ H _ _ u1 u2 Q I q1 q2 ⟨a, n, vs, rfl, rfl, hK ▸ a1.sq, fun z => c (.inl z), hc.1, c2, fun p hp => ?_⟩
          have e2 : (List.replicate n.toNat xs).flatten = [] := by rw [show n.toNat = 0 by omega]; rfl
          rw [e2] at k
          exact k.tup t .nil hp
        · exact op_repT pins s σ H _ _ u1 u2 Q I q1 q2 ⟨a, n, vs, rfl, rfl, hK ▸ a1.sq, fun z => c (.inl z), by omega, hc.2.1, by rw [← r1.length]; exact hc.2.2, fun p hp => k.tup t (r1.rep _) hp⟩
  | FloorDiv =>
    cases x <;> cases y <;> first | (cases e; done) | skip
    obtain ⟨hc, rfl⟩ := if_some e
    cases rx.int; cases ry.int
    exact op_fdivO pins s σ H _ _ u1 u2 Q I q1 q2 ⟨_, _, rfl, rfl, hc, k.here t (.int _)⟩
  | Mod =>
    cases x <;> cases y <;> first | (cases e; done) | skip
    obtain ⟨hc, rfl⟩ := if_some e
    cases rx.int; cases ry.int
    exact op_modN pins s σ H _ _ u1 u2 Q I q1 q2 ⟨_, _, rfl, rfl, of_decide_eq_true hc, k.here t (.int _)⟩
  | Pow =>
    cases x <;> cases y <;> first | (cases e; done) | skip
    obtain ⟨hc, rfl⟩ := if_some e
    cases rx.int; cases ry.int
    exact op_powO pins s σ H _ _ u1 u2 Q I q1 q2 ⟨_, _, rfl, rfl, hc, k.here t (.int _)⟩
  | _ => cases x <;> cases y <;> cases e
theorem cmp_ok (hK : G.K = X.K) (hu : X.A.units + 64 < cLine) : ∀ (o : CmpOp), OpR X (compareOp o) (rD G (cmpD o)) := by
  intro o pins s σ H v w u1 u2 Q I q1 q2 ⟨μ, st, x, y, z, t, rx, ry, e, k⟩
  have eqs : ∀ b, x.eq? y = some b → ∃ p q, Dp X.K H v p ∧ Dp X.K H w q ∧ SeqAt.shaped p = true ∧ SeqAt.shaped q = true ∧ PyData.eqv p q = b := by
    intro b hb
    unfold D.eq? at hb
    cases hx : x.data with
    | none => rw [hx] at hb; cases hb
    | some p =>
      cases hy : y.data with
      | none => rw [hx, hy] at hb; cases hb
      | some q =>
        rw [hx, hy] at hb
        obtain ⟨hc, e⟩ := if_some hb
        obtain ⟨h1, h2⟩ := Bool.and_eq_true_iff.mp hc
        exact ⟨p, q, hK ▸ rx.data hx, hK ▸ ry.data hy, h1, h2, e⟩
  cases o with
  | Eq =>
    obtain ⟨b, hb, rfl⟩ := Option.map_eq_some_iff.mp e
    obtain ⟨p, q, h1, h2, h3, h4, rfl⟩ := eqs b hb
    exact op_eqD hu pins s σ H _ _ u1 u2 Q I q1 q2 ⟨p, q, h1, h2, h3, h4, k.here t (.bl _)⟩
  | NotEq =>
    obtain ⟨b, hb, rfl⟩ := Option.map_eq_some_iff.mp e
    obtain ⟨p, q, h1, h2, h3, h4, rfl⟩ := eqs b hb
    exact op_neD hu pins s σ H _ _ u1 u2 Q I q1 q2 ⟨p, q, h1, h2, h3, h4, k.here t (.bl _)⟩
  | Lt =>
    cases x <;> cases y <;> first | (cases e; done) | skip
    cases e; cases rx.int; cases ry.int
    exact op_lt pins s σ H _ _ u1 u2 Q I q1 q2 ⟨_, _, rfl, rfl, k.here t (.bl _)⟩
  | LtE =>
    cases x <;> cases y <;> first | (cases e; done) | skip
    cases e; cases rx.int; cases ry.int
    exact op_le pins s σ H _ _ u1 u2 Q I q1 q2 ⟨_, _, rfl, rfl, k.here t (.bl _)⟩
  | Gt =>
    cases x <;> cases y <;> first | (cases e; done) | skip
    cases e; cases rx.int; cases ry.int
    exact op_gt pins s σ H _ _ u1 u2 Q I q1 q2 ⟨_, _, rfl, rfl, k.here t (.bl _)⟩
  | GtE =>
    cases x <;> cases y <;> first | (cases e; done) | skip
    cases e; cases rx.int; cases ry.int
    exact op_ge pins s σ H _ _ u1 u2 Q I q1 q2 ⟨_, _, rfl, rfl, k.here t (.bl _)⟩
  | Is =>
    cases y <;> first | (cases x <;> cases e; done) | skip
    · have e' : z = .bl x.isNon := by cases x <;> cases e <;> rfl
      subst e'
      cases ry.non
      refine op_isN pins s σ H _ _ u1 u2 Q I q1 q2 ⟨rfl, ?_⟩
      rw [rx.isNon]
      exact k.here t (.bl _)
    · cases x <;> first | (cases e; done) | skip
      cases e; cases rx.bl; cases ry.bl
      exact op_is_bl pins s σ H _ _ u1 u2 Q I q1 q2 ⟨_, _, rfl, rfl, k.here t (.bl _)⟩
  | IsNot =>
    cases y <;> first | (cases x <;> cases e; done) | skip
    · have e' : z = .bl (!x.isNon) := by cases x <;> cases e <;> rfl
      subst e'
      cases ry.non
      refine op_notN pins s σ H _ _ u1 u2 Q I q1 q2 ⟨rfl, ?_⟩
      rw [rx.isNon]
      exact k.here t (.bl _)
    · cases x <;> first | (cases e; done) | skip
      cases e; cases rx.bl; cases ry.bl
      exact op_isnot_bl pins s σ H _ _ u1 u2 Q I q1 q2 ⟨_, _, rfl, rfl, k.here t (.bl _)⟩
  | _ => cases x <;> cases y <;> cases e
/-- one argument -/
def rD1 (G : Glo) (f : D → Option D) : V → Hp → VK → Prop := fun v H Q => ∃ μ st x z, STR G μ st H ∧ RV G μ H x v ∧ f x = some z ∧ KE G (Rep G) μ H Q z st
theorem neg_ok : UnR X (unaryOp .USub) (rD1 G negD) := by
  intro pins s σ H v u Q I q hh
  obtain ⟨μ, st, x, z, t, rx, e, k⟩ := hh
  cases x <;> first | (cases e; done) | skip
  cases e; cases rx.int
  exact un_neg pins s σ H _ u Q I q ⟨_, rfl, k.here t (.int _)⟩
theorem atI_map {α β : Type} (f : α → β) (xs : List α) (k : Int) : atI (xs.map f) k = (atI xs k).map f := by
  unfold atI
  rw [List.length_map]
  cases ixN xs.length k with
  | none => rfl
  | some j => exact List.getElem?_map
theorem ix_ok (hK : G.K = X.K) : IxR X (rD G ixD) := by
  intro value slice pins s σ H v w u1 u2 Q I q1 q2 hh hp
  obtain ⟨μ, st, x, y, z, t, rx, ry, e, k⟩ := hh
  cases x <;> cases y <;> first | (cases e; done) | skip
  · cases ry.int
    obtain ⟨a, vs, rfl, a1, r1⟩ := rx.tup
    obtain ⟨v, h1, h2⟩ := r1.at e
    exact ix_tup value slice pins s σ H _ _ u1 u2 Q I q1 q2 ⟨a, vs, _, v, rfl, rfl, hK ▸ a1.sq, h1, k.here t h2⟩ hp
  · cases ry.int
    obtain ⟨a, vs, rfl, a1, r1⟩ := rx.lstE
    obtain ⟨v, h1, h2⟩ := r1.at e
    exact ix_list value slice pins s σ H _ _ u1 u2 Q I q1 q2 ⟨a, vs, _, v, rfl, rfl, .inl (.inl a1), h1, k.here t h2⟩ hp
  · cases ry.int
    obtain ⟨a, rfl, a1⟩ := rx.scr
    obtain ⟨n, h1, rfl⟩ := Option.map_eq_some_iff.mp e
    refine ix_list value slice pins s σ H _ _ u1 u2 Q I q1 q2 ⟨a, _, _, .int n, rfl, rfl, hK ▸ a1.sq, ?_, k.here t (.int _)⟩ hp
    rw [atI_map, h1]
    rfl
theorem truth_ok (hK : G.K = X.K) {μ : Mp} {H : Hp} {x : D} {v : V} {b : Bool} (r : RV G μ H x v) (e : x.truth = some b) : TruV X.K v H b := by
  cases x with
  | non => cases e; cases r.non; rfl
  | bl b => cases e; cases r.bl; rfl
  | int i => cases e; cases r.int; rfl
  | str y =>
    obtain ⟨hc, rfl⟩ := if_some e
    cases r.str
    exact ⟨hc, rfl⟩
  | tup xs =>
    obtain ⟨a, vs, rfl, a1, r1⟩ := r.tup
    cases e
    exact .inr (.inl ⟨vs, hK ▸ a1.sq, by rw [r1.isEmpty]⟩)
  | lst xs =>
    obtain ⟨a, vs, rfl, a1, r1⟩ := r.lstE
    cases e
    exact .inl ⟨vs, .inl (.inl a1), by rw [r1.isEmpty]⟩
  | _ => cases e
theorem sl_lstT : SlR X (fun x lo hi H Q => rSlA X.K x lo hi H Q ∨ rSlL X.K x lo hi H Q) := sl_tupA.or sl_list
theorem cut_whole {α : Type} (xs : List α) : (xs.drop 0).take xs.length = xs := by rw [List.drop_zero, List.take_length]
/-- slices by values -/
theorem sl_of (hK : G.K = X.K) {μ : Mp} {H : Hp} {st : Sto} {x l h z : D} {v : V} {lo hi : Option Int} {Q : VK} (t : STR G μ st H) (r : RV G μ H x v) (el : partD l = some lo) (eh : partD h = some hi) (e : slD x l h = some z) (k : KE G (Rep G) μ H Q z st) :
    rSlA X.K v lo hi H Q ∨ rSlL X.K v lo hi H Q := by
  unfold slD at e
  rw [el, eh] at e
  cases x with
  | tup xs =>
    obtain ⟨a, vs, rfl, a1, r1⟩ := r.tup
    cases e
    refine .inl ⟨a, vs, rfl, hK ▸ a1.sq, fun hw => ?_, fun _ p hp => k.tup t (r1.cut lo hi) hp⟩
    have ec : cutD xs lo hi = xs := by
      unfold cutD
      rw [r1.length, hw.1, hw.2, Nat.sub_zero, ← r1.length]
      exact cut_whole xs
    rw [ec] at k
    exact k.here t (.tup a1 r1)
  | lst xs =>
    obtain ⟨a, vs, rfl, a1, r1⟩ := r.lstE
    cases e
    exact .inr ⟨a, vs, rfl, .inl (.inl a1), fun p hp => k.lst t (r1.cut lo hi) hp⟩
  | _ => cases e
end
end Gw

set_option Elab.async false
set_option linter.all false
set_option maxRecDepth 100000
set_option maxHeartbeats 1000000
/-! Gw4: built-ins by values. -/
namespace Gw
open PySem PySem.Spec PyProof.Rows L2
def D.ints : List D → Option (List Int)
  | [] => some []
  | .int i :: r => (D.ints r).map fun l => i :: l
  | _ => none
def D.bools : List D → Option (List Bool)
  | [] => some []
  | .bl i :: r => (D.bools r).map fun l => i :: l
  | _ => none
def D.tyName : D → Option String
  | .non => some "NoneType"
  | .bl _ => some "bool"
  | .int _ => some "int"
  | .str _ => some "str"
  | .tup _ => some "tuple"
  | .lst _ => some "list"
  | .scr _ => some "list"
  | .emp => some "dict"
  | _ => none
def tyIs : String → String → Option Bool
  | "int", "int" => some true | "bool", "int" => some true | "str", "int" => some false | "tuple", "int" => some false | "list", "int" => some false | "NoneType", "int" => some false
  | "bool", "bool" => some true | "int", "bool" => some false | "str", "bool" => some false | "tuple", "bool" => some false | "list", "bool" => some false | "NoneType", "bool" => some false
  | "tuple", "tuple" => some true | "int", "tuple" => some false | "bool", "tuple" => some false | "str", "tuple" => some false | "list", "tuple" => some false | "NoneType", "tuple" => some false
  | "str", "str" => some true | "int", "str" => some false | "bool", "str" => some false | "tuple", "str" => some false | "list", "str" => some false | "NoneType", "str" => some false
  | "list", "list" => some true | "int", "list" => some false | "bool", "list" => some false | "tuple", "list" => some false | "str", "list" => some false | "NoneType", "list" => some false
  | "dict", "int" => some false | "dict", "bool" => some false | "dict", "tuple" => some false | "dict", "str" => some false | "dict", "list" => some false
  | _, _ => none
def lenD : List D → Option D
  | [.tup xs] => some (.int xs.length)
  | [.lst xs] => some (.int xs.length)
  | [.scr ns] => some (.int ns.length)
  | [.str s] => if decide (s.length ≤ sizeLine) then some (.int s.length) else none
  | _ => none
def absD : List D → Option D
  | [.int i] => some (.int (if i < 0 then -i else i))
  | _ => none
def maxD : List D → Option D
  | [.int i, .int j] => some (.int (if j > i then j else i))
  | _ => none
def minD : List D → Option D
  | [.int i, .int j] => some (.int (if j < i then j else i))
  | _ => none
def intD : List D → Option D
  | [.int i] => some (.int i)
  | [.bl k] => some (.int (if k then 1 else 0))
  | _ => none
def tupleD : List D → Option D
  | [.tup xs] => some (.tup xs)
  | [.lst xs] => some (.tup xs)
  | _ => none
def listD : List D → Option D
  | [.tup xs] => some (.lst xs)
  | [.lst xs] => some (.lst xs)
  | _ => none
def sumD : List D → Option D
  | [.lst xs] => (D.ints xs).map fun ns => .int ns.sum
  | _ => none
def allD : List D → Option D
  | [.lst xs] => (D.bools xs).map fun bs => .bl (bs.all id)
  | _ => none
def anyD : List D → Option D
  | [.lst xs] => (D.bools xs).map fun bs => .bl (bs.any id)
  | _ => none
def isiD : List D → Option D
  | [x, .ty n] => (x.tyName.bind fun t => tyIs t n).map .bl
  | _ => none
section
variable {G : Glo} {X : Cx} {μ : Mp} {H : Hp}
theorem ints_eq : ∀ {xs : List D} {ns : List Int}, D.ints xs = some ns → xs = ns.map .int
  | [], _, h => by cases h; rfl
  | .int i :: r, _, h => by
    obtain ⟨l, h1, rfl⟩ := Option.map_eq_some_iff.mp h
    rw [ints_eq h1]
    rfl
  | .non :: _, _, h | .bl _ :: _, _, h | .str _ :: _, _, h | .tup _ :: _, _, h | .lst _ :: _, _, h | .ref _ :: _, _, h | .fn _ :: _, _, h | .ty _ :: _, _, h | .scr _ :: _, _, h | .emp :: _, _, h => by cases h
theorem bools_eq : ∀ {xs : List D} {ns : List Bool}, D.bools xs = some ns → xs = ns.map .bl
  | [], _, h => by cases h; rfl
  | .bl i :: r, _, h => by
    obtain ⟨l, h1, rfl⟩ := Option.map_eq_some_iff.mp h
    rw [bools_eq h1]
    rfl
  | .non :: _, _, h | .int _ :: _, _, h | .str _ :: _, _, h | .tup _ :: _, _, h | .lst _ :: _, _, h | .ref _ :: _, _, h | .fn _ :: _, _, h | .ty _ :: _, _, h | .scr _ :: _, _, h | .emp :: _, _, h => by cases h
theorem ints_map : ∀ ns : List Int, D.ints (ns.map .int) = some ns
  | [] => rfl
  | i :: r => by
    show (D.ints (r.map .int)).map _ = _
    rw [ints_map r]
    rfl
theorem bools_map : ∀ ns : List Bool, D.bools (ns.map .bl) = some ns
  | [] => rfl
  | i :: r => by
    show (D.bools (r.map .bl)).map _ = _
    rw [bools_map r]
    rfl
theorem Reps.ints : ∀ {ns : List Int} {vs : List V}, Reps G μ H (ns.map .int) vs → vs = ns.map V.int
  | [], _, h => by cases h; rfl
  | n :: ns, _, h => by
    cases h with
    | cons a b => cases a; rw [Reps.ints b]; rfl
theorem Reps.bools : ∀ {ns : List Bool} {vs : List V}, Reps G μ H (ns.map .bl) vs → vs = ns.map V.bl
  | [], _, h => by cases h; rfl
  | n :: ns, _, h => by
    cases h with
    | cons a b => cases a; rw [Reps.bools b]; rfl
theorem Reps.one {x : D} {vs : List V} (h : Reps G μ H [x] vs) : ∃ v, vs = [v] ∧ Rep G μ H x v := by
  cases h with
  | cons a b => cases b; exact ⟨_, rfl, a⟩
theorem Reps.two {x y : D} {vs : List V} (h : Reps G μ H [x, y] vs) : ∃ v w, vs = [v, w] ∧ Rep G μ H x v ∧ Rep G μ H y w := by
  cases h with
  | cons a b =>
    obtain ⟨w, rfl, c⟩ := b.one
    exact ⟨_, _, rfl, a, c⟩
/-- what a built-in over plain values asks -/
def rL (G : Glo) (f : List D → Option D) : List V → Hp → VK → Prop := fun vs H Q => ∃ μ st ds z, STR G μ st H ∧ RVs G μ H ds vs ∧ f ds = some z ∧ KE G (Rep G) μ H Q z st
theorem one_of {f : List D → Option D} {ds : List D} {z : D} (h : f ds = some z) (h0 : f [] = none) (h2 : ∀ x y r, f (x :: y :: r) = none) : ∃ x, ds = [x] := by
  match ds with
  | [] => rw [h0] at h; cases h
  | [x] => exact ⟨x, rfl⟩
  | x :: y :: r => rw [h2] at h; cases h
theorem two_of {f : List D → Option D} {ds : List D} {z : D} (h : f ds = some z) (h0 : f [] = none) (h1 : ∀ x, f [x] = none) (h2 : ∀ x y w r, f (x :: y :: w :: r) = none) : ∃ x y, ds = [x, y] := by
  match ds with
  | [] => rw [h0] at h; cases h
  | [x] => rw [h1] at h; cases h
  | [x, y] => exact ⟨x, y, rfl⟩
  | x :: y :: w :: r => rw [h2] at h; cases h
theorem len_ok (hK : G.K = X.K) : CallR X (.builtin "len") (rL G lenD) := by
  intro pins s σ H xs us Q I r hh
  obtain ⟨μ, st, ds, z, t, rs, e, k⟩ := hh
  obtain ⟨x, rfl⟩ := one_of e rfl (fun x y r => by cases x <;> rfl)
  obtain ⟨v, rfl, rx⟩ := rs.one
  cases x with
  | str y =>
    obtain ⟨hc, rfl⟩ := if_some e
    cases rx.str
    exact call_len pins s σ H _ us Q I r ⟨_, _, rfl, ⟨of_decide_eq_true hc, rfl⟩, k.here t (.int _)⟩
  | tup xs =>
    obtain ⟨a, vs, rfl, a1, r1⟩ := rx.tup
    cases e
    exact call_len pins s σ H _ us Q I r ⟨_, xs.length, rfl, .inr ⟨vs, hK ▸ a1.sq, r1.length⟩, k.here t (.int _)⟩
  | lst xs =>
    obtain ⟨a, vs, rfl, a1, r1⟩ := rx.lstE
    cases e
    exact call_len pins s σ H _ us Q I r ⟨_, xs.length, rfl, .inl ⟨vs, .inl (.inl a1), r1.length⟩, k.here t (.int _)⟩
  | scr ns =>
    obtain ⟨a, rfl, a1⟩ := rx.scr
    cases e
    exact call_len pins s σ H _ us Q I r ⟨_, ns.length, rfl, .inl ⟨_, hK ▸ a1.sq, by rw [List.length_map]⟩, k.here t (.int _)⟩
  | _ => cases e
theorem abs_ok : CallR X (.builtin "abs") (rL G absD) := by
  intro pins s σ H xs us Q I r hh
  obtain ⟨μ, st, ds, z, t, rs, e, k⟩ := hh
  obtain ⟨x, rfl⟩ := one_of e rfl (fun x y r => by cases x <;> rfl)
  obtain ⟨v, rfl, rx⟩ := rs.one
  cases x with
  | int i => cases e; cases rx.int; exact call_abs pins s σ H _ us Q I r ⟨_, rfl, k.here t (.int _)⟩
  | _ => cases e
theorem max_ok (hc : X.calm = true) : CallR X (.builtin "max") (rL G maxD) := by
  intro pins s σ H xs us Q I r hh
  obtain ⟨μ, st, ds, z, t, rs, e, k⟩ := hh
  obtain ⟨x, y, rfl⟩ := two_of e rfl (fun x => by cases x <;> rfl) (fun x y w r => by cases x <;> cases y <;> rfl)
  obtain ⟨v, w, rfl, rx, ry⟩ := rs.two
  cases x <;> cases y <;> first | (cases e; done) | skip
  cases e; cases rx.int; cases ry.int
  exact call_max2 hc pins s σ H _ us Q I r ⟨_, _, rfl, k.here t (.int _)⟩
theorem min_ok (hc : X.calm = true) : CallR X (.builtin "min") (rL G minD) := by
  intro pins s σ H xs us Q I r hh
  obtain ⟨μ, st, ds, z, t, rs, e, k⟩ := hh
  obtain ⟨x, y, rfl⟩ := two_of e rfl (fun x => by cases x <;> rfl) (fun x y w r => by cases x <;> cases y <;> rfl)
  obtain ⟨v, w, rfl, rx, ry⟩ := rs.two
  cases x <;> cases y <;> first | (cases e; done) | skip
  cases e; cases rx.int; cases ry.int
  exact call_min2 hc pins s σ H _ us Q I r ⟨_, _, rfl, k.here t (.int _)⟩
theorem int_ok : CallR X (.type "int") (rL G intD) := by
  intro pins s σ H xs us Q I r hh
  obtain ⟨μ, st, ds, z, t, rs, e, k⟩ := hh
  obtain ⟨x, rfl⟩ := one_of e rfl (fun x y r => by cases x <;> rfl)
  obtain ⟨v, rfl, rx⟩ := rs.one
  cases x with
  | int i => cases e; cases rx.int; exact call_int1 pins s σ H _ us Q I r (.inl ⟨_, rfl, k.here t (.int _)⟩)
  | bl i => cases e; cases rx.bl; exact call_int1 pins s σ H _ us Q I r (.inr ⟨_, rfl, k.here t (.int _)⟩)
  | _ => cases e
theorem tuple_ok (hK : G.K = X.K) : CallR X (.type "tuple") (rL G tupleD) := by
  intro pins s σ H xs us Q I r hh
  obtain ⟨μ, st, ds, z, t, rs, e, k⟩ := hh
  obtain ⟨x, rfl⟩ := one_of e rfl (fun x y r => by cases x <;> rfl)
  obtain ⟨v, rfl, rx⟩ := rs.one
  cases x with
  | tup xs =>
    obtain ⟨a, vs, rfl, a1, r1⟩ := rx.tup
    cases e
    exact call_tuple_of pins s σ H _ us Q I r ⟨a, vs, rfl, .inr ⟨hK ▸ a1.sq, k.here t (.tup a1 r1)⟩⟩
  | lst xs =>
    obtain ⟨a, vs, rfl, a1, r1⟩ := rx.lstE
    cases e
    exact call_tuple_of pins s σ H _ us Q I r ⟨a, vs, rfl, .inl ⟨.inl (.inl a1), fun p hp => k.tup t r1 hp⟩⟩
  | _ => cases e
theorem list_ok (hK : G.K = X.K) : CallR X (.type "list") (rL G listD) := by
  intro pins s σ H xs us Q I r hh
  obtain ⟨μ, st, ds, z, t, rs, e, k⟩ := hh
  obtain ⟨x, rfl⟩ := one_of e rfl (fun x y r => by cases x <;> rfl)
  obtain ⟨v, rfl, rx⟩ := rs.one
  cases x with
  | tup xs =>
    obtain ⟨a, vs, rfl, a1, r1⟩ := rx.tup
    cases e
    exact call_list_of pins s σ H _ us Q I r ⟨a, vs, rfl, .inr (hK ▸ a1.sq), fun p hp => k.lst t r1 hp⟩
  | lst xs =>
    obtain ⟨a, vs, rfl, a1, r1⟩ := rx.lstE
    cases e
    exact call_list_of pins s σ H _ us Q I r ⟨a, vs, rfl, .inl (.inl (.inl a1)), fun p hp => k.lst t r1 hp⟩
  | _ => cases e
theorem sum_ok (hK : G.K = X.K) (hc : X.calm = true) : CallR X (.builtin "sum") (rL G sumD) := by
  intro pins s σ H xs us Q I r hh
  obtain ⟨μ, st, ds, z, t, rs, e, k⟩ := hh
  obtain ⟨x, rfl⟩ := one_of e rfl (fun x y r => by cases x <;> rfl)
  obtain ⟨v, rfl, rx⟩ := rs.one
  cases x with
  | lst xs =>
    obtain ⟨a, vs, rfl, a1, r1⟩ := rx.lstE
    obtain ⟨ns, h1, rfl⟩ := Option.map_eq_some_iff.mp e
    rw [ints_eq h1] at r1
    refine cr_sum hc pins s σ H _ us Q I r ⟨a, ns, rfl, ?_, k.here t (.int _)⟩
    rw [← r1.ints]
    exact .inl (.inl a1)
  | _ => cases e
theorem all_ok (hK : G.K = X.K) (hc : X.calm = true) : CallR X (.builtin "all") (rL G allD) := by
  intro pins s σ H xs us Q I r hh
  obtain ⟨μ, st, ds, z, t, rs, e, k⟩ := hh
  obtain ⟨x, rfl⟩ := one_of e rfl (fun x y r => by cases x <;> rfl)
  obtain ⟨v, rfl, rx⟩ := rs.one
  cases x with
  | lst xs =>
    obtain ⟨a, vs, rfl, a1, r1⟩ := rx.lstE
    obtain ⟨ns, h1, rfl⟩ := Option.map_eq_some_iff.mp e
    rw [bools_eq h1] at r1
    refine cr_all hc pins s σ H _ us Q I r ⟨a, ns, rfl, ?_, k.here t (.bl _)⟩
    rw [← r1.bools]
    exact .inl (.inl a1)
  | _ => cases e
theorem any_ok (hK : G.K = X.K) (hc : X.calm = true) : CallR X (.builtin "any") (rL G anyD) := by
  intro pins s σ H xs us Q I r hh
  obtain ⟨μ, st, ds, z, t, rs, e, k⟩ := hh
  obtain ⟨x, rfl⟩ := one_of e rfl (fun x y r => by cases x <;> rfl)
  obtain ⟨v, rfl, rx⟩ := rs.one
  cases x with
  | lst xs =>
    obtain ⟨a, vs, rfl, a1, r1⟩ := rx.lstE
    obtain ⟨ns, h1, rfl⟩ := Option.map_eq_some_iff.mp e
    rw [bools_eq h1] at r1
    refine cr_any hc pins s σ H _ us Q I r ⟨a, ns, rfl, ?_, k.here t (.bl _)⟩
    rw [← r1.bools]
    exact .inl (.inl a1)
  | _ => cases e
theorem tyIs_ok {t n : String} {b : Bool} (h : tyIs t n = some b) : kitB t n = some b := by
  unfold tyIs at h
  split at h <;> first | (cases h; decide +kernel) | cases h
theorem tyX_of (hK : G.K = X.K) {x : D} {v : V} {n : String} (r : RV G μ H x v) (e : x.tyName = some n) : TyX X.K H v (.type n) := by
  cases x with
  | non => cases e; cases r.non; exact .base .non
  | bl b => cases e; cases r.bl; exact .base (.bl b)
  | int i => cases e; cases r.int; exact .base (.int i)
  | str y => cases e; cases r.str; exact .base (.str y)
  | tup xs =>
    obtain ⟨a, vs, rfl, a1, r1⟩ := r.tup
    cases e
    rcases a1 with ⟨_, h | ⟨o, h⟩⟩ | ⟨o, its, n, h1, h2, _⟩
    · exact .base (.tup h)
    · exact .fTuple h
    · exact .kTuple (hK ▸ h1) h2
  | lst xs =>
    obtain ⟨a, vs, rfl, a1, r1⟩ := r.lstE
    cases e
    exact .base (.lst a1)
  | scr ns =>
    obtain ⟨a, rfl, a1⟩ := r.scr
    cases e
    rcases a1 with ⟨_, h | ⟨o, h⟩⟩ | ⟨o, its, n, h1, h2, _⟩
    · exact .base (.lst h)
    · exact .base (.frz h)
    · exact .kList (hK ▸ h1) h2
  | emp =>
    obtain ⟨a, rfl, h | ⟨o, h⟩⟩ := r.emp
    · cases e; exact .base (.dK h)
    · cases e; exact .fDict h
  | _ => cases e
theorem isi_ok (hK : G.K = X.K) : CallR X (.builtin "isinstance") (rL G isiD) := by
  intro pins s σ H xs us Q I r hh
  obtain ⟨μ, st, ds, z, t, rs, e, k⟩ := hh
  obtain ⟨x, y, rfl⟩ := two_of e rfl (fun x => by cases x <;> rfl) (fun x y w r => by cases y <;> rfl)
  obtain ⟨v, w, rfl, rx, ry⟩ := rs.two
  cases y with
  | ty n =>
    cases ry.ty
    obtain ⟨b, h1, rfl⟩ := Option.map_eq_some_iff.mp e
    obtain ⟨tn, h2, h3⟩ := Option.bind_eq_some_iff.mp h1
    exact call_isi pins s σ H _ us Q I r ⟨v, _, _, _, b, rfl, .ty n, tyX_of hK rx h2, kit_ty (tyIs_ok h3), k.here t (.bl _)⟩
  | _ => cases e
end
/-- the built-ins that may be called -/
def bis : List (Str × Value × (List D → Option D)) := [("len", .builtin "len", lenD), ("abs", .builtin "abs", absD), ("max", .builtin "max", maxD), ("min", .builtin "min", minD), ("int", .type "int", intD), ("tuple", .type "tuple", tupleD),
  ("list", .type "list", listD), ("sum", .builtin "sum", sumD), ("all", .builtin "all", allD), ("any", .builtin "any", anyD), ("isinstance", .builtin "isinstance", isiD)]
theorem bis_ok {G : Glo} {X : Cx} (hK : G.K = X.K) (hc : X.calm = true) {x : Str} {f : Value} {φ : List D → Option D} (h : (x, f, φ) ∈ bis) : bootBuiltins x = some f ∧ ((∃ id, f = .builtin id) ∨ ∃ T, f = .type T) ∧ x ≠ "__name__" ∧ (x == ("__debug__" : Str)) = false ∧ CallR X f (rL G φ) := by
  unfold bis at h
  simp only [List.mem_cons, List.not_mem_nil, or_false, Prod.mk.injEq] at h
  rcases h with ⟨rfl, rfl, rfl⟩ | ⟨rfl, rfl, rfl⟩ | ⟨rfl, rfl, rfl⟩ | ⟨rfl, rfl, rfl⟩ | ⟨rfl, rfl, rfl⟩ | ⟨rfl, rfl, rfl⟩ | ⟨rfl, rfl, rfl⟩ | ⟨rfl, rfl, rfl⟩ | ⟨rfl, rfl, rfl⟩ | ⟨rfl, rfl, rfl⟩ | ⟨rfl, rfl, rfl⟩
  · exact ⟨by decide +kernel, .inl ⟨_, rfl⟩, by decide, by decide, len_ok hK⟩
  · exact ⟨by decide +kernel, .inl ⟨_, rfl⟩, by decide, by decide, abs_ok⟩
  · exact ⟨by decide +kernel, .inl ⟨_, rfl⟩, by decide, by decide, max_ok hc⟩
  · exact ⟨by decide +kernel, .inl ⟨_, rfl⟩, by decide, by decide, min_ok hc⟩
  · exact ⟨by decide +kernel, .inr ⟨_, rfl⟩, by decide, by decide, int_ok⟩
  · exact ⟨by decide +kernel, .inr ⟨_, rfl⟩, by decide, by decide, tuple_ok hK⟩
  · exact ⟨by decide +kernel, .inr ⟨_, rfl⟩, by decide, by decide, list_ok hK⟩
  · exact ⟨by decide +kernel, .inl ⟨_, rfl⟩, by decide, by decide, sum_ok hK hc⟩
  · exact ⟨by decide +kernel, .inl ⟨_, rfl⟩, by decide, by decide, all_ok hK hc⟩
  · exact ⟨by decide +kernel, .inl ⟨_, rfl⟩, by decide, by decide, any_ok hK hc⟩
  · exact ⟨by decide +kernel, .inl ⟨_, rfl⟩, by decide, by decide, isi_ok hK⟩
end Gw

set_option Elab.async false
set_option linter.all false
set_option maxRecDepth 100000
set_option maxHeartbeats 1000000
/-! Gw5: targets, walks, comprehensions, loops by readings. -/
namespace Gw
open PySem PySem.Spec PyProof.Rows L2
/-! ### targets -/
def T.slots : T → List Nat
  | .nm i => [i]
  | .nil => []
  | .cons t ts => t.slots ++ ts.slots
def T.len : T → Nat
  | .cons _ ts => ts.len + 1
  | _ => 0
def gT (G : Glo) (t : T) : TG := fun v σ H Q => ∃ μ e st d e', SR G μ e σ H ∧ STR G μ st H ∧ Rep G μ H d v ∧ t.bind d e = some e' ∧
  ∀ σ', σ'.length = σ.length → (∀ j, j ∉ t.slots → σ'[j]? = σ[j]?) → SR G μ e' σ' H → Q σ' H
def gTs (G : Glo) (t : T) : TGs := fun vs σ H Q => ∃ μ e st ds e', SR G μ e σ H ∧ STR G μ st H ∧ Reps G μ H ds vs ∧ t.bind (.tup ds) e = some e' ∧
  ∀ σ', σ'.length = σ.length → (∀ j, j ∉ t.slots → σ'[j]? = σ[j]?) → SR G μ e' σ' H → Q σ' H
def T.isTup : T → Bool
  | .nm _ => false
  | .nil => true
  | .cons _ ts => ts.isTup
theorem T.bind_len : ∀ {t : T} {ds : List D} {e e' : Ev}, t.isTup = true → t.bind (.tup ds) e = some e' → ds.length = t.len
  | .nm _, _, _, _, h, _ => by cases h
  | .nil, [], _, _, _, _ => rfl
  | .nil, _ :: _, _, _, _, h => by cases h
  | .cons t ts, [], _, _, _, h => by cases h
  | .cons t ts, d :: ds, e, e', h, b => by
    have b' : ((t.bind d e).bind fun e1 => ts.bind (.tup ds) e1) = some e' := b
    obtain ⟨e1, h1, h2⟩ := Option.bind_eq_some_iff.mp b'
    show ds.length + 1 = ts.len + 1
    rw [T.bind_len (t := ts) h h2]
theorem PG.conv {X : Cx} {e : Expr} {t t' : TG} (h : PG X e t) (k : ∀ v σ H Q, t' v σ H Q → t v σ H Q) : PG X e t' := ⟨fun pins s σ H v u Q I r q => h.run pins s σ H v u Q I r (k _ _ _ _ q)⟩
theorem PGs.conv {X : Cx} {e : List Expr} {t t' : TGs} (h : PGs X e t) (k : ∀ v σ H Q, t' v σ H Q → t v σ H Q) : PGs X e t' := ⟨fun pins s σ H v u Q I r q => h.run pins s σ H v u Q I r (k _ _ _ _ q)⟩
section
variable {G : Glo} {X : Cx} {W : WX}
theorem nm_ok {i : Nat} {x : Str} {pos : Pos} (h : PG X (.Name x pos) (gName i)) : PG X (.Name x pos) (gT G (.nm i)) := by
  refine PG.conv h fun v σ H Q hh => ?_
  obtain ⟨μ, e, st, d, e', s, t, r, b, k⟩ := hh
  cases b
  refine k _ (by simp) (fun j hj => ?_) (s.set i r)
  rw [List.getElem?_set_ne]
  intro z
  exact hj (by simp [T.slots, z])
theorem tnil_ok : PGs X [] (gTs G .nil) := by
  refine PGs.conv pgs_nil fun vs σ H Q hh => ?_
  obtain ⟨μ, e, st, ds, e', s, t, r, b, k⟩ := hh
  cases ds with
  | nil =>
    cases b
    cases r
    exact ⟨rfl, k σ rfl (fun _ _ => rfl) s⟩
  | cons d ds => cases b
theorem tcons_ok {e0 : Expr} {es : List Expr} {t0 ts : T} (h1 : PG X e0 (gT G t0)) (h2 : PGs X es (gTs G ts)) (hs : (assignEach (e0 :: es) X.env).map (·.2) = assign e0 X.env :: (assignEach es X.env).map (·.2)) : PGs X (e0 :: es) (gTs G (.cons t0 ts)) := by
  refine PGs.conv (pgs_cons h1 h2 hs) fun vs σ H Q hh => ?_
  obtain ⟨μ, e, st, ds, e', s, t, r, b, k⟩ := hh
  cases ds with
  | nil => cases b
  | cons d ds =>
    have b' : ((t0.bind d e).bind fun e1 => ts.bind (.tup ds) e1) = some e' := b
    obtain ⟨e1, b1, b2⟩ := Option.bind_eq_some_iff.mp b'
    cases r with
    | cons r1 r2 =>
      refine ⟨_, _, rfl, μ, e, st, d, e1, s, t, r1, b1, fun σ1 hl1 hj1 s1 => ?_⟩
      refine ⟨μ, e1, st, ds, e', s1, t, r2, b2, fun σ2 hl2 hj2 s2 => k σ2 (hl2.trans hl1) (fun j hj => ?_) s2⟩
      have hj' : j ∉ t0.slots ++ ts.slots := hj
      rw [List.mem_append, not_or] at hj'
      rw [hj2 j hj'.2, hj1 j hj'.1]
theorem T.bind_lst : ∀ {t : T} {ds : List D} {e : Ev}, t.isTup = true → t.bind (.lst ds) e = t.bind (.tup ds) e
  | .nm _, _, _, h => by cases h
  | .nil, [], _, _ => rfl
  | .nil, _ :: _, _, _ => rfl
  | .cons t ts, [], _, _ => rfl
  | .cons t ts, d :: ds, _, _ => rfl
theorem PG.or {X : Cx} {e : Expr} {t t' : TG} (h : PG X e t) (h' : PG X e t') : PG X e fun v σ H Q => t v σ H Q ∨ t' v σ H Q :=
  ⟨fun pins s σ H v u Q I r q => q.elim (fun q => h.run pins s σ H v u Q I r q) fun q => h'.run pins s σ H v u Q I r q⟩
theorem ttup_ok {es : List Expr} {ts : T} {k : Nat} {pos : Pos} (hK : G.K = X.K) (hc : X.calm = true) (ht : ts.isTup = true) (h : PGs X es (gTs G ts)) (hn : (assignEach es X.env).length = ts.len) (hst : (assignEach es X.env).findIdx? (·.1) = none) : PG X (.Tuple es k pos) (gT G ts) := by
  refine PG.conv (Gw.PG.or (pg_tup hc h hn hst) (pg_lst hc h hn hst)) fun v σ H Q hh => ?_
  obtain ⟨μ, e, st, d, e', s, t, r, b, kk⟩ := hh
  have hd : ∃ ds, d = .tup ds ∨ d = .lst ds := by
    cases ts with
    | nm i => cases ht
    | nil => cases d <;> first | exact ⟨_, .inl rfl⟩ | exact ⟨_, .inr rfl⟩ | cases b
    | cons a c => cases d <;> first | exact ⟨_, .inl rfl⟩ | exact ⟨_, .inr rfl⟩ | cases b
  obtain ⟨ds, hd⟩ := hd
  rcases hd with rfl | rfl
  · cases r with
    | @tup a vs _ a1 r1 =>
      exact .inl ⟨a, vs, rfl, hK ▸ a1.sq, by rw [← r1.length]; exact T.bind_len ht b, μ, e, st, ds, e', s, t, r1, b, kk⟩
  · rw [T.bind_lst ht] at b
    cases r with
    | @lst a vs _ a1 r1 =>
      exact .inr ⟨a, vs, rfl, hK ▸ a1.sq, by rw [← r1.length]; exact T.bind_len ht b, μ, e, st, ds, e', s, t, r1, b, kk⟩

/-! ### what is walked -/
/-- J walks the items xs while the heap grows from (μ, H) -/
def ItOk (G : Glo) (μ : Mp) (H : Hp) (xs : List D) (J : It) : Prop := ∃ (Gd : Hp → Prop) (Y : Nat → Hp → V → Hp → Prop), Walk J xs.length Gd Y ∧ (∀ μ2 H2, Gr μ H μ2 H2 → Gd H2) ∧
  ∀ μ2 H2 st2 (i : Nat) v H3, Gr μ H μ2 H2 → STR G μ2 st2 H2 → i < xs.length → Y i H2 v H3 → Gr μ2 H2 μ2 H3 ∧ STR G μ2 st2 H3 ∧ (∀ a o, H2 a = some o → H3 a = some o) ∧ ∃ d, xs[i]? = some d ∧ Rep G μ2 H3 d v
def iG (G : Glo) (W : WX) (den : Ev → M (List D)) : TI := fun σ H R => ∃ μ e st, SR G μ e σ H ∧ STR G μ st H ∧
  (den e st).All (fun xs st' => ∀ μ' H' J, Gr μ H μ' H' → STR G μ' st' H' → ItOk G μ' H' xs J → R J H') (KX G W σ μ H)
theorem PI.conv {X : Cx} {tg e : Expr} {t t' : TI} (h : PI X tg e t) (k : ∀ σ H R, t' σ H R → t σ H R) : PI X tg e t' := ⟨fun pins s σ H R I q => h.run pins s σ H R I (k _ _ _ q)⟩
theorem itok_list {μ : Mp} {H : Hp} {a : Addr} {vs : List V} {xs : List D} (hK : G.K = X.K) (h : LsM G μ H a vs) (r : Reps G μ H xs vs) : ItOk G μ H xs (Itl X.K a) := by
  refine ⟨fun H => SqL X.K H a vs, YAt vs, by rw [r.length]; exact walk_list, fun μ2 H2 g => hK ▸ (h.gr g).sq, fun μ2 H2 st2 i v H3 g t hi y => ?_⟩
  obtain ⟨rfl, hv⟩ := y
  obtain ⟨d, h1, h2⟩ := (r.gr g).getV hv
  exact ⟨Gr.refl t.sub, t, fun _ _ z => z, d, h1, h2⟩
theorem itok_tup {μ : Mp} {H : Hp} {a : Addr} {vs : List V} {xs : List D} (hK : G.K = X.K) (h : TpM G μ H a vs) (r : Reps G μ H xs vs) : ItOk G μ H xs (Itt X.K a) := by
  refine ⟨fun H => SqT X.K H a vs, YAt vs, by rw [r.length]; exact walk_tup, fun μ2 H2 g => hK ▸ (h.gr g).sq, fun μ2 H2 st2 i v H3 g t hi y => ?_⟩
  obtain ⟨rfl, hv⟩ := y
  obtain ⟨d, h1, h2⟩ := (r.gr g).getV hv
  exact ⟨Gr.refl t.sub, t, fun _ _ z => z, d, h1, h2⟩
theorem itok_range {μ : Mp} {H : Hp} {lo hi : Int} : ItOk G μ H (rangeD lo hi) (Itr lo (hi - lo).toNat) := by
  have hl : (rangeD lo hi).length = (hi - lo).toNat := by simp [rangeD]
  refine ⟨fun _ => True, _, by rw [hl]; exact walk_range, fun _ _ _ => True.intro, fun μ2 H2 st2 i v H3 g t hi' y => ?_⟩
  obtain ⟨rfl, rfl⟩ := y
  refine ⟨Gr.refl t.sub, t, fun _ _ z => z, .int (lo + i), ?_, .int _⟩
  rw [hl] at hi'
  simp [rangeD, hi']
theorem pair_new {μ2 : Mp} {H2 : Hp} {st2 : Sto} {p : Addr} {x y : V} {a b : D} (t : STR G μ2 st2 H2) (hp : H2 p = none) (ra : Rep G μ2 H2 a x) (rb : Rep G μ2 H2 b y) :
    Gr μ2 H2 μ2 (upd H2 p (.tup [x, y])) ∧ STR G μ2 st2 (upd H2 p (.tup [x, y])) ∧ (∀ a o, H2 a = some o → (upd H2 p (.tup [x, y])) a = some o) ∧ Rep G μ2 (upd H2 p (.tup [x, y])) (.tup [a, b]) (.ref p) :=
  ⟨Gr.new_ t.sub hp, t.new_ hp, fun c o e => by rw [upd_ne (ne_of_none e hp)]; exact e, Rep.tup_new t hp (.cons ra (.cons rb .nil))⟩
theorem zip_get {xs ys : List D} {i : Nat} {a b : D} (h1 : xs[i]? = some a) (h2 : ys[i]? = some b) : ((xs.zip ys).map fun p => D.tup [p.1, p.2])[i]? = some (.tup [a, b]) := by
  rw [List.getElem?_map, List.getElem?_zip_eq_some (z := (a, b)) |>.mpr ⟨h1, h2⟩]
  rfl
theorem walk_zipTT {K : PySem.W.Frag} {a b : Addr} {xs ys : List V} {n : Nat} (hn : n = min xs.length ys.length) : Walk (RZ.ItzT K a b) n (fun H => SqT K H a xs ∧ SqT K H b ys) (YPair (fun i => xs[i]?) (fun i => ys[i]?)) := by
  subst hn
  refine ⟨fun i _ hi q => ?_, fun _ q => ⟨xs, ys, q.1, q.2, by omega⟩, fun i H v H' _ q y => ?_⟩
  · have h1 : i < xs.length := by omega
    have h2 : i < ys.length := by omega
    exact ⟨xs, ys, xs[i], ys[i], q.1, q.2, by simp [h1], by simp [h2]⟩
  · obtain ⟨T, x, z, h1, h2, h3, h4, h5⟩ := y
    exact ⟨T, x, z, h1, h2, h3, h4 xs q.1, h5 ys q.2⟩
theorem itok_zipL {μ : Mp} {H : Hp} {a b : Addr} {vs ws : List V} {xs ys : List D} (hK : G.K = X.K) (h : LsM G μ H a vs) (h' : LsM G μ H b ws) (r : Reps G μ H xs vs) (r' : Reps G μ H ys ws) :
    ItOk G μ H ((xs.zip ys).map fun p => .tup [p.1, p.2]) (Itz X.K a b) := by
  have hl : ((xs.zip ys).map fun p => D.tup [p.1, p.2]).length = min vs.length ws.length := by rw [List.length_map, List.length_zip, r.length, r'.length]
  refine ⟨fun H => SqL X.K H a vs ∧ SqL X.K H b ws, _, walk_zip hl, fun μ2 H2 g => ⟨hK ▸ (h.gr g).sq, hK ▸ (h'.gr g).sq⟩, fun μ2 H2 st2 i v H3 g t hi y => ?_⟩
  obtain ⟨p, x, y, rfl, hp, rfl, hx, hy⟩ := y
  obtain ⟨d1, e1, q1⟩ := (r.gr g).getV hx
  obtain ⟨d2, e2, q2⟩ := (r'.gr g).getV hy
  obtain ⟨g1, g2, g3, g4⟩ := pair_new t hp q1 q2
  exact ⟨g1, g2, g3, _, zip_get e1 e2, g4⟩
theorem itok_zipT {μ : Mp} {H : Hp} {a b : Addr} {vs ws : List V} {xs ys : List D} (hK : G.K = X.K) (h : TpM G μ H a vs) (h' : TpM G μ H b ws) (r : Reps G μ H xs vs) (r' : Reps G μ H ys ws) :
    ItOk G μ H ((xs.zip ys).map fun p => .tup [p.1, p.2]) (RZ.ItzT X.K a b) := by
  have hl : ((xs.zip ys).map fun p => D.tup [p.1, p.2]).length = min vs.length ws.length := by rw [List.length_map, List.length_zip, r.length, r'.length]
  refine ⟨fun H => SqT X.K H a vs ∧ SqT X.K H b ws, _, walk_zipTT hl, fun μ2 H2 g => ⟨hK ▸ (h.gr g).sq, hK ▸ (h'.gr g).sq⟩, fun μ2 H2 st2 i v H3 g t hi y => ?_⟩
  obtain ⟨p, x, y, rfl, hp, rfl, hx, hy⟩ := y
  obtain ⟨d1, e1, q1⟩ := (r.gr g).getV hx
  obtain ⟨d2, e2, q2⟩ := (r'.gr g).getV hy
  obtain ⟨g1, g2, g3, g4⟩ := pair_new t hp q1 q2
  exact ⟨g1, g2, g3, _, zip_get e1 e2, g4⟩
theorem itok_enum {μ : Mp} {H : Hp} {a : Addr} {vs : List V} {xs : List D} (hK : G.K = X.K) (h : LsM G μ H a vs) (r : Reps G μ H xs vs) :
    ItOk G μ H ((List.range xs.length).zip xs |>.map fun p => .tup [.int (p.1 : Int), p.2]) (Ite X.K a) := by
  have hl : ((List.range xs.length).zip xs |>.map fun p => D.tup [.int (p.1 : Int), p.2]).length = vs.length := by rw [List.length_map, List.length_zip, List.length_range, Nat.min_self, r.length]
  refine ⟨fun H => SqL X.K H a vs, _, by rw [hl]; exact walk_enum, fun μ2 H2 g => hK ▸ (h.gr g).sq, fun μ2 H2 st2 i v H3 g t hi y => ?_⟩
  obtain ⟨p, x, y, rfl, hp, rfl, hx, hy⟩ := y
  cases hx
  obtain ⟨d2, e2, q2⟩ := (r.gr g).getV hy
  obtain ⟨g1, g2, g3, g4⟩ := pair_new t hp (.int (i : Nat)) q2
  refine ⟨g1, g2, g3, _, ?_, g4⟩
  have hi' : i < xs.length := (List.getElem?_eq_some_iff.mp e2).1
  rw [List.getElem?_map, List.getElem?_zip_eq_some (z := (i, d2)) |>.mpr ⟨by rw [List.getElem?_range hi'], e2⟩]
  rfl

/-! ### less is forbidden; what is forbidden may change -/
theorem TpM.less {μ μ' : Mp} {H : Hp} {a : Addr} {vs : List V} (hs : ∀ a ∈ μ'.M, a ∈ μ.M) (h : TpM G μ H a vs) : TpM G μ' H a vs := h.elim (fun z => .inl ⟨fun q => z.1 (hs _ q), z.2⟩) .inr
theorem ScM.less {μ μ' : Mp} {H : Hp} {a : Addr} {vs : List V} (hs : ∀ a ∈ μ'.M, a ∈ μ.M) (h : ScM G μ H a vs) : ScM G μ' H a vs := h.elim (fun z => .inl ⟨fun q => z.1 (hs _ q), z.2⟩) .inr
mutual
theorem Rep.less {μ μ' : Mp} {H : Hp} (hs : ∀ a ∈ μ'.M, a ∈ μ.M) (hm : μ'.m = μ.m) : ∀ (d : D) (v : V), Rep G μ H d v → Rep G μ' H d v
  | .non, _, h => by cases h; exact .non
  | .bl b, _, h => by cases h; exact .bl b
  | .int i, _, h => by cases h; exact .int i
  | .str x, _, h => by cases h; exact .str x
  | .ty n, _, h => by cases h; exact .ty n
  | .fn x, _, h => by cases h with | fn e => exact .fn e
  | .ref i, _, h => by cases h with | ref e => exact .ref (by rw [hm]; exact e)
  | .tup xs, _, h => by cases h with | tup a b => exact .tup (a.less hs) (Reps.less hs hm xs _ b)
  | .lst xs, _, h => by cases h with | lst a b => exact .lst ⟨fun q => a.1 (hs _ q), a.2⟩ (Reps.less hs hm xs _ b)
  | .scr ns, _, h => by cases h with | scr a => exact .scr (a.less hs)
  | .emp, _, h => by cases h with | emp n r => exact .emp (fun q => n (hs _ q)) r
theorem Reps.less {μ μ' : Mp} {H : Hp} (hs : ∀ a ∈ μ'.M, a ∈ μ.M) (hm : μ'.m = μ.m) : ∀ (ds : List D) (vs : List V), Reps G μ H ds vs → Reps G μ' H ds vs
  | [], _, h => by cases h; exact .nil
  | d :: ds, _, h => by cases h with | cons a b => exact .cons (Rep.less hs hm d _ a) (Reps.less hs hm ds _ b)
end
theorem rd_upd {μ : Mp} {H : Hp} {a p : Addr} {o u : HO} (hp : p ∈ μ.M) (n : a ∉ μ.M) (h : Rd H a u) : Rd (upd H p o) a u := by
  have ne : a ≠ p := fun z => n (by rw [z]; exact hp)
  rcases h with h | ⟨q, h⟩
  · exact .inl (by rw [upd_ne ne]; exact h)
  · exact .inr ⟨q, by rw [upd_ne ne]; exact h⟩
mutual
theorem Rep.upd_ {μ : Mp} {H : Hp} {p : Addr} {o : HO} (hp : p ∈ μ.M) : ∀ (d : D) (v : V), Rep G μ H d v → Rep G μ (upd H p o) d v
  | .non, _, h => by cases h; exact .non
  | .bl b, _, h => by cases h; exact .bl b
  | .int i, _, h => by cases h; exact .int i
  | .str x, _, h => by cases h; exact .str x
  | .ty n, _, h => by cases h; exact .ty n
  | .fn x, _, h => by cases h with | fn e => exact .fn e
  | .ref i, _, h => by cases h with | ref e => exact .ref e
  | .tup xs, _, h => by cases h with | tup a b => exact .tup (a.elim (fun z => .inl ⟨z.1, rd_upd hp z.1 z.2⟩) .inr) (Reps.upd_ hp xs _ b)
  | .lst xs, _, h => by cases h with | lst a b => exact .lst ⟨a.1, by rw [upd_ne fun z => a.1 (by rw [z]; exact hp)]; exact a.2⟩ (Reps.upd_ hp xs _ b)
  | .scr ns, _, h => by cases h with | scr a => exact .scr (a.elim (fun z => .inl ⟨z.1, rd_upd hp z.1 z.2⟩) .inr)
  | .emp, _, h => by cases h with | emp n r => exact .emp n (rd_upd hp n r)
theorem Reps.upd_ {μ : Mp} {H : Hp} {p : Addr} {o : HO} (hp : p ∈ μ.M) : ∀ (ds : List D) (vs : List V), Reps G μ H ds vs → Reps G μ (upd H p o) ds vs
  | [], _, h => by cases h; exact .nil
  | d :: ds, _, h => by cases h with | cons a b => exact .cons (Rep.upd_ hp d _ a) (Reps.upd_ hp ds _ b)
end
theorem ORep.less {μ μ' : Mp} {H : Hp} {a : Addr} {o : MO} (hs : ∀ a ∈ μ'.M, a ∈ μ.M) (hm : μ'.m = μ.m) (h : ORep G μ H a o) : ORep G μ' H a o := by
  cases o with
  | lst xs => obtain ⟨vs, h1, h2⟩ := h; exact ⟨vs, h1, h2.less hs hm⟩
  | hat => exact h
/-- an address that is forbidden, but not at hand, changes -/
theorem STR.upd_ {μ : Mp} {H : Hp} {st : Sto} {p : Addr} {o : HO} (t : STR G μ st H) (hp : p ∈ μ.M) (hn : p ∉ μ.m) : STR G μ st (upd H p o) := by
  refine ⟨t.len, fun i x h => ?_, t.sub, t.nd, fun a h => ?_⟩
  · obtain ⟨a, h1, h2⟩ := t.at_ i x h
    have ne : a ≠ p := fun z => hn (by rw [← z]; exact List.mem_of_getElem? h1)
    refine ⟨a, h1, ?_⟩
    cases x with
    | lst xs => obtain ⟨vs, q1, q2⟩ := h2; exact ⟨vs, by rw [upd_ne ne]; exact q1, q2.upd_ hp⟩
    | hat => obtain ⟨x, y, z, q1, q2⟩ := h2; exact ⟨x, y, z, by rw [upd_ne ne]; exact q1, q2⟩
  · by_cases z : a = p
    · rw [z, upd_same]; simp
    · rw [upd_ne z]; exact t.tr a h
theorem SR.wipe {μ : Mp} {e : Ev} {σ : L2.St} {H : Hp} (s : SR G μ e σ H) : ∀ vs : List Nat, SR G μ (wipeE e vs) (wipe σ vs) H
  | [] => s
  | v :: vs => by
    have ih := SR.wipe s vs
    refine ⟨by show ((wipeE e vs).set v none).length = ((L2.wipe σ vs).set v none).length; simp [ih.len], fun j d h => ?_⟩
    have h' : ((wipeE e vs).set v none)[j]? = some (some d) := h
    by_cases hj : v = j
    · subst hj
      by_cases hl : v < (wipeE e vs).length
      · rw [List.getElem?_set_self hl] at h'; cases h'
      · rw [List.getElem?_eq_none (by simpa using hl)] at h'; cases h'
    · rw [List.getElem?_set_ne hj] at h'
      obtain ⟨v', h1, h2⟩ := ih.slot j d h'
      exact ⟨v', by show ((L2.wipe σ vs).set v none)[j]? = _; rw [List.getElem?_set_ne hj]; exact h1, h2⟩
theorem wipe_get (σ : L2.St) : ∀ (vs : List Nat) (j : Nat), j < σ.length → (wipe σ vs)[j]? = if j ∈ vs then some none else σ[j]?
  | [], j, _ => by simp [wipe]
  | v :: vs, j, hl => by
    have ih := wipe_get σ vs j hl
    show ((wipe σ vs).set v none)[j]? = _
    by_cases hj : v = j
    · subst hj
      rw [List.getElem?_set_self (by rw [wipe_length]; exact hl)]
      simp
    · rw [List.getElem?_set_ne hj, ih]
      by_cases hm : j ∈ vs
      · simp [hm]
      · simp [hm, show j ≠ v from fun z => hj z.symm]
theorem wipe_same {σ σ' : L2.St} {vs : List Nat} (hl : σ'.length = σ.length) (h : ∀ j, j ∉ vs → σ'[j]? = (wipe σ vs)[j]?) : wipe σ' vs = wipe σ vs := by
  apply List.ext_getElem?
  intro j
  by_cases hj : j < σ.length
  · rw [wipe_get σ' vs j (by omega), wipe_get σ vs j hj]
    by_cases hm : j ∈ vs
    · simp [hm]
    · rw [if_neg hm, if_neg hm, h j hm, wipe_get σ vs j hj, if_neg hm]
  · rw [List.getElem?_eq_none (by rw [wipe_length]; omega), List.getElem?_eq_none (by rw [wipe_length]; omega)]
theorem Gr.upd_ {μ μ' : Mp} {H H' : Hp} {p : Addr} {o : HO} (g : Gr μ H μ' H') (h : H p = none) : Gr μ H μ' (upd H' p o) := by
  refine ⟨fun a u e n => ?_, fun a e => ?_, g.pre, g.sub, g.new, g.ms⟩
  · rw [upd_ne (ne_of_none e h)]; exact g.keep a u e n
  · by_cases z : a = p
    · rw [z]; exact h
    · rw [upd_ne z] at e; exact g.there a e
theorem Gr.nom {μ μ' : Mp} {H H' : Hp} {p : Addr} (g : Gr μ H μ' H') (h : H p ≠ none) (n : p ∉ μ.m) : p ∉ μ'.m := by
  obtain ⟨r, e, hr⟩ := g.pre
  rw [e, List.mem_append]
  rintro (z | z)
  · exact n z
  · exact h (hr p z)
/-- a comprehension's reading -/
theorem lc_ok {wi : TI} {g : TG} {tt : TT} {te : TE} {own : List Nat} {gt : T} {dit : Ev → M (List D)} {dc : Ev → M Bool} {de : Ev → M D} {σ : L2.St} {H : Hp} {Q : VK} (hsl : ∀ j ∈ gt.slots, j ∈ own)
    (hi : ∀ σ H R, iG G W dit σ H R → wi σ H R) (hg : ∀ v σ H Q, gT G gt v σ H Q → g v σ H Q) (hc : ∀ σ H Q, tB G (fun _ _ _ _ => False) dc σ H Q → tt σ H Q) (he : ∀ σ H Q, tE G (fun _ _ _ _ => False) de σ H Q → te σ H Q)
    (h : tE G W (fun e => andThen (dit e) fun xs => andThen (lcGo (fun x => match gt.bind x (wipeE e own) with
      | none => badM
      | some e' => andThen (noXM (dc e')) fun t => if t = true then andThen (noXM (de e')) fun y => ret (some y) else ret none) [] xs) fun ys => ret (.lst ys)) σ H Q) : tLc wi g tt te own σ H Q := by
  obtain ⟨μ, e, st, s, t, hA⟩ := h
  refine hi _ _ _ ⟨μ, e, st, s, t, Tr.All_mono (fun xs st1 hq μ1 H1 J g1 t1 hJ Dd hD => ?_) (fun _ _ _ z => z) _ ((Tr.All_bind _).mp hA)⟩
  obtain ⟨Gd, Y, w, hG, hY⟩ := hJ
  have s1 := s.gr g1
  have hq1 := Tr.All_mono (P' := KE G (Rep G) μ1 H1 Q) (E' := KX G W σ μ1 H1) (fun _ _ z => KE.gr g1 z) (fun _ _ _ z => KX.gr g1 z) _ hq
  clear hq
  generalize hf : (fun x => match gt.bind x (wipeE e own) with
      | none => badM
      | some e' => andThen (noXM (dc e')) fun t => if t = true then andThen (noXM (de e')) fun y => ret (some y) else ret none) = f at hq1
  let Pv : Nat → Hp → Prop := fun i H2 => ∃ μ2 st2 acc vs, Gr μ1 H1 μ2 H2 ∧ STR G μ2 st2 H2 ∧ H2 Dd = some (.lst vs) ∧ Dd ∈ μ2.M ∧ Dd ∉ μ2.m ∧ Reps G μ2 H2 acc vs ∧
    ((lcGo f acc (xs.drop i) st2).bind fun ys st3 => .ok (D.lst ys) st3).All (KE G (Rep G) μ1 H1 Q) (KX G W σ μ1 H1)
  refine lc_it w Pv ?_ (fun i H2 _ p => ?_) (fun i x H2 H3 hi' p y => ?_) (fun H2 p => ?_)
  · refine ⟨⟨Dd :: μ1.M, μ1.m⟩, st1, [], [], ?_, ?_, upd_same, List.mem_cons_self, fun z => t1.tr _ (t1.sub _ z) hD, .nil, hq1⟩
    · refine ⟨fun a u ha _ => by rw [upd_ne (ne_of_none ha hD)]; exact ha, fun a ha => ?_, ⟨[], by simp, by simp⟩, fun a ha => List.mem_cons_of_mem _ ha, fun a ha => ?_, t1.sub⟩
      · by_cases z : a = Dd
        · rw [z]; exact hD
        · rw [upd_ne z] at ha; exact ha
      · rcases List.mem_cons.mp ha with z | z
        · exact .inr (by rw [z]; exact hD)
        · exact .inl z
    · refine ⟨t1.len, fun i o ho => ?_, fun a ha => List.mem_cons_of_mem _ (t1.sub a ha), t1.nd, fun a ha => ?_⟩
      · obtain ⟨a, h1, h2⟩ := (t1.new_ hD (o := .lst [])).at_ i o ho
        refine ⟨a, h1, ?_⟩
        have gg : Gr μ1 (upd H1 Dd (.lst [])) ⟨Dd :: μ1.M, μ1.m⟩ (upd H1 Dd (.lst [])) → True := fun _ => True.intro
        obtain ⟨a', h1', h2'⟩ := t1.at_ i o ho
        have ea : a = a' := Option.some.inj (h1.symm.trans h1')
        subst ea
        refine h2'.same (μ' := ⟨Dd :: μ1.M, μ1.m⟩) ?_ (upd_ne fun z => t1.tr _ (t1.sub _ (List.mem_of_getElem? h1)) (by rw [z]; exact hD))
        refine ⟨fun b u hb _ => by rw [upd_ne (ne_of_none hb hD)]; exact hb, fun b hb => ?_, ⟨[], by simp, by simp⟩, fun b hb => List.mem_cons_of_mem _ hb, fun b hb => ?_, t1.sub⟩
        · by_cases z : b = Dd
          · rw [z]; exact hD
          · rw [upd_ne z] at hb; exact hb
        · rcases List.mem_cons.mp hb with z | z
          · exact .inr (by rw [z]; exact hD)
          · exact .inl z
      · rcases List.mem_cons.mp ha with z | z
        · rw [z, upd_same]; simp
        · rw [upd_ne fun q => t1.tr _ z (by rw [q]; exact hD)]
          exact t1.tr a z
  · obtain ⟨μ2, st2, acc, vs, gr, _⟩ := p
    exact hG μ2 H2 gr
  · obtain ⟨μ2, st2, acc, vs, gr, t2, hL, hM, hm, ra, hq⟩ := p
    obtain ⟨g3, t3, k3, d, hd, rd⟩ := hY μ2 H2 st2 i x H3 gr t2 hi' y
    have hL3 : H3 Dd = some (.lst vs) := k3 _ _ hL
    have hdr : xs.drop i = d :: xs.drop (i + 1) := by
      have hi2 : i < xs.length := hi'
      rw [List.getElem?_eq_getElem hi2] at hd
      cases hd
      exact List.drop_eq_getElem_cons hi2
    rw [hdr] at hq
    have hq2 : ((f d st2).bind fun o st3 => ((match o with
        | some y => if acc.length < sizeLine then lcGo f (acc ++ [y]) (xs.drop (i + 1)) else badM
        | none => lcGo f acc (xs.drop (i + 1))) st3).bind fun ys st3 => .ok (D.lst ys) st3).All (KE G (Rep G) μ1 H1 Q) (KX G W σ μ1 H1) := by
      have := (Tr.All_bind _).mp hq
      refine (Tr.All_bind _).mpr ?_
      have h2 : ((f d st2).bind fun o st3 => (match o with
        | some y => if acc.length < sizeLine then lcGo f (acc ++ [y]) (xs.drop (i + 1)) else badM
        | none => lcGo f acc (xs.drop (i + 1))) st3).All _ _ := this
      exact Tr.All_mono (fun o st3 z => (Tr.All_bind _).mpr z) (fun _ _ _ z => z) _ ((Tr.All_bind _).mp h2)
    rw [← hf] at hq2
    cases hb : gt.bind d (wipeE e own) with
    | none =>
      simp only [hb] at hq2
      exact hq2.elim
    | some e' =>
      simp only [hb] at hq2
      have sw : SR G μ2 (wipeE e own) (wipe σ own) H3 := ((s1.gr gr).gr g3).wipe own
      refine hg _ _ _ _ ⟨μ2, _, st2, d, e', sw, t3, rd, hb, fun σ2 hl hj s2 => ⟨wipe_same (by rw [hl, wipe_length]) fun j hjn => hj j fun z => hjn (hsl j z), ?_⟩⟩
      have hq3 := (Tr.All_bind _).mp hq2
      have hq4 := (Tr.All_bind _).mp (show ((noXM (dc e') st2).bind _).All _ _ from hq3)
      refine hc _ _ _ ⟨μ2, e', st2, s2, t3, Tr.All_mono (fun b st4 hb4 μ4 H4 b' g4 t4 eb => ?_) (fun _ _ _ z => z.elim) _ (Tr.All_noX (E' := fun _ _ _ => False) _ hq4)⟩
      subst eb
      have hL4 : H4 Dd = some (.lst vs) := g4.keep _ _ hL3 hm
      have hM4 : Dd ∈ μ4.M := g4.sub _ hM
      have hm4 : Dd ∉ μ4.m := g4.nom (by rw [hL3]; simp) hm
      have G4 : Gr μ1 H1 μ4 H4 := (gr.trans g3).trans g4
      cases b with
      | false =>
        rw [if_neg Bool.false_ne_true] at hb4 ⊢
        exact ⟨μ4, st4, acc, vs, G4, t4, hL4, hM4, hm4, (ra.gr g3).gr g4, by rw [← hf]; exact hb4⟩
      | true =>
        rw [if_pos rfl] at hb4 ⊢
        have hb5 := (Tr.All_bind _).mp (show ((noXM (de e') st4).bind _).All _ _ from hb4)
        refine he _ _ _ ⟨μ4, e', st4, s2.gr g4, t4, Tr.All_mono (fun dy st5 hb6 μ5 H5 vy g5 t5 ry => ?_) (fun _ _ _ z => z.elim) _ (Tr.All_noX (E' := fun _ _ _ => False) _ hb5)⟩
        have hL5 : H5 Dd = some (.lst vs) := g5.keep _ _ hL4 hm4
        have hM5 : Dd ∈ μ5.M := g5.sub _ hM4
        have hm5 : Dd ∉ μ5.m := g5.nom (by rw [hL4]; simp) hm4
        have G5 : Gr μ1 H1 μ5 H5 := G4.trans g5
        have ra5 : Reps G μ5 H5 acc vs := ((ra.gr g3).gr g4).gr g5
        have hb7 : (((if acc.length < sizeLine then lcGo f (acc ++ [dy]) (xs.drop (i + 1)) else badM) st5).bind fun ys st3 => .ok (D.lst ys) st3).All (KE G (Rep G) μ1 H1 Q) (KX G W σ μ1 H1) := by
          rw [← hf]; exact hb6
        by_cases hz : acc.length < sizeLine
        · rw [if_pos hz] at hb7
          refine ⟨vs, hL5, by rw [← ra5.length]; exact hz, μ5, st5, acc ++ [dy], vs ++ [vy], G5.upd_ hD, t5.upd_ hM5 hm5, upd_same, hM5, hm5, (ra5.append (.cons ry .nil)).upd_ hM5, hb7⟩
        · rw [if_neg hz] at hb7
          exact hb7.elim
  · obtain ⟨μ2, st2, acc, vs, gr, t2, hL, hM, hm, ra, hq⟩ := p
    rw [List.drop_length] at hq
    have hq' : KE G (Rep G) μ1 H1 Q (.lst acc) st2 := hq
    have hD1 : Dd ∉ μ1.M := fun z => t1.tr _ z hD
    have hs : ∀ a ∈ (⟨μ2.M.filter fun a => decide (a ≠ Dd), μ2.m⟩ : Mp).M, a ∈ μ2.M := fun a ha => (List.mem_filter.mp ha).1
    refine hq' ⟨μ2.M.filter fun a => decide (a ≠ Dd), μ2.m⟩ H2 (.ref Dd) ⟨gr.keep, gr.there, gr.pre, fun a ha => List.mem_filter.mpr ⟨gr.sub a ha, decide_eq_true fun z => hD1 (by rw [← z]; exact ha)⟩, fun a ha => gr.new a (hs a ha), gr.ms⟩
      ⟨t2.len, fun i o ho => ?_, fun a ha => List.mem_filter.mpr ⟨t2.sub a ha, decide_eq_true fun z => hm (by rw [← z]; exact ha)⟩, t2.nd, fun a ha => t2.tr a (hs a ha)⟩ (.lst ⟨fun z => ?_, hL⟩ (ra.less hs rfl))
    · obtain ⟨a, h1, h2⟩ := t2.at_ i o ho
      exact ⟨a, h1, h2.less hs rfl⟩
    · exact of_decide_eq_true (List.mem_filter.mp z).2 rfl

/-! ### statements -/
def KS (G : Glo) (μ : Mp) (H : Hp) (D : Ends) : Fl × Ev → Sto → Prop := fun r st' => ∀ μ' H' σ', Gr μ H μ' H' → STR G μ' st' H' → SR G μ' r.2 σ' H' → match r.1 with
  | .nx => D.nx σ' H'
  | .rt d => ∀ x, Rep G μ' H' d x → D.rt x H'
  | .bk => D.bk σ' H'
  | .ct => D.ct σ' H'
def wX (E : XK) : WX := fun c d _ H => E c d H
def tS (G : Glo) (E : XK) (den : Ev → M (Fl × Ev)) : TS := fun D σ H => ∃ μ e st, SR G μ e σ H ∧ STR G μ st H ∧ (den e st).All (KS G μ H D) (KX G (wX E) σ μ H)
theorem KS.gr {μ μ1 : Mp} {H H1 : Hp} {D : Ends} {r : Fl × Ev} {st : Sto} (g : Gr μ H μ1 H1) (h : KS G μ H D r st) : KS G μ1 H1 D r st := fun μ' H' σ' g' t s => h μ' H' σ' (g.trans g') t s
theorem KXw {E : XK} {σ σ' : L2.St} {μ : Mp} {H : Hp} {x : Str} {d : D} {st : Sto} (h : KX G (wX E) σ μ H x d st) : KX G (wX E) σ' μ H x d st := h
theorem KS.here {μ : Mp} {H : Hp} {D : Ends} {r : Fl × Ev} {st : Sto} {σ : L2.St} (h : KS G μ H D r st) (t : STR G μ st H) (s : SR G μ r.2 σ H) : match r.1 with
  | .nx => D.nx σ H
  | .rt d => ∀ x, Rep G μ H d x → D.rt x H
  | .bk => D.bk σ H
  | .ct => D.ct σ H := h μ H σ (Gr.refl t.sub) t s
theorem if_ok {E : XK} {tc : TT} {ta tb : TS} {dc : Ev → M Bool} {da db : Ev → M (Fl × Ev)} (hc : ∀ σ H Q, tB G (wX E) dc σ H Q → tc σ H Q) (ha : ∀ D σ H, tS G E da D σ H → ta D σ H) (hb : ∀ D σ H, tS G E db D σ H → tb D σ H) {D : Ends} {σ : L2.St} {H : Hp}
    (h : tS G E (fun e => andThen (dc e) fun t => if t = true then da e else db e) D σ H) : tIfS tc ta tb D σ H := by
  obtain ⟨μ, e, st, s, t, hA⟩ := h
  refine hc _ _ _ ⟨μ, e, st, s, t, Tr.All_mono (fun b st1 hq μ1 H1 b' g1 t1 eb => ?_) (fun _ _ _ z => z) _ ((Tr.All_bind _).mp hA)⟩
  subst eb
  have hq1 := Tr.All_mono (P' := KS G μ1 H1 D) (E' := KX G (wX E) σ μ1 H1) (fun _ _ z => KS.gr g1 z) (fun _ _ _ z => KX.gr g1 z) _ hq
  cases b with
  | true => rw [if_pos rfl] at hq1 ⊢; exact ha _ _ _ ⟨μ1, e, st1, s.gr g1, t1, hq1⟩
  | false => rw [if_neg Bool.false_ne_true] at hq1 ⊢; exact hb _ _ _ ⟨μ1, e, st1, s.gr g1, t1, hq1⟩
theorem seq_ok {E : XK} {ta tb : TS} {da db : Ev → M (Fl × Ev)} (ha : ∀ D σ H, tS G E da D σ H → ta D σ H) (hb : ∀ D σ H, tS G E db D σ H → tb D σ H) {D : Ends} {σ : L2.St} {H : Hp}
    (h : tS G E (fun e => andThen (da e) fun r => match r.1 with
      | .nx => db r.2
      | f => ret (f, r.2)) D σ H) : tSeq ta tb D σ H := by
  obtain ⟨μ, e, st, s, t, hA⟩ := h
  refine ha _ _ _ ⟨μ, e, st, s, t, Tr.All_mono (fun r st1 hq μ1 H1 σ1 g1 t1 s1 => ?_) (fun _ _ _ z => z) _ ((Tr.All_bind _).mp hA)⟩
  obtain ⟨f, e1⟩ := r
  have hq1 := Tr.All_mono (P' := KS G μ1 H1 D) (E' := KX G (wX E) σ1 μ1 H1) (fun _ _ z => KS.gr g1 z) (fun _ _ _ z => KX.gr g1 z) _ hq
  cases f with
  | nx => exact hb _ _ _ ⟨μ1, e1, st1, s1, t1, hq1⟩
  | rt d => exact (KS.here (show KS G μ1 H1 D (.rt d, e1) st1 from hq1) t1 s1)
  | bk => exact (KS.here (show KS G μ1 H1 D (.bk, e1) st1 from hq1) t1 s1)
  | ct => exact (KS.here (show KS G μ1 H1 D (.ct, e1) st1 from hq1) t1 s1)
theorem whl_ok {E : XK} {tc : TT} {tb : TS} {dc : Ev → M Bool} {db : Ev → M (Fl × Ev)} {n : Nat} (hc : ∀ σ H Q, tB G (wX E) dc σ H Q → tc σ H Q) (hb : ∀ D σ H, tS G E db D σ H → tb D σ H) {D : Ends} {σ : L2.St} {H : Hp}
    (h : tS G E (whlGo dc db n) D σ H) : tWhile tc tb D σ H := by
  obtain ⟨μ, e, st, s, t, hA⟩ := h
  refine ⟨fun n σ2 H2 => ∃ μ2 e2 st2, Gr μ H μ2 H2 ∧ SR G μ2 e2 σ2 H2 ∧ STR G μ2 st2 H2 ∧ (whlGo dc db n e2 st2).All (KS G μ H D) (KX G (wX E) σ μ H), ⟨n, μ, e, st, Gr.refl t.sub, s, t, hA⟩, fun m σ2 H2 hw => ?_⟩
  obtain ⟨μ2, e2, st2, g2, s2, t2, hq⟩ := hw
  cases m with
  | zero => exact hq.elim
  | succ m =>
    refine hc _ _ _ ⟨μ2, e2, st2, s2, t2, Tr.All_mono (fun b st3 hq3 μ3 H3 b' g3 t3 eb => ?_) (fun _ _ _ z => KX.gr g2 z) _ ((Tr.All_bind _).mp hq)⟩
    subst eb
    cases b with
    | false =>
      rw [if_neg Bool.false_ne_true] at hq3 ⊢
      exact KS.here (KS.gr (g2.trans g3) hq3) t3 (s2.gr g3)
    | true =>
      rw [if_pos rfl] at hq3 ⊢
      refine ⟨fun σ4 H4 => ∃ μ4 e4 st4, Gr μ H μ4 H4 ∧ SR G μ4 e4 σ4 H4 ∧ STR G μ4 st4 H4 ∧ (whlGo dc db m e4 st4).All (KS G μ H D) (KX G (wX E) σ μ H), fun σ4 H4 z => ⟨m, Nat.lt_succ_self m, z⟩, ?_⟩
      refine hb _ _ _ ⟨μ3, e2, st3, s2.gr g3, t3, Tr.All_mono (fun r st4 hq4 μ4 H4 σ4 g4 t4 s4 => ?_) (fun _ _ _ z => KX.gr (g2.trans g3) z) _ ((Tr.All_bind _).mp hq3)⟩
      obtain ⟨f, e4⟩ := r
      have g := (g2.trans g3).trans g4
      cases f with
      | nx => exact ⟨μ4, e4, st4, g, s4, t4, hq4⟩
      | ct => exact ⟨μ4, e4, st4, g, s4, t4, hq4⟩
      | bk => exact KS.here (KS.gr g (show KS G μ H D (.nx, e4) st4 from hq4)) t4 s4
      | rt d => exact KS.here (KS.gr g (show KS G μ H D (.rt d, e4) st4 from hq4)) t4 s4
theorem for_ok {E : XK} {wi : TI} {g : TG} {tb : TS} {gt : T} {dit : Ev → M (List D)} {db : Ev → M (Fl × Ev)} (hi : ∀ σ H R, iG G (wX E) dit σ H R → wi σ H R) (hg : ∀ v σ H Q, gT G gt v σ H Q → g v σ H Q) (hb : ∀ D σ H, tS G E db D σ H → tb D σ H)
    {D : Ends} {σ : L2.St} {H : Hp} (h : tS G E (fun e => andThen (dit e) fun xs => forGo gt db xs e) D σ H) : tFor wi g tb D σ H := by
  obtain ⟨μ, e, st, s, t, hA⟩ := h
  refine hi _ _ _ ⟨μ, e, st, s, t, Tr.All_mono (fun xs st1 hq μ1 H1 J g1 t1 hJ => ?_) (fun _ _ _ z => z) _ ((Tr.All_bind _).mp hA)⟩
  obtain ⟨Gd, Y, w, hG, hY⟩ := hJ
  let Pv : Nat → L2.St → Hp → Prop := fun i σ2 H2 => ∃ μ2 e2 st2, Gr μ1 H1 μ2 H2 ∧ SR G μ2 e2 σ2 H2 ∧ STR G μ2 st2 H2 ∧ (forGo gt db (xs.drop i) e2 st2).All (KS G μ H D) (KX G (wX E) σ μ H)
  refine for_it w Pv ⟨μ1, e, st1, Gr.refl t1.sub, s.gr g1, t1, hq⟩ (fun i σ2 H2 _ p => ?_) (fun i x σ2 H2 H3 hi' p y => ?_) (fun σ2 H2 p => ?_)
  · obtain ⟨μ2, e2, st2, gr, _⟩ := p
    exact hG μ2 H2 gr
  · obtain ⟨μ2, e2, st2, gr, s2, t2, hq2⟩ := p
    obtain ⟨g3, t3, _, d, hd, rd⟩ := hY μ2 H2 st2 i x H3 gr t2 hi' y
    have hdr : xs.drop i = d :: xs.drop (i + 1) := by
      have hi2 : i < xs.length := hi'
      rw [List.getElem?_eq_getElem hi2] at hd
      cases hd
      exact List.drop_eq_getElem_cons hi2
    rw [hdr] at hq2
    cases hbd : gt.bind d e2 with
    | none =>
      have : (badM st2 : Tr (Fl × Ev)).All (KS G μ H D) (KX G (wX E) σ μ H) := by
        have q := hq2
        unfold forGo at q
        rw [hbd] at q
        exact q
      exact this.elim
    | some e' =>
      have hq3 : ((db e' st2).bind fun r s => (match r.1 with
        | .nx => forGo gt db (xs.drop (i + 1)) r.2
        | .ct => forGo gt db (xs.drop (i + 1)) r.2
        | .bk => ret (.nx, r.2)
        | .rt d => ret (.rt d, r.2)) s).All (KS G μ H D) (KX G (wX E) σ μ H) := by
        have q := hq2
        unfold forGo at q
        rw [hbd] at q
        exact q
      refine hg _ _ _ _ ⟨μ2, e2, st2, d, e', s2.gr g3, t3, rd, hbd, fun σ4 _ _ s4 => ?_⟩
      refine hb _ _ _ ⟨μ2, e', st2, s4, t3, Tr.All_mono (fun r st5 hq5 μ5 H5 σ5 g5 t5 s5 => ?_) (fun _ _ _ z => KX.gr ((g1.trans gr).trans g3) z) _ ((Tr.All_bind _).mp hq3)⟩
      obtain ⟨f, e5⟩ := r
      have gg : Gr μ1 H1 μ5 H5 := (gr.trans g3).trans g5
      cases f with
      | nx => exact ⟨μ5, e5, st5, gg, s5, t5, hq5⟩
      | ct => exact ⟨μ5, e5, st5, gg, s5, t5, hq5⟩
      | bk => exact KS.here (KS.gr (g1.trans gg) (show KS G μ H D (.nx, e5) st5 from hq5)) t5 s5
      | rt d => exact KS.here (KS.gr (g1.trans gg) (show KS G μ H D (.rt d, e5) st5 from hq5)) t5 s5
  · obtain ⟨μ2, e2, st2, gr, s2, t2, hq2⟩ := p
    rw [List.drop_length] at hq2
    exact KS.here (KS.gr (g1.trans gr) (show KS G μ H D (.nx, e2) st2 from hq2)) t2 s2
end
end Gw

set_option Elab.async false
set_option linter.all false
set_option maxRecDepth 100000
set_option maxHeartbeats 1000000
/-! Gw6: from the text to the core language. -/
namespace Gw
open PySem PySem.Spec PyProof.Rows L2
structure FnI where
  lv : Nat
  np : Nat
  φ : List D → M D
structure Gam where
  N : List Str
  sc : Scope
  lv : Nat
  fns : List (Str × FnI)
  cst : List (Str × D)
  free : List Str
  mu : List (Nat × Nat)
  asg : List Str
def cellsOf (sc : Scope) : List Str := sc.names.filterMap fun y => match y.2 with
  | .cell => some y.1
  | _ => none
def Gam.inner (Γ : Gam) (sc : Scope) : Gam := { Γ with sc := relS sc Γ.sc, asg := cellsOf sc }
def envS (sc : Scope) : Env := { (default : Env) with scope := sc }
def semF : Sem Bool → Bool
  | .pure false => true
  | _ => false
def semN : Sem (Option (List Str)) → Bool
  | .pure none => true
  | _ => false
def semS (l : List Str) : Sem (Option (List Str)) → Bool
  | .pure (some k) => decide (k = l)
  | _ => false
def slotOf (N : List Str) (x : Str) : Option Nat := N.idxOf? x
def plainE : Expr → Bool
  | .Starred _ _ => false
  | _ => true
def visB (sc : Scope) (x : Str) : Bool := match sc.names.lookup x with
  | some .local => true
  | some .cell => true
  | some .free => true
  | _ => false
def locB (sc : Scope) (asg : List Str) (x : Str) : Bool := match sc.names.lookup x with
  | some .local => true
  | some .cell => asg.contains x
  | _ => false
def gloB (sc : Scope) (x : Str) : Bool := match sc.names.lookup x with
  | some .globalImplicit => true
  | _ => false
def nmOk (x : Str) : Bool := !(x == ("__debug__" : Str)) && !(x == ("__classdict__" : Str)) && !(x == ("__name__" : Str))
def tys : List (Str × String) := [("int", "int"), ("bool", "bool"), ("tuple", "tuple"), ("str", "str"), ("list", "list")]
def bi (φ : List D → Option D) : List D → M D := fun ds s => optM (φ (ds.map (drf s))) s
def ownOf (N : List Str) (sc : Scope) : List (Str × Nat) := sc.names.filterMap fun y => match y.2 with
  | .local => (slotOf N y.1).map fun i => (y.1, i)
  | .cell => (slotOf N y.1).map fun i => (y.1, i)
  | _ => none
def ownIx (N : List Str) (sc : Scope) : List Nat := (ownOf N sc).map fun p => p.2
def compG : Nat → Gam → Expr → Option T
  | 0, _, _ => none
  | n + 1, Γ, .Name x _ => if locB Γ.sc Γ.asg x then (slotOf Γ.N x).map .nm else none
  | n + 1, Γ, .Tuple [] _ _ => some .nil
  | n + 1, Γ, .Tuple (e :: es) k p => if plainE e then (compG n Γ e).bind fun a => (compG n Γ (.Tuple es k p)).map fun b => .cons a b else none
  | _, _, _ => none
def isTup : Expr → Bool
  | .Tuple .. => true
  | _ => false
def isComp : Expr → Bool
  | .ListComp .. => true
  | .SetComp .. => true
  | .DictComp .. => true
  | _ => false
mutual
def comp : Nat → Gam → Expr → Option E
  | 0, _, _ => none
  | n + 1, Γ, .Name x _ => if nmOk x then (if visB Γ.sc x then (slotOf Γ.N x).map .var else if gloB Γ.sc x then (match Γ.cst.lookup x with
      | some d => some (.c d)
      | none => match tys.lookup x with
        | some t => if Γ.free.contains x then some (.c (.ty t)) else none
        | none => none) else none) else none
  | n + 1, Γ, .Constant (.int i) _ _ => some (.c (.int i))
  | n + 1, Γ, .Constant (.str i) _ _ => some (.c (.str i))
  | n + 1, Γ, .Constant (.bool i) _ _ => some (.c (.bl i))
  | n + 1, Γ, .Constant .none _ _ => some (.c .non)
  | n + 1, Γ, .BinOp a o b _ => (comp n Γ a).bind fun x => (comp n Γ b).map fun y => .bin o x y
  | n + 1, Γ, .UnaryOp .USub a _ => (comp n Γ a).map .neg
  | n + 1, Γ, .UnaryOp .Not a _ => (comp n Γ a).map .not_
  | n + 1, Γ, .Compare a [o] [b] _ => if behindInMarks o b then none else (comp n Γ a).bind fun x => (comp n Γ b).map fun y => .cmp o x y
  | n + 1, Γ, .Compare a [o, p] [b, c] _ => if behindInMarks p c then none else (comp n Γ a).bind fun x => (comp n Γ b).bind fun y => (comp n Γ c).map fun z => .chain o p x y z
  | n + 1, Γ, .BoolOp o [a] _ => comp n Γ a
  | n + 1, Γ, .BoolOp .And (a :: b :: r) p => (comp n Γ a).bind fun x => (comp n Γ (.BoolOp .And (b :: r) p)).map fun y => .and_ x y
  | n + 1, Γ, .BoolOp .Or (a :: b :: r) p => (comp n Γ a).bind fun x => (comp n Γ (.BoolOp .Or (b :: r) p)).map fun y => .or_ x y
  | n + 1, Γ, .IfExp c a b _ => (compT n Γ c).bind fun x => (comp n Γ a).bind fun y => (comp n Γ b).map fun z => .ite x y z
  | n + 1, Γ, .Tuple es _ _ => (comps n Γ es).map .tup
  | n + 1, Γ, .List es p => (comps n Γ es).map fun c => if Γ.mu.contains (p.line, p.col) then .lstM c else .lst c
  | n + 1, Γ, .Subscript a (.Slice lo hi none _) _ => (comp n Γ a).bind fun x => (compO n Γ lo).bind fun l => (compO n Γ hi).map fun h => .sl x l h
  | n + 1, Γ, .Subscript a (.Slice lo hi (some _) _) _ => none
  | n + 1, Γ, .Subscript a i _ => (comp n Γ a).bind fun x => (comp n Γ i).map fun k => .ix x k
  | n + 1, Γ, .ListComp elt [⟨tg, it, ifs, 0⟩] sc _ =>
    if blkC Γ.N Γ.sc sc (ownOf Γ.N sc) then (compI n Γ tg it).bind fun ci =>
      (compG n (Γ.inner sc) tg).bind fun ct => if ct.slots.all fun j => decide (j ∈ ownIx Γ.N sc) then
        (match ifs with
          | [] => some (E.c (.bl true))
          | [c] => compT n (Γ.inner sc) c
          | _ => none).bind fun cc => (comp n (Γ.inner sc) elt).map fun ce => .lc (ownIx Γ.N sc) ct ci cc ce else none else none
  | n + 1, Γ, .Call (.Name f _) (a :: as) [] _ => if nmOk f && gloB Γ.sc f && (a :: as).all plainE then (match Γ.fns.lookup f with
      | some fi => if fi.lv ≤ Γ.lv then (comps n Γ (a :: as)).map (.call fi.φ) else none
      | none => match bis.lookup f with
        | some v => if Γ.free.contains f then (comps n Γ (a :: as)).map (.call (bi v.2)) else none
        | none => none) else none
  | n + 1, Γ, .Call (.Attribute (.Name x p) m q) [a] [] r => if decide (m = "append") && plainE a && decide ((q.endLine == r.line) = true) then (comp n Γ (.Name x p)).bind fun o => (comp n Γ a).map fun c => .app o c else none
  | n + 1, Γ, .Dict [] [] _ => some .dnew
  | _, _, _ => none
def compO : Nat → Gam → Option Expr → Option E
  | 0, _, _ => none
  | n + 1, Γ, none => some (.c .non)
  | n + 1, Γ, some e => (comp n Γ e).map .int_
def comps : Nat → Gam → List Expr → Option E
  | 0, _, _ => none
  | n + 1, Γ, [] => some .nil
  | n + 1, Γ, .Starred e _ :: es => (comp n Γ e).bind fun x => (comps n Γ es).map fun y => .star x y
  | n + 1, Γ, e :: es => (comp n Γ e).bind fun x => (comps n Γ es).map fun y => .cons x y
def compT : Nat → Gam → Expr → Option E
  | 0, _, _ => none
  | n + 1, Γ, .UnaryOp .Not a _ => (compT n Γ a).map .not_
  | n + 1, Γ, .BoolOp o [a] _ => compT n Γ a
  | n + 1, Γ, .BoolOp .And (a :: b :: r) p => (compT n Γ a).bind fun x => (compT n Γ (.BoolOp .And (b :: r) p)).map fun y => .and_ x y
  | n + 1, Γ, .BoolOp .Or (a :: b :: r) p => (compT n Γ a).bind fun x => (compT n Γ (.BoolOp .Or (b :: r) p)).map fun y => .or_ x y
  | n + 1, Γ, .Compare a [o] [b] _ => if behindInMarks o b then none else (comp n Γ a).bind fun x => (comp n Γ b).map fun y => .cmp o x y
  | n + 1, Γ, .Compare a [o, p] [b, c] _ => if lastMarks [o, p] [b, c] then none else (comp n Γ a).bind fun x => (comp n Γ b).bind fun y => (comp n Γ c).map fun z => .chain o p x y z
  | n + 1, Γ, .Name x p => comp n Γ (.Name x p)
  | n + 1, Γ, .Call f as ks p => comp n Γ (.Call f as ks p)
  | n + 1, Γ, .Subscript a i p => comp n Γ (.Subscript a i p)
  | n + 1, Γ, .Constant c i p => comp n Γ (.Constant c i p)
  | _, _, _ => none
def compI : Nat → Gam → Expr → Expr → Option E
  | 0, _, _, _ => none
  | n + 1, Γ, tg, .Call (.Name f q) [a] [] p =>
    if f = "range" then (if gloB Γ.sc f && Γ.free.contains f && plainE a then (comp n Γ a).map .rng1 else none)
    else if f = "enumerate" then (if isTup tg && gloB Γ.sc f && Γ.free.contains f && plainE a then (comp n Γ a).map .enum else none)
    else (comp n Γ (.Call (.Name f q) [a] [] p)).map .it1
  | n + 1, Γ, tg, .Call (.Name f q) [a, b] [] p =>
    if f = "range" then (if gloB Γ.sc f && Γ.free.contains f && plainE a && plainE b then (comp n Γ a).bind fun x => (comp n Γ b).map fun y => .rng2 x y else none)
    else if f = "zip" then (if isTup tg && gloB Γ.sc f && Γ.free.contains f && plainE a && plainE b then (comp n Γ a).bind fun x => (comp n Γ b).map fun y => .zip x y else none)
    else (comp n Γ (.Call (.Name f q) [a, b] [] p)).map .it1
  | n + 1, Γ, tg, e => (comp n Γ e).map .it1
end

def spD (G : Glo) (φ : List D → M D) (np : Nat) : Sp := fun vs H Q E => vs.length = np ∧ ∃ μ ds st, Reps G μ H ds vs ∧ STR G μ st H ∧ (φ ds st).All (KE G (Rep G) μ H Q) (KX G (wX E) [] μ H)
structure Fits (Γ : Gam) (X : Cx) (G : Glo) (W : WX) : Prop where
  N : X.N = Γ.N
  nd : Γ.N.Nodup
  sc : X.env.scope = Γ.sc
  calm : X.calm = true
  K : G.K = X.K
  mg : G.mg = X.mg
  tk : Takes X W
  po : PassesOwn (model X.prog X.w) X.A X.env X.xe
  fn : ∀ x ∈ Γ.asg, X.fn x = true
  room : Room Γ.lv X.A
  fns : ∀ x fi, Γ.fns.lookup x = some fi → ∃ f fd ps, X.mg x = some (.ref f) ∧ PySem.W.keepIn X.K (.ref f) = true ∧ Binds X.K fd ps [] ∧ FnOk X.prog X.w X.K X.mg X.base (L2.CX X.prog X.w) fi.lv f fd ps (spD G fi.φ fi.np) ∧ ∀ ds st P E, (fi.φ ds st).All P E → ds.length = fi.np
  cst : ∀ x d, Γ.cst.lookup x = some d → ∃ u v, X.mg x = some u ∧ RelV v u ∧ ∀ μ H, Rep G μ H d v
  free : ∀ x ∈ Γ.free, X.mg x = none
theorem Fits.inner {Γ : Gam} {X : Cx} {G : Glo} {W : WX} (F : Fits Γ X G W) {sc : Scope} {own : List (Str × Nat)} (ok : BlkOk X.N X.env.scope sc own) (s : Shared) (H : Hp) (C : Addr) (cl : List (Str × Addr)) (fp : List Addr) :
    Fits (Γ.inner sc) (X.blk s H sc (compEnvC sc cl C X.env) fp) G (fun _ _ _ _ => False) := by
  refine ⟨F.N, F.nd, ?_, F.calm, F.K, F.mg, takes0, PassesOwn.never, fun x hx => ?_, F.room, F.fns, F.cst, F.free⟩
  · show relS sc X.env.scope = relS sc Γ.sc
    rw [F.sc]
  · obtain ⟨y, hy, e⟩ := List.mem_filterMap.mp (show x ∈ cellsOf sc from hx)
    obtain ⟨z, k⟩ := y
    cases k <;> first | (cases e; done) | skip
    cases e
    show (sc.names.lookup z == some .cell) = true
    rw [ok.uniq _ hy]
    rfl
section
variable {Γ : Gam} {X : Cx} {G : Glo} {W : WX}
theorem slot_get {N : List Str} {x : Str} {i : Nat} (h : slotOf N x = some i) : N[i]? = some x := by
  unfold slotOf at h
  obtain ⟨hl, he, _⟩ := List.idxOf?_eq_some_iff.mp h
  rw [List.getElem?_eq_getElem hl, he]
theorem loc_of {sc : Scope} {asg : List Str} {x : Str} (h : locB sc asg x = true) : Loc sc x ∧ (sc.names.lookup x = some .local ∨ x ∈ asg) := by
  unfold locB at h
  split at h
  · rename_i e; exact ⟨.inl e, .inl e⟩
  · rename_i e; exact ⟨.inr e, .inr (by simpa using h)⟩
  · cases h
theorem vis_of {sc : Scope} {x : Str} (h : visB sc x = true) : Vis sc x := by
  unfold visB at h
  split at h
  · rename_i e; exact .inl e
  · rename_i e; exact .inr (.inl e)
  · rename_i e; exact .inr (.inr e)
  · cases h
theorem glo_of (F : Fits Γ X G W) {x : Str} (h : gloB Γ.sc x = true) : Gl X x := by
  unfold gloB at h
  split at h
  · rename_i e
    show X.env.scope.names.lookup x = _
    rw [F.sc]; exact e
  · cases h
theorem nm_of {x : Str} (h : nmOk x = true) : (x == ("__debug__" : Str)) = false ∧ (x == ("__classdict__" : Str)) = false ∧ x ≠ "__name__" := by
  unfold nmOk at h
  simp only [Bool.and_eq_true, Bool.not_eq_true'] at h
  exact ⟨h.1.1, h.1.2, fun z => by rw [z] at h; exact absurd h.2 (by simp)⟩
theorem star_of {e : Expr} {es : List Expr} {env : Env} (h : plainE e = true) : starEach (e :: es) env = (false, eval e env) :: starEach es env := by
  cases e <;> first | rfl | cases h
theorem anyStar {es : List Expr} {pos : Pos} {env : Env} (h : es.all plainE = true) : (backTo pos (starEach es env)).any (·.1) = false := by
  induction es with
  | nil => rfl
  | cons e es ih =>
    simp only [List.all_cons, Bool.and_eq_true] at h
    rw [star_of h.1]
    show (false || (backTo pos (starEach es env)).any (·.1)) = false
    rw [ih h.2]
    rfl
theorem asg_of {e : Expr} {es : List Expr} {env : Env} (h : plainE e = true) : assignEach (e :: es) env = (false, assign e env) :: assignEach es env := by
  cases e <;> first | rfl | cases h
theorem tup_G : ∀ (n : Nat) (es : List Expr) (k : Nat) (p : Pos) (t : T), compG n Γ (.Tuple es k p) = some t → t.isTup = true ∧ ∀ env : Env, (assignEach es env).length = t.len ∧ (assignEach es env).findIdx? (·.1) = none
  | 0, _, _, _, _, h => by cases h
  | n + 1, [], k, p, t, h => by
    cases h
    exact ⟨rfl, fun _ => ⟨rfl, rfl⟩⟩
  | n + 1, e :: es, k, p, t, h => by
    unfold compG at h
    split at h
    · rename_i he
      obtain ⟨a, _, h2⟩ := Option.bind_eq_some_iff.mp h
      obtain ⟨b, h3, rfl⟩ := Option.map_eq_some_iff.mp h2
      obtain ⟨q1, q2⟩ := tup_G n es k p b h3
      refine ⟨q1, fun env => ?_⟩
      rw [asg_of he]
      obtain ⟨l1, l2⟩ := q2 env
      refine ⟨by show (assignEach es env).length + 1 = b.len + 1; rw [l1], ?_⟩
      rw [List.findIdx?_cons]
      simp [l2]
    · cases h
theorem G_ok (F : Fits Γ X G W) : ∀ (n : Nat), (∀ (e : Expr) (t : T), compG n Γ e = some t → PG X e (gT G t)) ∧ (∀ (es : List Expr) (k : Nat) (p : Pos) (t : T), compG n Γ (.Tuple es k p) = some t → PGs X es (gTs G t))
  | 0 => ⟨fun _ _ h => (by cases h), fun _ _ _ _ h => (by cases h)⟩
  | n + 1 => by
    have ih := G_ok F n
    have ts : ∀ (es : List Expr) (k : Nat) (p : Pos) (t : T), compG (n + 1) Γ (.Tuple es k p) = some t → PGs X es (gTs G t) := by
      intro es k p t h
      cases es with
      | nil => cases h; exact tnil_ok
      | cons e es =>
        unfold compG at h
        split at h
        · rename_i he
          obtain ⟨a, h1, h2⟩ := Option.bind_eq_some_iff.mp h
          obtain ⟨b, h3, rfl⟩ := Option.map_eq_some_iff.mp h2
          exact tcons_ok (ih.1 e a h1) (ih.2 es k p b h3) (by rw [asg_of he]; rfl)
        · cases h
    refine ⟨fun e t h => ?_, ts⟩
    cases e with
    | Name x p =>
      unfold compG at h
      split at h
      · rename_i hl
        obtain ⟨i, h1, rfl⟩ := Option.map_eq_some_iff.mp h
        obtain ⟨l1, l2⟩ := loc_of hl
        refine nm_ok (pg_name (by rw [F.N]; exact F.nd) (by rw [F.N]; exact slot_get h1) (by rw [F.sc]; exact l1) ?_)
        rcases l2 with z | z
        · exact .inr (by rw [F.sc]; exact z)
        · exact .inl (F.fn x z)
      · cases h
    | Tuple es k p =>
      obtain ⟨q1, q2⟩ := tup_G (n + 1) es k p t h
      exact ttup_ok F.K F.calm q1 (ts es k p t h) (q2 X.env).1 (q2 X.env).2
    | _ => cases h
end
/-- what compiles is right, to a depth -/
structure Snd (G : Glo) (n : Nat) : Prop where
  e : ∀ (Γ : Gam) (X : Cx) (W : WX) (e : Expr) (c : E), Fits Γ X G W → comp n Γ e = some c → PE X e (tE G W (ev c))
  o : ∀ (Γ : Gam) (X : Cx) (W : WX) (e : Option Expr) (c : E), Fits Γ X G W → compO n Γ e = some c → (e = none ∧ c = .c .non) ∨ ∃ e' c', e = some e' ∧ c = .int_ c' ∧ PE X e' (tE G W (ev c'))
  a : ∀ (Γ : Gam) (X : Cx) (W : WX) (es : List Expr) (c : E), Fits Γ X G W → comps n Γ es = some c → PA X es (tL G W (evs c))
  t : ∀ (Γ : Gam) (X : Cx) (W : WX) (e : Expr) (c : E), Fits Γ X G W → compT n Γ e = some c → PT X e (tB G W fun v => andThen (ev c v) truthM)
  i : ∀ (Γ : Gam) (X : Cx) (W : WX) (tg e : Expr) (c : E), Fits Γ X G W → compI n Γ tg e = some c → PI X tg e (iG G W (evs c)) ∧ ∀ env v, foldedSetIterable e env v = pure v
section
variable {Γ : Gam} {X : Cx} {G : Glo} {W : WX}
theorem bb {α β : Type} {o : Option α} {f : α → Option β} {b : β} (h : o.bind f = some b) : ∃ a, o = some a ∧ f a = some b := Option.bind_eq_some_iff.mp h
theorem mm {α β : Type} {o : Option α} {f : α → β} {b : β} (h : o.map f = some b) : ∃ a, o = some a ∧ f a = b := Option.map_eq_some_iff.mp h
theorem var_ok {i : Nat} {e : Expr} (h : PE X e (tVar i)) : PE X e (tE G W (ev (.var i))) := by
  refine PE.conv h fun σ H Q hh => ?_
  obtain ⟨μ, v, st, s, t, hA⟩ := hh
  obtain ⟨d, hd, k⟩ := optM_some hA
  obtain ⟨o, h1, h2⟩ := bb hd
  cases h2
  obtain ⟨x, q1, q2⟩ := s.slot i d h1
  exact ⟨x, q1, k.here t q2⟩
theorem con_ok {d : D} {v : V} {e : Expr} (h : PE X e (tC v)) (r : ∀ μ H, Rep G μ H d v) : PE X e (tE G W (ev (.c d))) := by
  refine PE.conv h fun σ H Q hh => ?_
  obtain ⟨μ, e, st, s, t, hA⟩ := hh
  exact KE.here hA t (r μ H)
theorem op2_ok {r : R2} {f : D → D → Option D} {ca cb : E} {σ : L2.St} {H : Hp} {Q : VK} (hr : ∀ v w H Q, rD G f v w H Q → r v w H Q)
    (h : tE G W (fun v => andThen (ev ca v) fun x => andThen (ev cb v) fun y => fun s => optM (f (drf s x) (drf s y)) s) σ H Q) : tOp r (tE G W (ev ca)) (tE G W (ev cb)) σ H Q := by
  obtain ⟨μ, e, st, s, t, hA⟩ := h
  refine tG_then s t hA fun μ1 H1 d1 st1 x g1 s1 t1 r1 hA1 => ?_
  refine tG_then s1 t1 hA1 fun μ2 H2 d2 st2 y g2 s2 t2 r2 hA2 => ?_
  obtain ⟨z, hz, k⟩ := optM_some hA2
  exact hr _ _ _ _ ⟨μ2, st2, _, _, z, t2, t2.drf (r1.gr g2), t2.drf r2, hz, k⟩
theorem truth_then {c : E} {μ : Mp} {e : Ev} {st : Sto} {σ : L2.St} {H : Hp} {γ δ : Type} {R' : Mp → Hp → γ → δ → Prop} {Q : δ → Hp → Prop} {f : D → Bool → Sto → Tr γ} (hK : G.K = X.K)
    (s : SR G μ e σ H) (t : STR G μ st H) (h : ((ev c e st).bind fun x s1 => (truthM x s1).bind fun b s2 => f x b s2).All (KE G R' μ H Q) (KX G W σ μ H)) (P : V → Bool → Hp → Prop)
    (k : ∀ μ1 H1 d st1 x b, Gr μ H μ1 H1 → SR G μ1 e σ H1 → STR G μ1 st1 H1 → Rep G μ1 H1 d x → TruV X.K x H1 b → (f d b st1).All (KE G R' μ1 H1 Q) (KX G W σ μ1 H1) → P x b H1) : tE G W (ev c) σ H fun x H1 => ∃ b, TruV X.K x H1 b ∧ P x b H1 := by
  refine tG_then s t h fun μ1 H1 d st1 x g1 s1 t1 r1 hA => ?_
  cases ht : (drf st1 d).truth with
  | none =>
    have : ((truthM d st1).bind fun b s2 => f d b s2) = .bad := by unfold truthM; rw [ht]; rfl
    rw [this] at hA
    exact hA.elim
  | some b =>
    have : ((truthM d st1).bind fun b s2 => f d b s2) = f d b st1 := by unfold truthM; rw [ht]; rfl
    rw [this] at hA
    exact ⟨b, truth_ok hK (t1.drf r1) ht, k μ1 H1 d st1 x b g1 s1 t1 r1 (truth_ok hK (t1.drf r1) ht) hA⟩
end
end Gw

set_option Elab.async false
set_option linter.all false
set_option maxRecDepth 100000
set_option maxHeartbeats 1000000
/-! Gw7: what compiles is right: expressions. -/
namespace Gw
open PySem PySem.Spec PyProof.Rows L2
section
variable {G : Glo}
theorem Tr.bind_asc {α β γ : Type} {f : α → Sto → Tr β} {g : β → Sto → Tr γ} : ∀ t : Tr α, (t.bind f).bind g = t.bind fun a s => (f a s).bind g
  | .ok a s => rfl
  | .ex x v s => rfl
  | .pick n k => by
    show Tr.pick n _ = Tr.pick n _
    congr 1
    funext i
    exact Tr.bind_asc (k i)
  | .bad => rfl
theorem un1 {W : WX} {r : V → Hp → VK → Prop} {f : D → Option D} {ca : E} {σ : L2.St} {H : Hp} {Q : VK} (hr : ∀ v H Q, rD1 G f v H Q → r v H Q)
    (h : tE G W (fun v => andThen (ev ca v) fun x => optM (f x)) σ H Q) : tUn r (tE G W (ev ca)) σ H Q := by
  obtain ⟨μ, e, st, s, t, hA⟩ := h
  refine tG_then s t hA fun μ1 H1 d1 st1 x g1 s1 t1 r1 hA1 => ?_
  obtain ⟨z, hz, k⟩ := optM_some hA1
  exact hr _ _ _ ⟨μ1, st1, d1, z, t1, .rep r1, hz, k⟩
/-- from args to a call of a built-in -/
theorem bi_ok {W : WX} {φ : List D → Option D} {c : E} {σ : L2.St} {H : Hp} {Q : VK} (h : tE G W (ev (.call (bi φ) c)) σ H Q) : tCB (rL G φ) (tL G W (evs c)) σ H Q := by
  obtain ⟨μ, e, st, s, t, hA⟩ := h
  refine tG_then (da := evs c) s t hA fun μ1 H1 ds st1 vs g1 s1 t1 r1 hA1 => ?_
  obtain ⟨z, hz, k⟩ := optM_some hA1
  exact ⟨μ1, st1, _, z, t1, t1.drfs r1, hz, k⟩
theorem call_ok {W : WX} {φ : List D → M D} {np : Nat} {c : E} {σ : L2.St} {H : Hp} {Q : VK} (hl : ∀ μ H ds vs, Reps G μ H ds vs → ∀ st P E, (φ ds st).All P E → ds.length = np) (h : tE G W (ev (.call φ c)) σ H Q) :
    tCallS (spD G φ np) (WE W) (tL G W (evs c)) σ H Q := by
  obtain ⟨μ, e, st, s, t, hA⟩ := h
  refine tG_then (da := evs c) s t hA fun μ1 H1 ds st1 vs g1 s1 t1 r1 hA1 => ?_
  exact ⟨by rw [← r1.length]; exact hl μ1 H1 ds vs r1 st1 _ _ hA1, μ1, ds, st1, r1, t1, hA1⟩
theorem call_ok' {W : WX} {φ : List D → M D} {np : Nat} {c : E} {σ : L2.St} {H : Hp} {Q : VK} (hl : ∀ ds st P E, (φ ds st).All P E → ds.length = np) (h : tE G W (ev (.call φ c)) σ H Q) :
    tCallS (spD G φ np) (WE W) (tL G W (evs c)) σ H Q := call_ok (fun _ _ ds _ _ st P E => hl ds st P E) h
theorem own_plain {e : Expr} {Γ : Gam} {n : Nat} {c : E} (h : comp n Γ e = some c) : plainE e = true := by
  cases n with
  | zero => cases h
  | succ n => cases e <;> first | rfl | cases h
theorem push_ok {μ : Mp} {H : Hp} {st : Sto} {p : Addr} {ds : List D} {vs : List V} (t : STR G μ st H) (hp : H p = none) (r : Reps G μ H ds vs) :
    STR G ⟨p :: μ.M, μ.m ++ [p]⟩ (st ++ [.lst ds]) (upd H p (.lst vs)) ∧ Gr μ H ⟨p :: μ.M, μ.m ++ [p]⟩ (upd H p (.lst vs)) := by
  have g : Gr μ H ⟨p :: μ.M, μ.m ++ [p]⟩ (upd H p (.lst vs)) := by
    refine ⟨fun a u e _ => by rw [upd_ne (ne_of_none e hp)]; exact e, fun a e => ?_, ⟨[p], rfl, fun a ha => by rw [List.mem_singleton.mp ha]; exact hp⟩, fun a ha => List.mem_cons_of_mem _ ha, fun a ha => ?_, t.sub⟩
    · by_cases z : a = p
      · rw [z]; exact hp
      · rw [upd_ne z] at e; exact e
    · rcases List.mem_cons.mp ha with z | z
      · exact .inr (by rw [z]; exact hp)
      · exact .inl z
  refine ⟨⟨by simp [t.len], fun i o h => ?_, fun a ha => ?_, ?_, fun a ha => ?_⟩, g⟩
  · by_cases hi : i < st.length
    · rw [List.getElem?_append_left hi] at h
      obtain ⟨a, h1, h2⟩ := t.at_ i o h
      refine ⟨a, by show (μ.m ++ [p])[i]? = _; rw [List.getElem?_append_left (by rw [t.len]; exact hi)]; exact h1, h2.same g (upd_ne fun z => ?_)⟩
      exact t.tr a (t.sub a (List.mem_of_getElem? h1)) (by rw [z]; exact hp)
    · have hi2 : i = st.length := by
        have := (List.getElem?_eq_some_iff.mp h).1
        rw [List.length_append] at this
        simp at this
        omega
      subst hi2
      rw [List.getElem?_append_right (Nat.le_refl _), Nat.sub_self] at h
      cases h
      refine ⟨p, by show (μ.m ++ [p])[st.length]? = _; rw [List.getElem?_append_right (by rw [t.len]; exact Nat.le_refl _), t.len, Nat.sub_self]; rfl, vs, upd_same, r.gr g⟩
  · rcases List.mem_append.mp ha with z | z
    · exact List.mem_cons_of_mem _ (t.sub a z)
    · rw [List.mem_singleton.mp z]; exact List.mem_cons_self
  · show (μ.m ++ [p]).Nodup
    rw [List.nodup_append]
    refine ⟨t.nd, by simp, fun a ha b hb z => ?_⟩
    rw [List.mem_singleton.mp hb] at z
    exact t.tr a (t.sub a ha) (by rw [z]; exact hp)
  · rcases List.mem_cons.mp ha with z | z
    · rw [z, upd_same]; simp
    · rw [upd_ne fun q => t.tr a z (by rw [q]; exact hp)]; exact t.tr a z
/-- a list at hand gets other members -/
theorem chg_ok {μ : Mp} {H : Hp} {st : Sto} {r : Nat} {p : Addr} {xs xs' : List D} {vs vs' : List V} (t : STR G μ st H) (hp : μ.m[r]? = some p) (hx : st[r]? = some (.lst xs)) (hv : H p = some (.lst vs)) (rv : Reps G μ H xs' vs') :
    STR G μ (st.set r (.lst xs')) (upd H p (.lst vs')) ∧ Gr μ H μ (upd H p (.lst vs')) := by
  have hm : p ∈ μ.m := List.mem_of_getElem? hp
  have hM := t.sub p hm
  have g : Gr μ H μ (upd H p (.lst vs')) := by
    refine ⟨fun a u e n => by rw [upd_ne fun z => n (by rw [z]; exact hm)]; exact e, fun a e => ?_, ⟨[], by simp, by simp⟩, fun _ h => h, fun _ h => .inl h, t.sub⟩
    by_cases z : a = p
    · rw [z, upd_same] at e; cases e
    · rw [upd_ne z] at e; exact e
  refine ⟨⟨by simp [t.len], fun i o h => ?_, t.sub, t.nd, fun a h => ?_⟩, g⟩
  · by_cases hi : r = i
    · subst hi
      have hl : r < st.length := (List.getElem?_eq_some_iff.mp hx).1
      rw [List.getElem?_set_self hl] at h
      cases h
      exact ⟨p, hp, _, upd_same, rv.upd_ hM⟩
    · rw [List.getElem?_set_ne hi] at h
      obtain ⟨a, h1, h2⟩ := t.at_ i o h
      have ne : a ≠ p := fun z => hi (by
        subst z
        obtain ⟨l1, e1⟩ := List.getElem?_eq_some_iff.mp hp
        obtain ⟨l2, e2⟩ := List.getElem?_eq_some_iff.mp h1
        have pw := List.pairwise_iff_getElem.mp t.nd
        rcases Nat.lt_trichotomy r i with z | z | z
        · exact absurd (e1.trans e2.symm) (pw r i l1 l2 z)
        · exact z
        · exact absurd (e1.trans e2.symm).symm (pw i r l2 l1 z))
      exact ⟨a, h1, h2.same g (upd_ne ne)⟩
  · by_cases z : a = p
    · rw [z, upd_same]; simp
    · rw [upd_ne z]; exact t.tr a h
theorem app_ok {X : Cx} {W : WX} {o y : E} {σ : L2.St} {H : Hp} {Q : VK} (hK : G.K = X.K) (h : tE G W (ev (.app o y)) σ H Q) : tBM X.K "list" rAppend (tE G W (ev o)) (tCons (tE G W (ev y)) tNil) σ H Q := by
  obtain ⟨μ, e, st, s, t, hA⟩ := h
  refine tG_then s t hA fun μ1 H1 d st1 v g1 s1 t1 r1 hA1 => ?_
  cases d <;> first | exact hA1.elim | skip
  rename_i r
  cases r1 with
  | @ref _ a ha =>
    have hl : r < st1.length := by rw [← t1.len]; exact (List.getElem?_eq_some_iff.mp ha).1
    have hq : ∃ xs, SqL X.K H1 a xs := by
      obtain ⟨a', h1, h2⟩ := t1.at_ r _ (List.getElem?_eq_getElem hl)
      rw [ha] at h1
      cases h1
      cases hs : st1[r] with
      | lst xs => rw [hs] at h2; obtain ⟨vs, h3, _⟩ := h2; exact ⟨vs, .inl (.inl h3)⟩
      | hat => rw [hs] at h2; obtain ⟨_, _, _, h3, _⟩ := h2; exact ⟨_, .inl (.inl h3)⟩
    refine ⟨.inl ⟨rfl, hq⟩, tG_then s1 t1 hA1 fun μ2 H2 d2 st2 w g2 s2 t2 r2 hA2 => ?_⟩
    have hA3 : ((match st2[r]? with
      | some (.lst xs) => if xs.length < sizeLine then Tr.ok D.non (st2.set r (.lst (xs ++ [d2]))) else Tr.bad
      | _ => Tr.bad) : Tr D).All (KE G (Rep G) μ2 H2 Q) (KX G W σ μ2 H2) := hA2
    cases hs : st2[r]? with
    | none => rw [hs] at hA3; exact hA3.elim
    | some ob =>
      rw [hs] at hA3
      cases ob with
      | hat => exact hA3.elim
      | lst xs =>
        dsimp only at hA3
        split at hA3
        · rename_i hz
          obtain ⟨b, h1, vs, h2, h3⟩ := t2.at_ r _ hs
          have hb : μ2.m[r]? = some a := by
            obtain ⟨z, q, _⟩ := g2.pre
            rw [q, List.getElem?_append_left (List.getElem?_eq_some_iff.mp ha).1]
            exact ha
          rw [hb] at h1
          cases h1
          obtain ⟨t3, g3⟩ := chg_ok (vs' := vs ++ [w]) (xs' := xs ++ [d2]) t2 hb hs h2 (h3.append (.cons r2 .nil))
          exact ⟨a, vs, w, rfl, rfl, h2, by rw [← h3.length]; exact hz, (show KE G (Rep G) μ2 H2 Q .non _ from hA3) μ2 _ _ g3 t3 .non⟩
        · exact hA3.elim
theorem idx_ok {n : Nat} (ih : Snd G n) {Γ : Gam} {X : Cx} {W : WX} (F : Fits Γ X G W) {a i : Expr} {p : Pos} {c : E} (hp : PlainIx i) (h' : ((comp n Γ a).bind fun x => (comp n Γ i).map fun k => E.ix x k) = some c) : PE X (.Subscript a i p) (tE G W (ev c)) := by
  obtain ⟨x, h1, h2⟩ := bb h'
  obtain ⟨y, h3, rfl⟩ := mm h2
  exact PE.conv (pe_ix (ix_ok F.K) (ih.e Γ X W a x F h1) (ih.e Γ X W i y F h3) hp) fun σ H Q q => op2_ok (fun _ _ _ _ z => z) q
/-- a part of a slice: nothing, or an int -/
def PartC (c : E) (o : Option Int → D) : Prop := True
theorem part_then {n : Nat} (ih : Snd G n) {Γ : Gam} {X : Cx} {W : WX} (F : Fits Γ X G W) {o : Option Expr} {c : E} (h : compO n Γ o = some c) : ∃ t : TO, PO X o t ∧
    ∀ (μ : Mp) (e : Ev) (st : Sto) (σ : L2.St) (H : Hp) (γ δ : Type) (R' : Mp → Hp → γ → δ → Prop) (Q : δ → Hp → Prop) (f : D → Sto → Tr γ) (P : Option Int → Hp → Prop), SR G μ e σ H → STR G μ st H → ((ev c e st).bind f).All (KE G R' μ H Q) (KX G W σ μ H) →
      (∀ μ1 H1 d st1 k, Gr μ H μ1 H1 → SR G μ1 e σ H1 → STR G μ1 st1 H1 → partD d = some k → (f d st1).All (KE G R' μ1 H1 Q) (KX G W σ μ1 H1) → P k H1) → t σ H P := by
  cases n with
  | zero => cases h
  | succ n =>
    rcases ih.o Γ X W o c F h with ⟨rfl, rfl⟩ | ⟨e', c', rfl, rfl, pe⟩
    · exact ⟨_, po_none, fun μ e st σ H γ δ R' Q f P s t hA k => k μ H .non st none (Gr.refl t.sub) s t rfl hA⟩
    · refine ⟨_, po_some pe, fun μ e st σ H γ δ R' Q f P s t hA k => ?_⟩
      have hA' : ((ev c' e st).bind fun x s1 => ((match x with
          | .int i => ret (D.int i)
          | _ => badM) s1).bind f).All (KE G R' μ H Q) (KX G W σ μ H) := by
        refine (Tr.All_bind _).mpr ?_
        exact Tr.All_mono (fun d s2 hq => (Tr.All_bind _).mpr hq) (fun _ _ _ q => q) _ ((Tr.All_bind _).mp ((Tr.All_bind _).mp hA))
      refine tG_then s t hA' fun μ1 H1 d st1 x g1 s1 t1 r1 hA1 => ?_
      cases d <;> first | exact hA1.elim | skip
      cases r1
      exact ⟨_, rfl, k μ1 H1 _ st1 _ g1 s1 t1 rfl hA1⟩
theorem lc_parts {n : Nat} (ih : Snd G n) {Γ : Gam} {X : Cx} {W : WX} (F : Fits Γ X G W) {elt tg it : Expr} {ifs : List Expr} {sc : Scope} {p : Pos} {c : E} (h : comp (n + 1) Γ (.ListComp elt [⟨tg, it, ifs, 0⟩] sc p) = some c) :
    ∃ (wi : TI) (g : TG) (tt : TT) (te : TE), PI X tg it wi ∧ BlkOk X.N X.env.scope sc (ownOf Γ.N sc) ∧ (∀ (s : Shared) (H : Hp) (C : Addr) (cl : List (Str × Addr)) (fp : List Addr), PG (X.blk s H sc (compEnvC sc cl C X.env) fp) tg g) ∧
      (∀ (s : Shared) (H : Hp) (C : Addr) (cl : List (Str × Addr)) (fp : List Addr), PTs (X.blk s H sc (compEnvC sc cl C X.env) fp) ifs tt) ∧ (∀ (s : Shared) (H : Hp) (C : Addr) (cl : List (Str × Addr)) (fp : List Addr), PE (X.blk s H sc (compEnvC sc cl C X.env) fp) elt te) ∧
      (∀ v, foldedSetIterable it X.env v = pure v) ∧ ∀ σ H Q, tE G W (ev c) σ H Q → tLc wi g tt te (ownIx Γ.N sc) σ H Q := by
  have h' : (if blkC Γ.N Γ.sc sc (ownOf Γ.N sc) then (compI n Γ tg it).bind fun ci =>
    (compG n (Γ.inner sc) tg).bind fun ct => if ct.slots.all fun j => decide (j ∈ ownIx Γ.N sc) then
    (match ifs with
      | [] => some (E.c (.bl true))
      | [c] => compT n (Γ.inner sc) c
      | _ => none).bind fun cc => (comp n (Γ.inner sc) elt).map fun ce => E.lc (ownIx Γ.N sc) ct ci cc ce else none else none) = some c := h
  split at h'
  · rename_i hb
    obtain ⟨ci, h1, h2⟩ := bb h'
    obtain ⟨ct, h3, h4⟩ := bb h2
    split at h4
    · rename_i hs
      obtain ⟨cc, h5, h6⟩ := bb h4
      obtain ⟨ce, h7, rfl⟩ := mm h6
      obtain ⟨pi, hf⟩ := ih.i Γ X W tg it ci F h1
      have ok : BlkOk X.N X.env.scope sc (ownOf Γ.N sc) := by rw [F.N, F.sc]; exact blkOk_by hb
      have tt : ∃ tt : TT, (∀ (s : Shared) (H : Hp) (C : Addr) (cl : List (Str × Addr)) (fp : List Addr), PTs (X.blk s H sc (compEnvC sc cl C X.env) fp) ifs tt) ∧ ∀ σ H Q, tB G (fun _ _ _ _ => False) (fun v => andThen (ev cc v) truthM) σ H Q → tt σ H Q := by
        match ifs, h5 with
        | [], h5 =>
          cases h5
          refine ⟨tYes, fun _ _ _ _ _ => pts_nil, fun σ H Q q => ?_⟩
          obtain ⟨μ, e, st, s, t, hA⟩ := q
          exact KE.here (show KE G (fun _ _ a b => a = b) μ H Q true st from hA) t rfl
        | [k], h5 => exact ⟨_, fun s H C cl fp => pts_one (ih.t _ _ _ k cc (F.inner ok s H C cl fp) h5), fun _ _ _ q => q⟩
      obtain ⟨tt, ht1, ht2⟩ := tt
      refine ⟨_, _, tt, _, pi, ok, (fun s H C cl fp => (G_ok (F.inner ok s H C cl fp) n).1 tg ct h3), ht1, (fun s H C cl fp => ih.e _ _ _ elt ce (F.inner ok s H C cl fp) h7), (hf X.env), fun σ H Q q => ?_⟩
      exact lc_ok (fun j hj => of_decide_eq_true (List.all_eq_true.mp hs j hj)) (fun _ _ _ z => z) (fun _ _ _ _ z => z) ht2 (fun _ _ _ z => z) q
    · cases h4
  · cases h'
theorem snd_e {n : Nat} (ih : Snd G n) {Γ : Gam} {X : Cx} {W : WX} (F : Fits Γ X G W) {e : Expr} {c : E} (h : comp (n + 1) Γ e = some c) : PE X e (tE G W (ev c)) := by
  have hu : X.A.units + 64 < cLine := F.room.units
  cases e with
  | Name x p =>
    have h' : (if nmOk x then (if visB Γ.sc x then (slotOf Γ.N x).map .var else if gloB Γ.sc x then (match Γ.cst.lookup x with
      | some d => some (.c d)
      | none => match tys.lookup x with
        | some t => if Γ.free.contains x then some (.c (.ty t)) else none
        | none => none) else none) else none) = some c := h
    split at h'
    · rename_i hn
      obtain ⟨n1, n2, n3⟩ := nm_of hn
      split at h'
      · rename_i hv
        obtain ⟨i, h1, rfl⟩ := mm h'
        exact var_ok (pe_var (by rw [F.N]; exact slot_get h1) (by rw [F.sc]; exact vis_of hv) n1 n2)
      · split at h'
        · rename_i hg
          cases hc : Γ.cst.lookup x with
          | some d =>
            rw [hc] at h'
            cases h'
            obtain ⟨u, v, q1, q2, q3⟩ := F.cst x d hc
            exact con_ok (pe_glob (glo_of F hg) q1 q2 n1) q3
          | none =>
            rw [hc] at h'
            cases ht : tys.lookup x with
            | none => rw [ht] at h'; cases h'
            | some t =>
              rw [ht] at h'
              obtain ⟨q, rfl⟩ := if_some h'
              have hm := PySem.mem_of_lookup ht
              have hb : bootBuiltins x = some (.type t) := by
                unfold tys at hm
                simp only [List.mem_cons, List.not_mem_nil, or_false, Prod.mk.injEq] at hm
                rcases hm with ⟨rfl, rfl⟩ | ⟨rfl, rfl⟩ | ⟨rfl, rfl⟩ | ⟨rfl, rfl⟩ | ⟨rfl, rfl⟩ <;> decide +kernel
              exact con_ok (pe_bltn (v := .ty t) (glo_of F hg) (F.free x (by simpa using q)) hb rfl n3 n1) fun _ _ => .ty t
        · cases h'
    · cases h'
  | Constant k i p =>
    cases k <;> first | (cases h; done) | skip
    · cases h; exact con_ok pe_non fun _ _ => .non
    · cases h; exact con_ok pe_bl fun _ _ => .bl _
    · cases h; exact con_ok pe_int fun _ _ => .int _
    · cases h; exact con_ok pe_str fun _ _ => .str _
  | BinOp a o b p =>
    have h' : ((comp n Γ a).bind fun x => (comp n Γ b).map fun y => E.bin o x y) = some c := h
    obtain ⟨x, h1, h2⟩ := bb h'
    obtain ⟨y, h3, rfl⟩ := mm h2
    exact PE.conv (pe_op (bin_ok F.K o) (ih.e Γ X W a x F h1) (ih.e Γ X W b y F h3)) fun σ H Q q => op2_ok (fun _ _ _ _ z => z) q
  | UnaryOp o a p =>
    cases o <;> first | (cases h; done) | skip
    · have h' : (comp n Γ a).map E.not_ = some c := h
      obtain ⟨x, h1, rfl⟩ := mm h'
      refine PE.conv (pe_notT (ih.e Γ X W a x F h1)) fun σ H Q q => ?_
      obtain ⟨μ, e, st, s, t, hA⟩ := q
      exact truth_then F.K s t hA (fun x b H1 => Q (.bl (!b)) H1) fun μ1 H1 d st1 x b g1 s1 t1 r1 tv hA1 => KE.here hA1 t1 (.bl _)
    · have h' : (comp n Γ a).map E.neg = some c := h
      obtain ⟨x, h1, rfl⟩ := mm h'
      exact PE.conv (pe_un neg_ok (ih.e Γ X W a x F h1)) fun σ H Q q => un1 (fun _ _ _ z => z) q
  | Compare a os bs p =>
    match os, bs with
    | [o], [b] =>
      have h' : (if behindInMarks o b then none else (comp n Γ a).bind fun x => (comp n Γ b).map fun y => E.cmp o x y) = some c := h
      split at h'
      · cases h'
      · rename_i hm
        obtain ⟨x, h1, h2⟩ := bb h'
        obtain ⟨y, h3, rfl⟩ := mm h2
        exact PE.conv (pe_cmpR (cmp_ok F.K hu o) (ih.e Γ X W a x F h1) (ih.e Γ X W b y F h3) (by simpa using hm)) fun σ H Q q => op2_ok (fun _ _ _ _ z => z) q
    | [o, o'], [b, b'] =>
      have h' : (if behindInMarks o' b' then none else (comp n Γ a).bind fun x => (comp n Γ b).bind fun y => (comp n Γ b').map fun z => E.chain o o' x y z) = some c := h
      split at h'
      · cases h'
      · rename_i hm
        obtain ⟨x, h1, h2⟩ := bb h'
        obtain ⟨y, h3, h4⟩ := bb h2
        obtain ⟨z, h5, rfl⟩ := mm h4
        refine PE.conv (pe_chain (cmp_ok F.K hu o) (cmp_ok F.K hu o') (ih.e Γ X W a x F h1) (ih.e Γ X W b y F h3) (ih.e Γ X W b' z F h5) (by show behindInMarks o' b' = false; simpa using hm)) fun σ H Q q => ?_
        obtain ⟨μ, e, st, s, t, hA⟩ := q
        refine tG_then s t hA fun μ1 H1 d1 st1 v1 g1 s1 t1 r1 hA1 => ?_
        refine tG_then s1 t1 hA1 fun μ2 H2 d2 st2 v2 g2 s2 t2 r2 hA2 => ?_
        obtain ⟨d3, hz, k⟩ := optM_some ((Tr.All_bind _).mp hA2)
        refine ⟨μ2, st2, _, _, d3, t2, t2.drf (r1.gr g2), t2.drf r2, hz, fun μ3 H3 v3 g3 t3 r3 => ?_⟩
        have k' := Tr.All_mono (P' := KE G (Rep G) μ3 H3 Q) (E' := KX G W σ μ3 H3) (fun _ _ z => KE.gr g3 z) (fun _ _ _ z => KX.gr g3 z) _ k
        cases d3 <;> first | exact k.elim | skip
        rename_i bv
        cases r3
        refine ⟨bv, rfl, ?_⟩
        cases bv with
        | false =>
          rw [if_neg Bool.false_ne_true]
          exact (show KE G (Rep G) μ2 H2 Q (.bl false) st2 from k) μ3 H3 _ g3 t3 (.bl _)
        | true =>
          rw [if_pos rfl]
          refine tG_then (s2.gr g3) t3 k' fun μ4 H4 d4 st4 v4 g4 s4 t4 r4 hA4 => ?_
          obtain ⟨zz, hz4, k4⟩ := optM_some hA4
          exact ⟨μ4, st4, _, _, zz, t4, t4.drf ((r2.gr g3).gr g4), t4.drf r4, hz4, k4⟩
    | [], _ => cases h
    | [_], [] => cases h
    | [_], _ :: _ :: _ => cases h
    | [_, _], [] => cases h
    | [_, _], [_] => cases h
    | [_, _], _ :: _ :: _ :: _ => cases h
    | _ :: _ :: _ :: _, _ => cases h
  | BoolOp o as p =>
    match as with
    | [] => cases o <;> cases h
    | [a] =>
      have h' : comp n Γ a = some c := by cases o <;> exact h
      exact pe_one (ih.e Γ X W a c F h')
    | a :: b :: r =>
      cases o with
      | And =>
        have h' : ((comp n Γ a).bind fun x => (comp n Γ (.BoolOp .And (b :: r) p)).map fun y => E.and_ x y) = some c := h
        obtain ⟨x, h1, h2⟩ := bb h'
        obtain ⟨y, h3, rfl⟩ := mm h2
        refine PE.conv (pe_andT (ih.e Γ X W a x F h1) (ih.e Γ X W _ y F h3)) fun σ H Q q => ?_
        obtain ⟨μ, e, st, s, t, hA⟩ := q
        refine truth_then F.K s t hA (fun x b H1 => if b = true then tE G W (ev y) σ H1 Q else Q x H1) fun μ1 H1 d st1 x b g1 s1 t1 r1 tv hA1 => ?_
        cases b with
        | true => rw [if_pos rfl] at hA1 ⊢; exact ⟨μ1, e, st1, s1, t1, hA1⟩
        | false => rw [if_neg Bool.false_ne_true] at hA1 ⊢; exact KE.here hA1 t1 r1
      | Or =>
        have h' : ((comp n Γ a).bind fun x => (comp n Γ (.BoolOp .Or (b :: r) p)).map fun y => E.or_ x y) = some c := h
        obtain ⟨x, h1, h2⟩ := bb h'
        obtain ⟨y, h3, rfl⟩ := mm h2
        refine PE.conv (pe_orT (ih.e Γ X W a x F h1) (ih.e Γ X W _ y F h3)) fun σ H Q q => ?_
        obtain ⟨μ, e, st, s, t, hA⟩ := q
        refine truth_then F.K s t hA (fun x b H1 => if b = true then Q x H1 else tE G W (ev y) σ H1 Q) fun μ1 H1 d st1 x b g1 s1 t1 r1 tv hA1 => ?_
        cases b with
        | true => rw [if_pos rfl] at hA1 ⊢; exact KE.here hA1 t1 r1
        | false => rw [if_neg Bool.false_ne_true] at hA1 ⊢; exact ⟨μ1, e, st1, s1, t1, hA1⟩
  | IfExp t a b p =>
    have h' : ((compT n Γ t).bind fun x => (comp n Γ a).bind fun y => (comp n Γ b).map fun z => E.ite x y z) = some c := h
    obtain ⟨x, h1, h2⟩ := bb h'
    obtain ⟨y, h3, h4⟩ := bb h2
    obtain ⟨z, h5, rfl⟩ := mm h4
    refine PE.conv (pe_ifExp (ih.t Γ X W t x F h1) (ih.e Γ X W a y F h3) (ih.e Γ X W b z F h5)) fun σ H Q q => ?_
    obtain ⟨μ, e, st, s, tt, hA⟩ := q
    have hA' : ((andThen (ev x e) truthM st).bind fun b s2 => (if b = true then ev y e else ev z e) s2).All (KE G (Rep G) μ H Q) (KX G W σ μ H) := by
      refine (Tr.All_bind _).mpr ((Tr.All_bind (f := truthM) _).mpr ?_)
      exact Tr.All_mono (fun d s2 hq => (Tr.All_bind _).mp hq) (fun _ _ _ q => q) _ ((Tr.All_bind _).mp hA)
    refine tG_then (da := fun v => andThen (ev x v) truthM) s tt hA' fun μ1 H1 b st1 b' g1 s1 t1 eb hA1 => ?_
    subst eb
    cases b with
    | true => rw [if_pos rfl] at hA1 ⊢; exact ⟨μ1, e, st1, s1, t1, hA1⟩
    | false => rw [if_neg Bool.false_ne_true] at hA1 ⊢; exact ⟨μ1, e, st1, s1, t1, hA1⟩
  | Tuple es k p =>
    have h' : (comps n Γ es).map E.tup = some c := h
    obtain ⟨x, h1, rfl⟩ := mm h'
    refine PE.conv (pe_tup (ih.a Γ X W es x F h1)) fun σ H Q q => ?_
    obtain ⟨μ, e, st, s, t, hA⟩ := q
    refine tG_then (da := evs x) s t hA fun μ1 H1 ds st1 vs g1 s1 t1 r1 hA1 => ?_
    have hA2 : ((lenOk ds st1).bind fun xs s => .ok (D.tup xs) s).All (KE G (Rep G) μ1 H1 Q) (KX G W σ μ1 H1) := hA1
    unfold lenOk at hA2
    split at hA2
    · rename_i hz
      exact ⟨by rw [← r1.length]; exact hz, fun p hp => KE.tup (show KE G (Rep G) μ1 H1 Q (.tup ds) st1 from hA2) t1 r1 hp⟩
    · exact hA2.elim
  | List es p =>
    have h' : ((comps n Γ es).map fun c => if Γ.mu.contains (p.line, p.col) then E.lstM c else E.lst c) = some c := h
    obtain ⟨x, h1, h2⟩ := mm h'
    split at h2
    · subst h2
      refine PE.conv (pe_lst (ih.a Γ X W es x F h1)) fun σ H Q q => ?_
      obtain ⟨μ, e, st, s, t, hA⟩ := q
      refine tG_then (da := evs x) s t hA fun μ1 H1 ds st1 vs g1 s1 t1 r1 hA1 => ?_
      have hA2 : ((lenOk ds st1).bind fun xs s => .ok (D.ref s.length) (s ++ [.lst xs])).All (KE G (Rep G) μ1 H1 Q) (KX G W σ μ1 H1) := hA1
      unfold lenOk at hA2
      split at hA2
      · rename_i hz
        refine ⟨by rw [← r1.length]; exact hz, fun p hp => ?_⟩
        obtain ⟨q1, q2⟩ := push_ok t1 hp r1
        refine (show KE G (Rep G) μ1 H1 Q (.ref st1.length) (st1 ++ [.lst ds]) from hA2) _ _ _ q2 q1 (.ref ?_)
        show (μ1.m ++ [p])[st1.length]? = _
        rw [List.getElem?_append_right (by rw [t1.len]; exact Nat.le_refl _), t1.len, Nat.sub_self]
        rfl
      · exact hA2.elim
    · subst h2
      refine PE.conv (pe_lst (ih.a Γ X W es x F h1)) fun σ H Q q => ?_
      obtain ⟨μ, e, st, s, t, hA⟩ := q
      refine tG_then (da := evs x) s t hA fun μ1 H1 ds st1 vs g1 s1 t1 r1 hA1 => ?_
      have hA2 : ((lenOk ds st1).bind fun xs s => .ok (D.lst xs) s).All (KE G (Rep G) μ1 H1 Q) (KX G W σ μ1 H1) := hA1
      unfold lenOk at hA2
      split at hA2
      · rename_i hz
        exact ⟨by rw [← r1.length]; exact hz, fun p hp => KE.lst (show KE G (Rep G) μ1 H1 Q (.lst ds) st1 from hA2) t1 r1 hp⟩
      · exact hA2.elim
  | Subscript a i p =>
    cases i with
    | Slice lo hi stp p2 =>
      cases stp with
      | some z => cases h
      | none =>
        have h' : ((comp n Γ a).bind fun x => (compO n Γ lo).bind fun l => (compO n Γ hi).map fun h => E.sl x l h) = some c := h
        obtain ⟨x, h1, h2⟩ := bb h'
        obtain ⟨l, h3, h4⟩ := bb h2
        obtain ⟨r, h5, rfl⟩ := mm h4
        obtain ⟨tl, pl, kl⟩ := part_then ih F h3
        obtain ⟨tr, pr, kr⟩ := part_then ih F h5
        refine PE.conv (pe_slice sl_lstT (ih.e Γ X W a x F h1) pl pr) fun σ H Q q => ?_
        obtain ⟨μ, e, st, s, t, hA⟩ := q
        refine tG_then s t hA fun μ1 H1 d st1 v g1 s1 t1 r1 hA1 => ?_
        refine kl μ1 e st1 σ H1 _ _ _ _ _ _ s1 t1 hA1 fun μ2 H2 d2 st2 k2 g2 s2 t2 e2 hA2 => ?_
        refine kr μ2 e st2 σ H2 _ _ _ _ _ _ s2 t2 hA2 fun μ3 H3 d3 st3 k3 g3 s3 t3 e3 hA3 => ?_
        obtain ⟨z, hz, k⟩ := optM_some hA3
        exact sl_of F.K t3 (t3.drf ((r1.gr g2).gr g3)) e2 e3 hz k
    | _ => exact idx_ok ih F (fun _ _ => rfl) h
  | ListComp elt gs sc p =>
    match gs with
    | [] => cases h
    | ⟨_, _, _, .negSucc _⟩ :: _ :: _ => cases h
    | ⟨_, _, _, .ofNat 0⟩ :: _ :: _ => cases h
    | ⟨_, _, _, .ofNat (_ + 1)⟩ :: _ :: _ => cases h
    | [⟨tg, it, ifs, .negSucc _⟩] => cases h
    | [⟨tg, it, ifs, .ofNat (_ + 1)⟩] => cases h
    | [⟨tg, it, ifs, .ofNat 0⟩] =>
      obtain ⟨wi, g, tt, te, q1, q2, q3, q4, q5, q6, q7⟩ := lc_parts ih F h
      exact PE.conv (pe_lc F.calm (by rw [F.N]; exact F.nd) q1 q2 q3 q4 q5 q6) q7
  | Call f as ks p =>
    cases f with
    | Name f fp =>
     match as, ks with
     | [], _ => cases h
     | _ :: _, _ :: _ => cases h
     | a :: as, [] =>
      have h' : (if nmOk f && gloB Γ.sc f && (a :: as).all plainE then (match Γ.fns.lookup f with
        | some fi => if fi.lv ≤ Γ.lv then (comps n Γ (a :: as)).map (E.call fi.φ) else none
        | none => match bis.lookup f with
          | some v => if Γ.free.contains f then (comps n Γ (a :: as)).map (E.call (bi v.2)) else none
          | none => none) else none) = some c := h
      split at h'
      · rename_i hc
        simp only [Bool.and_eq_true, List.all_cons] at hc
        obtain ⟨n1, n2, n3⟩ := nm_of hc.1.1
        have hg := glo_of F hc.1.2
        have st := star_of (es := as) (env := X.env) hc.2.1
        have an := anyStar (pos := p) (env := X.env) hc.2.2
        cases hq : Γ.fns.lookup f with
        | some fi =>
          rw [hq] at h'
          obtain ⟨hl, h2⟩ : fi.lv ≤ Γ.lv ∧ (comps n Γ (a :: as)).map (E.call fi.φ) = some c := by
            by_cases hl : fi.lv ≤ Γ.lv
            · exact ⟨hl, by have h3 : (if fi.lv ≤ Γ.lv then (comps n Γ (a :: as)).map (E.call fi.φ) else none) = some c := h'; rw [if_pos hl] at h3; exact h3⟩
            · have h3 : (if fi.lv ≤ Γ.lv then (comps n Γ (a :: as)).map (E.call fi.φ) else none) = some c := h'
              rw [if_neg hl] at h3
              cases h3
          obtain ⟨x, h4, rfl⟩ := mm h2
          obtain ⟨g, fd, ps, q1, q2, q3, q4, q5⟩ := F.fns f fi hq
          exact PE.conv (pe_callS q4 (F.room.mono hl) hg q1 q2 q3 (fun σ => passAt F.tk σ) (ih.a Γ X W (a :: as) x F h4) n1 st an) fun σ H Q q => call_ok' q5 q
        | none =>
          rw [hq] at h'
          cases hb : bis.lookup f with
          | none => rw [hb] at h'; cases h'
          | some v =>
            rw [hb] at h'
            obtain ⟨hm, h2⟩ : Γ.free.contains f = true ∧ (comps n Γ (a :: as)).map (E.call (bi v.2)) = some c := by
              have h3 : (if Γ.free.contains f then (comps n Γ (a :: as)).map (E.call (bi v.2)) else none) = some c := h'
              split at h3
              · rename_i hm; exact ⟨hm, h3⟩
              · cases h3
            obtain ⟨x, h4, rfl⟩ := mm h2
            obtain ⟨fv, φ⟩ := v
            obtain ⟨b1, b2, b3, b4, b5⟩ := bis_ok (G := G) F.K F.calm (PySem.mem_of_lookup hb)
            have hmg := F.free f (by simpa using hm)
            rcases b2 with ⟨id, rfl⟩ | ⟨T, rfl⟩
            · exact PE.conv (pe_callB b5 hg hmg b1 (ih.a Γ X W (a :: as) x F h4) b3 b4 st an) fun σ H Q q => bi_ok q
            · exact PE.conv (pe_callTy b5 hg hmg b1 (ih.a Γ X W (a :: as) x F h4) b3 b4 st an) fun σ H Q q => bi_ok q
      · cases h'
    | Attribute o m q =>
      cases o with
      | Name x xp =>
        match as, ks with
        | [a], [] =>
          have h' : (if decide (m = "append") && plainE a && decide ((q.endLine == p.line) = true) then (comp n Γ (.Name x xp)).bind fun o => (comp n Γ a).map fun c => E.app o c else none) = some c := h
          split at h'
          · rename_i hc
            simp only [Bool.and_eq_true, decide_eq_true_eq] at hc
            obtain ⟨⟨hm, hp⟩, hl⟩ := hc
            subst hm
            obtain ⟨o, h1, h2⟩ := bb h'
            obtain ⟨y, h3, rfl⟩ := mm h2
            refine PE.conv (pe_bm PySem.F.plainAttrs_list PySem.F.slot_list_append PySem.F.type_list_append mt_append (ih.e Γ X W (.Name x xp) o F h1) (pa_cons (ih.e Γ X W a y F h3) pa_nil (star_of hp)) rfl (by rw [star_of hp]; rfl) hl (star_of hp) rfl) fun σ H Q q => app_ok F.K q
          · cases h'
        | [], _ => cases h
        | [_], _ :: _ => cases h
        | _ :: _ :: _, _ => cases h
      | _ => cases h
    | _ => first | cases h | (cases as <;> first | cases h | (cases ks <;> cases h))
  | Dict as bs p =>
    match as, bs with
    | [], [] =>
      cases h
      refine PE.conv pe_dnewK fun σ H Q q => ?_
      obtain ⟨μ, e, st, s, t, hA⟩ := q
      exact fun r hr => (show KE G (Rep G) μ H Q .emp st from hA) μ _ _ (Gr.new_ t.sub hr) (t.new_ hr) (.emp (fun z => t.tr _ z hr) (.inl upd_same))
    | [], _ :: _ => cases h
    | _ :: _, _ => cases h
  | _ => cases h
theorem snd_a {n : Nat} (ih : Snd G n) {Γ : Gam} {X : Cx} {W : WX} (F : Fits Γ X G W) {es : List Expr} {c : E} (h : comps (n + 1) Γ es = some c) : PA X es (tL G W (evs c)) := by
  have plain : ∀ (e : Expr) (es : List Expr), plainE e = true → ((comp n Γ e).bind fun x => (comps n Γ es).map fun y => E.cons x y) = some c → PA X (e :: es) (tL G W (evs c)) := by
    intro e es hp h'
    obtain ⟨x, h1, h2⟩ := bb h'
    obtain ⟨y, h3, rfl⟩ := mm h2
    refine PA.conv (pa_cons (ih.e Γ X W e x F h1) (ih.a Γ X W es y F h3) (star_of hp)) fun σ H Q q => ?_
    obtain ⟨μ, e, st, s, t, hA⟩ := q
    refine tG_then (da := ev x) s t hA fun μ1 H1 d st1 v g1 s1 t1 r1 hA1 => ?_
    refine tG_then (da := evs y) s1 t1 hA1 fun μ2 H2 ds st2 vs g2 s2 t2 r2 hA2 => ?_
    exact KE.here hA2 t2 (.cons (r1.gr g2) r2)
  cases es with
  | nil =>
    cases h
    refine PA.conv pa_nil fun σ H Q q => ?_
    obtain ⟨μ, e, st, s, t, hA⟩ := q
    exact KE.here (show KE G (Reps G) μ H Q [] st from hA) t .nil
  | cons e es =>
    cases e with
    | Starred e p =>
      have h' : ((comp n Γ e).bind fun x => (comps n Γ es).map fun y => E.star x y) = some c := h
      obtain ⟨x, h1, h2⟩ := bb h'
      obtain ⟨y, h3, rfl⟩ := mm h2
      refine PA.conv (StX.pa_star (ih.e Γ X W e x F h1) (ih.a Γ X W es y F h3) rfl) fun σ H Q q => ?_
      obtain ⟨μ, e, st, s, t, hA⟩ := q
      refine tG_then (da := ev x) s t hA fun μ1 H1 d st1 v g1 s1 t1 r1 hA1 => ?_
      obtain ⟨ys, hi, hA2⟩ := optM_some ((Tr.All_bind _).mp hA1)
      have fin : ∀ vs, Reps G μ1 H1 ys vs → tL G W (evs y) σ H1 fun zs H2 => Q (vs ++ zs) H2 := fun vs rv =>
        tG_then (da := evs y) s1 t1 hA2 fun μ2 H2 ds st2 ws g2 s2 t2 r2 hA3 => KE.here hA3 t2 ((rv.gr g2).append r2)
      cases r1 with
      | @tup a vs xs a1 r1 => cases hi; exact ⟨a, vs, rfl, .inl (F.K ▸ a1.sq), fin vs r1⟩
      | @lst a vs xs a1 r1 => cases hi; exact ⟨a, vs, rfl, .inr (F.K ▸ a1.sq), fin vs r1⟩
      | _ => cases hi
    | _ => exact plain _ es rfl h
theorem pt_of {X : Cx} {W : WX} {e : Expr} {c : E} (hK : G.K = X.K) (h : PE X e (tE G W (ev c))) (he : ∀ whole, isTrue e X.env whole = (do let v ← whole; standAt e.pos; holding [v] (truthy v))) : PT X e (tB G W fun v => andThen (ev c v) truthM) := by
  refine PT.conv (pt_truth h he) fun σ H Q q => ?_
  obtain ⟨μ, e, st, s, t, hA⟩ := q
  have hA' : ((ev c e st).bind fun x s1 => (truthM x s1).bind fun b s2 => .ok b s2).All (KE G (fun _ _ a b => a = b) μ H Q) (KX G W σ μ H) := by
    refine (Tr.All_bind _).mpr (Tr.All_mono (fun d s2 hq => (Tr.All_bind _).mpr ?_) (fun _ _ _ q => q) _ ((Tr.All_bind _).mp hA))
    exact Tr.All_mono (fun _ _ z => z) (fun _ _ _ z => z) _ hq
  exact truth_then hK s t hA' (fun x b H1 => Q b H1) fun μ1 H1 d st1 x b g1 s1 t1 r1 tv hA1 => KE.here (show KE G (fun _ _ a b => a = b) μ1 H1 Q b st1 from hA1) t1 rfl
theorem Reps_dummy : True := True.intro
/-- a test whose value is a bool -/
theorem pt_bool {X : Cx} {W : WX} {e : Expr} {ca cb : E} (f : D → D → Option D) (hb : ∀ x y z, f x y = some z → ∃ b, z = .bl b) (h : PT X e (tTest (tOp (rD G f) (tE G W (ev ca)) (tE G W (ev cb))))) :
    PT X e (tB G W fun v => andThen (andThen (ev ca v) fun x => andThen (ev cb v) fun y => fun s => optM (f (drf s x) (drf s y)) s) truthM) := by
  refine PT.conv h fun σ H Q q => ?_
  obtain ⟨μ, e, st, s, t, hA⟩ := q
  have hA' : ((ev ca e st).bind fun x s1 => (ev cb e s1).bind fun y s2 => (optM (f (drf s2 x) (drf s2 y)) s2).bind truthM).All (KE G (fun _ _ a b => a = b) μ H Q) (KX G W σ μ H) := by
    refine (Tr.All_bind _).mpr (Tr.All_mono (fun d s2 hq => (Tr.All_bind _).mpr ?_) (fun _ _ _ q => q) _ ((Tr.All_bind _).mp ((Tr.All_bind _).mp hA)))
    refine Tr.All_mono (fun d2 s3 hq2 => (Tr.All_bind _).mpr hq2) (fun _ _ _ q => q) _ ((Tr.All_bind _).mp hq)
  refine tG_then s t hA' fun μ1 H1 d1 st1 x g1 s1 t1 r1 hA1 => ?_
  refine tG_then s1 t1 hA1 fun μ2 H2 d2 st2 y g2 s2 t2 r2 hA2 => ?_
  obtain ⟨z, hz, k⟩ := optM_some ((Tr.All_bind _).mp hA2)
  obtain ⟨b, rfl⟩ := hb _ _ _ hz
  refine ⟨μ2, st2, _, _, _, t2, t2.drf (r1.gr g2), t2.drf r2, hz, fun μ3 H3 v g3 t3 r3 => ?_⟩
  cases r3
  exact ⟨b, rfl, (show KE G (fun _ _ a b => a = b) μ2 H2 Q b st2 from k) μ3 H3 b g3 t3 rfl⟩
theorem cmp_bl {o : CmpOp} {x y z : D} (h : cmpD o x y = some z) : ∃ b, z = .bl b := by
  cases o with
  | Eq => obtain ⟨b, _, rfl⟩ := mm h; exact ⟨_, rfl⟩
  | NotEq => obtain ⟨b, _, rfl⟩ := mm h; exact ⟨_, rfl⟩
  | _ => cases x <;> cases y <;> first | (cases h; done) | (cases h; exact ⟨_, rfl⟩)
theorem tru_cases {d : D} {st : Sto} {β : Type} {g : Bool → Sto → Tr β} {P : β → Sto → Prop} {E : Str → D → Sto → Prop} (h : ((truthM d st).bind g).All P E) : ∃ b, (drf st d).truth = some b ∧ truthM d st = ret b st ∧ (g b st).All P E := by
  cases ht : (drf st d).truth with
  | none =>
    have : (truthM d st).bind g = .bad := by unfold truthM; rw [ht]; rfl
    rw [this] at h
    exact h.elim
  | some b =>
    have e : truthM d st = ret b st := by unfold truthM; rw [ht]; rfl
    rw [e] at h
    exact ⟨b, rfl, e, h⟩
theorem bool_step {x y : E} (c : E) (k : Bool) {e : Ev} {st : Sto} {P : Bool → Sto → Prop} {E' : Str → D → Sto → Prop} {f : Bool → M Bool} (hA : (andThen (ev c e) truthM st).All P E')
    (hc : ev c e = andThen (ev x e) fun d => andThen (truthM d) fun t => if t = !k then ev y e else ret d) (hf : ∀ b, f b = if b = !k then andThen (ev y e) truthM else ret k) : ((andThen (ev x e) truthM st).bind fun b s2 => f b s2).All P E' := by
  have h1 := (Tr.All_bind _).mp hA
  rw [hc] at h1
  have h2 := (Tr.All_bind (f := fun d => andThen (truthM d) fun t => if t = !k then ev y e else ret d) (ev x e st)).mp h1
  refine (Tr.All_bind _).mpr ((Tr.All_bind (f := truthM) _).mpr (Tr.All_mono (fun d s hd => ?_) (fun _ _ _ z => z) _ h2))
  obtain ⟨b, e1, e2, h3⟩ := tru_cases hd
  rw [e2]
  show (f b s).All P E'
  rw [hf b]
  by_cases hb : b = !k
  · rw [if_pos hb] at h3 ⊢
    exact (Tr.All_bind _).mpr h3
  · rw [if_neg hb] at h3 ⊢
    have hk : b = k := by cases b <;> cases k <;> simp at hb ⊢
    have h4 : (truthM d s).All P E' := h3
    rw [e2, hk] at h4
    exact h4
theorem snd_t {n : Nat} (ih : Snd G n) {Γ : Gam} {X : Cx} {W : WX} (F : Fits Γ X G W) {e : Expr} {c : E} (h : compT (n + 1) Γ e = some c) : PT X e (tB G W fun v => andThen (ev c v) truthM) := by
  have hu : X.A.units + 64 < cLine := F.room.units
  cases e with
  | Name x p => exact pt_of F.K (ih.e Γ X W _ c F h) (fun _ => rfl)
  | Call f as ks p => exact pt_of F.K (ih.e Γ X W _ c F h) (fun _ => rfl)
  | Subscript a i p => exact pt_of F.K (ih.e Γ X W _ c F h) (fun _ => rfl)
  | Constant k i p => exact pt_of F.K (ih.e Γ X W _ c F h) (fun _ => rfl)
  | UnaryOp o a p =>
    cases o <;> first | (cases h; done) | skip
    have h' : (compT n Γ a).map E.not_ = some c := h
    obtain ⟨x, h1, rfl⟩ := mm h'
    refine PT.conv (pt_not (ih.t Γ X W a x F h1)) fun σ H Q q => ?_
    obtain ⟨μ, e, st, s, t, hA⟩ := q
    have hA' : ((andThen (ev x e) truthM st).bind fun b s2 => .ok (!b) s2).All (KE G (fun _ _ a b => a = b) μ H Q) (KX G W σ μ H) := by
      refine (Tr.All_bind _).mpr ((Tr.All_bind (f := truthM) _).mpr ?_)
      refine Tr.All_mono (fun d s2 hq => ?_) (fun _ _ _ q => q) _ ((Tr.All_bind _).mp ((Tr.All_bind _).mp hA))
      exact Tr.All_mono (fun b s3 hq3 => hq3) (fun _ _ _ q => q) _ ((Tr.All_bind (f := fun t s => .ok (D.bl !t) s) (truthM d s2)).mp hq)
    refine tG_then (da := fun v => andThen (ev x v) truthM) s t hA' fun μ1 H1 b st1 b' g1 s1 t1 eb hA1 => ?_
    subst eb
    exact KE.here (show KE G (fun _ _ a b => a = b) μ1 H1 Q (!b) st1 from hA1) t1 rfl
  | Compare a os bs p =>
    match os, bs with
    | [o], [b] =>
      have h' : (if behindInMarks o b then none else (comp n Γ a).bind fun x => (comp n Γ b).map fun y => E.cmp o x y) = some c := h
      split at h'
      · cases h'
      · rename_i hm
        obtain ⟨x, h1, h2⟩ := bb h'
        obtain ⟨y, h3, rfl⟩ := mm h2
        exact pt_bool (cmpD o) (fun _ _ _ z => cmp_bl z) (pt_cmpR (cmp_ok F.K hu o) (ih.e Γ X W a x F h1) (ih.e Γ X W b y F h3) (by simpa using hm))
    | [o, o'], [b, b'] =>
      have h' : (if lastMarks [o, o'] [b, b'] then none else (comp n Γ a).bind fun x => (comp n Γ b).bind fun y => (comp n Γ b').map fun z => E.chain o o' x y z) = some c := h
      split at h'
      · cases h'
      · rename_i hm
        obtain ⟨x, h1, h2⟩ := bb h'
        obtain ⟨y, h3, h4⟩ := bb h2
        obtain ⟨z, h5, rfl⟩ := mm h4
        refine PT.conv (pt_chain (cmp_ok F.K hu o) (cmp_ok F.K hu o') (ih.e Γ X W a x F h1) (ih.e Γ X W b y F h3) (ih.e Γ X W b' z F h5) (by simpa using hm)) fun σ H Q q => ?_
        obtain ⟨μ, e, st, s, t, hA⟩ := q
        have hA0 : (((ev x e st).bind fun v s1 => (ev y e s1).bind fun w s2 => (cmpM o v w s2).bind fun d s3 => (match d with
            | .bl true => andThen (ev z e) fun u => cmpM o' w u
            | .bl false => ret (.bl false)
            | _ => badM) s3).bind truthM).All (KE G (fun _ _ a b => a = b) μ H Q) (KX G W σ μ H) := hA
        rw [Tr.bind_asc] at hA0
        refine tG_then s t hA0 fun μ1 H1 d1 st1 v1 g1 s1 t1 r1 hA1 => ?_
        rw [Tr.bind_asc] at hA1
        refine tG_then s1 t1 hA1 fun μ2 H2 d2 st2 v2 g2 s2 t2 r2 hA2 => ?_
        rw [Tr.bind_asc] at hA2
        obtain ⟨d3, hz, k⟩ := optM_some ((Tr.All_bind _).mp hA2)
        refine ⟨μ2, st2, _, _, d3, t2, t2.drf (r1.gr g2), t2.drf r2, hz, fun μ3 H3 v3 g3 t3 r3 => ?_⟩
        have k' := Tr.All_mono (P' := KE G (fun _ _ a b => a = b) μ3 H3 Q) (E' := KX G W σ μ3 H3) (fun _ _ z => KE.gr g3 z) (fun _ _ _ z => KX.gr g3 z) _ k
        cases d3 <;> first | exact k.elim | skip
        rename_i bv
        cases r3
        refine ⟨bv, rfl, ?_⟩
        cases bv with
        | false =>
          rw [if_neg Bool.false_ne_true]
          exact ⟨false, rfl, (show KE G (fun _ _ a b => a = b) μ2 H2 Q false st2 from k) μ3 H3 false g3 t3 rfl⟩
        | true =>
          rw [if_pos rfl]
          have k2 : (((ev z e st2).bind fun u s4 => cmpM o' d2 u s4).bind truthM).All (KE G (fun _ _ a b => a = b) μ3 H3 Q) (KX G W σ μ3 H3) := k'
          rw [Tr.bind_asc] at k2
          refine tG_then (s2.gr g3) t3 k2 fun μ4 H4 d4 st4 v4 g4 s4 t4 r4 hA4 => ?_
          obtain ⟨zz, hz4, k4⟩ := optM_some ((Tr.All_bind _).mp hA4)
          obtain ⟨b4, rfl⟩ := cmp_bl hz4
          refine ⟨μ4, st4, _, _, _, t4, t4.drf ((r2.gr g3).gr g4), t4.drf r4, hz4, fun μ5 H5 v5 g5 t5 r5 => ?_⟩
          cases r5
          exact ⟨b4, rfl, (show KE G (fun _ _ a b => a = b) μ4 H4 Q b4 st4 from k4) μ5 H5 b4 g5 t5 rfl⟩
    | [], _ => cases h
    | [_], [] => cases h
    | [_], _ :: _ :: _ => cases h
    | [_, _], [] => cases h
    | [_, _], [_] => cases h
    | [_, _], _ :: _ :: _ :: _ => cases h
    | _ :: _ :: _ :: _, _ => cases h
  | BoolOp o as p =>
    match as with
    | [] => cases o <;> cases h
    | [a] =>
      have h' : compT n Γ a = some c := by cases o <;> exact h
      cases o with
      | And => exact PW.pt (pw_and1 (ih.t Γ X W a c F h'))
      | Or => exact PW.pt (pw_or1 (ih.t Γ X W a c F h'))
    | a :: b :: r =>
      cases o with
      | And =>
        have h' : ((compT n Γ a).bind fun x => (compT n Γ (.BoolOp .And (b :: r) p)).map fun y => E.and_ x y) = some c := h
        obtain ⟨x, h1, h2⟩ := bb h'
        obtain ⟨y, h3, rfl⟩ := mm h2
        have py := ih.t Γ X W _ y F h3
        refine PT.conv (PW.pt (pw_and (ih.t Γ X W a x F h1) ⟨fun whole pins s σ H Q I q => py.run pins s σ H Q I q⟩)) fun σ H Q q => ?_
        obtain ⟨μ, e, st, s, t, hA⟩ := q
        refine tG_then (da := fun v => andThen (ev x v) truthM) (f := fun b s2 => (if b = true then andThen (ev y e) truthM else ret false) s2) s t (bool_step (E.and_ x y) false hA rfl (fun _ => rfl)) fun μ1 H1 b st1 b' g1 s1 t1 eb hA1 => ?_
        subst eb
        cases b with
        | true => rw [if_pos rfl] at hA1 ⊢; exact ⟨μ1, e, st1, s1, t1, hA1⟩
        | false => rw [if_neg Bool.false_ne_true] at hA1 ⊢; exact KE.here (show KE G (fun _ _ a b => a = b) μ1 H1 Q false st1 from hA1) t1 rfl
      | Or =>
        have h' : ((compT n Γ a).bind fun x => (compT n Γ (.BoolOp .Or (b :: r) p)).map fun y => E.or_ x y) = some c := h
        obtain ⟨x, h1, h2⟩ := bb h'
        obtain ⟨y, h3, rfl⟩ := mm h2
        have py := ih.t Γ X W _ y F h3
        refine PT.conv (PW.pt (pw_or (ih.t Γ X W a x F h1) ⟨fun whole pins s σ H Q I q => py.run pins s σ H Q I q⟩)) fun σ H Q q => ?_
        obtain ⟨μ, e, st, s, t, hA⟩ := q
        refine tG_then (da := fun v => andThen (ev x v) truthM) (f := fun b s2 => (if b = true then ret true else andThen (ev y e) truthM) s2) s t (bool_step (x := x) (y := y) (E.or_ x y) true hA (by show andThen (ev x e) _ = _; congr 1; funext d; congr 1; funext t; cases t <;> rfl) (fun b => by cases b <;> rfl)) fun μ1 H1 b st1 b' g1 s1 t1 eb hA1 => ?_
        subst eb
        cases b with
        | true => rw [if_pos rfl] at hA1 ⊢; exact KE.here (show KE G (fun _ _ a b => a = b) μ1 H1 Q true st1 from hA1) t1 rfl
        | false => rw [if_neg Bool.false_ne_true] at hA1 ⊢; exact ⟨μ1, e, st1, s1, t1, hA1⟩
  | _ => cases h
/-- a list or a tuple that an expression gives, walked -/
def iAny (K : PySem.W.Frag) (tl : TE) : TI := fun σ H R => tl σ H fun x H1 => (∃ a, x = .ref a ∧ (∃ xs, SqL K H1 a xs) ∧ R (Itl K a) H1) ∨ ∃ a, x = .ref a ∧ (∃ xs, SqT K H1 a xs) ∧ R (Itt K a) H1
theorem pi_any {X : Cx} {tg l : Expr} {tl : TE} (hl : PE X l tl) : PI X tg l (iAny X.K tl) := by
  refine ⟨fun pins s σ H R I h => ?_⟩
  refine thn (hl.run pins s σ H _ I h) fun v s1 h1 => ?_
  obtain ⟨x, H1, I1, r1, q1⟩ := h1
  rcases q1 with ⟨a, rfl, ⟨xs, hq⟩, q⟩ | ⟨a, rfl, ⟨xs, hq⟩, q⟩
  · cases r1
    obtain ⟨its, rv, p, hz⟩ := I1.list hq
    refine wpAny_pyIter_list p.isList ?_
    refine ⟨s1.heap.objs.size, [s1.heap.objs.size], _, _, H1, rfl, I1.kept (t' := s1.toks) fun b o e => Heap.get?_push_of_some _ e, turn_list a _, ⟨_, Heap.get?_push_size _ rfl, rfl, rfl⟩, fun b hb => ?_, q⟩
    have e : b = s1.heap.objs.size := by simpa using hb
    subst e
    exact I1.fpOk (Nat.le_refl _) (I1.hok.fresh (Nat.le_refl _))
  · cases r1
    obtain ⟨its, rv, p, hz⟩ := I1.tuple hq
    refine wpAny_pyIter_tuple (show s1.heap.IsTuple a its.toArray from p) ?_
    refine ⟨s1.heap.objs.size, [s1.heap.objs.size], _, _, H1, rfl, I1.kept (t' := s1.toks) fun b o e => Heap.get?_push_of_some _ e, turn_tuple a _, ⟨_, Heap.get?_push_size _ rfl, rfl, rfl⟩, fun b hb => ?_, q⟩
    have e : b = s1.heap.objs.size := by simpa using hb
    subst e
    exact I1.fpOk (Nat.le_refl _) (I1.hok.fresh (Nat.le_refl _))
theorem snd_i {n : Nat} (ih : Snd G n) {Γ : Gam} {X : Cx} {W : WX} (F : Fits Γ X G W) {tg e : Expr} {c : E} (h : compI (n + 1) Γ tg e = some c) : PI X tg e (iG G W (evs c)) ∧ ∀ env v, foldedSetIterable e env v = pure v := by
  have plain : ∀ e : Expr, (comp n Γ e).map E.it1 = some c → PI X tg e (iG G W (evs c)) ∧ ∀ env v, foldedSetIterable e env v = pure v := by
    intro e h'
    obtain ⟨x, h1, rfl⟩ := mm h'
    refine ⟨?_, fun env v => ?_⟩
    · refine PI.conv (pi_any (ih.e Γ X W e x F h1)) fun σ H R q => ?_
      obtain ⟨μ, e, st, s, t, hA⟩ := q
      refine ⟨μ, e, st, s, t, Tr.All_mono (fun d st1 hq μ1 H1 v g1 t1 r1 => ?_) (fun _ _ _ z => z) _ ((Tr.All_bind _).mp hA)⟩
      obtain ⟨xs, hi, k⟩ := optM_some hq
      cases r1 with
      | @tup a vs xs a1 r1 => cases hi; exact .inr ⟨a, rfl, ⟨vs, F.K ▸ a1.sq⟩, k μ1 H1 _ g1 t1 (itok_tup F.K a1 r1)⟩
      | @lst a vs xs a1 r1 => cases hi; exact .inl ⟨a, rfl, ⟨vs, F.K ▸ a1.sq⟩, k μ1 H1 _ g1 t1 (itok_list F.K a1 r1)⟩
      | _ => cases hi
    · cases n with
      | zero => cases h1
      | succ n => cases e <;> first | rfl | cases h1
  have fr : ∀ {f : Str}, Γ.free.contains f = true → X.mg f = none := fun hf => F.free _ (by simpa using hf)
  have one : ∀ {a : Expr} {x : E}, plainE a = true → comp n Γ a = some x → PA X [a] (tCons (tE G W (ev x)) tNil) := fun hp h1 => pa_cons (ih.e Γ X W _ _ F h1) pa_nil (star_of hp)
  have two : ∀ {a b : Expr} {x y : E}, plainE a = true → plainE b = true → comp n Γ a = some x → comp n Γ b = some y → PA X [a, b] (tCons (tE G W (ev x)) (tCons (tE G W (ev y)) tNil)) :=
    fun hp hq h1 h2 => pa_cons (ih.e Γ X W _ _ F h1) (pa_cons (ih.e Γ X W _ _ F h2) pa_nil (star_of hq)) (star_of hp)
  have i1 : ∀ {x : E} {f : List D → Option (List D)} {σ : L2.St} {H : Hp} {R : It → Hp → Prop} {P : List V → Hp → Prop}, iG G W (fun e => andThen (ev x e) fun d => optM (f [d])) σ H R →
      (∀ μ1 H1 d st1 v xs, STR G μ1 st1 H1 → Rep G μ1 H1 d v → f [d] = some xs → (∀ J, ItOk G μ1 H1 xs J → R J H1) → P [v] H1) → tCons (tE G W (ev x)) tNil σ H P := by
    intro x f σ H R P q k
    obtain ⟨μ, e, st, s, t, hA⟩ := q
    refine ⟨μ, e, st, s, t, Tr.All_mono (fun d st1 hq μ1 H1 v g1 t1 r1 => ?_) (fun _ _ _ z => z) _ ((Tr.All_bind _).mp hA)⟩
    obtain ⟨xs, hi, kk⟩ := optM_some hq
    exact k μ1 H1 d st1 v xs t1 r1 hi fun J hJ => kk μ1 H1 J g1 t1 hJ
  have i2 : ∀ {x y : E} {f : List D → Option (List D)} {σ : L2.St} {H : Hp} {R : It → Hp → Prop} {P : List V → Hp → Prop}, iG G W (fun e => andThen (ev x e) fun d => andThen (ev y e) fun d' => optM (f [d, d'])) σ H R →
      (∀ μ1 H1 d d' st1 v v' xs, STR G μ1 st1 H1 → Rep G μ1 H1 d v → Rep G μ1 H1 d' v' → f [d, d'] = some xs → (∀ J, ItOk G μ1 H1 xs J → R J H1) → P [v, v'] H1) → tCons (tE G W (ev x)) (tCons (tE G W (ev y)) tNil) σ H P := by
    intro x y f σ H R P q k
    obtain ⟨μ, e, st, s, t, hA⟩ := q
    refine ⟨μ, e, st, s, t, Tr.All_mono (fun d st1 hq μ1 H1 v g1 t1 r1 => ?_) (fun _ _ _ z => z) _ ((Tr.All_bind _).mp hA)⟩
    refine ⟨μ1, e, st1, s.gr g1, t1, Tr.All_mono (fun d2 st2 hq2 μ2 H2 v2 g2 t2 r2 => ?_) (fun _ _ _ z => KX.gr g1 z) _ ((Tr.All_bind _).mp hq)⟩
    obtain ⟨xs, hi, kk⟩ := optM_some hq2
    exact k μ2 H2 d d2 st2 v v2 xs t2 (r1.gr g2) r2 hi fun J hJ => kk μ2 H2 J (g1.trans g2) t2 hJ
  have rng1 : ∀ {a : Expr} {fp p : Pos}, gloB Γ.sc "range" = true → Γ.free.contains "range" = true → plainE a = true → (comp n Γ a).map E.rng1 = some c → PI X tg (.Call (.Name "range" fp) [a] [] p) (iG G W (evs c)) := by
    intro a fp p h1 h2 h3 h'
    obtain ⟨x, h4, rfl⟩ := mm h'
    refine PI.conv (pi_range1 (glo_of F h1) (fr h2) (one h3 h4) (star_of h3)) fun σ H R q => i1 q fun μ1 H1 d st1 v xs t1 r1 hi k => ?_
    cases d <;> first | (cases hi; done) | skip
    obtain ⟨hc, rfl⟩ := if_some hi
    cases r1
    simp only [okRng, Bool.and_eq_true, decide_eq_true_eq] at hc
    rename_i b
    refine ⟨b, rfl, hc.1.2, hc.2, k _ ?_⟩
    have := itok_range (G := G) (μ := μ1) (H := H1) (lo := 0) (hi := b)
    rwa [Int.sub_zero] at this
  have rng2 : ∀ {a b : Expr} {fp p : Pos}, gloB Γ.sc "range" = true → Γ.free.contains "range" = true → plainE a = true → plainE b = true → ((comp n Γ a).bind fun x => (comp n Γ b).map fun y => E.rng2 x y) = some c → PI X tg (.Call (.Name "range" fp) [a, b] [] p) (iG G W (evs c)) := by
    intro a b fp p h1 h2 h3 h3' h'
    obtain ⟨x, h4, h5⟩ := bb h'
    obtain ⟨y, h6, rfl⟩ := mm h5
    refine PI.conv (pi_range2 (glo_of F h1) (fr h2) (two h3 h3' h4 h6) (by rw [star_of h3, star_of h3']; rfl) (star_of h3')) fun σ H R q => i2 q fun μ1 H1 d d' st1 v v' xs t1 r1 r2 hi k => ?_
    cases d <;> cases d' <;> first | (cases hi; done) | skip
    obtain ⟨hc, rfl⟩ := if_some hi
    cases r1
    cases r2
    simp only [okRng, Bool.and_eq_true, decide_eq_true_eq] at hc
    exact ⟨_, _, rfl, ⟨hc.1.1.1, hc.1.1.2, hc.1.2, hc.2⟩, k _ itok_range⟩
  have zip2 : ∀ {ts : List Expr} {kk : Nat} {tp : Pos} {a b : Expr} {fp p : Pos}, gloB Γ.sc "zip" = true → Γ.free.contains "zip" = true → plainE a = true → plainE b = true → ((comp n Γ a).bind fun x => (comp n Γ b).map fun y => E.zip x y) = some c →
      PI X (.Tuple ts kk tp) (.Call (.Name "zip" fp) [a, b] [] p) (iG G W (evs c)) := by
    intro ts kk tp a b fp p h1 h2 h3 h3' h'
    obtain ⟨x, h4, h5⟩ := bb h'
    obtain ⟨y, h6, rfl⟩ := mm h5
    refine PI.conv (RZ.pi_zipA (glo_of F h1) (fr h2) (two h3 h3' h4 h6) (star_of h3) (anyStar (es := [b]) (by simp [h3']))) fun σ H R q => i2 q fun μ1 H1 d d' st1 v v' xs t1 r1 r2 hi k => ?_
    cases d <;> cases d' <;> first | (cases hi; done) | skip
    · cases hi
      cases r1 with
      | tup a1 b1 =>
        cases r2 with
        | tup a2 b2 => exact ⟨_, _, _, _, rfl, .inr ⟨F.K ▸ a1.sq, F.K ▸ a2.sq, k _ (itok_zipT F.K a1 a2 b1 b2)⟩⟩
    · cases hi
      cases r1 with
      | lst a1 b1 =>
        cases r2 with
        | lst a2 b2 => exact ⟨_, _, _, _, rfl, .inl ⟨F.K ▸ a1.sq, F.K ▸ a2.sq, k _ (itok_zipL F.K a1 a2 b1 b2)⟩⟩
  have enum1 : ∀ {ts : List Expr} {kk : Nat} {tp : Pos} {a : Expr} {fp p : Pos}, gloB Γ.sc "enumerate" = true → Γ.free.contains "enumerate" = true → plainE a = true → (comp n Γ a).map E.enum = some c →
      PI X (.Tuple ts kk tp) (.Call (.Name "enumerate" fp) [a] [] p) (iG G W (evs c)) := by
    intro ts kk tp a fp p h1 h2 h3 h'
    obtain ⟨x, h4, rfl⟩ := mm h'
    refine PI.conv (pi_enum (glo_of F h1) (fr h2) (one h3 h4) (star_of h3)) fun σ H R q => i1 q fun μ1 H1 d st1 v xs t1 r1 hi k => ?_
    cases d <;> first | (cases hi; done) | skip
    cases hi
    cases r1 with
    | lst a1 b1 => exact ⟨_, _, rfl, F.K ▸ a1.sq, k _ (itok_enum F.K a1 b1)⟩
  have bad : ∀ {f : Expr} {as : List Expr} {ks : List Keyword} {p : Pos}, (comp n Γ (.Call f as ks p)).map E.it1 = some c → PI X tg (.Call f as ks p) (iG G W (evs c)) ∧ ∀ env v, foldedSetIterable (.Call f as ks p) env v = pure v := fun h => plain _ h
  cases e with
  | Call f as ks p =>
    cases f with
    | Name f fp =>
      match as, ks with
      | [a], [] =>
        have h' : (if f = "range" then (if gloB Γ.sc f && Γ.free.contains f && plainE a then (comp n Γ a).map E.rng1 else none)
          else if f = "enumerate" then (if isTup tg && gloB Γ.sc f && Γ.free.contains f && plainE a then (comp n Γ a).map E.enum else none)
          else (comp n Γ (.Call (.Name f fp) [a] [] p)).map E.it1) = some c := h
        split at h'
        · rename_i hf
          subst hf
          split at h'
          · rename_i hc
            simp only [Bool.and_eq_true] at hc
            exact ⟨rng1 hc.1.1 hc.1.2 hc.2 h', fun _ _ => rfl⟩
          · cases h'
        · split at h'
          · rename_i hf
            subst hf
            split at h'
            · rename_i hc
              simp only [Bool.and_eq_true] at hc
              have ht := hc.1.1.1
              cases tg <;> first | (cases ht; done) | skip
              exact ⟨enum1 hc.1.1.2 hc.1.2 hc.2 h', fun _ _ => rfl⟩
            · cases h'
          · exact bad h'
      | [a, b], [] =>
        have h' : (if f = "range" then (if gloB Γ.sc f && Γ.free.contains f && plainE a && plainE b then (comp n Γ a).bind fun x => (comp n Γ b).map fun y => E.rng2 x y else none)
          else if f = "zip" then (if isTup tg && gloB Γ.sc f && Γ.free.contains f && plainE a && plainE b then (comp n Γ a).bind fun x => (comp n Γ b).map fun y => E.zip x y else none)
          else (comp n Γ (.Call (.Name f fp) [a, b] [] p)).map E.it1) = some c := h
        split at h'
        · rename_i hf
          subst hf
          split at h'
          · rename_i hc
            simp only [Bool.and_eq_true] at hc
            exact ⟨rng2 hc.1.1.1 hc.1.1.2 hc.1.2 hc.2 h', fun _ _ => rfl⟩
          · cases h'
        · split at h'
          · rename_i hf
            subst hf
            split at h'
            · rename_i hc
              simp only [Bool.and_eq_true] at hc
              have ht := hc.1.1.1.1
              cases tg <;> first | (cases ht; done) | skip
              exact ⟨zip2 hc.1.1.1.2 hc.1.1.2 hc.1.2 hc.2 h', fun _ _ => rfl⟩
            · cases h'
          · exact bad h'
      | [], _ => exact bad h
      | [_], _ :: _ => exact bad h
      | [_, _], _ :: _ => exact bad h
      | _ :: _ :: _ :: _, _ => exact bad h
    | _ => exact bad h
  | _ => exact plain _ h
theorem snd : ∀ n, Snd G n
  | 0 => ⟨fun _ _ _ _ _ _ h => (by cases h), fun _ _ _ _ _ _ h => (by cases h), fun _ _ _ _ _ _ h => (by cases h), fun _ _ _ _ _ _ h => (by cases h), fun _ _ _ _ _ _ _ h => (by cases h)⟩
  | n + 1 => by
    have ih := snd n
    refine ⟨fun Γ X W e c F h => snd_e ih F h, fun Γ X W e c F h => ?_, fun Γ X W es c F h => snd_a ih F h, fun Γ X W e c F h => snd_t ih F h, fun Γ X W tg e c F h => snd_i ih F h⟩
    cases e with
    | none => cases h; exact .inl ⟨rfl, rfl⟩
    | some e =>
      obtain ⟨x, h1, rfl⟩ := mm (show (comp n Γ e).map E.int_ = some c from h)
      exact .inr ⟨e, x, rfl, rfl, ih.e Γ X W e x F h1⟩
end
end Gw

set_option Elab.async false
set_option linter.all false
set_option maxRecDepth 100000
set_option maxHeartbeats 1000000
/-! Gw8: what compiles is right: statements and defs. -/
namespace Gw
open PySem PySem.Spec PyProof.Rows L2
def fuelW : Nat := 10 ^ 100
def swLc (sc : Scope) (y : Str) (py pos : Pos) (csc : Scope) : Bool := (match sc.kind with | .function => true | _ => false) && decide (sc.names.lookup y = some .local) && (py.line == pos.line) && !(csc.names.any fun (n, k) => n == y && (k == .local || k == .cell))
def subOf : Expr → Option (Expr × Expr)
  | .Subscript _ (.Slice _ _ _ _) _ => none
  | .Subscript o i _ => some (o, i)
  | _ => none
def parOf : Expr → Expr → Option (Str × Str × Expr × Expr)
  | .Tuple [.Name x _, .Name y _] _ _, .Tuple [a, b] _ _ => some (x, y, a, b)
  | _, _ => none
def lcOf : Expr → Expr → Option (Str × Pos × Scope × Pos)
  | .Name y py, .ListComp _ _ csc pos => some (y, py, csc, pos)
  | _, _ => none
mutual
def compS : Nat → Gam → Stmt → Option S
  | 0, _, _ => none
  | n + 1, Γ, .Pass _ => some .pass
  | n + 1, Γ, .Break _ => some .brk
  | n + 1, Γ, .Continue _ => some .cnt
  | n + 1, Γ, .Expr (.Constant (.str _) _ _) _ => some .pass
  | n + 1, Γ, .Expr e _ => if isComp e then none else (comp n Γ e).map .expr
  | n + 1, Γ, .Return none _ => some (.ret (.c .non))
  | n + 1, Γ, .Return (some e) _ => (comp n Γ e).map .ret
  | n + 1, Γ, .If c a b _ => (compT n Γ c).bind fun x => (compSs n Γ a).bind fun y => (compSs n Γ b).map fun z => .ifs x y z
  | n + 1, Γ, .While c a [] _ => (compT n Γ c).bind fun x => (compSs n Γ a).map fun y => .whl fuelW x y
  | n + 1, Γ, .For tg it a [] _ => (compI n Γ tg it).bind fun x => (compG n Γ tg).bind fun g => (compSs n Γ a).map fun y => .for_ g x y
  | n + 1, Γ, .Raise _ _ _ => some .never
  | n + 1, Γ, .AugAssign (.Name x _) o e _ => if locB Γ.sc Γ.asg x then (slotOf Γ.N x).bind fun i => (comp n Γ e).map fun c => .aug i o c else none
  | n + 1, Γ, .Assign [tg] e p =>
    if semF (swapsWithSole [tg] e p.line (envS Γ.sc)) then
      (if semN (swappedStores [tg] e (envS Γ.sc)) then
        (match subOf tg with
          | some (o, i) => (comp n Γ e).bind fun x => (comp n Γ o).bind fun y => (comp n Γ i).map fun z => .setix y z x
          | none => (compG n Γ tg).bind fun g => (comp n Γ e).map fun c => .asg g c)
      else match parOf tg e with
        | some (x, y, a, b) => if semS [x, y] (swappedStores [tg] e (envS Γ.sc)) && decide (Γ.sc.names.lookup x = some .local) && decide (Γ.sc.names.lookup y = some .local) && plainE a && plainE b then
            (slotOf Γ.N x).bind fun i => (slotOf Γ.N y).bind fun j => if i = j then none else (comp n Γ a).bind fun u => (comp n Γ b).map fun v => .par i j u v else none
        | none => none)
    else match lcOf tg e with
      | some (y, py, csc, pos) => if swLc Γ.sc y py pos csc then (slotOf Γ.N y).bind fun i => (comp n Γ e).map fun c => .asg (.nm i) c else none
      | none => none
  | _, _, _ => none
def compSs : Nat → Gam → List Stmt → Option S
  | 0, _, _ => none
  | n + 1, Γ, [] => some .pass
  | n + 1, Γ, s :: r => (compS n Γ s).bind fun x => (compSs n Γ r).map fun y => .seq x y
end
structure SndS (G : Glo) (n : Nat) : Prop where
  s : ∀ (Γ : Gam) (X : Cx) (E : XK) (st : Stmt) (c : S), Fits Γ X G (wX E) → compS n Γ st = some c → PS X st (tS G E (ex c))
  ss : ∀ (Γ : Gam) (X : Cx) (E : XK) (st : List Stmt) (c : S), Fits Γ X G (wX E) → compSs n Γ st = some c → PSs X st (tS G E (ex c))
section
variable {G : Glo} {X : Cx} {Ew : XK}
theorem asg_ok {te : TE} {g : TG} {gt : T} {c : E} (he : ∀ σ H Q, tE G (wX Ew) (ev c) σ H Q → te σ H Q) (hg : ∀ v σ H Q, gT G gt v σ H Q → g v σ H Q) {D : Ends} {σ : L2.St} {H : Hp} (h : tS G Ew (ex (.asg gt c)) D σ H) : tAsg te g D σ H := by
  obtain ⟨μ, e, st, s, t, hA⟩ := h
  refine he _ _ _ ⟨μ, e, st, s, t, Tr.All_mono (fun d st1 hq μ1 H1 x g1 t1 r1 => ?_) (fun _ _ _ z => z) _ ((Tr.All_bind _).mp hA)⟩
  cases hb : gt.bind d e with
  | none => rw [hb] at hq; exact hq.elim
  | some e' =>
    rw [hb] at hq
    exact hg _ _ _ _ ⟨μ1, e, st1, d, e', s.gr g1, t1, r1, hb, fun σ' _ _ s' => KS.here (KS.gr g1 (show KS G μ H D (.nx, e') st1 from hq)) t1 s'⟩
theorem ret_ok {te : TE} {c : E} (he : ∀ σ H Q, tE G (wX Ew) (ev c) σ H Q → te σ H Q) {D : Ends} {σ : L2.St} {H : Hp} (h : tS G Ew (ex (.ret c)) D σ H) : tRet te D σ H := by
  obtain ⟨μ, e, st, s, t, hA⟩ := h
  refine he _ _ _ ⟨μ, e, st, s, t, Tr.All_mono (fun d st1 hq μ1 H1 x g1 t1 r1 => ?_) (fun _ _ _ z => z) _ ((Tr.All_bind _).mp hA)⟩
  exact (KS.here (KS.gr g1 (show KS G μ H D (.rt d, e) st1 from hq)) t1 (s.gr g1)) x r1
theorem expr_ok {te : TE} {c : E} (he : ∀ σ H Q, tE G (wX Ew) (ev c) σ H Q → te σ H Q) {D : Ends} {σ : L2.St} {H : Hp} (h : tS G Ew (ex (.expr c)) D σ H) : tDrop te D σ H := by
  obtain ⟨μ, e, st, s, t, hA⟩ := h
  refine he _ _ _ ⟨μ, e, st, s, t, Tr.All_mono (fun d st1 hq μ1 H1 x g1 t1 r1 => ?_) (fun _ _ _ z => z) _ ((Tr.All_bind _).mp hA)⟩
  exact KS.here (KS.gr g1 (show KS G μ H D (.nx, e) st1 from hq)) t1 (s.gr g1)
theorem swaps_plain {e : Expr} {t : Option Expr} {l : Nat} {env : Env} (h : isComp e = false) : swapsWith e t l env = pure false := by
  cases e <;> first | rfl | cases h
theorem swapped_env {ts : List Expr} {v : Expr} {env : Env} : swappedStores ts v env = swappedStores ts v (envS env.scope) := rfl
theorem swaps_env {t : Expr} {v : Expr} {l : Nat} {env : Env} : swapsWithSole [t] v l env = swapsWithSole [t] v l (envS env.scope) := by
  show swapsWith v (some t) l env = swapsWith v (some t) l (envS env.scope)
  cases v <;> first | rfl | (cases t <;> rfl)
theorem semF_ok {t : Sem Bool} (h : semF t = true) : t = pure false := by
  cases t <;> first | (cases h; done) | skip
  rename_i a
  cases a <;> first | rfl | cases h
theorem sub_of {tg o i : Expr} (h : subOf tg = some (o, i)) : ∃ p, tg = .Subscript o i p ∧ ∀ l u s q, i ≠ .Slice l u s q := by
  cases tg <;> first | (cases h; done) | skip
  rename_i o' i' p
  cases i' <;> first | (cases h; done) | (cases h; exact ⟨p, rfl, fun _ _ _ _ z => nomatch z⟩)
theorem par_of {tg e a b : Expr} {x y : Str} (h : parOf tg e = some (x, y, a, b)) : ∃ px py kt pt k2 p2, tg = .Tuple [.Name x px, .Name y py] kt pt ∧ e = .Tuple [a, b] k2 p2 := by
  unfold parOf at h
  split at h
  · cases h; exact ⟨_, _, _, _, _, _, rfl, rfl⟩
  · cases h
theorem lc_of {tg e : Expr} {y : Str} {py pos : Pos} {csc : Scope} (h : lcOf tg e = some (y, py, csc, pos)) : tg = .Name y py ∧ ∃ elt gs, e = .ListComp elt gs csc pos := by
  unfold lcOf at h
  split at h
  · cases h; exact ⟨rfl, _, _, rfl⟩
  · cases h
theorem semN_ok {t : Sem (Option (List Str))} (h : semN t = true) : t = pure none := by
  cases t <;> first | (cases h; done) | skip
  rename_i a
  cases a <;> first | rfl | cases h
theorem semS_ok {l : List Str} {t : Sem (Option (List Str))} (h : semS l t = true) : t = pure (some l) := by
  cases t <;> first | (cases h; done) | skip
  rename_i a
  cases a with
  | none => cases h
  | some k =>
    have e : k = l := of_decide_eq_true h
    rw [e]
    rfl
theorem nodup_inj {α : Type} {l : List α} (nd : l.Nodup) {i j : Nat} (hi : i < l.length) (hj : j < l.length) (e : l[i] = l[j]) : i = j := by
  have p := List.pairwise_iff_getElem.mp nd
  rcases Nat.lt_trichotomy i j with h | h | h
  · exact absurd e (p i j hi hj h)
  · exact h
  · exact absurd e.symm (p j i hj hi h)
/-- a list at hand is changed at a place -/
theorem set_ok {μ : Mp} {H : Hp} {st : Sto} {r j : Nat} {p : Addr} {xs : List D} {vs : List V} {d : D} {v : V} (t : STR G μ st H) (hp : μ.m[r]? = some p) (hx : st[r]? = some (.lst xs)) (hv : H p = some (.lst vs)) (rv : Reps G μ H xs vs) (rd : Rep G μ H d v) :
    STR G μ (st.set r (.lst (xs.set j d))) (upd H p (.lst (vs.set j v))) ∧ Gr μ H μ (upd H p (.lst (vs.set j v))) := by
  have hm : p ∈ μ.m := List.mem_of_getElem? hp
  have hM := t.sub p hm
  have g : Gr μ H μ (upd H p (.lst (vs.set j v))) := by
    refine ⟨fun a u e n => by rw [upd_ne fun z => n (by rw [z]; exact hm)]; exact e, fun a e => ?_, ⟨[], by simp, by simp⟩, fun _ h => h, fun _ h => .inl h, t.sub⟩
    by_cases z : a = p
    · rw [z, upd_same] at e; cases e
    · rw [upd_ne z] at e; exact e
  refine ⟨⟨by simp [t.len], fun i o h => ?_, t.sub, t.nd, fun a h => ?_⟩, g⟩
  · by_cases hi : r = i
    · subst hi
      have hl : r < st.length := (List.getElem?_eq_some_iff.mp hx).1
      rw [List.getElem?_set_self hl] at h
      cases h
      exact ⟨p, hp, _, upd_same, (rv.set rd j).upd_ hM⟩
    · rw [List.getElem?_set_ne hi] at h
      obtain ⟨a, h1, h2⟩ := t.at_ i o h
      have ne : a ≠ p := fun z => hi (by
        subst z
        obtain ⟨l1, e1⟩ := List.getElem?_eq_some_iff.mp hp
        obtain ⟨l2, e2⟩ := List.getElem?_eq_some_iff.mp h1
        exact nodup_inj t.nd l1 l2 (e1.trans e2.symm))
      exact ⟨a, h1, h2.same g (upd_ne ne)⟩
  · by_cases z : a = p
    · rw [z, upd_same]; simp
    · rw [upd_ne z]; exact t.tr a h
theorem aug_in {μ : Mp} : True := True.intro
def augR (G : Glo) (o : Operator) : R2 := rD G (augD o)
theorem aug_op : ∀ (o : Operator), OpR X (inplaceOp o) (rD G (augD o)) := by
  intro o pins s σ H v w u1 u2 Q I q1 q2 ⟨μ, st, x, y, z, t, rx, ry, e, k⟩
  cases o with
  | Add =>
    cases x <;> cases y <;> first | (cases e; done) | skip
    · cases e; cases rx.int; cases ry.int
      exact iop_add pins s σ H _ _ u1 u2 Q I q1 q2 ⟨_, _, rfl, rfl, k.here t (.int _)⟩
    · obtain ⟨hc, rfl⟩ := if_some e
      cases rx.str; cases ry.str
      exact iop_add_str pins s σ H _ _ u1 u2 Q I q1 q2 ⟨_, _, rfl, rfl, of_decide_eq_true hc, k.here t (.str _)⟩
  | Sub =>
    cases x <;> cases y <;> first | (cases e; done) | skip
    cases e; cases rx.int; cases ry.int
    exact iop_sub pins s σ H _ _ u1 u2 Q I q1 q2 ⟨_, _, rfl, rfl, k.here t (.int _)⟩
  | Mult =>
    cases x <;> cases y <;> first | (cases e; done) | skip
    obtain ⟨hc, rfl⟩ := if_some e
    cases rx.int; cases ry.int
    rename_i i j
    have ho : OpR X (inplaceOp .Mult) (rI (fun i j => okMul i j = true) fun i j => .int (i * j)) := opI fun i j _ _ _ _ _ hc q => imul_int q (okMul_ok hc)
    exact ho pins s σ H _ _ u1 u2 Q I q1 q2 ⟨_, _, rfl, rfl, hc, k.here t (.int _)⟩
  | _ => cases x <;> cases y <;> cases e
theorem sw_lcOk {sc : Scope} {y : Str} {py pos : Pos} {csc : Scope} (h : swLc sc y py pos csc = true) : sc.kind = .function ∧ sc.names.lookup y = some .local ∧ (py.line == pos.line) = true ∧ (csc.names.any fun (n, k) => n == y && (k == .local || k == .cell)) = false := by
  unfold swLc at h
  simp only [Bool.and_eq_true, decide_eq_true_eq, Bool.not_eq_true'] at h
  obtain ⟨⟨⟨h1, h2⟩, h3⟩, h4⟩ := h
  refine ⟨?_, h2, h3, h4⟩
  split at h1
  · assumption
  · cases h1
theorem whl_case {t : Expr} {a : List Stmt} {p : Pos} {x : E} {y : S} (po : PassesOwn (model X.prog X.w) X.A X.env X.xe) (m : Nat) (h1 : PT X t (tB G (wX Ew) fun v => andThen (ev x v) truthM)) (h2 : PSs X a (tS G Ew (ex y))) : PS X (.While t a [] p) (tS G Ew (ex (.whl m x y))) :=
  PS.conv (ps_while po h1 h2) fun D σ H q => whl_ok (fun _ _ _ z => z) (fun _ _ _ z => z) q
theorem asg_case {n : Nat} (iE : Snd G n) {Γ : Gam} (F : Fits Γ X G (wX Ew)) {tg e : Expr} {p : Pos} {c : S} (h' : (if semF (swapsWithSole [tg] e p.line (envS Γ.sc)) then
        (if semN (swappedStores [tg] e (envS Γ.sc)) then
          (match subOf tg with
            | some (o, i) => (comp n Γ e).bind fun x => (comp n Γ o).bind fun y => (comp n Γ i).map fun z => S.setix y z x
            | none => (compG n Γ tg).bind fun g => (comp n Γ e).map fun c => S.asg g c)
        else match parOf tg e with
          | some (x, y, a, b) => if semS [x, y] (swappedStores [tg] e (envS Γ.sc)) && decide (Γ.sc.names.lookup x = some .local) && decide (Γ.sc.names.lookup y = some .local) && plainE a && plainE b then
            (slotOf Γ.N x).bind fun i => (slotOf Γ.N y).bind fun j => if i = j then none else (comp n Γ a).bind fun u => (comp n Γ b).map fun v => S.par i j u v else none
          | none => none)
        else match lcOf tg e with
          | some (y, py, csc, pos) => if swLc Γ.sc y py pos csc then (slotOf Γ.N y).bind fun i => (comp n Γ e).map fun c => S.asg (.nm i) c else none
          | none => none) = some c) : PS X (.Assign [tg] e p) (tS G Ew (ex c)) := by
  have nd : X.N.Nodup := by rw [F.N]; exact F.nd
  split at h'
  · rename_i hsw
    have sw : swapsWithSole [tg] e p.line X.env = pure false := by rw [swaps_env, F.sc]; exact semF_ok hsw
    split at h'
    · rename_i hss
      have ss : swappedStores [tg] e X.env = pure none := by rw [swapped_env, F.sc]; exact semN_ok hss
      split at h'
      · rename_i o i hsub
        obtain ⟨q, rfl, hi⟩ := sub_of hsub
        obtain ⟨x, h1, h2⟩ := bb h'
        obtain ⟨y, h3, h4⟩ := bb h2
        obtain ⟨z, h5, rfl⟩ := mm h4
        refine PS.conv (ps_asg (iE.e Γ X _ e x F h1) (pg_sub (iE.e Γ X _ o y F h3) (iE.e Γ X _ i z F h5) set_list (fun v => by cases i <;> first | rfl | exact absurd rfl (hi _ _ _ _))) sw ss rfl) fun D σ H q => ?_
        obtain ⟨μ, e, st, s, t, hA⟩ := q
        refine ⟨μ, e, st, s, t, Tr.All_mono (fun d st1 hq μ1 H1 v g1 t1 r1 => ?_) (fun _ _ _ z => z) _ ((Tr.All_bind _).mp hA)⟩
        refine ⟨μ1, e, st1, s.gr g1, t1, Tr.All_mono (fun d2 st2 hq2 μ2 H2 v2 g2 t2 r2 => ?_) (fun _ _ _ z => KX.gr g1 z) _ ((Tr.All_bind _).mp hq)⟩
        refine ⟨μ2, e, st2, (s.gr g1).gr g2, t2, Tr.All_mono (fun d3 st3 hq3 μ3 H3 v3 g3 t3 r3 => ?_) (fun _ _ _ z => KX.gr (g1.trans g2) z) _ ((Tr.All_bind _).mp hq2)⟩
        have hq4 : ((match setStore st3 d2 d3 d with
          | some s' => .ok (Fl.nx, e) s'
          | none => .bad) : Tr (Fl × Ev)).All (KS G μ H D) (KX G (wX Ew) σ μ H) := hq3
        cases hset : setStore st3 d2 d3 d with
        | none => rw [hset] at hq4; exact hq4.elim
        | some s' =>
          rw [hset] at hq4
          unfold setStore at hset
          cases d2 <;> cases d3 <;> first | (cases hset; done) | skip
          rename_i r k
          dsimp only at hset
          cases hr : st3[r]? with
          | none => rw [hr] at hset; cases hset
          | some o3 =>
            rw [hr] at hset
            cases o3 with
            | hat => cases hset
            | lst xs =>
              obtain ⟨j, hj, rfl⟩ := mm hset
              cases r3
              have r2' := r2.gr g3
              cases r2' with
              | @ref _ a ha =>
                obtain ⟨a', ha', hO⟩ := t3.at_ r _ hr
                have ea : a' = a := Option.some.inj (ha'.symm.trans ha)
                subst ea
                obtain ⟨vs, hv, rv⟩ := hO
                have rd := (r1.gr g2).gr g3
                obtain ⟨q1, q2⟩ := set_ok (j := j) t3 ha hr hv rv rd
                refine ⟨a', vs, k, j, rfl, rfl, hv, by rw [← rv.length]; exact hj, ?_⟩
                exact KS.here (KS.gr (((g1.trans g2).trans g3).trans q2) (show KS G μ H D (.nx, e) _ from hq4)) q1 ((((s.gr g1).gr g2).gr g3).gr q2)
      · obtain ⟨g, h1, h2⟩ := bb h'
        obtain ⟨x, h3, rfl⟩ := mm h2
        have hp : (assignEach [tg] X.env).map (·.2) = [assign tg X.env] := by
          cases n with
          | zero => cases h1
          | succ n => cases tg <;> first | rfl | cases h1
        exact PS.conv (ps_asg (iE.e Γ X _ e x F h3) ((G_ok F n).1 tg g h1) sw ss hp) fun D σ H q => asg_ok (fun _ _ _ z => z) (fun _ _ _ _ z => z) q
    · split at h'
      · rename_i x y a b hpar
        obtain ⟨px, py, kt, pt, k2, p2, rfl, rfl⟩ := par_of hpar
        split at h'
        · rename_i hc
          simp only [Bool.and_eq_true, decide_eq_true_eq] at hc
          obtain ⟨⟨⟨⟨c1, c2⟩, c3⟩, c4⟩, c5⟩ := hc
          obtain ⟨i, h1, h2⟩ := bb h'
          obtain ⟨j, h3, h4⟩ := bb h2
          split at h4
          · cases h4
          · rename_i hij
            obtain ⟨u, h5, h6⟩ := bb h4
            obtain ⟨v, h7, rfl⟩ := mm h6
            refine PS.conv (ps_par F.calm nd (by rw [F.N]; exact slot_get h1) (by rw [F.N]; exact slot_get h3) hij (by rw [F.sc]; exact c2) (by rw [F.sc]; exact c3)
              (pa_cons (iE.e Γ X _ a u F h5) (pa_cons (iE.e Γ X _ b v F h7) pa_nil (star_of c5)) (star_of c4)) (by rw [swapped_env, F.sc]; exact semS_ok c1) sw) fun D σ H q => ?_
            obtain ⟨μ, e, st, s, t, hA⟩ := q
            refine ⟨μ, e, st, s, t, Tr.All_mono (fun d st1 hq μ1 H1 v1 g1 t1 r1 => ?_) (fun _ _ _ z => z) _ ((Tr.All_bind _).mp hA)⟩
            refine ⟨μ1, e, st1, s.gr g1, t1, Tr.All_mono (fun d2 st2 hq2 μ2 H2 v2 g2 t2 r2 => ?_) (fun _ _ _ z => KX.gr g1 z) _ ((Tr.All_bind _).mp hq)⟩
            exact ⟨v1, v2, rfl, KS.here (KS.gr (g1.trans g2) (show KS G μ H D (.nx, (e.set i (some d)).set j (some d2)) st2 from hq2)) t2 ((((s.gr g1).gr g2).set i (r1.gr g2)).set j r2)⟩
        · cases h'
      · cases h'
  · split at h'
    · rename_i y py csc pos hlc
      obtain ⟨rfl, elt, gs, rfl⟩ := lc_of hlc
      split at h'
      · rename_i hs
        obtain ⟨k1, k2, k3, k4⟩ := sw_lcOk hs
        obtain ⟨i, h1, h2⟩ := bb h'
        obtain ⟨x, h3, rfl⟩ := mm h2
        cases n with
        | zero => cases h3
        | succ n =>
          match gs, h3 with
          | [], h3 => cases h3
          | ⟨_, _, _, .negSucc _⟩ :: _ :: _, h3 => cases h3
          | ⟨_, _, _, .ofNat 0⟩ :: _ :: _, h3 => cases h3
          | ⟨_, _, _, .ofNat (_ + 1)⟩ :: _ :: _, h3 => cases h3
          | [⟨tg, it, ifs, .negSucc _⟩], h3 => cases h3
          | [⟨tg, it, ifs, .ofNat (_ + 1)⟩], h3 => cases h3
          | [⟨tg, it, ifs, .ofNat 0⟩], h3 =>
            obtain ⟨wi, g, tt, te, q1, q2, q3, q4, q5, q6, q7⟩ := lc_parts (snd n) F h3
            refine PS.conv (ps_setLc F.calm nd (by rw [F.N]; exact slot_get h1) (by rw [F.sc]; exact k2) (sw_true (by rw [F.sc]; exact k1) (by rw [F.sc]; exact k2) k3 k4) q1 q2 q3 q4 q5 q6) fun D σ H q => asg_ok (gt := .nm i) q7 (fun v σ H Q hh => ?_) q
            obtain ⟨μ, e, st, d, e', s, t, r, b, k⟩ := hh
            cases b
            refine k _ (by simp) (fun j hj => ?_) (s.set i r)
            rw [List.getElem?_set_ne]
            intro z
            exact hj (by simp [T.slots, z])
      · cases h'
    · cases h'
theorem snd_s {n : Nat} (ih : SndS G n) {Γ : Gam} (F : Fits Γ X G (wX Ew)) {st : Stmt} {c : S} (h : compS (n + 1) Γ st = some c) : PS X st (tS G Ew (ex c)) := by
  have iE : Snd G n := snd n
  have nd : X.N.Nodup := by rw [F.N]; exact F.nd
  cases st with
  | Pass p =>
    cases h
    refine PS.conv ps_pass fun D σ H q => ?_
    obtain ⟨μ, e, st, s, t, hA⟩ := q
    exact KS.here (show KS G μ H D (.nx, e) st from hA) t s
  | Break p =>
    cases h
    refine PS.conv ps_break fun D σ H q => ?_
    obtain ⟨μ, e, st, s, t, hA⟩ := q
    exact KS.here (show KS G μ H D (.bk, e) st from hA) t s
  | Continue p =>
    cases h
    refine PS.conv ps_continue fun D σ H q => ?_
    obtain ⟨μ, e, st, s, t, hA⟩ := q
    exact KS.here (show KS G μ H D (.ct, e) st from hA) t s
  | Expr e p =>
    have gen : (if isComp e then none else (comp n Γ e).map S.expr) = some c → PS X (.Expr e p) (tS G Ew (ex c)) := by
      intro h'
      split at h'
      · cases h'
      · rename_i hc
        obtain ⟨x, h1, rfl⟩ := mm h'
        exact PS.conv (ps_expr (iE.e Γ X _ e x F h1) (swaps_plain (by simpa using hc))) fun D σ H q => expr_ok (fun _ _ _ z => z) q
    cases e with
    | Constant k i q =>
      cases k with
      | str z =>
        cases h
        refine PS.conv ps_doc fun D σ H q => ?_
        obtain ⟨μ, e, st, s, t, hA⟩ := q
        exact KS.here (show KS G μ H D (.nx, e) st from hA) t s
      | _ => exact gen h
    | _ => exact gen h
  | Return o p =>
    cases o with
    | none =>
      cases h
      refine PS.conv ps_retN fun D σ H q => ?_
      obtain ⟨μ, e, st, s, t, hA⟩ := q
      exact (KS.here (show KS G μ H D (.rt .non, e) st from hA) t s) _ .non
    | some e =>
      obtain ⟨x, h1, rfl⟩ := mm (show (comp n Γ e).map S.ret = some c from h)
      exact PS.conv (ps_ret (iE.e Γ X _ e x F h1)) fun D σ H q => ret_ok (fun _ _ _ z => z) q
  | If t a b p =>
    have h' : ((compT n Γ t).bind fun x => (compSs n Γ a).bind fun y => (compSs n Γ b).map fun z => S.ifs x y z) = some c := h
    obtain ⟨x, h1, h2⟩ := bb h'
    obtain ⟨y, h3, h4⟩ := bb h2
    obtain ⟨z, h5, rfl⟩ := mm h4
    refine PS.conv (ps_if (iE.t Γ X _ t x F h1) (ih.ss Γ X _ a y F h3) (ih.ss Γ X _ b z F h5)) fun D σ H q => if_ok (dc := fun v => andThen (ev x v) truthM) (da := ex y) (db := ex z) (fun _ _ _ z => z) (fun _ _ _ z => z) (fun _ _ _ z => z) ?_
    obtain ⟨μ, e, st, s, t, hA⟩ := q
    refine ⟨μ, e, st, s, t, (Tr.All_bind _).mpr ((Tr.All_bind (f := truthM) _).mpr ?_)⟩
    exact Tr.All_mono (fun d s2 hq => (Tr.All_bind _).mp hq) (fun _ _ _ z => z) _ ((Tr.All_bind _).mp hA)
  | While t a o p =>
    cases o with
    | cons _ _ => cases h
    | nil =>
      have h' : ((compT n Γ t).bind fun x => (compSs n Γ a).map fun y => S.whl fuelW x y) = some c := h
      obtain ⟨x, h1, h2⟩ := bb h'
      obtain ⟨y, h3, rfl⟩ := mm h2
      exact whl_case F.po fuelW (iE.t Γ X _ t x F h1) (ih.ss Γ X _ a y F h3)
  | For tg it a o p =>
    cases o with
    | cons _ _ => cases h
    | nil =>
      have h' : ((compI n Γ tg it).bind fun x => (compG n Γ tg).bind fun g => (compSs n Γ a).map fun y => S.for_ g x y) = some c := h
      obtain ⟨x, h1, h2⟩ := bb h'
      obtain ⟨g, h3, h4⟩ := bb h2
      obtain ⟨y, h5, rfl⟩ := mm h4
      obtain ⟨pi, hf⟩ := iE.i Γ X _ tg it x F h1
      exact PS.conv (ps_for F.po F.calm pi ((G_ok F n).1 tg g h3) (ih.ss Γ X _ a y F h5) (hf X.env)) fun D σ H q => for_ok (fun _ _ _ z => z) (fun _ _ _ _ z => z) (fun _ _ _ z => z) q
  | Raise a b p =>
    cases h
    refine PS.conv ps_never fun D σ H q => ?_
    obtain ⟨μ, e, st, s, t, hA⟩ := q
    exact hA.elim
  | AugAssign tg o e p =>
    cases tg <;> first | (cases h; done) | skip
    rename_i x px
    have h' : (if locB Γ.sc Γ.asg x then (slotOf Γ.N x).bind fun i => (comp n Γ e).map fun c => S.aug i o c else none) = some c := h
    split at h'
    · rename_i hl
      obtain ⟨i, h1, h2⟩ := bb h'
      obtain ⟨y, h3, rfl⟩ := mm h2
      obtain ⟨l1, l2⟩ := loc_of hl
      refine PS.conv (ps_aug (ti := rD G (augD o)) nd (by rw [F.N]; exact slot_get h1) (by rw [F.sc]; exact l1) (iE.e Γ X _ e y F h3) (aug_op o) ?_) fun D σ H q => ?_
      · rcases l2 with z | z
        · exact .inr (by rw [F.sc]; exact z)
        · exact .inl (F.fn x z)
      · obtain ⟨μ, e, st, s, t, hA⟩ := q
        obtain ⟨d, hd, k⟩ := optM_some ((Tr.All_bind _).mp hA)
        obtain ⟨oo, e1, e2⟩ := bb hd
        cases e2
        obtain ⟨v, q1, q2⟩ := s.slot i d e1
        refine ⟨v, q1, ⟨μ, e, st, s, t, Tr.All_mono (fun d2 st1 hq μ1 H1 w g1 t1 r1 => ?_) (fun _ _ _ z => z) _ ((Tr.All_bind _).mp k)⟩⟩
        obtain ⟨z, hz, kk⟩ := optM_some ((Tr.All_bind _).mp hq)
        refine ⟨μ1, st1, d, d2, z, t1, .rep (q2.gr g1), .rep r1, hz, fun μ2 H2 u g2 t2 r2 => ?_⟩
        exact KS.here (KS.gr (g1.trans g2) (show KS G μ H D (.nx, e.set i (some z)) st1 from kk)) t2 (((s.gr g1).gr g2).set i r2)
    · cases h'
  | Assign ts e p =>
    match ts with
    | [] => cases h
    | _ :: _ :: _ => cases h
    | [tg] =>
      have h' : (if semF (swapsWithSole [tg] e p.line (envS Γ.sc)) then
        (if semN (swappedStores [tg] e (envS Γ.sc)) then
          (match subOf tg with
            | some (o, i) => (comp n Γ e).bind fun x => (comp n Γ o).bind fun y => (comp n Γ i).map fun z => S.setix y z x
            | none => (compG n Γ tg).bind fun g => (comp n Γ e).map fun c => S.asg g c)
        else match parOf tg e with
          | some (x, y, a, b) => if semS [x, y] (swappedStores [tg] e (envS Γ.sc)) && decide (Γ.sc.names.lookup x = some .local) && decide (Γ.sc.names.lookup y = some .local) && plainE a && plainE b then
            (slotOf Γ.N x).bind fun i => (slotOf Γ.N y).bind fun j => if i = j then none else (comp n Γ a).bind fun u => (comp n Γ b).map fun v => S.par i j u v else none
          | none => none)
        else match lcOf tg e with
          | some (y, py, csc, pos) => if swLc Γ.sc y py pos csc then (slotOf Γ.N y).bind fun i => (comp n Γ e).map fun c => S.asg (.nm i) c else none
          | none => none) = some c := h
      exact asg_case iE F h'
  | _ => cases h
end
end Gw

set_option Elab.async false
set_option linter.all false
set_option maxRecDepth 100000
set_option maxHeartbeats 1000000
/-! Gw9: defs. -/
namespace Gw
open PySem PySem.Spec PyProof.Rows L2
theorem snds {G : Glo} : ∀ n, SndS G n
  | 0 => ⟨fun _ _ _ _ _ _ h => (by cases h), fun _ _ _ _ _ _ h => (by cases h)⟩
  | n + 1 => by
    have ih := snds (G := G) n
    refine ⟨fun Γ X E st c F h => snd_s ih F h, fun Γ X E st c F h => ?_⟩
    cases st with
    | nil =>
      cases h
      refine PSs.conv pss_nil fun D σ H q => ?_
      obtain ⟨μ, e, st, s, t, hA⟩ := q
      exact KS.here (show KS G μ H D (.nx, e) st from hA) t s
    | cons a r =>
      have h' : ((compS n Γ a).bind fun x => (compSs n Γ r).map fun y => S.seq x y) = some c := h
      obtain ⟨x, h1, h2⟩ := bb h'
      obtain ⟨y, h3, rfl⟩ := mm h2
      exact PSs.conv (pss_cons (ih.s Γ X E a x F h1) (ih.ss Γ X E r y F h3)) fun D σ H q => seq_ok (fun _ _ _ z => z) (fun _ _ _ z => z) q
theorem SR.start {G : Glo} {μ : Mp} {H : Hp} {N : List Str} {ds : List D} {vs : List V} (r : Reps G μ H ds vs) : SR G μ (startE N.length ds) (L2.start N vs) H := by
  have hl := r.length
  refine ⟨by unfold startE L2.start; simp [hl], fun i d h => ?_⟩
  unfold startE at h
  unfold L2.start
  by_cases hi : i < ds.length
  · rw [List.getElem?_append_left (by simpa using hi), List.getElem?_map] at h
    cases q : ds[i]? with
    | none => rw [q] at h; cases h
    | some x =>
      rw [q] at h
      cases h
      obtain ⟨v, h1, h2⟩ := r.get q
      refine ⟨v, ?_, h2⟩
      rw [List.getElem?_append_left (by rw [List.length_map, ← hl]; exact hi), List.getElem?_map, h1]
      rfl
  · rw [List.getElem?_append_right (by simpa using hi), List.getElem?_replicate] at h
    split at h <;> cases h
/-- what a caller knows of a def -/
def FnFact (P : Program) (w : World) (K : PySem.W.Frag) (mg : Str → Option Value) (base : Heap) (G : Glo) (x : Str) (fi : FnI) : Prop :=
  ∃ f fd ps, mg x = some (.ref f) ∧ PySem.W.keepIn K (.ref f) = true ∧ Binds K fd ps [] ∧ FnOk P w K mg base (L2.CX P w) fi.lv f fd ps (spD G fi.φ fi.np) ∧ ∀ ds st P E, (fi.φ ds st).All P E → ds.length = fi.np
structure TabOk (P : Program) (w : World) (K : PySem.W.Frag) (mg : Str → Option Value) (base : Heap) (G : Glo) (tab : List (Str × FnI)) : Prop where
  ok : ∀ x fi, tab.lookup x = some fi → FnFact P w K mg base G x fi
theorem TabOk.nil {P : Program} {w : World} {K : PySem.W.Frag} {mg : Str → Option Value} {base : Heap} {G : Glo} : TabOk P w K mg base G [] := ⟨fun _ _ h => (by cases h)⟩
theorem TabOk.cons {P : Program} {w : World} {K : PySem.W.Frag} {mg : Str → Option Value} {base : Heap} {G : Glo} {tab : List (Str × FnI)} {x : Str} {fi : FnI} (h : FnFact P w K mg base G x fi) (t : TabOk P w K mg base G tab) : TabOk P w K mg base G ((x, fi) :: tab) := by
  refine ⟨fun y gi hl => ?_⟩
  rw [List.lookup_cons] at hl
  cases e : (y == x) with
  | true =>
    rw [e] at hl
    cases hl
    rw [beq_iff_eq.mp e]
    exact h
  | false =>
    rw [e] at hl
    exact t.ok y gi hl
theorem fnM_len {n p : Nat} {b : S} {ds : List D} {st : Sto} {P : D → Sto → Prop} {E : Str → D → Sto → Prop} (h : (fnM n p b ds st).All P E) : ds.length = p := by
  unfold fnM at h
  by_cases hl : ds.length = p
  · exact hl
  · rw [if_neg hl] at h
    exact h.elim
section
variable {P : Program} {w : World} {K : PySem.W.Frag} {mg : Str → Option Value} {base : Heap} {G : Glo} {x qual : Str} {params : Arguments} {body : List Stmt} {scope : Scope} {f : Addr} {fd : FuncData}
/-- THE RULE: a def whose body compiles does what the core says -/
theorem fn_core (F : FunD K x qual params body scope [] [] f fd) {N ps : List Str} (S_ : FnScope N ps scope) {Γ : Gam} {b : S} {n : Nat} (hN : Γ.N = N) (hsc : Γ.sc = scope) (hb : compSs n Γ body = some b) (hK : G.K = K) (hmg : G.mg = mg)
    (hf : TabOk P w K mg base G Γ.fns) (hc : ∀ x d, Γ.cst.lookup x = some d → ∃ u v, mg x = some u ∧ RelV v u ∧ ∀ μ H, Rep G μ H d v) (hfr : ∀ x ∈ Γ.free, mg x = none) :
    FnOk P w K mg base (L2.CX P w) (Γ.lv + 1) f fd ps (spD G (fnM N.length ps.length b) ps.length) := by
  refine F.ok S_ (fun vs H Q E h => h.1) (fun cdv A outer s H vs Q E hr h => ⟨tS G E (ex b), ?_, ?_⟩)
  · refine (snds n).ss Γ _ E body b ⟨?_, ?_, ?_, rfl, hK, hmg, takes_of rfl rfl rfl rfl, passes_of rfl, fun _ _ => rfl, hr, hf.ok, hc, hfr⟩ hb
    · exact hN.symm
    · rw [hN]; exact S_.nd
    · exact hsc.symm
  · obtain ⟨hl, μ, ds, st, r, t, hA⟩ := h
    have hd := fnM_len hA
    unfold fnM at hA
    rw [if_pos hd] at hA
    refine ⟨μ, _, st, SR.start r, t, Tr.All_mono (fun q st1 hq μ1 H1 σ1 g1 t1 s1 => ?_) (fun _ _ _ z => z) _ ((Tr.All_bind _).mp hA)⟩
    obtain ⟨fl, e1⟩ := q
    cases fl with
    | nx => exact (show KE G (Rep G) μ H Q .non st1 from hq) μ1 H1 _ g1 t1 .non
    | rt d => exact fun x rx => (show KE G (Rep G) μ H Q d st1 from hq) μ1 H1 x g1 t1 rx
    | bk => exact hq.elim
    | ct => exact hq.elim
mutual
theorem Rep.rf_ {μ : Mp} {m' : List Addr} {H : Hp} : ∀ (d : D) (v : V), Rep G μ H d v → d.rf = true → Rep G ⟨μ.M, m'⟩ H d v
  | .non, _, h, _ => by cases h; exact .non
  | .bl b, _, h, _ => by cases h; exact .bl b
  | .int i, _, h, _ => by cases h; exact .int i
  | .str x, _, h, _ => by cases h; exact .str x
  | .ty n, _, h, _ => by cases h; exact .ty n
  | .fn x, _, h, _ => by cases h with | fn e => exact .fn e
  | .ref i, _, h, e => by cases e
  | .tup xs, _, h, e => by cases h with | tup a b => exact .tup a (Reps.rf_ xs _ b e)
  | .lst xs, _, h, e => by cases h with | lst a b => exact .lst a (Reps.rf_ xs _ b e)
  | .scr ns, _, h, _ => by cases h with | scr a => exact .scr a
  | .emp, _, h, _ => by cases h with | emp n r => exact .emp n r
theorem Reps.rf_ {μ : Mp} {m' : List Addr} {H : Hp} : ∀ (ds : List D) (vs : List V), Reps G μ H ds vs → D.rfs ds = true → Reps G ⟨μ.M, m'⟩ H ds vs
  | [], _, h, _ => by cases h; exact .nil
  | d :: ds, _, h, e => by
    unfold D.rfs at e
    obtain ⟨e1, e2⟩ := Bool.and_eq_true_iff.mp e
    cases h with | cons a b => exact .cons (Rep.rf_ d _ a e1) (Reps.rf_ ds _ b e2)
end
/-- without the objects behind the first n -/
def Mp.cut (μ : Mp) (n : Nat) : Mp := ⟨μ.M.filter fun a => !(μ.m.drop n).contains a, μ.m.take n⟩
theorem Mp.cut_sub {μ : Mp} {n : Nat} : ∀ a ∈ (μ.cut n).M, a ∈ μ.M := fun a ha => (List.mem_filter.mp ha).1
theorem Rep.cut {μ : Mp} {H : Hp} {n : Nat} {d : D} {v : V} (r : Rep G μ H d v) (h : d.rf = true) : Rep G (μ.cut n) H d v :=
  Rep.less (μ := ⟨μ.M, μ.m.take n⟩) (μ' := μ.cut n) Mp.cut_sub rfl _ _ (Rep.rf_ _ _ r h)
theorem Reps.cut_ {μ : Mp} {H : Hp} {n : Nat} {d : List D} {v : List V} (r : Reps G μ H d v) (h : D.rfs d = true) : Reps G (μ.cut n) H d v :=
  Reps.less (μ := ⟨μ.M, μ.m.take n⟩) (μ' := μ.cut n) Mp.cut_sub rfl _ _ (Reps.rf_ _ _ r h)
theorem cut_str {μ μ' : Mp} {H H' : Hp} {n : Nat} {st s : Sto} (t0 : STR G μ st H) (hn : μ.m.length = n) (g : Gr μ H μ' H') (t : STR G μ' s H') (hr : (s.take n).all MO.rf = true) : Gr μ H (μ'.cut n) H' ∧ STR G (μ'.cut n) (s.take n) H' := by
  obtain ⟨r, e, hr'⟩ := g.pre
  have hd : μ'.m.drop n = r := by rw [e, ← hn]; exact List.drop_left
  have ht : μ'.m.take n = μ.m := by rw [e, ← hn]; exact List.take_left
  refine ⟨⟨g.keep, g.there, ⟨[], ?_, by simp⟩, fun a ha => ?_, fun a ha => g.new a (Mp.cut_sub a ha), g.ms⟩, ⟨?_, fun i o h => ?_, fun a ha => ?_, ?_, fun a ha => t.tr a (Mp.cut_sub a ha)⟩⟩
  · show μ'.m.take n = μ.m ++ []
    rw [ht, List.append_nil]
  · refine List.mem_filter.mpr ⟨g.sub a ha, ?_⟩
    rw [hd]
    have : ¬ a ∈ r := fun z => t0.tr a ha (hr' a z)
    simpa using this
  · show (μ'.m.take n).length = (s.take n).length
    rw [List.length_take, List.length_take, t.len]
  · have hi : i < n := by
      have := (List.getElem?_eq_some_iff.mp h).1
      rw [List.length_take] at this
      omega
    have hro := List.all_eq_true.mp hr o (List.mem_of_getElem? h)
    rw [List.getElem?_take_of_lt hi] at h
    obtain ⟨a, h1, h2⟩ := t.at_ i o h
    refine ⟨a, by show (μ'.m.take n)[i]? = _; rw [List.getElem?_take_of_lt hi]; exact h1, ?_⟩
    cases o with
    | hat => exact h2
    | lst xs =>
      obtain ⟨vs, q1, q2⟩ := h2
      exact ⟨vs, q1, Reps.cut_ q2 hro⟩
  · have ha' : a ∈ μ'.m.take n := ha
    refine List.mem_filter.mpr ⟨t.sub a (List.mem_of_mem_take ha'), ?_⟩
    have nd := t.nd
    rw [← List.take_append_drop n μ'.m, List.nodup_append] at nd
    have : ¬ a ∈ μ'.m.drop n := fun z => nd.2.2 a ha' a z rfl
    simpa using this
  · exact t.nd.sublist (List.take_sublist _ _)
theorem trim_all {μ : Mp} {H : Hp} {Q : VK} {W : WX} {σ : L2.St} {n : Nat} {st : Sto} (t0 : STR G μ st H) (hn : μ.m.length = n) : ∀ t : Tr D, (trimT n t).All (KE G (Rep G) μ H Q) (KX G W σ μ H) → t.All (KE G (Rep G) μ H Q) (KX G W σ μ H)
  | .bad, h => h
  | .pick m k, h => fun i hi => trim_all t0 hn (k i) (h i hi)
  | .ok v s, h => by
    unfold trimT at h
    split at h
    · rename_i hc
      obtain ⟨h1, h2⟩ := Bool.and_eq_true_iff.mp hc
      intro μ' H' x g t r
      obtain ⟨q1, q2⟩ := cut_str t0 hn g t h2
      refine (show KE G (Rep G) μ H Q (frzT n v s) (s.take n) from h) (μ'.cut n) H' x q1 q2 ?_
      cases v <;> first | exact r.cut h1 | skip
      rename_i i
      have e1 : frzT n (.ref i) s = if n ≤ i then (match s[i]? with
        | some (.lst xs) => .lst xs
        | _ => .ref i) else .ref i := rfl
      rw [e1] at h1 ⊢
      by_cases hni : n ≤ i
      · rw [if_pos hni] at h1 ⊢
        cases hs : s[i]? with
        | none => rw [hs] at h1; cases h1
        | some o =>
          cases o with
          | hat => rw [hs] at h1; cases h1
          | lst xs =>
            rw [hs] at h1
            cases r with
            | @ref _ a ha =>
              obtain ⟨a', h3, vs, h4, h5⟩ := t.at_ i _ hs
              rw [ha] at h3
              cases h3
              refine .lst ⟨fun z => ?_, h4⟩ (Reps.cut_ h5 h1)
              have z2 := (List.mem_filter.mp z).2
              have : a ∈ μ'.m.drop n := List.mem_of_getElem? (i := i - n) (by rw [List.getElem?_drop, show n + (i - n) = i by omega]; exact ha)
              simp [this] at z2
      · rw [if_neg hni] at h1; cases h1
    · exact h
  | .ex e v s, h => by
    unfold trimT at h
    split at h
    · rename_i hc
      obtain ⟨h1, h2⟩ := Bool.and_eq_true_iff.mp hc
      intro μ' H' cls dd g t r
      obtain ⟨q1, q2⟩ := cut_str t0 hn g t h2
      refine (show KX G W σ μ H e v (s.take n) from h) (μ'.cut n) H' cls dd q1 q2 ?_
      obtain ⟨C, r1, r2, r3⟩ := r
      refine ⟨C, r1, r2, ?_⟩
      cases hf : G.fld e with
      | none => rw [hf] at r3; exact r3
      | some f =>
        rw [hf] at r3
        obtain ⟨dx, v', a1, a2, a3⟩ := r3
        exact ⟨dx, v', a1, a2, Rep.cut a3 h1⟩
    · exact h
theorem trim_fn {CX : CXT} {k np : Nat} {ps : List Str} {φ : List D → M D} (F : FnOk P w K mg base CX k f fd ps (spD G φ np)) : FnOk P w K mg base CX k f fd ps (spD G (trimM φ) np) := by
  refine F.imp fun vs H Q E h => ?_
  obtain ⟨hl, μ, ds, st, r, t, hA⟩ := h
  exact ⟨hl, μ, ds, st, r, t, trim_all t t.len _ hA⟩
theorem trim_len {n p : Nat} {b : S} {ds : List D} {st : Sto} {P : D → Sto → Prop} {E : Str → D → Sto → Prop} (h : (trimM (fnM n p b) ds st).All P E) : ds.length = p := by
  by_cases hl : ds.length = p
  · exact hl
  · unfold trimM fnM at h
    rw [if_neg hl] at h
    exact h.elim
theorem fn_bad {CX : CXT} {k np : Nat} {ps : List Str} : FnOk P w K mg base CX k f fd ps (spD G (fun _ => badM) np) :=
  ⟨fun _ _ _ _ h => by obtain ⟨_, _, _, _, _, _, hA⟩ := h; exact hA.elim, fun _ _ _ _ _ _ _ _ _ _ _ _ _ hs => by obtain ⟨_, _, _, _, _, _, hA⟩ := hs; exact hA.elim⟩
end
end Gw

set_option Elab.async false
set_option linter.all false
set_option maxRecDepth 100000
set_option maxHeartbeats 1000000
/-! Gw10: hats, a law's end. -/
namespace Gw
open PySem PySem.Spec PyProof.Rows L2
/-- the draw: any number below the total -/
def mUp : List D → M D
  | [.ref i, .int n] => fun st => match st[i]? with
    | some .hat => if 0 < n then .pick n.toNat fun k => .ok (.int (k : Nat)) st else .bad
    | _ => .bad
  | _ => badM
def mDraw : List D → M D := fun ds st => match ds with
  | [_, .int n] => if n.natAbs.log2 < 9000 then mUp ds st else .bad
  | _ => .bad
/-- a new hat -/
def mHat : List D → M D
  | [.scr _, .int k] => fun st => if 0 ≤ k ∧ k ≤ 1000 then .ok (.ref st.length) (st ++ [.hat]) else .bad
  | _ => badM
section
variable {G : Glo} {μ : Mp} {H : Hp} {st : Sto}
/-- a hat is a list of three numbers, and back -/
theorem hat_lst {i : Nat} (t : STR G μ st H) (h : st[i]? = some .hat) : ∃ g s c, HatOk g s c ∧ STR G μ (st.set i (.lst [.int g, .int s, .int c])) H := by
  obtain ⟨a, h1, g, s, c, h2, h3⟩ := t.at_ i _ h
  refine ⟨g, s, c, h3, by simp [t.len], fun j o hj => ?_, t.sub, t.nd, t.tr⟩
  by_cases e : i = j
  · subst e
    rw [List.getElem?_set_self (List.getElem?_eq_some_iff.mp h).1] at hj
    cases hj
    exact ⟨a, h1, _, h2, .cons (.int _) (.cons (.int _) (.cons (.int _) .nil))⟩
  · rw [List.getElem?_set_ne e] at hj
    exact t.at_ j o hj
theorem lst_hat {i : Nat} {g s c : Int} (hk : HatOk g s c) (hi : i < st.length) (t : STR G μ (st.set i (.lst [.int g, .int s, .int c])) H) (h : st[i]? = some .hat) : STR G μ st H := by
  refine ⟨by have := t.len; simpa using this, fun j o hj => ?_, t.sub, t.nd, t.tr⟩
  by_cases e : i = j
  · subst e
    rw [h] at hj
    cases hj
    obtain ⟨a, h1, vs, h2, h3⟩ := t.at_ i (.lst [.int g, .int s, .int c]) (by rw [List.getElem?_set_self hi])
    refine ⟨a, h1, g, s, c, ?_, hk⟩
    cases h3 with
    | cons r1 r =>
      cases r with
      | cons r2 r =>
        cases r with
        | cons r3 r => cases r; cases r1; cases r2; cases r3; exact h2
  · exact t.at_ j o (by rw [List.getElem?_set_ne e]; exact hj)
theorem up_fn {P : Program} {w : World} {K : PySem.W.Frag} {mg : Str → Option Value} {base : Heap} {CX : CXT} {k : Nat} {f : Addr} {fd : FuncData} {ps : List Str} {φ : List D → M D} (F : FnOk P w K mg base CX k f fd ps (spD G φ 2))
    (h : ∀ (i : Nat) (n : Int) (st : Sto) (g s c : Int), i < st.length → 0 < n → n.natAbs.log2 < 9000 → HatOk g s c → ∃ j g' s' c', 0 ≤ j ∧ j < n ∧ HatOk g' s' c' ∧ φ [.ref i, .int n] (st.set i (.lst [.int g, .int s, .int c])) = .ok (.int j) (st.set i (.lst [.int g', .int s', .int c']))) :
    FnOk P w K mg base CX k f fd ps (spD G mDraw 2) := by
  refine F.imp fun vs H Q E hh => ?_
  obtain ⟨hl, μ, ds, st, r, t, hA⟩ := hh
  match ds, r, hA with
  | [.ref i, .int n], r, hA =>
    have hA1 : (if n.natAbs.log2 < 9000 then mUp [.ref i, .int n] st else .bad).All (KE G (Rep G) μ H Q) (KX G (wX E) [] μ H) := hA
    split at hA1
    · rename_i hn
      have hA2 : ((match st[i]? with
        | some .hat => if 0 < n then .pick n.toNat fun k => .ok (.int (k : Nat)) st else .bad
        | _ => .bad) : Tr D).All (KE G (Rep G) μ H Q) (KX G (wX E) [] μ H) := hA1
      cases hs : st[i]? with
      | none => rw [hs] at hA2; exact hA2.elim
      | some o =>
        cases o with
        | lst xs => rw [hs] at hA2; exact hA2.elim
        | hat =>
          rw [hs] at hA2
          dsimp only at hA2
          split at hA2
          · rename_i h0
            have hi := (List.getElem?_eq_some_iff.mp hs).1
            obtain ⟨g, s, c, hk, t'⟩ := hat_lst t hs
            obtain ⟨j, g', s', c', j0, j1, hk', e⟩ := h i n st g s c hi h0 hn hk
            refine ⟨hl, μ, _, _, r, t', ?_⟩
            rw [e]
            have hq : KE G (Rep G) μ H Q (.int (j.toNat : Nat)) st := hA2 j.toNat (by omega)
            rw [show ((j.toNat : Nat) : Int) = j by omega] at hq
            exact fun μ1 H1 x g1 t1 r1 => hq μ1 H1 x g1 (lst_hat hk' hi t1 hs) r1
          · exact hA2.elim
    · exact hA1.elim
  | [], _, hA => exact hA.elim
  | [_], _, hA => exact hA.elim
  | _ :: b :: _ :: _, _, hA => exact (by revert hA; cases b <;> exact fun h => h.elim)
  | [.non, .int n], _, hA | [.bl _, .int n], _, hA | [.int _, .int n], _, hA | [.str _, .int n], _, hA | [.tup _, .int n], _, hA | [.lst _, .int n], _, hA | [.fn _, .int n], _, hA | [.ty _, .int n], _, hA | [.scr _, .int n], _, hA | [.emp, .int n], _, hA =>
    exact (by
      unfold mDraw at hA
      dsimp only at hA
      split at hA <;> exact hA.elim)
  | [_, .non], _, hA | [_, .bl _], _, hA | [_, .str _], _, hA | [_, .tup _], _, hA | [_, .lst _], _, hA | [_, .fn _], _, hA | [_, .ty _], _, hA | [_, .ref _], _, hA | [_, .scr _], _, hA | [_, .emp], _, hA => exact hA.elim
theorem str_push_hat {a : Addr} {vs : List V} : True := True.intro
/-- a new hat: the three numbers that were laid are one -/
theorem hat_fn {P : Program} {w : World} {K : PySem.W.Frag} {mg : Str → Option Value} {base : Heap} {CX : CXT} {k : Nat} {f : Addr} {fd : FuncData} {ps : List Str} {φ : List D → M D} (F : FnOk P w K mg base CX k f fd ps (spD G φ 2))
    (h : ∀ (ns : List Int) (n : Int) (st : Sto), 0 ≤ n → n ≤ 1000 → ∃ g s c, HatOk g s c ∧ φ [.scr ns, .int n] st = .ok (.ref st.length) (st ++ [.lst [.int g, .int s, .int c]])) : FnOk P w K mg base CX k f fd ps (spD G mHat 2) := by
  refine F.imp fun vs H Q E hh => ?_
  obtain ⟨hl, μ, ds, st, r, t, hA⟩ := hh
  match ds, r, hA with
  | [.scr ns, .int n], r, hA =>
    have hA1 : ((if 0 ≤ n ∧ n ≤ 1000 then .ok (.ref st.length) (st ++ [.hat]) else .bad) : Tr D).All (KE G (Rep G) μ H Q) (KX G (wX E) [] μ H) := hA
    split at hA1
    · rename_i hn
      obtain ⟨g, s, c, hk, e⟩ := h ns n st hn.1 hn.2
      refine ⟨hl, μ, _, st, r, t, ?_⟩
      rw [e]
      intro μ1 H1 x g1 t1 r1
      have e2 : st ++ [MO.lst [.int g, .int s, .int c]] = (st ++ [MO.hat]).set st.length (.lst [.int g, .int s, .int c]) := by
        rw [List.set_append_right _ _ (Nat.le_refl _), Nat.sub_self]
        rfl
      rw [e2] at t1
      exact (show KE G (Rep G) μ H Q (.ref st.length) (st ++ [MO.hat]) from hA1) μ1 H1 x g1 (lst_hat (i := st.length) (st := st ++ [MO.hat]) hk (by simp) t1 (by simp)) r1
    · exact hA1.elim
  | [], _, hA => exact hA.elim
  | [a], _, hA => exact (by revert hA; cases a <;> exact fun h => h.elim)
  | a :: b :: _ :: _, _, hA => exact (by revert hA; cases a <;> cases b <;> exact fun h => h.elim)
  | [.scr _, .non], _, hA | [.scr _, .bl _], _, hA | [.scr _, .str _], _, hA | [.scr _, .tup _], _, hA | [.scr _, .lst _], _, hA | [.scr _, .fn _], _, hA | [.scr _, .ty _], _, hA | [.scr _, .ref _], _, hA | [.scr _, .scr _], _, hA | [.scr _, .emp], _, hA => exact hA.elim
  | [.non, b], _, hA | [.bl _, b], _, hA | [.int _, b], _, hA | [.str _, b], _, hA | [.tup _, b], _, hA | [.lst _, b], _, hA | [.fn _, b], _, hA | [.ty _, b], _, hA | [.emp, b], _, hA | [.ref _, b], _, hA => exact (by revert hA; cases b <;> exact fun h => h.elim)
end
/-! ### a law's end -/
def spEnd (G : Glo) (φ : List D → M D) : Sp := fun vs H Q _ => spD G φ 1 vs H Q fun _ _ _ => False
theorem law_end {P : Program} {w : World} {K : PySem.W.Frag} {mg : Str → Option Value} {base : Heap} {k : Nat} {f : Addr} {fd : FuncData} {ps : List Str} {G : Glo} {φ : List D → M D} (F : FnOk P w K mg base (L2.CX P w) k f fd ps (spD G φ 1)) :
    FnOk P w K mg base CX0 k f fd ps (spEnd G φ) := by
  refine ⟨fun vs H Q E h => F.len vs H Q (fun _ _ _ => False) h, fun A outer s H args us vs Q E hr he hb hv hs => ?_⟩
  refine codeAny_mono (F.run A outer s H args us vs Q (fun _ _ _ => False) hr he hb hv hs) fun r s' hq => ?_
  cases r with
  | error e =>
    obtain ⟨_, _, _, _, _, _, _, _, _, _, _, _, z⟩ := (show L2.CX P w outer H s (fun _ _ _ => False) e s' from hq)
    exact z.elim
  | ok fl => cases fl <;> exact hq
theorem law_start {K : PySem.W.Frag} {G : Glo} (hK : G.K = K) {φ : List D → M D} (h : ∀ ns : List Int, ns.length ≤ 63 → (φ [.scr ns] []).All (fun v _ => v = .bl true) fun _ _ _ => False) (H : Hp) (a : Addr) (ns : List Int) (hl : ns.length ≤ 63) (hS : SqL K H a (ns.map V.int)) :
    spEnd G φ [.ref a] H (fun v _ => v = .bl true) fun _ _ _ => False := by
  refine ⟨rfl, ⟨[], []⟩, [.scr ns], [], .cons (.scr ?_) .nil, ⟨rfl, fun i o h => by simp at h, by simp, by simp, by simp⟩, ?_⟩
  · rcases hS with h | h
    · exact .inl ⟨by simp, h⟩
    · exact .inr (hK ▸ h)
  · refine Tr.All_mono (fun v st hv μ' H' x g t r => ?_) (fun _ _ _ z => z.elim) _ (h ns hl)
    subst hv
    cases r
    rfl
/-! ### constants -/
def CstOk (mg : Str → Option Value) (G : Glo) (l : List (Str × D)) : Prop := ∀ x d, l.lookup x = some d → ∃ u v, mg x = some u ∧ RelV v u ∧ ∀ μ H, Rep G μ H d v
theorem CstOk.nil {mg : Str → Option Value} {G : Glo} : CstOk mg G [] := fun _ _ h => (by cases h)
theorem CstOk.cons {mg : Str → Option Value} {G : Glo} {l : List (Str × D)} {x : Str} {d : D} (h : ∃ u v, mg x = some u ∧ RelV v u ∧ ∀ μ H, Rep G μ H d v) (t : CstOk mg G l) : CstOk mg G ((x, d) :: l) := by
  intro y e hl
  rw [List.lookup_cons] at hl
  cases q : (y == x) with
  | true =>
    rw [q] at hl
    cases hl
    rw [beq_iff_eq.mp q]
    exact h
  | false =>
    rw [q] at hl
    exact t y e hl
theorem cst_int {mg : Str → Option Value} {G : Glo} {x : Str} {i : Int} (h : ∃ t, mg x = some (.int i t)) : ∃ u v, mg x = some u ∧ RelV v u ∧ ∀ μ H, Rep G μ H (.int i) v := by
  obtain ⟨t, e⟩ := h
  exact ⟨_, .int i, e, ⟨t, rfl⟩, fun _ _ => .int i⟩
theorem cst_str {mg : Str → Option Value} {G : Glo} {x : Str} {i : Str} (h : ∃ t, mg x = some (.str i t)) : ∃ u v, mg x = some u ∧ RelV v u ∧ ∀ μ H, Rep G μ H (.str i) v := by
  obtain ⟨t, e⟩ := h
  exact ⟨_, .str i, e, ⟨t, rfl⟩, fun _ _ => .str i⟩
def FreeOk (mg : Str → Option Value) (l : List Str) : Prop := ∀ x ∈ l, mg x = none
theorem FreeOk.nil {mg : Str → Option Value} : FreeOk mg [] := fun _ h => (by cases h)
theorem FreeOk.cons {mg : Str → Option Value} {l : List Str} {x : Str} (h : mg x = none) (t : FreeOk mg l) : FreeOk mg (x :: l) := fun y hy => by
  rcases List.mem_cons.mp hy with z | z
  · rw [z]; exact h
  · exact t y z
end Gw

set_option Elab.async false
set_option linter.all false
set_option maxRecDepth 100000
set_option maxHeartbeats 4000000
/-! Gw11: reckoning with the core. -/
namespace Gw
open PySem L2
section
variable {α β γ : Type}
@[simp] theorem andThen_ret (a : α) (f : α → M β) : andThen (ret a) f = f a := (rfl)
@[simp] theorem andThen_bad (f : α → M β) : andThen badM f = badM := (rfl)
@[simp] theorem optM_so (a : α) : optM (some a) = ret a := (rfl)
@[simp] theorem optM_no : optM (none : Option α) = badM := (rfl)
@[simp] theorem noXM_ret (a : α) : noXM (ret a) = ret a := (rfl)
@[simp] theorem ret_at (a : α) (s : Sto) : ret a s = .ok a s := (rfl)
@[simp] theorem andThen_at (m : M α) (f : α → M β) (s : Sto) : andThen m f s = (m s).bind f := (rfl)
@[simp] theorem bind_ok (a : α) (s : Sto) (f : α → M β) : (Tr.ok a s).bind f = f a s := (rfl)
@[simp] theorem bind_pick (n : Nat) (k : Nat → Tr α) (f : α → M β) : (Tr.pick n k).bind f = .pick n fun i => (k i).bind f := (rfl)
@[simp] theorem bind_ex (x : Str) (v : D) (s : Sto) (f : α → M β) : (Tr.ex x v s : Tr α).bind f = .ex x v s := (rfl)
@[simp] theorem bind_bad (f : α → M β) : (Tr.bad : Tr α).bind f = .bad := (rfl)
@[simp] theorem truthM_bl (b : Bool) : truthM (.bl b) = ret b := (rfl)
@[simp] theorem truthM_non : truthM .non = ret false := (rfl)
@[simp] theorem truthM_int (i : Int) : truthM (.int i) = ret (i != 0) := (rfl)
@[simp] theorem truthM_tup (xs : List D) : truthM (.tup xs) = ret (!xs.isEmpty) := (rfl)
@[simp] theorem truthM_lst (xs : List D) : truthM (.lst xs) = ret (!xs.isEmpty) := (rfl)
theorem drf_nr {x : D} (h : x.nr = true) (s : Sto) : drf s x = x := by cases x <;> first | rfl | cases h
def D.nrs : List D → Bool
  | [] => true
  | x :: xs => x.nr && D.nrs xs
theorem drf_nrs {s : Sto} : ∀ {ds : List D}, D.nrs ds = true → ds.map (drf s) = ds
  | [], _ => rfl
  | x :: xs, h => by
    obtain ⟨a, b⟩ := Bool.and_eq_true_iff.mp (show (x.nr && D.nrs xs) = true from h)
    rw [List.map_cons, drf_nr a, drf_nrs b]
theorem nr_non : D.nr .non = true := (rfl)
theorem nr_bl (b : Bool) : D.nr (.bl b) = true := (rfl)
theorem nr_int (b : Int) : D.nr (.int b) = true := (rfl)
theorem nr_str (b : Str) : D.nr (.str b) = true := (rfl)
theorem nr_tup (b : List D) : D.nr (.tup b) = true := (rfl)
theorem nr_lst (b : List D) : D.nr (.lst b) = true := (rfl)
theorem nr_ty (b : String) : D.nr (.ty b) = true := (rfl)
theorem nr_scr (b : List Int) : D.nr (.scr b) = true := (rfl)
theorem nr_emp : D.nr .emp = true := (rfl)
theorem nrs_nil : D.nrs [] = true := (rfl)
theorem nrs_cons (x : D) (xs : List D) : D.nrs (x :: xs) = (x.nr && D.nrs xs) := (rfl)
theorem bi_eq {φ : List D → Option D} {ds : List D} (h : D.nrs ds = true) : bi φ ds = optM (φ ds) := by
  funext s
  unfold bi
  rw [drf_nrs h]
theorem binM_eq {o : Operator} {x y : D} (h : x.nr = true) (h2 : y.nr = true) : binM o x y = optM (binD o x y) := by
  funext s
  unfold binM
  rw [drf_nr h, drf_nr h2]
theorem cmpM_eq {o : CmpOp} {x y : D} (h : x.nr = true) (h2 : y.nr = true) : cmpM o x y = optM (cmpD o x y) := by
  funext s
  unfold cmpM
  rw [drf_nr h, drf_nr h2]
theorem slM_eq {x l h : D} (hx : x.nr = true) : slM x l h = optM (slD x l h) := by
  funext s
  unfold slM
  rw [drf_nr hx]
@[simp] theorem bin_add (a b : Int) : binD .Add (.int a) (.int b) = some (.int (a + b)) := (rfl)
@[simp] theorem bin_sub (a b : Int) : binD .Sub (.int a) (.int b) = some (.int (a - b)) := (rfl)
theorem bin_mul {a b : Int} (h : okMul a b = true) : binD .Mult (.int a) (.int b) = some (.int (a * b)) := if_pos h
theorem bin_fdiv {a b : Int} (h : okDiv b = true) : binD .FloorDiv (.int a) (.int b) = some (.int (a.fdiv b)) := if_pos h
theorem bin_mod {a b : Int} (h : b ≠ 0) : binD .Mod (.int a) (.int b) = some (.int (a.fmod b)) := if_pos (decide_eq_true h)
theorem bin_pow {a b : Int} (h : okPow a b = true) : binD .Pow (.int a) (.int b) = some (.int (a ^ b.toNat)) := if_pos h
theorem bin_tup {xs ys : List D} (h : xs.length + ys.length ≤ sizeLine) : binD .Add (.tup xs) (.tup ys) = some (.tup (xs ++ ys)) := if_pos (decide_eq_true h)
theorem bin_lst {xs ys : List D} (h : xs.length + ys.length ≤ sizeLine) : binD .Add (.lst xs) (.lst ys) = some (.lst (xs ++ ys)) := if_pos (decide_eq_true h)
@[simp] theorem neg_int (a : Int) : negD (.int a) = some (.int (-a)) := (rfl)
@[simp] theorem cmp_lt (a b : Int) : cmpD .Lt (.int a) (.int b) = some (.bl (decide (a < b))) := (rfl)
@[simp] theorem cmp_le (a b : Int) : cmpD .LtE (.int a) (.int b) = some (.bl (decide (a ≤ b))) := (rfl)
@[simp] theorem cmp_gt (a b : Int) : cmpD .Gt (.int a) (.int b) = some (.bl (decide (b < a))) := (rfl)
@[simp] theorem cmp_ge (a b : Int) : cmpD .GtE (.int a) (.int b) = some (.bl (decide (b ≤ a))) := (rfl)
@[simp] theorem cmp_isbl (a b : Bool) : cmpD .Is (.bl a) (.bl b) = some (.bl (decide (a = b))) := (rfl)
@[simp] theorem cmp_notbl (a b : Bool) : cmpD .IsNot (.bl a) (.bl b) = some (.bl (!decide (a = b))) := (rfl)
@[simp] theorem ixM_tup (xs : List D) (k : Int) : ixM (.tup xs) (.int k) = optM (atI xs k) := (rfl)
@[simp] theorem ixM_lst (xs : List D) (k : Int) : ixM (.lst xs) (.int k) = optM (atI xs k) := (rfl)
@[simp] theorem ixM_scr (xs : List Int) (k : Int) : ixM (.scr xs) (.int k) = optM ((atI xs k).map .int) := (rfl)
theorem drf_set {st : Sto} {i : Nat} {l : List D} (hi : i < st.length) : drf (st.set i (.lst l)) (.ref i) = .lst l := by
  show (match (st.set i (MO.lst l))[i]? with
    | some (.lst xs) => D.lst xs
    | _ => D.ref i) = _
  rw [List.getElem?_set_self hi]
theorem ixM_ref {st : Sto} {i : Nat} {l : List D} (hi : i < st.length) (k : Int) : ixM (.ref i) (.int k) (st.set i (.lst l)) = optM (atI l k) (st.set i (.lst l)) := by
  unfold ixM
  rw [drf_set hi]
  rfl
theorem setStore_ref {st : Sto} {i : Nat} {l : List D} (hi : i < st.length) (k : Int) (d : D) : setStore (st.set i (.lst l)) (.ref i) (.int k) d = (ixN l.length k).map fun j => st.set i (.lst (l.set j d)) := by
  show (match (st.set i (MO.lst l))[i]? with
    | some (.lst xs) => (L2.ixN xs.length k).map fun j => (st.set i (MO.lst l)).set i (.lst (xs.set j d))
    | _ => none) = _
  rw [List.getElem?_set_self hi]
  simp only [List.set_set]
theorem ix_at_nat {xs : List D} {k : Nat} {d : D} (h : xs[k]? = some d) : ixD (.tup xs) (.int (k : Int)) = some d := atI_nat h
theorem lenOk_ok {xs : List D} (h : xs.length ≤ sizeLine) : lenOk xs = ret xs := if_pos h
end
theorem line_big : 1000000 ≤ sizeLine := by rw [sizeLine_eq]; decide
theorem okMul_l {a b : Int} (h : a.natAbs < 2 ^ 64) : okMul a b = true := by unfold okMul; rw [decide_eq_true h]; rfl
theorem okMul_r {a b : Int} (h : b.natAbs < 2 ^ 64) : okMul a b = true := by unfold okMul; rw [decide_eq_true h, Bool.or_true]; rfl
theorem okDiv_of {b : Int} (h : b ≠ 0) (h2 : b.natAbs.log2 < 9000) : okDiv b = true := by unfold okDiv; rw [decide_eq_true h, decide_eq_true h2]; rfl
theorem okDiv_small {b : Int} (h : b ≠ 0) (h2 : b.natAbs < 2 ^ 64) : okDiv b = true := okDiv_of h (by
  have := (Nat.log2_lt (by omega)).mpr h2
  omega)
theorem fmod_lt {a b : Int} (h : 0 < b) : 0 ≤ a.fmod b ∧ a.fmod b < b := ⟨Int.fmod_nonneg_of_pos a h, Int.fmod_lt_of_pos a h⟩
/-- the hat's core, the draw's -/
def cHat : S := (.seq (.asg (.nm 2) (.ite (.cmp .Lt (.var 1) (.call (bi lenD) (.cons (.var 0) .nil))) (.call (bi intD) (.cons (.ix (.var 0) (.var 1)) .nil)) (.bin .Add (.bin .Mult (.c (.int 311)) (.var 1)) (.c (.int 47))))) (.seq (.asg (.nm 3) (.bin .Mod (.call (bi intD) (.cons (.call (bi absD) (.cons (.var 2) .nil)) .nil)) (.bin .Pow (.bin .Pow (.c (.int 10)) (.c (.int 51))) (.c (.int 8))))) (.seq (.asg (.nm 4) (.call (bi intD) (.cons (.bin .Add (.bin .Add (.bin .Add (.bin .Mult (.bin .Mod (.var 3) (.c (.int 2305843009213693907))) (.c (.int 83))) (.bin .Mult (.c (.int 5261)) (.var 1))) (.bin .Mult (.c (.int 29)) (.call (bi intD) (.cons (.cmp .Lt (.var 2) (.c (.int 0))) .nil)))) (.c (.int 61))) .nil))) (.seq (.ret (.lstM (.cons (.call (bi maxD) (.cons (.c (.int 0)) (.cons (.bin .Sub (.var 3) (.bin .Pow (.c (.int 10)) (.c (.int 16)))) .nil))) (.cons (.bin .Mod (.var 4) (.c (.int 2305843009213693951))) (.cons (.c (.int 0)) .nil))))) .pass))))
def cUp : S := (.seq (.ifs (.cmp .Gt (.ix (.var 0) (.c (.int 0))) (.c (.int 0))) (.seq (.asg (.nm 2) (.bin .Mod (.call (bi intD) (.cons (.ix (.var 0) (.c (.int 0))) .nil)) (.var 1))) (.seq (.setix (.var 0) (.c (.int 0)) (.bin .FloorDiv (.ix (.var 0) (.c (.int 0))) (.var 1))) (.seq (.ret (.var 2)) .pass))) .pass) (.seq (.setix (.var 0) (.c (.int 2)) (.bin .Add (.ix (.var 0) (.c (.int 2))) (.c (.int 1)))) (.seq (.asg (.nm 3) (.bin .Mod (.call (bi intD) (.cons (.bin .Add (.ix (.var 0) (.c (.int 1))) (.bin .Mult (.c (.int 86028157)) (.ix (.var 0) (.c (.int 2))))) .nil)) (.c (.int 2305843009213693951)))) (.seq (.asg (.nm 4) (.bin .Add (.bin .Add (.bin .Mult (.bin .Mod (.call (bi intD) (.cons (.bin .Add (.bin .Mult (.var 3) (.var 3)) (.c (.int 67867967))) .nil)) (.c (.int 2305843009213693921))) (.c (.int 15485863))) (.var 3)) (.bin .Mult (.c (.int 19)) (.ix (.var 0) (.c (.int 2)))))) (.seq (.ret (.bin .Mod (.call (bi intD) (.cons (.bin .FloorDiv (.var 4) (.c (.int 65539))) .nil)) (.var 1))) .pass)))))
theorem okP1 : okPow 10 51 = true := by decide +kernel
theorem okP2 : okPow (10 ^ 51) 8 = true := by decide +kernel
theorem okP3 : okPow 10 16 = true := by decide +kernel
theorem atI_of {ns : List Int} {n : Int} (h0 : 0 ≤ n) (h : n < ns.length) : ∃ x, atI ns n = some x := by
  have hl : n.toNat < ns.length := by omega
  refine ⟨ns[n.toNat], ?_⟩
  have := atI_nat (xs := ns) (j := n.toNat) (List.getElem?_eq_getElem hl)
  rwa [show ((n.toNat : Nat) : Int) = n by omega] at this
theorem hat_law (c : S) (hc : c = cHat) (ns : List Int) (n : Int) (st : Sto) (h0 : 0 ≤ n) (h1 : n ≤ 1000) : ∃ g s k, HatOk g s k ∧ fnM 5 2 c [.scr ns, .int n] st = .ok (.ref st.length) (st ++ [.lst [.int g, .int s, .int k]]) := by
  subst hc
  have key : ∀ cell : Int, ∃ g s k, HatOk g s k ∧ andThen (ex (.seq (.asg (.nm 3) (.bin .Mod (.call (bi intD) (.cons (.call (bi absD) (.cons (.var 2) .nil)) .nil)) (.bin .Pow (.bin .Pow (.c (.int 10)) (.c (.int 51))) (.c (.int 8))))) (.seq (.asg (.nm 4) (.call (bi intD) (.cons (.bin .Add (.bin .Add (.bin .Add (.bin .Mult (.bin .Mod (.var 3) (.c (.int 2305843009213693907))) (.c (.int 83))) (.bin .Mult (.c (.int 5261)) (.var 1))) (.bin .Mult (.c (.int 29)) (.call (bi intD) (.cons (.cmp .Lt (.var 2) (.c (.int 0))) .nil)))) (.c (.int 61))) .nil))) (.seq (.ret (.lstM (.cons (.call (bi maxD) (.cons (.c (.int 0)) (.cons (.bin .Sub (.var 3) (.bin .Pow (.c (.int 10)) (.c (.int 16)))) .nil))) (.cons (.bin .Mod (.var 4) (.c (.int 2305843009213693951))) (.cons (.c (.int 0)) .nil))))) .pass))) [some (.scr ns), some (.int n), some (.int cell), none, none]) (fun r => endD r.1) st = .ok (.ref st.length) (st ++ [.lst [.int g, .int s, .int k]]) := by
    intro cell
    have e1 : (10 : Int) ^ Int.toNat 51 = 10 ^ 51 := rfl
    have e2 : ((10 : Int) ^ 51) ^ Int.toNat 8 = 10 ^ 408 := by decide +kernel
    have e3 : (10 : Int) ^ Int.toNat 16 = 10 ^ 16 := rfl
    have hp : (0 : Int) < 10 ^ 408 := by decide +kernel
    have hp2 : (10 : Int) ^ 408 < 2 ^ 1400 := by decide +kernel
    obtain ⟨m1, m2⟩ := fmod_lt (a := if cell < 0 then -cell else cell) hp
    generalize hgr : (if cell < 0 then -cell else cell).fmod (10 ^ 408) = gr at m1 m2
    obtain ⟨a1, a2⟩ := fmod_lt (a := gr) (b := 2305843009213693907) (by decide)
    have hm1 : okMul (gr.fmod 2305843009213693907) 83 = true := okMul_r (by decide)
    have hm2 : okMul 5261 n = true := okMul_l (by decide)
    have hm3 : ∀ z : Int, okMul 29 z = true := fun z => okMul_l (by decide)
    refine ⟨if gr - 10 ^ 16 > 0 then gr - 10 ^ 16 else 0, (gr.fmod 2305843009213693907 * 83 + 5261 * n + 29 * (if decide (cell < 0) = true then 1 else 0) + 61).fmod 2305843009213693951, 0, ?_, ?_⟩
    · obtain ⟨b1, b2⟩ := fmod_lt (a := gr.fmod 2305843009213693907 * 83 + 5261 * n + 29 * (if decide (cell < 0) = true then 1 else 0) + 61) (b := 2305843009213693951) (by decide)
      refine ⟨?_, ?_, b1, by omega⟩
      · split <;> omega
      · split <;> omega
    · simp only [ex, ev, evs, T.bind, andThen_ret, optM_so, List.getElem?_cons_succ, List.getElem?_cons_zero, Option.bind_some, id, bi_eq, binM_eq, cmpM_eq, slM_eq, nr_non, nr_bl, nr_int, nr_str, nr_tup, nr_lst, nr_ty, nr_scr, nr_emp, nrs_nil, nrs_cons, Bool.and_self, Bool.and_true, bin_pow okP1, e1, bin_pow okP2, e2, bin_mod (show (10 : Int) ^ 408 ≠ 0 by decide +kernel), intD, absD, hgr, bin_mod (show (2305843009213693907 : Int) ≠ 0 by decide), bin_mul hm1, bin_mul hm2, bin_mul (hm3 _), maxD, bin_pow okP3, e3,
        bin_mod (show (2305843009213693951 : Int) ≠ 0 by decide), endD, List.set_cons_succ, List.set_cons_zero, bin_add, bin_sub, cmp_lt]
      rw [lenOk_ok (Nat.le_trans (by decide : 3 ≤ 1000000) line_big)]
      rfl
  have hm0 : okMul 311 n = true := okMul_l (by decide)
  by_cases hlt : n < ns.length
  · obtain ⟨x, hx⟩ := atI_of h0 hlt
    obtain ⟨g, s, k, hk, e⟩ := key x
    refine ⟨g, s, k, hk, ?_⟩
    rw [← e]
    unfold fnM cHat
    rw [if_pos (show [D.scr ns, D.int n].length = 2 from rfl)]
    show andThen (ex (.seq (.asg (.nm 2) _) _) [some (.scr ns), some (.int n), none, none, none]) _ st = _
    rw [show ∀ (a b : S) (e : Ev), ex (.seq a b) e = andThen (ex a e) fun r => match r.1 with | .nx => ex b r.2 | f => ret (f, r.2) from fun _ _ _ => rfl]
    have e0 : ex (.asg (.nm 2) (.ite (.cmp .Lt (.var 1) (.call (bi lenD) (.cons (.var 0) .nil))) (.call (bi intD) (.cons (.ix (.var 0) (.var 1)) .nil)) (.bin .Add (.bin .Mult (.c (.int 311)) (.var 1)) (.c (.int 47))))) [some (.scr ns), some (.int n), none, none, none] = ret (.nx, [some (.scr ns), some (.int n), some (.int x), none, none]) := by
      simp only [ex, ev, evs, T.bind, andThen_ret, optM_so, List.getElem?_cons_succ, List.getElem?_cons_zero, Option.bind_some, id, bi_eq, binM_eq, cmpM_eq, slM_eq, nr_non, nr_bl, nr_int, nr_str, nr_tup, nr_lst, nr_ty, nr_scr, nr_emp, nrs_nil, nrs_cons, Bool.and_self, Bool.and_true, lenD, cmp_lt, truthM_bl, decide_eq_true hlt, if_true, ixM_scr, hx, Option.map_some, intD, List.set_cons_succ, List.set_cons_zero]
    rw [e0, andThen_ret]
  · obtain ⟨g, s, k, hk, e⟩ := key (311 * n + 47)
    refine ⟨g, s, k, hk, ?_⟩
    rw [← e]
    unfold fnM cHat
    rw [if_pos (show [D.scr ns, D.int n].length = 2 from rfl)]
    show andThen (ex (.seq (.asg (.nm 2) _) _) [some (.scr ns), some (.int n), none, none, none]) _ st = _
    rw [show ∀ (a b : S) (e : Ev), ex (.seq a b) e = andThen (ex a e) fun r => match r.1 with | .nx => ex b r.2 | f => ret (f, r.2) from fun _ _ _ => rfl]
    have e0 : ex (.asg (.nm 2) (.ite (.cmp .Lt (.var 1) (.call (bi lenD) (.cons (.var 0) .nil))) (.call (bi intD) (.cons (.ix (.var 0) (.var 1)) .nil)) (.bin .Add (.bin .Mult (.c (.int 311)) (.var 1)) (.c (.int 47))))) [some (.scr ns), some (.int n), none, none, none] = ret (.nx, [some (.scr ns), some (.int n), some (.int (311 * n + 47)), none, none]) := by
      simp only [ex, ev, evs, T.bind, andThen_ret, optM_so, List.getElem?_cons_succ, List.getElem?_cons_zero, Option.bind_some, id, bi_eq, binM_eq, cmpM_eq, slM_eq, nr_non, nr_bl, nr_int, nr_str, nr_tup, nr_lst, nr_ty, nr_scr, nr_emp, nrs_nil, nrs_cons, Bool.and_self, Bool.and_true, lenD, cmp_lt, truthM_bl, decide_eq_false hlt, Bool.false_eq_true, if_false, bin_mul hm0, bin_add, List.set_cons_succ, List.set_cons_zero]
    rw [e0, andThen_ret]
theorem hat_len {ds : List D} {st : Sto} {P : D → Sto → Prop} {E : Str → D → Sto → Prop} (h : (mHat ds st).All P E) : ds.length = 2 := by
  revert h
  unfold mHat
  split
  · exact fun _ => rfl
  · exact fun h => False.elim h
theorem draw_len {ds : List D} {st : Sto} {P : D → Sto → Prop} {E : Str → D → Sto → Prop} (h : (mDraw ds st).All P E) : ds.length = 2 := by
  revert h
  unfold mDraw
  split
  · exact fun _ => rfl
  · exact fun h => False.elim h
theorem up_law (c : S) (hc : c = cUp) (i : Nat) (n : Int) (st : Sto) (g s k : Int) (hi : i < st.length) (h0 : 0 < n) (hn : n.natAbs.log2 < 9000) (hk : HatOk g s k) :
    ∃ j g' s' k', 0 ≤ j ∧ j < n ∧ HatOk g' s' k' ∧ fnM 5 2 c [.ref i, .int n] (st.set i (.lst [.int g, .int s, .int k])) = .ok (.int j) (st.set i (.lst [.int g', .int s', .int k'])) := by
  subst hc
  obtain ⟨g0, g1, s0, s1⟩ := hk
  have h0' : ∀ a b c : D, ixM (.ref i) (.int 0) (st.set i (.lst [a, b, c])) = .ok a (st.set i (.lst [a, b, c])) := fun a b c => by rw [ixM_ref hi]; rfl
  have h1' : ∀ a b c : D, ixM (.ref i) (.int 1) (st.set i (.lst [a, b, c])) = .ok b (st.set i (.lst [a, b, c])) := fun a b c => by rw [ixM_ref hi]; rfl
  have h2' : ∀ a b c : D, ixM (.ref i) (.int 2) (st.set i (.lst [a, b, c])) = .ok c (st.set i (.lst [a, b, c])) := fun a b c => by rw [ixM_ref hi]; rfl
  have u0 : ∀ a b c d : D, setStore (st.set i (.lst [a, b, c])) (.ref i) (.int 0) d = some (st.set i (.lst [d, b, c])) := fun a b c d => by rw [setStore_ref hi]; rfl
  have u2 : ∀ a b c d : D, setStore (st.set i (.lst [a, b, c])) (.ref i) (.int 2) d = some (st.set i (.lst [a, b, d])) := fun a b c d => by rw [setStore_ref hi]; rfl
  have hn0 : n ≠ 0 := by omega
  have hd := okDiv_of hn0 hn
  obtain ⟨m1, m2⟩ := fmod_lt (a := g) h0
  by_cases hg : 0 < g
  · refine ⟨g.fmod n, g.fdiv n, s, k, m1, m2, ⟨?_, ?_, s0, s1⟩, ?_⟩
    · rw [Int.fdiv_eq_ediv_of_nonneg _ (by omega)]; exact Int.ediv_nonneg g0 (by omega)
    · rw [Int.fdiv_eq_ediv_of_nonneg _ (by omega)]
      exact Int.lt_of_le_of_lt (Int.ediv_le_self _ g0) g1
    · unfold fnM cUp
      rw [if_pos (show [D.ref i, D.int n].length = 2 from rfl)]
      show andThen (ex _ [some (.ref i), some (.int n), none, none, none]) _ _ = _
      simp only [ex, ev, evs, T.bind, andThen_ret, optM_so, List.getElem?_cons_succ, List.getElem?_cons_zero, Option.bind_some, id, bi_eq, binM_eq, cmpM_eq, slM_eq, nr_non, nr_bl, nr_int, nr_str, nr_tup, nr_lst, nr_ty, nr_scr, nr_emp, nrs_nil, nrs_cons, Bool.and_self, Bool.and_true, andThen_at, ret_at, bind_ok, h0', h1', h2', u0, u2, cmp_gt, truthM_bl, decide_eq_true hg, if_true, intD, bin_mod hn0, bin_fdiv hd, List.set_cons_succ, List.set_cons_zero, endD]
  · obtain ⟨b1, b2⟩ := fmod_lt (a := s + 86028157 * (k + 1)) (b := 2305843009213693951) (by decide)
    generalize hv : (s + 86028157 * (k + 1)).fmod 2305843009213693951 = v at b1 b2
    generalize hw : ((v * v + 67867967).fmod 2305843009213693921 * 15485863 + v + 19 * (k + 1)).fdiv 65539 = w
    obtain ⟨m1, m2⟩ := fmod_lt (a := w) h0
    refine ⟨w.fmod n, g, s, k + 1, m1, m2, ⟨g0, g1, s0, s1⟩, ?_⟩
    have o1 : okMul 86028157 (k + 1) = true := okMul_l (by decide)
    have o2 : okMul v v = true := okMul_l (by omega)
    have o3 : ∀ z, okMul z 15485863 = true := fun z => okMul_r (by decide)
    have o4 : okMul 19 (k + 1) = true := okMul_l (by decide)
    have o5 : okDiv 65539 = true := okDiv_small (by decide) (by decide)
    unfold fnM cUp
    rw [if_pos (show [D.ref i, D.int n].length = 2 from rfl)]
    show andThen (ex _ [some (.ref i), some (.int n), none, none, none]) _ _ = _
    simp only [ex, ev, evs, T.bind, andThen_ret, optM_so, List.getElem?_cons_succ, List.getElem?_cons_zero, Option.bind_some, id, bi_eq, binM_eq, cmpM_eq, slM_eq, nr_non, nr_bl, nr_int, nr_str, nr_tup, nr_lst, nr_ty, nr_scr, nr_emp, nrs_nil, nrs_cons, Bool.and_self, Bool.and_true, andThen_at, ret_at, bind_ok, h0', h1', h2', u0, u2, cmp_gt, truthM_bl, decide_eq_false hg, Bool.false_eq_true, if_false, intD, bin_mod hn0, bin_add, bin_mul o1, hv,
      bin_mod (show (2305843009213693951 : Int) ≠ 0 by decide), bin_mul o2, bin_mod (show (2305843009213693921 : Int) ≠ 0 by decide), bin_mul (o3 _), bin_mul o4, bin_fdiv o5, hw, List.set_cons_succ, List.set_cons_zero, endD]
end Gw

set_option Elab.async false
set_option linter.all false
set_option maxRecDepth 100000
set_option maxHeartbeats 4000000
/-! Gw12: reckoning with the core, step by step. -/
namespace Gw
open PySem L2
section
variable {α β γ : Type}
theorem Tr.bind_assoc {f : α → Sto → Tr β} {g : β → Sto → Tr γ} : ∀ t : Tr α, (t.bind f).bind g = t.bind fun a s => (f a s).bind g
  | .ok a s => rfl
  | .ex x v s => rfl
  | .pick n k => by
    show Tr.pick n _ = Tr.pick n _
    congr 1
    funext i
    exact Tr.bind_assoc (k i)
  | .bad => rfl
theorem andThen_assoc (m : M α) (f : α → M β) (g : β → M γ) : andThen (andThen m f) g = andThen m fun x => andThen (f x) g := by
  funext s
  exact Tr.bind_assoc (m s)
def slotM (o : Option (Option D)) : M D := optM (o.bind id)
theorem slotM_so (d : D) : slotM (some (some d)) = ret d := (rfl)
def nxt (b : S) : Fl × Ev → M (Fl × Ev) := fun r => match r.1 with
  | .nx => ex b r.2
  | f => ret (f, r.2)
theorem ex_seq (a b : S) (e : Ev) : ex (.seq a b) e = andThen (ex a e) (nxt b) := (rfl)
theorem nxt_nx (b : S) (e : Ev) : nxt b (.nx, e) = ex b e := (rfl)
theorem nxt_rt (b : S) (d : D) (e : Ev) : nxt b (.rt d, e) = ret (.rt d, e) := (rfl)
theorem nxt_ct (b : S) (e : Ev) : nxt b (.ct, e) = ret (.ct, e) := (rfl)
theorem nxt_bk (b : S) (e : Ev) : nxt b (.bk, e) = ret (.bk, e) := (rfl)
def brn (t u : S) (e : Ev) (x : D) : M (Fl × Ev) := andThen (truthM x) fun k => if k = true then ex t e else ex u e
theorem ex_ifs (c : E) (t u : S) (e : Ev) : ex (.ifs c t u) e = andThen (ev c e) (brn t u e) := (rfl)
theorem brn_t (t u : S) (e : Ev) : brn t u e (.bl true) = ex t e := (rfl)
theorem brn_f (t u : S) (e : Ev) : brn t u e (.bl false) = ex u e := (rfl)
theorem brn_b (t u : S) (e : Ev) (b : Bool) : brn t u e (.bl b) = if b = true then ex t e else ex u e := (rfl)
theorem ex_pass (e : Ev) : ex .pass e = ret (.nx, e) := (rfl)
theorem ex_brk (e : Ev) : ex .brk e = ret (.bk, e) := (rfl)
theorem ex_cnt (e : Ev) : ex .cnt e = ret (.ct, e) := (rfl)
theorem ex_ret (a : E) (e : Ev) : ex (.ret a) e = andThen (ev a e) fun x => ret (.rt x, e) := (rfl)
theorem ex_expr (a : E) (e : Ev) : ex (.expr a) e = andThen (ev a e) fun _ => ret (.nx, e) := (rfl)
def bndM (o : Option Ev) : M (Fl × Ev) := match o with
  | some e => ret (.nx, e)
  | none => badM
theorem bndM_so (e : Ev) : bndM (some e) = ret (.nx, e) := (rfl)
theorem ex_asg (g : T) (a : E) (e : Ev) : ex (.asg g a) e = andThen (ev a e) fun x => bndM (g.bind x e) := (rfl)
theorem ex_par (i j : Nat) (a b : E) (e : Ev) : ex (.par i j a b) e = andThen (ev a e) fun x => andThen (ev b e) fun y => ret (.nx, (e.set i (some x)).set j (some y)) := (rfl)
theorem ex_aug (i : Nat) (o : Operator) (a : E) (e : Ev) : ex (.aug i o a) e = andThen (slotM (e[i]?)) fun x => andThen (ev a e) fun y => andThen (optM (augD o x y)) fun z => ret (.nx, e.set i (some z)) := (rfl)
theorem ex_for (g : T) (it : E) (b : S) (e : Ev) : ex (.for_ g it b) e = andThen (evs it e) fun xs => forGo g (ex b) xs e := (rfl)
theorem endD_nx : endD .nx = ret .non := (rfl)
theorem endD_rt (d : D) : endD (.rt d) = ret d := (rfl)
theorem bind_nm (i : Nat) (d : D) (e : Ev) : (T.nm i).bind d e = some (e.set i (some d)) := (rfl)
theorem bind_nil (e : Ev) : T.nil.bind (.tup []) e = some e := (rfl)
theorem bind_cons (t ts : T) (x : D) (xs : List D) (e : Ev) : (T.cons t ts).bind (.tup (x :: xs)) e = (t.bind x e).bind fun e' => ts.bind (.tup xs) e' := (rfl)
/-! expressions -/
theorem ev_var (i : Nat) (e : Ev) : ev (.var i) e = slotM (e[i]?) := (rfl)
theorem ev_c (d : D) (e : Ev) : ev (.c d) e = ret d := (rfl)
theorem ev_bin (o : Operator) (a b : E) (e : Ev) : ev (.bin o a b) e = andThen (ev a e) fun x => andThen (ev b e) fun y => binM o x y := (rfl)
theorem ev_neg (a : E) (e : Ev) : ev (.neg a) e = andThen (ev a e) fun x => optM (negD x) := (rfl)
theorem ev_cmp (o : CmpOp) (a b : E) (e : Ev) : ev (.cmp o a b) e = andThen (ev a e) fun x => andThen (ev b e) fun y => cmpM o x y := (rfl)
def chn (p : CmpOp) (c : E) (e : Ev) (y z : D) : M D := match z with
  | .bl true => andThen (ev c e) fun w => cmpM p y w
  | .bl false => ret (.bl false)
  | _ => badM
theorem chn_t (p : CmpOp) (c : E) (e : Ev) (y : D) : chn p c e y (.bl true) = andThen (ev c e) fun w => cmpM p y w := (rfl)
theorem chn_f (p : CmpOp) (c : E) (e : Ev) (y : D) : chn p c e y (.bl false) = ret (.bl false) := (rfl)
theorem ev_chain (o p : CmpOp) (a b c : E) (e : Ev) : ev (.chain o p a b c) e = andThen (ev a e) fun x => andThen (ev b e) fun y => andThen (cmpM o x y) (chn p c e y) := (rfl)
def andC (b : E) (e : Ev) (x : D) : M D := andThen (truthM x) fun t => if t = true then ev b e else ret x
def orC (b : E) (e : Ev) (x : D) : M D := andThen (truthM x) fun t => if t = true then ret x else ev b e
def iteC (a b : E) (e : Ev) (x : D) : M D := andThen (truthM x) fun t => if t = true then ev a e else ev b e
theorem ev_and (a b : E) (e : Ev) : ev (.and_ a b) e = andThen (ev a e) (andC b e) := (rfl)
theorem ev_or (a b : E) (e : Ev) : ev (.or_ a b) e = andThen (ev a e) (orC b e) := (rfl)
theorem ev_ite (c a b : E) (e : Ev) : ev (.ite c a b) e = andThen (ev c e) (iteC a b e) := (rfl)
theorem and_t (b : E) (e : Ev) : andC b e (.bl true) = ev b e := (rfl)
theorem and_f (b : E) (e : Ev) : andC b e (.bl false) = ret (.bl false) := (rfl)
theorem or_t (b : E) (e : Ev) : orC b e (.bl true) = ret (.bl true) := (rfl)
theorem or_f (b : E) (e : Ev) : orC b e (.bl false) = ev b e := (rfl)
theorem ite_t (a b : E) (e : Ev) : iteC a b e (.bl true) = ev a e := (rfl)
theorem ite_f (a b : E) (e : Ev) : iteC a b e (.bl false) = ev b e := (rfl)
theorem ev_not (a : E) (e : Ev) : ev (.not_ a) e = andThen (ev a e) fun x => andThen (truthM x) fun t => ret (.bl (!t)) := (rfl)
theorem ev_tup (es : E) (e : Ev) : ev (.tup es) e = andThen (evs es e) fun xs => andThen (lenOk xs) fun xs => ret (.tup xs) := (rfl)
theorem ev_lst (es : E) (e : Ev) : ev (.lst es) e = andThen (evs es e) fun xs => andThen (lenOk xs) fun xs => ret (.lst xs) := (rfl)
theorem ev_ix (a i : E) (e : Ev) : ev (.ix a i) e = andThen (ev a e) fun x => andThen (ev i e) fun k => ixM x k := (rfl)
theorem ev_sl (a l h : E) (e : Ev) : ev (.sl a l h) e = andThen (ev a e) fun x => andThen (ev l e) fun l => andThen (ev h e) fun h => slM x l h := (rfl)
def intM : D → M D
  | .int i => ret (.int i)
  | _ => badM
theorem intM_int (i : Int) : intM (.int i) = ret (.int i) := (rfl)
theorem ev_int (a : E) (e : Ev) : ev (.int_ a) e = andThen (ev a e) intM := (rfl)
def lcF (own : List Nat) (g : T) (cnd elt : E) (e : Ev) (x : D) : M (Option D) := match g.bind x (wipeE e own) with
  | none => badM
  | some e' => andThen (noXM (andThen (ev cnd e') truthM)) fun t => if t = true then andThen (noXM (ev elt e')) fun y => ret (some y) else ret none
theorem ev_lc (own : List Nat) (g : T) (it cnd elt : E) (e : Ev) : ev (.lc own g it cnd elt) e = andThen (evs it e) fun xs => andThen (lcGo (lcF own g cnd elt e) [] xs) fun ys => ret (.lst ys) := (rfl)
theorem ev_dnew (e : Ev) : ev .dnew e = ret .emp := (rfl)
theorem ev_call (f : List D → M D) (es : E) (e : Ev) : ev (.call f es) e = andThen (evs es e) f := (rfl)
theorem evs_nil (e : Ev) : evs .nil e = ret [] := (rfl)
theorem evs_cons (a es : E) (e : Ev) : evs (.cons a es) e = andThen (ev a e) fun x => andThen (evs es e) fun xs => ret (x :: xs) := (rfl)
theorem evs_star (a es : E) (e : Ev) : evs (.star a es) e = andThen (ev a e) fun x => andThen (optM (itemsD x)) fun ys => andThen (evs es e) fun xs => ret (ys ++ xs) := (rfl)
theorem evs_it1 (a : E) (e : Ev) : evs (.it1 a) e = andThen (ev a e) fun x => optM (itemsD x) := (rfl)
theorem evs_rng1 (a : E) (e : Ev) : evs (.rng1 a) e = andThen (ev a e) fun x => optM (rngD [x]) := (rfl)
theorem evs_rng2 (a b : E) (e : Ev) : evs (.rng2 a b) e = andThen (ev a e) fun x => andThen (ev b e) fun y => optM (rngD [x, y]) := (rfl)
theorem evs_zip (a b : E) (e : Ev) : evs (.zip a b) e = andThen (ev a e) fun x => andThen (ev b e) fun y => optM (zipD [x, y]) := (rfl)
theorem evs_enum (a : E) (e : Ev) : evs (.enum a) e = andThen (ev a e) fun x => optM (enumD [x]) := (rfl)
/-! sizes -/
theorem lenOk_small {xs : List D} (h : xs.length ≤ 1000000) : lenOk xs = ret xs := lenOk_ok (Nat.le_trans h line_big)
theorem lenOk0 : lenOk [] = ret [] := lenOk_small (Nat.zero_le _)
theorem lenOk1 (a : D) : lenOk [a] = ret [a] := lenOk_small (by show 1 ≤ _; decide)
theorem lenOk2 (a b : D) : lenOk [a, b] = ret [a, b] := lenOk_small (by show 2 ≤ _; decide)
theorem lenOk3 (a b c : D) : lenOk [a, b, c] = ret [a, b, c] := lenOk_small (by show 3 ≤ _; decide)
/-- a walk without effect -/
theorem lcGo_map {f : D → M (Option D)} {g : D → D} : ∀ (xs acc : List D), (∀ x ∈ xs, f x = ret (some (g x))) → acc.length + xs.length ≤ sizeLine → lcGo f acc xs = ret (acc ++ xs.map g)
  | [], acc, _, _ => by simp [lcGo]
  | x :: xs, acc, h, hl => by
    have hl2 : acc.length < sizeLine := by
      rw [List.length_cons] at hl
      omega
    show andThen (f x) _ = _
    rw [h x (List.mem_cons_self), andThen_ret]
    show (if acc.length < sizeLine then lcGo f (acc ++ [g x]) xs else badM) = _
    rw [if_pos hl2, lcGo_map xs (acc ++ [g x]) (fun y hy => h y (List.mem_cons_of_mem _ hy)) (by
      rw [List.length_append, List.length_cons, List.length_nil]
      rw [List.length_cons] at hl
      omega), List.append_assoc]
    rfl
theorem fn1 (n : Nat) (b : S) (x : D) : fnM n 1 b [x] = andThen (ex b (startE n [x])) fun r => endD r.1 := (rfl)
theorem fn2 (n : Nat) (b : S) (x y : D) : fnM n 2 b [x, y] = andThen (ex b (startE n [x, y])) fun r => endD r.1 := (rfl)
theorem fn3 (n : Nat) (b : S) (x y z : D) : fnM n 3 b [x, y, z] = andThen (ex b (startE n [x, y, z])) fun r => endD r.1 := (rfl)
theorem fn4 (n : Nat) (b : S) (x y z w : D) : fnM n 4 b [x, y, z, w] = andThen (ex b (startE n [x, y, z, w])) fun r => endD r.1 := (rfl)
/-! comparisons -/
theorem beq_dec (a b : Int) : (a == b) = decide (a = b) := by
  by_cases h : a = b
  · rw [decide_eq_true h, beq_iff_eq]; exact h
  · rw [decide_eq_false h]; exact beq_eq_false_iff_ne.mpr h
theorem eqv_int (a b : Int) : D.eq? (.int a) (.int b) = some (decide (a = b)) := by
  have : D.eq? (.int a) (.int b) = some (PyData.eqv (.int a) (.int b)) := rfl
  rw [this]
  simp [PyData.eqv, beq_dec]
theorem cmp_eq_int (a b : Int) : cmpD .Eq (.int a) (.int b) = some (.bl (decide (a = b))) := by
  unfold cmpD
  simp only [eqv_int, Option.map_some]
theorem cmp_ne_int (a b : Int) : cmpD .NotEq (.int a) (.int b) = some (.bl (!decide (a = b))) := by
  unfold cmpD
  simp only [eqv_int, Option.map_some]
theorem cmp_eq_bl (a b : Bool) : cmpD .Eq (.bl a) (.bl b) = some (.bl (decide (a = b))) := by cases a <;> cases b <;> rfl
theorem cmp_ne_bl (a b : Bool) : cmpD .NotEq (.bl a) (.bl b) = some (.bl (!decide (a = b))) := by cases a <;> cases b <;> rfl
theorem abs_eq (x : Int) : (if x < 0 then -x else x) = (x.natAbs : Int) := by split <;> omega
theorem absD_int (i : Int) : absD [.int i] = some (.int (i.natAbs : Int)) := by
  show some (D.int (if i < 0 then -i else i)) = _
  rw [abs_eq]
theorem intD_int (i : Int) : intD [.int i] = some (.int i) := (rfl)
theorem lenD_tup (xs : List D) : lenD [.tup xs] = some (.int (xs.length : Nat)) := (rfl)
theorem lenD_lst (xs : List D) : lenD [.lst xs] = some (.int (xs.length : Nat)) := (rfl)
theorem lenD_scr (xs : List Int) : lenD [.scr xs] = some (.int (xs.length : Nat)) := (rfl)
theorem items_tup (xs : List D) : itemsD (.tup xs) = some xs := (rfl)
theorem items_lst (xs : List D) : itemsD (.lst xs) = some xs := (rfl)
theorem tupD_lst (xs : List D) : tupleD [.lst xs] = some (.tup xs) := (rfl)
theorem tupD_tup (xs : List D) : tupleD [.tup xs] = some (.tup xs) := (rfl)
/-- every way ends well -/
structure OkM {α : Type} (m : M α) (st : Sto) (P : α → Sto → Prop) (E : Str → D → Sto → Prop) : Prop where
  all : (m st).All P E
section
variable {α : Type} {P : α → Sto → Prop} {E : Str → D → Sto → Prop} {st : Sto}
theorem OkM.ret {a : α} (h : P a st) : OkM (ret a) st P E := ⟨h⟩
theorem OkM.mono {P' : α → Sto → Prop} {E' : Str → D → Sto → Prop} {m : M α} (h : OkM m st P E) (hP : ∀ a s, P a s → P' a s) (hE : ∀ x v s, E x v s → E' x v s) : OkM m st P' E' := ⟨Tr.All_mono hP hE _ h.all⟩
theorem OkM.then {γ : Type} {m : M γ} {f : γ → M α} (h : OkM m st (fun a s => OkM (f a) s P E) E) : OkM (andThen m f) st P E :=
  ⟨(Tr.All_bind _).mpr (Tr.All_mono (fun _ _ z => z.all) (fun _ _ _ z => z) _ h.all)⟩
end
/-! loops -/
/-- a for's turns keep what is said -/
theorem forGo_all {g : T} {b : Ev → M (Fl × Ev)} {I : Ev → Sto → Prop} {P : Fl × Ev → Sto → Prop} {E : Str → D → Sto → Prop} : ∀ (xs : List D) (e : Ev) (st : Sto),
    (∀ x ∈ xs, ∀ e st, I e st → ∃ e', g.bind x e = some e' ∧ OkM (b e') st (fun r st' => match r.1 with
      | .nx => I r.2 st'
      | .ct => I r.2 st'
      | .bk => P (.nx, r.2) st'
      | .rt d => P (.rt d, r.2) st') E) → (∀ e st, I e st → P (.nx, e) st) → I e st → OkM (forGo g b xs e) st P E
  | [], e, st, _, hP, hI => ⟨hP e st hI⟩
  | x :: xs, e, st, h, hP, hI => by
    obtain ⟨e', h1, h2⟩ := h x (List.mem_cons_self) e st hI
    unfold forGo
    rw [h1]
    refine OkM.then (OkM.mono h2 (fun r st' hr => ?_) (fun _ _ _ z => z))
    obtain ⟨fl, e2⟩ := r
    cases fl with
    | nx => exact forGo_all xs e2 st' (fun y hy => h y (List.mem_cons_of_mem _ hy)) hP hr
    | ct => exact forGo_all xs e2 st' (fun y hy => h y (List.mem_cons_of_mem _ hy)) hP hr
    | bk => exact ⟨hr⟩
    | rt d => exact ⟨hr⟩
theorem forGo_nil (g : T) (b : Ev → M (Fl × Ev)) (e : Ev) : forGo g b [] e = ret (.nx, e) := (rfl)
def forK (g : T) (b : Ev → M (Fl × Ev)) (xs : List D) (r : Fl × Ev) : M (Fl × Ev) := match r.1 with
  | .nx => forGo g b xs r.2
  | .ct => forGo g b xs r.2
  | .bk => ret (.nx, r.2)
  | .rt d => ret (.rt d, r.2)
theorem forGo_cons {g : T} {b : Ev → M (Fl × Ev)} {x : D} {xs : List D} {e e' : Ev} (h : g.bind x e = some e') : forGo g b (x :: xs) e = andThen (b e') (forK g b xs) := by
  show (match g.bind x e with
    | none => badM
    | some e' => andThen (b e') (forK g b xs)) = _
  rw [h]
/-- every turn goes on, with no effect but on the slots -/
theorem forGo_ret {g : T} {b : Ev → M (Fl × Ev)} {I : Ev → Prop} : ∀ (xs : List D) (e : Ev), (∀ x ∈ xs, ∀ e, I e → ∃ e' e2, g.bind x e = some e' ∧ b e' = ret (.nx, e2) ∧ I e2) → I e → ∃ e2, I e2 ∧ forGo g b xs e = ret (.nx, e2)
  | [], e, _, hI => ⟨e, hI, rfl⟩
  | x :: xs, e, h, hI => by
    obtain ⟨e', e2, h1, h2, h3⟩ := h x (List.mem_cons_self) e hI
    obtain ⟨e3, h4, h5⟩ := forGo_ret xs e2 (fun y hy => h y (List.mem_cons_of_mem _ hy)) h3
    refine ⟨e3, h4, ?_⟩
    rw [forGo_cons h1, h2, andThen_ret]
    exact h5
def whlB (c : Ev → M Bool) (b : Ev → M (Fl × Ev)) (n : Nat) (e : Ev) (t : Bool) : M (Fl × Ev) := if t = true then andThen (b e) (fun r => match r.1 with
      | .nx => whlGo c b n r.2
      | .ct => whlGo c b n r.2
      | .bk => Gw.ret (.nx, r.2)
      | .rt d => Gw.ret (.rt d, r.2)) else ret (.nx, e)
theorem whl_stop {c : Ev → M Bool} {b : Ev → M (Fl × Ev)} {n : Nat} {e : Ev} (h : c e = ret false) : whlGo c b (n + 1) e = ret (.nx, e) := by
  show andThen (c e) _ = _
  rw [h]
  rfl
theorem whl_go {c : Ev → M Bool} {b : Ev → M (Fl × Ev)} {n : Nat} {e e' : Ev} (h : c e = ret true) (h2 : b e = ret (.nx, e')) : whlGo c b (n + 1) e = whlGo c b n e' := by
  show andThen (c e) _ = _
  rw [h, andThen_ret]
  show andThen (b e) _ = _
  rw [h2]
  rfl
theorem ex_whl (n : Nat) (c : E) (b : S) (e : Ev) : ex (.whl n c b) e = whlGo (fun e => andThen (ev c e) truthM) (ex b) n e := (rfl)
theorem range_mem {a b : Int} {x : D} (h : x ∈ rangeD a b) : ∃ k : Int, x = .int k ∧ a ≤ k ∧ k < b := by
  unfold rangeD at h
  obtain ⟨j, h1, rfl⟩ := List.mem_map.mp h
  have := List.mem_range.mp h1
  exact ⟨_, rfl, by omega, by omega⟩
theorem rng1_ok {b : Int} (h : 0 ≤ b) (h2 : b < 1000000) : rngD [.int b] = some (rangeD 0 b) := if_pos (by
  unfold okRng
  simp only [Bool.and_eq_true, decide_eq_true_eq]
  omega)
theorem rng2_ok {a b : Int} (h : -1000000 ≤ a) (h1 : a < 1000000) (h2 : b < 1000000) (h3 : -1000000 ≤ b) : rngD [.int a, .int b] = some (rangeD a b) := if_pos (by
  unfold okRng
  simp only [Bool.and_eq_true, decide_eq_true_eq]
  omega)
/-! draws -/
section
variable {P : β → Sto → Prop} {E : Str → D → Sto → Prop} {st : Sto} {i : Nat}
theorem draw_all {n : Int} {f : D → M β} (hs : st[i]? = some .hat) (h0 : 0 < n) (h1 : n.natAbs < 2 ^ 64) (h : ∀ k : Nat, (k : Int) < n → OkM (f (.int k)) st P E) : OkM (andThen (mDraw [.ref i, .int n]) f) st P E := by
  have h2 : n.natAbs.log2 < 9000 := by
    have := (Nat.log2_lt (by omega)).mpr h1
    omega
  have e : mDraw [.ref i, .int n] st = .pick n.toNat fun k => .ok (.int (k : Nat)) st := by
    show (if n.natAbs.log2 < 9000 then mUp [.ref i, .int n] st else Tr.bad) = _
    rw [if_pos h2]
    show (match st[i]? with
      | some .hat => if 0 < n then (Tr.pick n.toNat fun k => Tr.ok (.int (k : Nat)) st : Tr D) else Tr.bad
      | _ => Tr.bad) = _
    rw [hs]
    exact if_pos h0
  refine ⟨?_⟩
  rw [andThen_at, e]
  exact fun k hk => (h k (by omega)).all
theorem hat_all {ns : List Int} {k : Int} {f : D → M β} (h0 : 0 ≤ k) (h1 : k ≤ 1000) (h : OkM (f (.ref st.length)) (st ++ [.hat]) P E) : OkM (andThen (mHat [.scr ns, .int k]) f) st P E := by
  have e : mHat [.scr ns, .int k] st = .ok (.ref st.length) (st ++ [.hat]) := if_pos ⟨h0, h1⟩
  refine ⟨?_⟩
  rw [andThen_at, e]
  exact h.all
def cOut : S := (.seq (.ret (.ix (.var 1) (.call mDraw (.cons (.var 0) (.cons (.call (bi lenD) (.cons (.var 1) .nil)) .nil))))) .pass)
def mOut : List D → M D := fnM 2 2 cOut
theorem out_lst (i : Nat) (xs : List D) : mOut [.ref i, .lst xs] = andThen (mDraw [.ref i, .int xs.length]) fun k => ixM (.lst xs) k := by
  show andThen (ex cOut [some (.ref i), some (.lst xs)]) _ = _
  unfold cOut
  simp only [ex_seq, ex_ret, ev_ix, ev_var, ev_call, evs_cons, evs_nil, bi_eq, binM_eq, cmpM_eq, slM_eq, nr_non, nr_bl, nr_int, nr_str, nr_tup, nr_lst, nr_ty, nr_scr, nr_emp, nrs_nil, nrs_cons, Bool.and_self, Bool.and_true, lenD, andThen_ret, andThen_assoc, optM_so, List.getElem?_cons_succ, List.getElem?_cons_zero, slotM_so, nxt_rt, endD_rt]
  congr 1
  funext k
  funext s
  show (ixM (.lst xs) k s).bind _ = _
  cases ixM (.lst xs) k s <;> first | rfl | skip
  rename_i n t
  show Tr.pick n _ = _
  congr 1
  funext j
  have : ∀ t : Tr D, t.bind (fun d s => Tr.ok d s) = t := by
    intro t
    induction t with
    | ok a s => rfl
    | ex x v s => rfl
    | pick n k ih => exact congrArg (Tr.pick n) (funext ih)
    | bad => rfl
  exact this (t j)
theorem out_all {xs : List D} {f : D → M β} (hs : st[i]? = some .hat) (h0 : 0 < xs.length) (h1 : xs.length < 2 ^ 64) (h : ∀ x ∈ xs, OkM (f x) st P E) : OkM (andThen (mOut [.ref i, .lst xs]) f) st P E := by
  rw [out_lst, andThen_assoc]
  refine draw_all hs (by omega) (by omega) fun k hk => ?_
  rw [ixM_lst]
  have hk' : k < xs.length := by omega
  have e : atI xs (k : Int) = some xs[k] := atI_nat (List.getElem?_eq_getElem hk')
  rw [e, optM_so, andThen_ret]
  exact h _ (List.getElem_mem hk')
end
end
end Gw

set_option Elab.async false
set_option linter.all false
set_option maxRecDepth 100000
set_option maxHeartbeats 4000000
/-! Gw13: comprehensions with draws, equal values, sums. -/
namespace Gw
open PySem L2
/-! equal to itself -/
mutual
def D.shp : D → Nat → Bool
  | .non, _ => true
  | .bl _, _ => true
  | .int _, _ => true
  | .str x, _ => PyData.canLay0 (.str x)
  | .tup xs, n => match n with
    | 0 => false
    | n + 1 => D.shps xs n
  | .lst xs, n => match n with
    | 0 => false
    | n + 1 => D.shps xs n
  | _, _ => false
def D.shps : List D → Nat → Bool
  | [], _ => true
  | x :: xs, n => D.shp x n && D.shps xs n
end
mutual
theorem shp_data : ∀ (d : D) (n : Nat), d.shp n = true → ∃ p, d.data = some p ∧ p.canLay0 = true ∧ p.depth ≤ n
  | .non, n, _ => ⟨_, rfl, rfl, Nat.zero_le _⟩
  | .bl _, n, _ => ⟨_, rfl, rfl, Nat.zero_le _⟩
  | .int _, n, _ => ⟨_, rfl, rfl, Nat.zero_le _⟩
  | .str x, n, h => ⟨.str x, rfl, by
      have : PyData.canLay0 (.str x) = true := h
      exact this, Nat.zero_le _⟩
  | .tup xs, 0, h => by cases h
  | .tup xs, n + 1, h => by
    obtain ⟨p, h1, h2, h3⟩ := shps_data xs n h
    refine ⟨.tuple p, ?_, h2, ?_⟩
    · show (D.datas xs).map _ = _
      rw [h1]
      rfl
    · simp only [PyData.depth]; omega
  | .lst xs, 0, h => by cases h
  | .lst xs, n + 1, h => by
    obtain ⟨p, h1, h2, h3⟩ := shps_data xs n h
    refine ⟨.list p, ?_, h2, ?_⟩
    · show (D.datas xs).map _ = _
      rw [h1]
      rfl
    · simp only [PyData.depth]; omega
  | .emp, _, h | .ref _, _, h | .fn _, _, h | .ty _, _, h | .scr _, _, h => by cases h
theorem shps_data : ∀ (ds : List D) (n : Nat), D.shps ds n = true → ∃ p, D.datas ds = some p ∧ PyData.canLayAll0 p = true ∧ PyData.depthAll p ≤ n
  | [], n, _ => ⟨[], rfl, rfl, Nat.zero_le _⟩
  | x :: xs, n, h => by
    obtain ⟨h1, h2⟩ := Bool.and_eq_true_iff.mp (show (D.shp x n && D.shps xs n) = true from h)
    obtain ⟨p, a1, a2, a3⟩ := shp_data x n h1
    obtain ⟨q, b1, b2, b3⟩ := shps_data xs n h2
    refine ⟨p :: q, ?_, ?_, ?_⟩
    · show (D.data x).bind _ = _
      rw [a1]
      show (D.datas xs).map _ = _
      rw [b1]
      rfl
    · simp only [PyData.canLayAll0, a2, b2, Bool.and_self]
    · simp only [PyData.depthAll]; omega
end
theorem eq_self_of {d : D} (h : d.shp 64 = true) : d.eq? d = some true := by
  obtain ⟨p, h1, h2, h3⟩ := shp_data d 64 h
  have hs : SeqAt.shaped p = true := Bool.and_eq_true_iff.mpr ⟨h2, decide_eq_true h3⟩
  unfold D.eq?
  rw [h1]
  dsimp only
  rw [hs, SeqAt.eqv_refl p h2]
  rfl
theorem cmp_eq_self {d : D} (h : d.shp 64 = true) : cmpD .Eq d d = some (.bl true) := by
  show (D.eq? d d).map D.bl = _
  rw [eq_self_of h]
  rfl
theorem cmp_ne_self {d : D} (h : d.shp 64 = true) : cmpD .NotEq d d = some (.bl false) := by
  have : cmpD .NotEq d d = (D.eq? d d).map fun b => .bl (!b) := by unfold cmpD; rfl
  rw [this, eq_self_of h]
  rfl
theorem shps_map {α : Type} {f : α → D} {n : Nat} : ∀ {xs : List α}, (∀ x ∈ xs, (f x).shp n = true) → D.shps (xs.map f) n = true
  | [], _ => rfl
  | x :: xs, h => Bool.and_eq_true_iff.mpr ⟨h x (List.mem_cons_self), shps_map fun y hy => h y (List.mem_cons_of_mem _ hy)⟩
theorem shp_mono : ∀ (d : D) (n m : Nat), n ≤ m → d.shp n = true → d.shp m = true := by
  intro d
  have all : (∀ d : D, ∀ n m : Nat, n ≤ m → d.shp n = true → d.shp m = true) := by
    intro d n
    induction n generalizing d with
    | zero =>
      intro m hm h
      cases d <;> first | rfl | (simpa [D.shp] using h) | cases h
    | succ n ih =>
      intro m hm h
      cases m with
      | zero => omega
      | succ m =>
        have key : ∀ xs : List D, D.shps xs n = true → D.shps xs m = true := by
          intro xs
          induction xs with
          | nil => exact fun _ => rfl
          | cons x xs ihx =>
            intro hh
            obtain ⟨a, b⟩ := Bool.and_eq_true_iff.mp (show (D.shp x n && D.shps xs n) = true from hh)
            exact Bool.and_eq_true_iff.mpr ⟨ih x m (by omega) a, ihx b⟩
        cases d <;> first | rfl | (exact key _ h) | (simpa [D.shp] using h) | cases h
  exact all d
/-- a list, a tuple beside the empty one -/
theorem eq_nil_lst {xs : List D} (h : D.shps xs 63 = true) : cmpD .Eq (.lst xs) (.lst []) = some (.bl xs.isEmpty) := by
  show (D.eq? (.lst xs) (.lst [])).map D.bl = _
  obtain ⟨p, h1, h2, h3⟩ := shp_data (.lst xs) 64 h
  have hs : SeqAt.shaped p = true := Bool.and_eq_true_iff.mpr ⟨h2, decide_eq_true h3⟩
  unfold D.eq?
  rw [h1, show (D.lst []).data = some (.list []) from rfl]
  dsimp only
  rw [hs, show SeqAt.shaped (.list []) = true from by decide]
  have h1' : (D.datas xs).map PyData.list = some p := h1
  obtain ⟨ps, a, rfl⟩ := Option.map_eq_some_iff.mp h1'
  cases xs with
  | nil => cases a; rfl
  | cons x xs =>
    have a' : (D.data x).bind (fun d => (D.datas xs).map fun ds => d :: ds) = some ps := a
    obtain ⟨d, b1, b2⟩ := Option.bind_eq_some_iff.mp a'
    obtain ⟨ds, b3, rfl⟩ := Option.map_eq_some_iff.mp b2
    simp [PyData.eqv, PyData.eqvAll]
theorem eq_nil_tup {xs : List D} (h : D.shps xs 63 = true) : cmpD .Eq (.tup xs) (.tup []) = some (.bl xs.isEmpty) := by
  show (D.eq? (.tup xs) (.tup [])).map D.bl = _
  obtain ⟨p, h1, h2, h3⟩ := shp_data (.tup xs) 64 h
  have hs : SeqAt.shaped p = true := Bool.and_eq_true_iff.mpr ⟨h2, decide_eq_true h3⟩
  unfold D.eq?
  rw [h1, show (D.tup []).data = some (.tuple []) from rfl]
  dsimp only
  rw [hs, show SeqAt.shaped (.tuple []) = true from by decide]
  have h1' : (D.datas xs).map PyData.tuple = some p := h1
  obtain ⟨ps, a, rfl⟩ := Option.map_eq_some_iff.mp h1'
  cases xs with
  | nil => cases a; rfl
  | cons x xs =>
    have a' : (D.data x).bind (fun d => (D.datas xs).map fun ds => d :: ds) = some ps := a
    obtain ⟨d, b1, b2⟩ := Option.bind_eq_some_iff.mp a'
    obtain ⟨ds, b3, rfl⟩ := Option.map_eq_some_iff.mp b2
    simp [PyData.eqv, PyData.eqvAll]
/-! what is drawn inside a comprehension -/
section
variable {α : Type} {P : α → Sto → Prop} {E : Str → D → Sto → Prop} {st : Sto}
theorem noX_all : ∀ t : Tr α, t.All P (fun _ _ _ => False) → t.noX.All P E
  | .ok a s, h => h
  | .ex x v s, h => h.elim
  | .pick n k, h => fun i hi => noX_all (k i) (h i hi)
  | .bad, h => h
theorem OkM.noX {m : M α} (h : OkM m st P (fun _ _ _ => False)) : OkM (noXM m) st P E := ⟨noX_all _ h.all⟩
end
/-- place by place -/
def All2 {α β : Type} (R : α → β → Prop) : List α → List β → Prop
  | [], [] => True
  | x :: xs, z :: zs => R x z ∧ All2 R xs zs
  | _, _ => False
theorem All2.len {α β : Type} {R : α → β → Prop} : ∀ {xs : List α} {zs : List β}, All2 R xs zs → zs.length = xs.length
  | [], [], _ => rfl
  | _ :: _, _ :: _, h => by rw [List.length_cons, List.length_cons, All2.len h.2]
  | [], _ :: _, h => h.elim
  | _ :: _, [], h => h.elim
theorem All2.mem {α β : Type} {R : α → β → Prop} : ∀ {xs : List α} {zs : List β}, All2 R xs zs → ∀ z ∈ zs, ∃ x ∈ xs, R x z
  | [], [], _, z, hz => by cases hz
  | x :: xs, y :: zs, h, z, hz => by
    rcases List.mem_cons.mp hz with rfl | hz
    · exact ⟨x, List.mem_cons_self, h.1⟩
    · obtain ⟨x', h1, h2⟩ := All2.mem h.2 z hz
      exact ⟨x', List.mem_cons_of_mem _ h1, h2⟩
  | [], _ :: _, h, _, _ => h.elim
  | _ :: _, [], h, _, _ => h.elim
theorem lcGo_all {f : D → M (Option D)} {Pr : D → D → Prop} {E : Str → D → Sto → Prop} {st : Sto} : ∀ (xs acc : List D), (∀ x ∈ xs, OkM (f x) st (fun o s => s = st ∧ ∃ y, o = some y ∧ Pr x y) E) → acc.length + xs.length ≤ sizeLine →
    OkM (lcGo f acc xs) st (fun ys s => s = st ∧ ∃ zs, ys = acc ++ zs ∧ All2 Pr xs zs) E
  | [], acc, _, _ => ⟨⟨rfl, [], by simp, trivial⟩⟩
  | x :: xs, acc, h, hl => by
    have hl2 : acc.length < sizeLine := by
      rw [List.length_cons] at hl
      omega
    show OkM (andThen (f x) _) st _ _
    refine OkM.then (OkM.mono (h x (List.mem_cons_self)) (fun o s ho => ?_) (fun _ _ _ z => z))
    obtain ⟨rfl, y, rfl, hy⟩ := ho
    show OkM (if acc.length < sizeLine then lcGo f (acc ++ [y]) xs else badM) s _ _
    rw [if_pos hl2]
    refine OkM.mono (lcGo_all xs (acc ++ [y]) (fun z hz => h z (List.mem_cons_of_mem _ hz)) (by
      rw [List.length_append, List.length_cons, List.length_nil]
      rw [List.length_cons] at hl
      omega)) (fun ys s' hs => ?_) (fun _ _ _ z => z)
    obtain ⟨rfl, zs, rfl, hz⟩ := hs
    exact ⟨rfl, y :: zs, by simp, hy, hz⟩
theorem OkM.use {α γ : Type} {m : M γ} {f : γ → M α} {st : Sto} {p : γ → Prop} {P : α → Sto → Prop} {E : Str → D → Sto → Prop} (h : OkM m st (fun d s => s = st ∧ p d) fun _ _ _ => False) (k : ∀ d, p d → OkM (f d) st P E) : OkM (andThen m f) st P E :=
  OkM.then (OkM.mono h (fun d s hd => hd.1 ▸ k d hd.2) (fun _ _ _ z => z.elim))
theorem bind_retr {α : Type} : ∀ t : Tr α, t.bind (fun d s => Tr.ok d s) = t
  | .ok a s => rfl
  | .ex x v s => rfl
  | .pick n k => congrArg (Tr.pick n) (funext fun i => bind_retr (k i))
  | .bad => rfl
theorem andThen_retr {α : Type} (m : M α) : andThen m ret = m := funext fun s => bind_retr (m s)
theorem fun_of {β : Type} (mk : β → D) (d : β) {p : β → Prop} {zs : List D} {n : Nat} (hl : zs.length = n) (h : ∀ z ∈ zs, ∃ b, z = mk b ∧ p b) : ∃ F : Nat → β, zs = (List.range n).map (fun i => mk (F i)) ∧ ∀ i, i < n → p (F i) := by
  refine ⟨fun i => if hi : i < zs.length then Classical.choose (h zs[i] (List.getElem_mem hi)) else d, ?_, fun i hi => ?_⟩
  · refine List.ext_getElem (by simp [hl]) fun i h1 h2 => ?_
    rw [List.getElem_map, List.getElem_range]
    dsimp only
    rw [dif_pos h1]
    exact (Classical.choose_spec (h zs[i] (List.getElem_mem h1))).1
  · dsimp only
    rw [dif_pos (by omega)]
    exact (Classical.choose_spec (h zs[i] (List.getElem_mem (by omega)))).2
theorem bind_consl (t ts : T) (x : D) (xs : List D) (e : Ev) : (T.cons t ts).bind (.lst (x :: xs)) e = (t.bind x e).bind fun e' => ts.bind (.tup xs) e' := (rfl)
/-- a comprehension of draws over a range -/
theorem lc_draw {β : Type} (mk : β → D) (d : β) {p : β → Prop} {F : D → M (Option D)} {a : Nat → D} {n : Nat} {st : Sto} (hn : n ≤ 1000000) (h : ∀ i, i < n → OkM (F (a i)) st (fun o s => s = st ∧ ∃ y, o = some y ∧ ∃ b, y = mk b ∧ p b) fun _ _ _ => False) :
    OkM (lcGo F [] ((List.range n).map a)) st (fun ys s => s = st ∧ ∃ G : Nat → β, ys = (List.range n).map (fun i => mk (G i)) ∧ ∀ i, i < n → p (G i)) fun _ _ _ => False := by
  refine OkM.mono (lcGo_all (Pr := fun _ y => ∃ b, y = mk b ∧ p b) _ _ (fun x hx => ?_) ?_) (fun ys s hs => ?_) (fun _ _ _ z => z)
  · obtain ⟨i, hi, rfl⟩ := List.mem_map.mp hx
    exact h i (List.mem_range.mp hi)
  · rw [List.length_map, List.length_range, List.length_nil]
    exact Nat.le_trans (by omega) line_big
  · obtain ⟨rfl, zs, rfl, hz⟩ := hs
    have hl := hz.len
    rw [List.length_map, List.length_range] at hl
    exact ⟨rfl, fun_of mk d hl fun z hz' => let ⟨_, _, q⟩ := hz.mem z hz'; q⟩
/-! sums -/
def sm (n : Nat) (f : Nat → Int) : Int := ((List.range n).map f).sum
theorem sm_zero (f : Nat → Int) : sm 0 f = 0 := rfl
theorem sm_succ (n : Nat) (f : Nat → Int) : sm (n + 1) f = sm n f + f n := by
  unfold sm
  rw [List.range_succ, List.map_append, List.sum_append]
  simp
theorem sm_congr {n : Nat} {f g : Nat → Int} (h : ∀ i, i < n → f i = g i) : sm n f = sm n g := by
  unfold sm
  rw [List.map_congr_left fun i hi => h i (List.mem_range.mp hi)]
theorem sm_nil (n : Nat) : sm n (fun _ => 0) = 0 := by
  induction n with
  | zero => rfl
  | succ n ih => rw [sm_succ, ih]; rfl
theorem sm_add (n : Nat) (f g : Nat → Int) : sm n (fun i => f i + g i) = sm n f + sm n g := by
  induction n with
  | zero => rfl
  | succ n ih => rw [sm_succ, sm_succ, sm_succ, ih]; omega
theorem sm_mul (n : Nat) (f : Nat → Int) (a : Int) : sm n (fun i => a * f i) = a * sm n f := by
  induction n with
  | zero => simp [sm_zero]
  | succ n ih => rw [sm_succ, sm_succ, ih, Int.mul_add]
theorem sm_mul' (n : Nat) (f : Nat → Int) (a : Int) : sm n (fun i => f i * a) = sm n f * a := by
  rw [Int.mul_comm, ← sm_mul]
  exact sm_congr fun i _ => Int.mul_comm _ _
theorem sm_swap (n m : Nat) (f : Nat → Nat → Int) : sm n (fun i => sm m fun j => f i j) = sm m fun j => sm n fun i => f i j := by
  induction n with
  | zero =>
    rw [sm_zero]
    exact (sm_nil m).symm
  | succ n ih =>
    rw [sm_succ, ih, ← sm_add]
    exact sm_congr fun j _ => (sm_succ n _).symm
theorem sm_pick {n k : Nat} (h : k < n) (f : Nat → Int) : sm n (fun i => (if k = i then 1 else 0) * f i) = f k := by
  induction n with
  | zero => omega
  | succ n ih =>
    rw [sm_succ]
    by_cases e : k = n
    · subst e
      rw [if_pos rfl, sm_congr (g := fun _ => 0) fun i hi => ?_, sm_nil]
      · omega
      · rw [if_neg (by omega)]; omega
    · rw [if_neg e, ih (by omega)]; omega
theorem sm_bound {n : Nat} {f : Nat → Int} {B : Nat} (h : ∀ i, i < n → (f i).natAbs ≤ B) : (sm n f).natAbs ≤ n * B := by
  induction n with
  | zero => simp [sm_zero]
  | succ n ih =>
    rw [sm_succ]
    have h1 := ih fun i hi => h i (by omega)
    have h2 := h n (by omega)
    have h3 : (n + 1) * B = n * B + B := Nat.succ_mul n B
    omega
theorem sum_range (n : Nat) (f : Nat → Int) : D.ints ((List.range n).map fun j => D.int (f j)) = some ((List.range n).map f) := by
  have := ints_map ((List.range n).map f)
  rwa [List.map_map] at this
theorem okMul_big {a b : Int} (ha : a.natAbs < 2 ^ 200) (hb : b.natAbs < 2 ^ 200) : okMul a b = true := by
  have l : ∀ n : Nat, n < 2 ^ 200 → n.log2 < 200 := fun n hn => by
    by_cases h0 : n = 0
    · subst h0; decide
    · exact (Nat.log2_lt h0).mpr hn
  have h1 := l _ ha
  have h2 := l _ hb
  unfold okMul
  rw [decide_eq_true (show a.natAbs.log2 + b.natAbs.log2 < 1000000 by omega), Bool.or_true]
/-! comprehensions over ranges -/
def lcC (elt : E) (e : Ev) (t : Bool) : M (Option D) := if t = true then andThen (noXM (ev elt e)) fun y => ret (some y) else ret none
def lcB (cnd elt : E) (o : Option Ev) : M (Option D) := match o with
  | none => badM
  | some e' => andThen (noXM (andThen (ev cnd e') truthM)) (lcC elt e')
theorem lcF_eq (own : List Nat) (g : T) (cnd elt : E) (e : Ev) (x : D) : lcF own g cnd elt e x = lcB cnd elt (g.bind x (wipeE e own)) := by
  unfold lcF lcB
  cases g.bind x (wipeE e own) <;> rfl
theorem lcB_so (cnd elt : E) (e : Ev) : lcB cnd elt (some e) = andThen (noXM (andThen (ev cnd e) truthM)) (lcC elt e) := (rfl)
theorem lcC_t (elt : E) (e : Ev) : lcC elt e true = andThen (noXM (ev elt e)) fun y => ret (some y) := (rfl)
theorem lcC_f (elt : E) (e : Ev) : lcC elt e false = ret none := (rfl)
theorem lc_two {ι : Type} {F : D → M (Option D)} {a b : ι → D} : ∀ (l : List ι) (acc : List D), (∀ i ∈ l, F (a i) = ret (some (b i))) → acc.length + l.length ≤ sizeLine → lcGo F acc (l.map a) = ret (acc ++ l.map b)
  | [], acc, _, _ => by simp [lcGo]
  | i :: l, acc, h, hl => by
    have hl2 : acc.length < sizeLine := by
      rw [List.length_cons] at hl
      omega
    show andThen (F (a i)) _ = _
    rw [h i List.mem_cons_self, andThen_ret]
    show (if acc.length < sizeLine then lcGo F (acc ++ [b i]) (l.map a) else badM) = _
    rw [if_pos hl2, lc_two l (acc ++ [b i]) (fun j hj => h j (List.mem_cons_of_mem _ hj)) (by
      rw [List.length_append, List.length_cons, List.length_nil]
      rw [List.length_cons] at hl
      omega), List.append_assoc]
    rfl
theorem lc_rng {F : D → M (Option D)} {a : Nat → D} (b : Nat → D) {n : Nat} (h : ∀ i, i < n → F (a i) = ret (some (b i))) (hn : n ≤ 1000000) : lcGo F [] ((List.range n).map a) = ret ((List.range n).map b) := by
  have := lc_two (F := F) (a := a) (b := b) (List.range n) [] (fun i hi => h i (List.mem_range.mp hi)) (by
    rw [List.length_range, List.length_nil]
    exact Nat.le_trans (by omega) line_big)
  rwa [List.nil_append] at this
theorem zip_rng {a b : Nat → D} (n : Nat) : zipD [.tup ((List.range n).map a), .tup ((List.range n).map b)] = some ((List.range n).map fun i => .tup [a i, b i]) := by
  show some (List.map _ (List.zip ((List.range n).map a) ((List.range n).map b))) = _
  rw [List.zip_map']
  congr 1
  rw [List.map_map]
  rfl
theorem ix_rng {a : Nat → D} {n j : Nat} (h : j < n) : ixM (.tup ((List.range n).map a)) (.int (j : Nat)) = ret (a j) := by
  rw [ixM_tup, atI_nat (v := a j)]
  · rfl
  · rw [List.getElem?_map, List.getElem?_range h]
    rfl
theorem rng_nat {n : Nat} (h : n < 1000000) : rngD [.int (n : Nat)] = some ((List.range n).map fun i => .int (i : Nat)) := by
  rw [rng1_ok (by omega) (by omega)]
  congr 1
  unfold rangeD
  rw [Int.sub_zero, Int.toNat_natCast]
  refine List.map_congr_left fun i _ => ?_
  rw [Int.zero_add]
theorem all_true (n : Nat) : allD [.lst ((List.range n).map fun _ => .bl true)] = some (.bl true) := by
  show (D.bools _).map _ = _
  have := bools_map ((List.range n).map fun _ => true)
  rw [List.map_map] at this
  rw [show ((List.range n).map fun _ => D.bl true) = (List.range n).map (D.bl ∘ fun _ => true) from rfl, this]
  show some (D.bl _) = _
  congr 2
  simp
theorem sum_sm (n : Nat) (f : Nat → Int) : sumD [.lst ((List.range n).map fun j => .int (f j))] = some (.int (sm n f)) := by
  show (D.ints _).map _ = _
  rw [sum_range]
  rfl
theorem atI0 (a : D) (l : List D) : atI (a :: l) 0 = some a := atI_nat (j := 0) rfl
theorem atI1 (a b : D) (l : List D) : atI (a :: b :: l) 1 = some b := atI_nat (j := 1) rfl
theorem atI2 (a b c : D) (l : List D) : atI (a :: b :: c :: l) 2 = some c := atI_nat (j := 2) rfl
theorem nc0 : ((0 : Nat) : Int) = 0 := (rfl)
theorem nc1 : ((1 : Nat) : Int) = 1 := (rfl)
theorem nc2 : ((2 : Nat) : Int) = 2 := (rfl)
theorem nc3 : ((3 : Nat) : Int) = 3 := (rfl)
theorem nc4 : ((4 : Nat) : Int) = 4 := (rfl)
theorem nc5 : ((5 : Nat) : Int) = 5 := (rfl)
theorem nc6 : ((6 : Nat) : Int) = 6 := (rfl)
theorem nc7 : ((7 : Nat) : Int) = 7 := (rfl)
theorem nc8 : ((8 : Nat) : Int) = 8 := (rfl)
theorem nc9 : ((9 : Nat) : Int) = 9 := (rfl)
/-- rows and grids by functions -/
abbrev rowR (n : Nat) (f : Nat → Int) : D := .tup ((List.range n).map fun j => .int (f j))
abbrev rowsR (h w : Nat) (f : Nat → Nat → Int) : D := .tup ((List.range h).map fun i => rowR w (f i))
abbrev gridR (h w : Nat) (f : Nat → Nat → Int) : D := .tup [.int (w : Nat), rowsR h w f]
theorem row_congr {n : Nat} {f g : Nat → Int} (h : ∀ j, j < n → f j = g j) : rowR n f = rowR n g := by
  unfold rowR
  rw [List.map_congr_left fun j hj => by rw [h j (List.mem_range.mp hj)]]
theorem rows_congr {a w : Nat} {f g : Nat → Nat → Int} (h : ∀ i j, i < a → j < w → f i j = g i j) : rowsR a w f = rowsR a w g := by
  unfold rowsR
  rw [List.map_congr_left fun i hi => row_congr fun j hj => h i j (List.mem_range.mp hi) hj]
theorem grid_congr {a w : Nat} {f g : Nat → Nat → Int} (h : ∀ i j, i < a → j < w → f i j = g i j) : gridR a w f = gridR a w g := by
  unfold gridR
  rw [rows_congr h]
def jn {α : Type} (n : Nat) (a b : Nat → α) (j : Nat) : α := if j < n then a j else b (j - n)
theorem rng_app {α : Type} (n m : Nat) (a b : Nat → α) : (List.range n).map a ++ (List.range m).map b = (List.range (n + m)).map (jn n a b) := by
  rw [List.range_add, List.map_append]
  congr 1
  · refine List.map_congr_left fun i hi => ?_
    unfold jn
    rw [if_pos (List.mem_range.mp hi)]
  · rw [List.map_map]
    refine List.map_congr_left fun i hi => ?_
    show _ = jn n a b (n + i)
    unfold jn
    rw [if_neg (by omega), Nat.add_sub_cancel_left]
theorem jn_map {α β : Type} (F : α → β) (n : Nat) (a b : Nat → α) (j : Nat) : jn n (fun i => F (a i)) (fun i => F (b i)) j = F (jn n a b j) := by
  unfold jn
  split <;> rfl
theorem row_app (n m : Nat) (f g : Nat → Int) : (List.range n).map (fun j => D.int (f j)) ++ (List.range m).map (fun j => D.int (g j)) = (List.range (n + m)).map fun j => D.int (jn n f g j) := by
  rw [rng_app]
  exact List.map_congr_left fun i _ => jn_map D.int n f g i
theorem rows_app (n m w : Nat) (f g : Nat → Nat → Int) : (List.range n).map (fun i => rowR w (f i)) ++ (List.range m).map (fun i => rowR w (g i)) = (List.range (n + m)).map fun i => rowR w (jn n f g i) := by
  rw [rng_app]
  exact List.map_congr_left fun i _ => jn_map (rowR w) n f g i
/-- a for over a range, turn by turn -/
theorem forGo_rng {g : T} {b : Ev → M (Fl × Ev)} {a : Nat → D} {I : Nat → Ev → Prop} : ∀ (n : Nat) (e : Ev), I 0 e → (∀ i e, i < n → I i e → ∃ e' e2, g.bind (a i) e = some e' ∧ b e' = ret (.nx, e2) ∧ I (i + 1) e2) →
    ∃ e2, I n e2 ∧ forGo g b ((List.range n).map a) e = ret (.nx, e2) := by
  intro n e h0 h
  have key : ∀ (k : Nat) (i : Nat) (e : Ev), i + k = n → I i e → ∃ e2, I n e2 ∧ forGo g b ((List.range k).map fun j => a (i + j)) e = ret (.nx, e2) := by
    intro k
    induction k with
    | zero =>
      intro i e hi hI
      rw [Nat.add_zero] at hi
      subst hi
      exact ⟨e, hI, rfl⟩
    | succ k ih =>
      intro i e hi hI
      obtain ⟨e', e2, h1, h2, h3⟩ := h i e (by omega) hI
      obtain ⟨e3, h4, h5⟩ := ih (i + 1) e2 (by omega) h3
      refine ⟨e3, h4, ?_⟩
      rw [List.range_succ_eq_map, List.map_cons, forGo_cons (e' := e') (by rw [Nat.add_zero]; exact h1), h2, andThen_ret, List.map_map]
      rw [← h5]
      show forGo g b _ e2 = _
      congr 1
      refine List.map_congr_left fun j _ => ?_
      show a (i + (j + 1)) = a (i + 1 + j)
      congr 1
      omega
  have := key n 0 e (by omega) h0
  simpa using this
theorem row_shp (n : Nat) (f : Nat → Int) : (rowR n f).shp 64 = true := shps_map (n := 63) fun _ _ => rfl
theorem row_shp1 (n k : Nat) (f : Nat → Int) : (rowR n f).shp (k + 1) = true := shps_map (n := k) fun _ _ => rfl
theorem grid_shp (h w : Nat) (f : Nat → Nat → Int) : (gridR h w f).shp 64 = true := by
  show (true && ((D.shps ((List.range h).map fun i => rowR w (f i)) 62) && true)) = true
  rw [shps_map (n := 62) fun i _ => row_shp1 w 61 (f i)]
  rfl
end Gw

set_option Elab.async false
set_option linter.all false
set_option maxRecDepth 100000
set_option maxHeartbeats 4000000
namespace K03
open PySem PySem.Spec PyProof.Rows L2 Gw
abbrev PP : Program := PySem.Challenge.pw_gluewhole_k03_whole_rows_and_grids_judge
def topS (i : Nat) : Stmt := PySem.Challenge.pw_gluewhole_k03_whole_rows_and_grids_judge.main.body.getD i (.Pass ⟨0, 0, 0, 0⟩)
def d_is_whole : He.DefD := ⟨("is_whole", none), "is_whole", "is_whole", defArgs (topS 11), defBody (topS 11), defScope (topS 11), [], []⟩
def d_is_integer : He.DefD := ⟨("is_integer", none), "is_integer", "is_integer", defArgs (topS 12), defBody (topS 12), defScope (topS 12), [], []⟩
def d_is_within : He.DefD := ⟨("is_within", none), "is_within", "is_within", defArgs (topS 13), defBody (topS 13), defScope (topS 13), [], []⟩
def d_is_row_of : He.DefD := ⟨("is_row_of", none), "is_row_of", "is_row_of", defArgs (topS 14), defBody (topS 14), defScope (topS 14), [], []⟩
def d_is_row : He.DefD := ⟨("is_row", none), "is_row", "is_row", defArgs (topS 15), defBody (topS 15), defScope (topS 15), [], []⟩
def d_is_grid_in : He.DefD := ⟨("is_grid_in", none), "is_grid_in", "is_grid_in", defArgs (topS 16), defBody (topS 16), defScope (topS 16), [], []⟩
def d_is_grid : He.DefD := ⟨("is_grid", none), "is_grid", "is_grid", defArgs (topS 17), defBody (topS 17), defScope (topS 17), [], []⟩
def d_require_within : He.DefD := ⟨("require_within", none), "require_within", "require_within", defArgs (topS 18), defBody (topS 18), defScope (topS 18), [], []⟩
def d_require_grid : He.DefD := ⟨("require_grid", none), "require_grid", "require_grid", defArgs (topS 19), defBody (topS 19), defScope (topS 19), [], []⟩
def d_dot_in : He.DefD := ⟨("dot_in", none), "dot_in", "dot_in", defArgs (topS 20), defBody (topS 20), defScope (topS 20), [], []⟩
def d_unit_in : He.DefD := ⟨("unit_in", none), "unit_in", "unit_in", defArgs (topS 21), defBody (topS 21), defScope (topS 21), [], []⟩
def d_nought_in : He.DefD := ⟨("nought_in", none), "nought_in", "nought_in", defArgs (topS 22), defBody (topS 22), defScope (topS 22), [], []⟩
def d_turned_in : He.DefD := ⟨("turned_in", none), "turned_in", "turned_in", defArgs (topS 23), defBody (topS 23), defScope (topS 23), [], []⟩
def d_times_in : He.DefD := ⟨("times_in", none), "times_in", "times_in", defArgs (topS 24), defBody (topS 24), defScope (topS 24), [], []⟩
def d_beside_in : He.DefD := ⟨("beside_in", none), "beside_in", "beside_in", defArgs (topS 25), defBody (topS 25), defScope (topS 25), [], []⟩
def d_over_in : He.DefD := ⟨("over_in", none), "over_in", "over_in", defArgs (topS 26), defBody (topS 26), defScope (topS 26), [], []⟩
def d_require_two_grids : He.DefD := ⟨("require_two_grids", none), "require_two_grids", "require_two_grids", defArgs (topS 27), defBody (topS 27), defScope (topS 27), [], []⟩
def d_need_size : He.DefD := ⟨("need_size", none), "need_size", "need_size", defArgs (topS 28), defBody (topS 28), defScope (topS 28), [], []⟩
def d_unit_grid : He.DefD := ⟨("unit_grid", none), "unit_grid", "unit_grid", defArgs (topS 29), defBody (topS 29), defScope (topS 29), [], []⟩
def d_nought_grid : He.DefD := ⟨("nought_grid", none), "nought_grid", "nought_grid", defArgs (topS 30), defBody (topS 30), defScope (topS 30), [], []⟩
def d_turned : He.DefD := ⟨("turned", none), "turned", "turned", defArgs (topS 31), defBody (topS 31), defScope (topS 31), [], []⟩
def d_grid_product : He.DefD := ⟨("grid_product", none), "grid_product", "grid_product", defArgs (topS 32), defBody (topS 32), defScope (topS 32), [], []⟩
def d_beside : He.DefD := ⟨("beside", none), "beside", "beside", defArgs (topS 33), defBody (topS 33), defScope (topS 33), [], []⟩
def d_over : He.DefD := ⟨("over", none), "over", "over", defArgs (topS 34), defBody (topS 34), defScope (topS 34), [], []⟩
def d__law_hat : He.DefD := ⟨("_law_hat", none), "_law_hat", "_law_hat", defArgs (topS 36), defBody (topS 36), defScope (topS 36), [], []⟩
def d__law_up_to : He.DefD := ⟨("_law_up_to", none), "_law_up_to", "_law_up_to", defArgs (topS 37), defBody (topS 37), defScope (topS 37), [], []⟩
def d__law_out_of : He.DefD := ⟨("_law_out_of", none), "_law_out_of", "_law_out_of", defArgs (topS 38), defBody (topS 38), defScope (topS 38), [], []⟩
def d__law_unit : He.DefD := ⟨("_law_unit", none), "_law_unit", "_law_unit", defArgs (topS 39), defBody (topS 39), defScope (topS 39), [], []⟩
def d__law_is_row : He.DefD := ⟨("_law_is_row", none), "_law_is_row", "_law_is_row", defArgs (topS 40), defBody (topS 40), defScope (topS 40), [], []⟩
def d__law_jg_entry : He.DefD := ⟨("_law_jg_entry", none), "_law_jg_entry", "_law_jg_entry", defArgs (topS 41), defBody (topS 41), defScope (topS 41), [], []⟩
def d__law_jg_wide : He.DefD := ⟨("_law_jg_wide", none), "_law_jg_wide", "_law_jg_wide", defArgs (topS 42), defBody (topS 42), defScope (topS 42), [], []⟩
def d__law_jg_bent : He.DefD := ⟨("_law_jg_bent", none), "_law_jg_bent", "_law_jg_bent", defArgs (topS 43), defBody (topS 43), defScope (topS 43), [], []⟩
def d__law_jg_near : He.DefD := ⟨("_law_jg_near", none), "_law_jg_near", "_law_jg_near", defArgs (topS 44), defBody (topS 44), defScope (topS 44), [], []⟩
def d__law_short : He.DefD := ⟨("_law_short", none), "_law_short", "_law_short", defArgs (topS 45), defBody (topS 45), defScope (topS 45), [], []⟩
def d__law_sized : He.DefD := ⟨("_law_sized", none), "_law_sized", "_law_sized", defArgs (topS 46), defBody (topS 46), defScope (topS 46), [], []⟩
def d__law_right : He.DefD := ⟨("_law_right", none), "_law_right", "_law_right", defArgs (topS 47), defBody (topS 47), defScope (topS 47), [], []⟩
def d_law : He.DefD := ⟨("law", none), "law", "law", defArgs (topS 48), defBody (topS 48), defScope (topS 48), [], []⟩
def fnL : List He.DefD := [d_is_whole, d_is_integer, d_is_within, d_is_row_of, d_is_row, d_is_grid_in, d_is_grid, d_require_within, d_require_grid, d_dot_in, d_unit_in, d_nought_in, d_turned_in, d_times_in, d_beside_in, d_over_in, d_require_two_grids, d_need_size, d_unit_grid, d_nought_grid, d_turned, d_grid_product, d_beside, d_over, d__law_hat, d__law_up_to, d__law_out_of, d__law_unit, d__law_is_row, d__law_jg_entry, d__law_jg_wide, d__law_jg_bent, d__law_jg_near, d__law_short, d__law_sized, d__law_right, d_law]
def faL : List He.Fa := [.glo "is_whole", .glo "is_integer", .glo "is_within", .glo "is_row_of", .glo "is_row", .glo "is_grid_in", .glo "is_grid", .glo "require_within", .glo "require_grid", .glo "dot_in", .glo "unit_in", .glo "nought_in", .glo "turned_in", .glo "times_in", .glo "beside_in", .glo "over_in", .glo "require_two_grids", .glo "need_size", .glo "unit_grid", .glo "nought_grid", .glo "turned", .glo "grid_product", .glo "beside", .glo "over", .glo "_law_hat", .glo "_law_up_to", .glo "_law_out_of", .glo "_law_unit", .glo "_law_is_row", .glo "_law_jg_entry", .glo "_law_jg_wide", .glo "_law_jg_bent", .glo "_law_jg_near", .glo "_law_short", .glo "_law_sized", .glo "_law_right", .glo "law", .free "isinstance", .free "int", .free "bool", .free "tuple", .free "len", .free "all", .free "max", .free "sum", .free "zip", .free "range", .free "abs", .free "list", .free "min", .int "BOUND" 1000000000000, .int "MAX_SIZE" 60, .int "PAIR" 2, .int "MAX_DIGITS" 12]
structure Wd (w : World) (K : PySem.W.Frag) (mg : Str → Option Value) (base h : Heap) : Prop where
  X : K.In h
  N : h.Ns mainGlobals mg
  c : He.SaysD faL fnL K
abbrev GG (K : PySem.W.Frag) (mg : Str → Option Value) : Glo := ⟨K, mg, fun _ => none⟩
section
variable {w : World} {K : PySem.W.Frag} {mg : Str → Option Value} {base h : Heap}
def N_is_whole : List Str := ["value"]
def c_is_whole : S := (.seq (.ret (.and_ (.call (bi isiD) (.cons (.var 0) (.cons (.c (.ty "int")) .nil))) (.not_ (.call (bi isiD) (.cons (.var 0) (.cons (.c (.ty "bool")) .nil)))))) .pass)
def m_is_whole : List D → M D := fnM 1 1 c_is_whole
def i_is_whole : FnI := ⟨1, 1, m_is_whole⟩
def G_is_whole : Gam := ⟨N_is_whole, defScope (topS 11), 0, [], [], ["isinstance", "int", "bool"], [], cellsOf (defScope (topS 11))⟩
theorem k_is_whole : compSs 400 G_is_whole (defBody (topS 11)) = some c_is_whole := by kernel_rfl
theorem s_is_whole : FnScope N_is_whole ["value"] (defScope (topS 11)) := ⟨rfl, rfl, rfl, by decide +kernel, rfl, by decide +kernel, by decide +kernel⟩
theorem g_is_whole (Z : Wd w K mg base h) : ∃ fd, FnOk PP w K mg base (L2.CX PP w) 1 (He.fAd K ("is_whole", none)) fd ["value"] (spD (GG K mg) (fnM 1 1 c_is_whole) 1) ∧ mg "is_whole" = some (.ref (He.fAd K ("is_whole", none))) ∧ PySem.W.keepIn K (.ref (He.fAd K ("is_whole", none))) = true ∧ Binds K fd ["value"] [] := by
  obtain ⟨fd, F⟩ := Z.c.def_ 0 (d := d_is_whole) rfl
  exact ⟨fd, fn_core F s_is_whole (Γ := G_is_whole) rfl rfl k_is_whole rfl rfl TabOk.nil CstOk.nil (FreeOk.cons (He.free_ok Z.X Z.N (Z.c.fact 37 rfl)) (FreeOk.cons (He.free_ok Z.X Z.N (Z.c.fact 38 rfl)) (FreeOk.cons (He.free_ok Z.X Z.N (Z.c.fact 39 rfl)) FreeOk.nil))), He.glo_ok Z.X Z.N (Z.c.fact 0 rfl), F.kp, FunD.bindsN F fun _ _ _ _ _ _ us hl => match us, hl with | [_], _ => rfl⟩
theorem f_is_whole (Z : Wd w K mg base h) : FnFact PP w K mg base (GG K mg) "is_whole" i_is_whole := by
  obtain ⟨fd, F, a, b, c⟩ := g_is_whole Z
  exact ⟨_, fd, _, a, b, c, F, fun _ _ _ _ h => fnM_len h⟩
def N_is_integer : List Str := ["value"]
def c_is_integer : S := (.seq (.ret (.and_ (.call m_is_whole (.cons (.var 0) .nil)) (.chain .Lt .Lt (.neg (.c (.int 1000000000000))) (.var 0) (.c (.int 1000000000000))))) .pass)
def m_is_integer : List D → M D := fnM 1 1 c_is_integer
def i_is_integer : FnI := ⟨2, 1, m_is_integer⟩
def G_is_integer : Gam := ⟨N_is_integer, defScope (topS 12), 1, [("is_whole", i_is_whole)], [("BOUND", (.int 1000000000000))], [], [], cellsOf (defScope (topS 12))⟩
theorem k_is_integer : compSs 400 G_is_integer (defBody (topS 12)) = some c_is_integer := by kernel_rfl
theorem s_is_integer : FnScope N_is_integer ["value"] (defScope (topS 12)) := ⟨rfl, rfl, rfl, by decide +kernel, rfl, by decide +kernel, by decide +kernel⟩
theorem g_is_integer (Z : Wd w K mg base h) : ∃ fd, FnOk PP w K mg base (L2.CX PP w) 2 (He.fAd K ("is_integer", none)) fd ["value"] (spD (GG K mg) (fnM 1 1 c_is_integer) 1) ∧ mg "is_integer" = some (.ref (He.fAd K ("is_integer", none))) ∧ PySem.W.keepIn K (.ref (He.fAd K ("is_integer", none))) = true ∧ Binds K fd ["value"] [] := by
  obtain ⟨fd, F⟩ := Z.c.def_ 1 (d := d_is_integer) rfl
  exact ⟨fd, fn_core F s_is_integer (Γ := G_is_integer) rfl rfl k_is_integer rfl rfl (TabOk.cons (f_is_whole Z) TabOk.nil) (CstOk.cons (cst_int (He.int_ok Z.X Z.N (Z.c.fact 50 rfl))) CstOk.nil) FreeOk.nil, He.glo_ok Z.X Z.N (Z.c.fact 1 rfl), F.kp, FunD.bindsN F fun _ _ _ _ _ _ us hl => match us, hl with | [_], _ => rfl⟩
theorem f_is_integer (Z : Wd w K mg base h) : FnFact PP w K mg base (GG K mg) "is_integer" i_is_integer := by
  obtain ⟨fd, F, a, b, c⟩ := g_is_integer Z
  exact ⟨_, fd, _, a, b, c, F, fun _ _ _ _ h => fnM_len h⟩
def N_is_within : List Str := ["value", "least", "most"]
def c_is_within : S := (.seq (.ret (.and_ (.call m_is_whole (.cons (.var 0) .nil)) (.chain .LtE .LtE (.var 1) (.var 0) (.var 2)))) .pass)
def m_is_within : List D → M D := fnM 3 3 c_is_within
def i_is_within : FnI := ⟨2, 3, m_is_within⟩
def G_is_within : Gam := ⟨N_is_within, defScope (topS 13), 1, [("is_whole", i_is_whole)], [], [], [], cellsOf (defScope (topS 13))⟩
theorem k_is_within : compSs 400 G_is_within (defBody (topS 13)) = some c_is_within := by kernel_rfl
theorem s_is_within : FnScope N_is_within ["value", "least", "most"] (defScope (topS 13)) := ⟨rfl, rfl, rfl, by decide +kernel, rfl, by decide +kernel, by decide +kernel⟩
theorem g_is_within (Z : Wd w K mg base h) : ∃ fd, FnOk PP w K mg base (L2.CX PP w) 2 (He.fAd K ("is_within", none)) fd ["value", "least", "most"] (spD (GG K mg) (fnM 3 3 c_is_within) 3) ∧ mg "is_within" = some (.ref (He.fAd K ("is_within", none))) ∧ PySem.W.keepIn K (.ref (He.fAd K ("is_within", none))) = true ∧ Binds K fd ["value", "least", "most"] [] := by
  obtain ⟨fd, F⟩ := Z.c.def_ 2 (d := d_is_within) rfl
  exact ⟨fd, fn_core F s_is_within (Γ := G_is_within) rfl rfl k_is_within rfl rfl (TabOk.cons (f_is_whole Z) TabOk.nil) CstOk.nil FreeOk.nil, He.glo_ok Z.X Z.N (Z.c.fact 2 rfl), F.kp, FunD.bindsN F fun _ _ _ _ _ _ us hl => match us, hl with | [_, _, _], _ => rfl⟩
theorem f_is_within (Z : Wd w K mg base h) : FnFact PP w K mg base (GG K mg) "is_within" i_is_within := by
  obtain ⟨fd, F, a, b, c⟩ := g_is_within Z
  exact ⟨_, fd, _, a, b, c, F, fun _ _ _ _ h => fnM_len h⟩
def N_is_row_of : List Str := ["value", "size", "entry"]
def c_is_row_of : S := (.seq (.ret (.and_ (.call (bi isiD) (.cons (.var 0) (.cons (.c (.ty "tuple")) .nil))) (.and_ (.cmp .Eq (.call (bi lenD) (.cons (.var 0) .nil)) (.var 1)) (.call (bi allD) (.cons (.lc [2] (.nm 2) (.it1 (.var 0)) (.c (.bl true)) (.call m_is_whole (.cons (.var 2) .nil))) .nil))))) .pass)
def m_is_row_of : List D → M D := fnM 3 2 c_is_row_of
def i_is_row_of : FnI := ⟨2, 2, m_is_row_of⟩
def G_is_row_of : Gam := ⟨N_is_row_of, defScope (topS 14), 1, [("is_whole", i_is_whole)], [], ["isinstance", "tuple", "len", "all"], [], cellsOf (defScope (topS 14))⟩
theorem k_is_row_of : compSs 400 G_is_row_of (defBody (topS 14)) = some c_is_row_of := by kernel_rfl
theorem s_is_row_of : FnScope N_is_row_of ["value", "size"] (defScope (topS 14)) := ⟨rfl, rfl, rfl, by decide +kernel, rfl, by decide +kernel, by decide +kernel⟩
theorem g_is_row_of (Z : Wd w K mg base h) : ∃ fd, FnOk PP w K mg base (L2.CX PP w) 2 (He.fAd K ("is_row_of", none)) fd ["value", "size"] (spD (GG K mg) (fnM 3 2 c_is_row_of) 2) ∧ mg "is_row_of" = some (.ref (He.fAd K ("is_row_of", none))) ∧ PySem.W.keepIn K (.ref (He.fAd K ("is_row_of", none))) = true ∧ Binds K fd ["value", "size"] [] := by
  obtain ⟨fd, F⟩ := Z.c.def_ 3 (d := d_is_row_of) rfl
  exact ⟨fd, fn_core F s_is_row_of (Γ := G_is_row_of) rfl rfl k_is_row_of rfl rfl (TabOk.cons (f_is_whole Z) TabOk.nil) CstOk.nil (FreeOk.cons (He.free_ok Z.X Z.N (Z.c.fact 37 rfl)) (FreeOk.cons (He.free_ok Z.X Z.N (Z.c.fact 40 rfl)) (FreeOk.cons (He.free_ok Z.X Z.N (Z.c.fact 41 rfl)) (FreeOk.cons (He.free_ok Z.X Z.N (Z.c.fact 42 rfl)) FreeOk.nil)))), He.glo_ok Z.X Z.N (Z.c.fact 3 rfl), F.kp, FunD.bindsN F fun _ _ _ _ _ _ us hl => match us, hl with | [_, _], _ => rfl⟩
theorem f_is_row_of (Z : Wd w K mg base h) : FnFact PP w K mg base (GG K mg) "is_row_of" i_is_row_of := by
  obtain ⟨fd, F, a, b, c⟩ := g_is_row_of Z
  exact ⟨_, fd, _, a, b, c, F, fun _ _ _ _ h => fnM_len h⟩
def N_is_row : List Str := ["value", "entry"]
def c_is_row : S := (.seq (.ifs (.or_ (.not_ (.call (bi isiD) (.cons (.var 0) (.cons (.c (.ty "tuple")) .nil)))) (.cmp .Gt (.call (bi lenD) (.cons (.var 0) .nil)) (.c (.int 60)))) (.seq (.ret (.c (.bl false))) .pass) .pass) (.seq (.ret (.call (bi allD) (.cons (.lc [1] (.nm 1) (.it1 (.var 0)) (.c (.bl true)) (.call m_is_integer (.cons (.var 1) .nil))) .nil))) .pass))
def m_is_row : List D → M D := fnM 2 1 c_is_row
def i_is_row : FnI := ⟨3, 1, m_is_row⟩
def G_is_row : Gam := ⟨N_is_row, defScope (topS 15), 2, [("is_integer", i_is_integer)], [("MAX_SIZE", (.int 60))], ["all", "isinstance", "tuple", "len"], [], cellsOf (defScope (topS 15))⟩
theorem k_is_row : compSs 400 G_is_row (defBody (topS 15)) = some c_is_row := by kernel_rfl
theorem s_is_row : FnScope N_is_row ["value"] (defScope (topS 15)) := ⟨rfl, rfl, rfl, by decide +kernel, rfl, by decide +kernel, by decide +kernel⟩
theorem g_is_row (Z : Wd w K mg base h) : ∃ fd, FnOk PP w K mg base (L2.CX PP w) 3 (He.fAd K ("is_row", none)) fd ["value"] (spD (GG K mg) (fnM 2 1 c_is_row) 1) ∧ mg "is_row" = some (.ref (He.fAd K ("is_row", none))) ∧ PySem.W.keepIn K (.ref (He.fAd K ("is_row", none))) = true ∧ Binds K fd ["value"] [] := by
  obtain ⟨fd, F⟩ := Z.c.def_ 4 (d := d_is_row) rfl
  exact ⟨fd, fn_core F s_is_row (Γ := G_is_row) rfl rfl k_is_row rfl rfl (TabOk.cons (f_is_integer Z) TabOk.nil) (CstOk.cons (cst_int (He.int_ok Z.X Z.N (Z.c.fact 51 rfl))) CstOk.nil) (FreeOk.cons (He.free_ok Z.X Z.N (Z.c.fact 42 rfl)) (FreeOk.cons (He.free_ok Z.X Z.N (Z.c.fact 37 rfl)) (FreeOk.cons (He.free_ok Z.X Z.N (Z.c.fact 40 rfl)) (FreeOk.cons (He.free_ok Z.X Z.N (Z.c.fact 41 rfl)) FreeOk.nil)))), He.glo_ok Z.X Z.N (Z.c.fact 4 rfl), F.kp, FunD.bindsN F fun _ _ _ _ _ _ us hl => match us, hl with | [_], _ => rfl⟩
theorem f_is_row (Z : Wd w K mg base h) : FnFact PP w K mg base (GG K mg) "is_row" i_is_row := by
  obtain ⟨fd, F, a, b, c⟩ := g_is_row Z
  exact ⟨_, fd, _, a, b, c, F, fun _ _ _ _ h => fnM_len h⟩
def N_is_grid_in : List Str := ["value", "row"]
def c_is_grid_in : S := (.seq (.ifs (.or_ (.not_ (.call (bi isiD) (.cons (.var 0) (.cons (.c (.ty "tuple")) .nil)))) (.or_ (.cmp .NotEq (.call (bi lenD) (.cons (.var 0) .nil)) (.c (.int 2))) (.or_ (.not_ (.call m_is_whole (.cons (.ix (.var 0) (.c (.int 0))) .nil))) (.cmp .Lt (.ix (.var 0) (.c (.int 0))) (.c (.int 0)))))) (.seq (.ret (.c (.bl false))) .pass) .pass) (.seq (.ret (.and_ (.call (bi isiD) (.cons (.ix (.var 0) (.c (.int 1))) (.cons (.c (.ty "tuple")) .nil))) (.call (bi allD) (.cons (.lc [1] (.nm 1) (.it1 (.ix (.var 0) (.c (.int 1)))) (.c (.bl true)) (.call m_is_row_of (.cons (.var 1) (.cons (.ix (.var 0) (.c (.int 0))) .nil)))) .nil)))) .pass))
def m_is_grid_in : List D → M D := fnM 2 1 c_is_grid_in
def i_is_grid_in : FnI := ⟨3, 1, m_is_grid_in⟩
def G_is_grid_in : Gam := ⟨N_is_grid_in, defScope (topS 16), 2, [("is_row_of", i_is_row_of), ("is_whole", i_is_whole)], [("PAIR", (.int 2))], ["isinstance", "tuple", "all", "len"], [], cellsOf (defScope (topS 16))⟩
theorem k_is_grid_in : compSs 400 G_is_grid_in (defBody (topS 16)) = some c_is_grid_in := by kernel_rfl
theorem s_is_grid_in : FnScope N_is_grid_in ["value"] (defScope (topS 16)) := ⟨rfl, rfl, rfl, by decide +kernel, rfl, by decide +kernel, by decide +kernel⟩
theorem g_is_grid_in (Z : Wd w K mg base h) : ∃ fd, FnOk PP w K mg base (L2.CX PP w) 3 (He.fAd K ("is_grid_in", none)) fd ["value"] (spD (GG K mg) (fnM 2 1 c_is_grid_in) 1) ∧ mg "is_grid_in" = some (.ref (He.fAd K ("is_grid_in", none))) ∧ PySem.W.keepIn K (.ref (He.fAd K ("is_grid_in", none))) = true ∧ Binds K fd ["value"] [] := by
  obtain ⟨fd, F⟩ := Z.c.def_ 5 (d := d_is_grid_in) rfl
  exact ⟨fd, fn_core F s_is_grid_in (Γ := G_is_grid_in) rfl rfl k_is_grid_in rfl rfl (TabOk.cons (f_is_row_of Z) (TabOk.cons (f_is_whole Z) TabOk.nil)) (CstOk.cons (cst_int (He.int_ok Z.X Z.N (Z.c.fact 52 rfl))) CstOk.nil) (FreeOk.cons (He.free_ok Z.X Z.N (Z.c.fact 37 rfl)) (FreeOk.cons (He.free_ok Z.X Z.N (Z.c.fact 40 rfl)) (FreeOk.cons (He.free_ok Z.X Z.N (Z.c.fact 42 rfl)) (FreeOk.cons (He.free_ok Z.X Z.N (Z.c.fact 41 rfl)) FreeOk.nil)))), He.glo_ok Z.X Z.N (Z.c.fact 5 rfl), F.kp, FunD.bindsN F fun _ _ _ _ _ _ us hl => match us, hl with | [_], _ => rfl⟩
theorem f_is_grid_in (Z : Wd w K mg base h) : FnFact PP w K mg base (GG K mg) "is_grid_in" i_is_grid_in := by
  obtain ⟨fd, F, a, b, c⟩ := g_is_grid_in Z
  exact ⟨_, fd, _, a, b, c, F, fun _ _ _ _ h => fnM_len h⟩
def N_is_grid : List Str := ["value", "row"]
def c_is_grid : S := (.seq (.ifs (.or_ (.not_ (.call m_is_grid_in (.cons (.var 0) .nil))) (.cmp .Gt (.call (bi maxD) (.cons (.ix (.var 0) (.c (.int 0))) (.cons (.call (bi lenD) (.cons (.ix (.var 0) (.c (.int 1))) .nil)) .nil))) (.c (.int 60)))) (.seq (.ret (.c (.bl false))) .pass) .pass) (.seq (.ret (.call (bi allD) (.cons (.lc [1] (.nm 1) (.it1 (.ix (.var 0) (.c (.int 1)))) (.c (.bl true)) (.call m_is_row (.cons (.var 1) .nil))) .nil))) .pass))
def m_is_grid : List D → M D := fnM 2 1 c_is_grid
def i_is_grid : FnI := ⟨4, 1, m_is_grid⟩
def G_is_grid : Gam := ⟨N_is_grid, defScope (topS 17), 3, [("is_row", i_is_row), ("is_grid_in", i_is_grid_in)], [("MAX_SIZE", (.int 60))], ["all", "max", "len"], [], cellsOf (defScope (topS 17))⟩
theorem k_is_grid : compSs 400 G_is_grid (defBody (topS 17)) = some c_is_grid := by kernel_rfl
theorem s_is_grid : FnScope N_is_grid ["value"] (defScope (topS 17)) := ⟨rfl, rfl, rfl, by decide +kernel, rfl, by decide +kernel, by decide +kernel⟩
theorem g_is_grid (Z : Wd w K mg base h) : ∃ fd, FnOk PP w K mg base (L2.CX PP w) 4 (He.fAd K ("is_grid", none)) fd ["value"] (spD (GG K mg) (fnM 2 1 c_is_grid) 1) ∧ mg "is_grid" = some (.ref (He.fAd K ("is_grid", none))) ∧ PySem.W.keepIn K (.ref (He.fAd K ("is_grid", none))) = true ∧ Binds K fd ["value"] [] := by
  obtain ⟨fd, F⟩ := Z.c.def_ 6 (d := d_is_grid) rfl
  exact ⟨fd, fn_core F s_is_grid (Γ := G_is_grid) rfl rfl k_is_grid rfl rfl (TabOk.cons (f_is_row Z) (TabOk.cons (f_is_grid_in Z) TabOk.nil)) (CstOk.cons (cst_int (He.int_ok Z.X Z.N (Z.c.fact 51 rfl))) CstOk.nil) (FreeOk.cons (He.free_ok Z.X Z.N (Z.c.fact 42 rfl)) (FreeOk.cons (He.free_ok Z.X Z.N (Z.c.fact 43 rfl)) (FreeOk.cons (He.free_ok Z.X Z.N (Z.c.fact 41 rfl)) FreeOk.nil))), He.glo_ok Z.X Z.N (Z.c.fact 6 rfl), F.kp, FunD.bindsN F fun _ _ _ _ _ _ us hl => match us, hl with | [_], _ => rfl⟩
theorem f_is_grid (Z : Wd w K mg base h) : FnFact PP w K mg base (GG K mg) "is_grid" i_is_grid := by
  obtain ⟨fd, F, a, b, c⟩ := g_is_grid Z
  exact ⟨_, fd, _, a, b, c, F, fun _ _ _ _ h => fnM_len h⟩
def N_require_within : List Str := ["value", "least", "most"]
def c_require_within : S := (.seq (.ifs (.not_ (.call m_is_within (.cons (.var 0) (.cons (.var 1) (.cons (.var 2) .nil))))) (.seq .never .pass) .pass) .pass)
def m_require_within : List D → M D := fnM 3 3 c_require_within
def i_require_within : FnI := ⟨3, 3, m_require_within⟩
def G_require_within : Gam := ⟨N_require_within, defScope (topS 18), 2, [("is_within", i_is_within)], [], [], [], cellsOf (defScope (topS 18))⟩
theorem k_require_within : compSs 400 G_require_within (defBody (topS 18)) = some c_require_within := by kernel_rfl
theorem s_require_within : FnScope N_require_within ["value", "least", "most"] (defScope (topS 18)) := ⟨rfl, rfl, rfl, by decide +kernel, rfl, by decide +kernel, by decide +kernel⟩
theorem g_require_within (Z : Wd w K mg base h) : ∃ fd, FnOk PP w K mg base (L2.CX PP w) 3 (He.fAd K ("require_within", none)) fd ["value", "least", "most"] (spD (GG K mg) (fnM 3 3 c_require_within) 3) ∧ mg "require_within" = some (.ref (He.fAd K ("require_within", none))) ∧ PySem.W.keepIn K (.ref (He.fAd K ("require_within", none))) = true ∧ Binds K fd ["value", "least", "most"] [] := by
  obtain ⟨fd, F⟩ := Z.c.def_ 7 (d := d_require_within) rfl
  exact ⟨fd, fn_core F s_require_within (Γ := G_require_within) rfl rfl k_require_within rfl rfl (TabOk.cons (f_is_within Z) TabOk.nil) CstOk.nil FreeOk.nil, He.glo_ok Z.X Z.N (Z.c.fact 7 rfl), F.kp, FunD.bindsN F fun _ _ _ _ _ _ us hl => match us, hl with | [_, _, _], _ => rfl⟩
theorem f_require_within (Z : Wd w K mg base h) : FnFact PP w K mg base (GG K mg) "require_within" i_require_within := by
  obtain ⟨fd, F, a, b, c⟩ := g_require_within Z
  exact ⟨_, fd, _, a, b, c, F, fun _ _ _ _ h => fnM_len h⟩
def N_require_grid : List Str := ["value"]
def c_require_grid : S := (.seq (.ifs (.not_ (.call m_is_grid (.cons (.var 0) .nil))) (.seq .never .pass) .pass) .pass)
def m_require_grid : List D → M D := fnM 1 1 c_require_grid
def i_require_grid : FnI := ⟨5, 1, m_require_grid⟩
def G_require_grid : Gam := ⟨N_require_grid, defScope (topS 19), 4, [("is_grid", i_is_grid)], [], [], [], cellsOf (defScope (topS 19))⟩
theorem k_require_grid : compSs 400 G_require_grid (defBody (topS 19)) = some c_require_grid := by kernel_rfl
theorem s_require_grid : FnScope N_require_grid ["value"] (defScope (topS 19)) := ⟨rfl, rfl, rfl, by decide +kernel, rfl, by decide +kernel, by decide +kernel⟩
theorem g_require_grid (Z : Wd w K mg base h) : ∃ fd, FnOk PP w K mg base (L2.CX PP w) 5 (He.fAd K ("require_grid", none)) fd ["value"] (spD (GG K mg) (fnM 1 1 c_require_grid) 1) ∧ mg "require_grid" = some (.ref (He.fAd K ("require_grid", none))) ∧ PySem.W.keepIn K (.ref (He.fAd K ("require_grid", none))) = true ∧ Binds K fd ["value"] [] := by
  obtain ⟨fd, F⟩ := Z.c.def_ 8 (d := d_require_grid) rfl
  exact ⟨fd, fn_core F s_require_grid (Γ := G_require_grid) rfl rfl k_require_grid rfl rfl (TabOk.cons (f_is_grid Z) TabOk.nil) CstOk.nil FreeOk.nil, He.glo_ok Z.X Z.N (Z.c.fact 8 rfl), F.kp, FunD.bindsN F fun _ _ _ _ _ _ us hl => match us, hl with | [_], _ => rfl⟩
theorem f_require_grid (Z : Wd w K mg base h) : FnFact PP w K mg base (GG K mg) "require_grid" i_require_grid := by
  obtain ⟨fd, F, a, b, c⟩ := g_require_grid Z
  exact ⟨_, fd, _, a, b, c, F, fun _ _ _ _ h => fnM_len h⟩
def N_dot_in : List Str := ["one", "other", "left", "right"]
def c_dot_in : S := (.seq (.ret (.call (bi sumD) (.cons (.lc [2, 3] (.cons (.nm 2) (.cons (.nm 3) .nil)) (.zip (.var 0) (.var 1)) (.c (.bl true)) (.bin .Mult (.var 2) (.var 3))) .nil))) .pass)
def m_dot_in : List D → M D := fnM 4 2 c_dot_in
def i_dot_in : FnI := ⟨1, 2, m_dot_in⟩
def G_dot_in : Gam := ⟨N_dot_in, defScope (topS 20), 0, [], [], ["sum", "zip"], [], cellsOf (defScope (topS 20))⟩
theorem k_dot_in : compSs 400 G_dot_in (defBody (topS 20)) = some c_dot_in := by kernel_rfl
theorem s_dot_in : FnScope N_dot_in ["one", "other"] (defScope (topS 20)) := ⟨rfl, rfl, rfl, by decide +kernel, rfl, by decide +kernel, by decide +kernel⟩
theorem g_dot_in (Z : Wd w K mg base h) : ∃ fd, FnOk PP w K mg base (L2.CX PP w) 1 (He.fAd K ("dot_in", none)) fd ["one", "other"] (spD (GG K mg) (fnM 4 2 c_dot_in) 2) ∧ mg "dot_in" = some (.ref (He.fAd K ("dot_in", none))) ∧ PySem.W.keepIn K (.ref (He.fAd K ("dot_in", none))) = true ∧ Binds K fd ["one", "other"] [] := by
  obtain ⟨fd, F⟩ := Z.c.def_ 9 (d := d_dot_in) rfl
  exact ⟨fd, fn_core F s_dot_in (Γ := G_dot_in) rfl rfl k_dot_in rfl rfl TabOk.nil CstOk.nil (FreeOk.cons (He.free_ok Z.X Z.N (Z.c.fact 44 rfl)) (FreeOk.cons (He.free_ok Z.X Z.N (Z.c.fact 45 rfl)) FreeOk.nil)), He.glo_ok Z.X Z.N (Z.c.fact 9 rfl), F.kp, FunD.bindsN F fun _ _ _ _ _ _ us hl => match us, hl with | [_, _], _ => rfl⟩
theorem f_dot_in (Z : Wd w K mg base h) : FnFact PP w K mg base (GG K mg) "dot_in" i_dot_in := by
  obtain ⟨fd, F, a, b, c⟩ := g_dot_in Z
  exact ⟨_, fd, _, a, b, c, F, fun _ _ _ _ h => fnM_len h⟩
def N_unit_in : List Str := ["size", "column", "row"]
def c_unit_in : S := (.seq (.ret (.tup (.cons (.var 0) (.cons (.call (bi tupleD) (.cons (.lc [2] (.nm 2) (.rng1 (.var 0)) (.c (.bl true)) (.call (bi tupleD) (.cons (.lc [1] (.nm 1) (.rng1 (.var 0)) (.c (.bl true)) (.call (bi intD) (.cons (.cmp .Eq (.var 2) (.var 1)) .nil))) .nil))) .nil)) .nil)))) .pass)
def m_unit_in : List D → M D := fnM 3 1 c_unit_in
def i_unit_in : FnI := ⟨1, 1, m_unit_in⟩
def G_unit_in : Gam := ⟨N_unit_in, defScope (topS 21), 0, [], [], ["tuple", "range", "int"], [], cellsOf (defScope (topS 21))⟩
theorem k_unit_in : compSs 400 G_unit_in (defBody (topS 21)) = some c_unit_in := by kernel_rfl
theorem s_unit_in : FnScope N_unit_in ["size"] (defScope (topS 21)) := ⟨rfl, rfl, rfl, by decide +kernel, rfl, by decide +kernel, by decide +kernel⟩
theorem g_unit_in (Z : Wd w K mg base h) : ∃ fd, FnOk PP w K mg base (L2.CX PP w) 1 (He.fAd K ("unit_in", none)) fd ["size"] (spD (GG K mg) (fnM 3 1 c_unit_in) 1) ∧ mg "unit_in" = some (.ref (He.fAd K ("unit_in", none))) ∧ PySem.W.keepIn K (.ref (He.fAd K ("unit_in", none))) = true ∧ Binds K fd ["size"] [] := by
  obtain ⟨fd, F⟩ := Z.c.def_ 10 (d := d_unit_in) rfl
  exact ⟨fd, fn_core F s_unit_in (Γ := G_unit_in) rfl rfl k_unit_in rfl rfl TabOk.nil CstOk.nil (FreeOk.cons (He.free_ok Z.X Z.N (Z.c.fact 40 rfl)) (FreeOk.cons (He.free_ok Z.X Z.N (Z.c.fact 46 rfl)) (FreeOk.cons (He.free_ok Z.X Z.N (Z.c.fact 38 rfl)) FreeOk.nil))), He.glo_ok Z.X Z.N (Z.c.fact 10 rfl), F.kp, FunD.bindsN F fun _ _ _ _ _ _ us hl => match us, hl with | [_], _ => rfl⟩
theorem f_unit_in (Z : Wd w K mg base h) : FnFact PP w K mg base (GG K mg) "unit_in" i_unit_in := by
  obtain ⟨fd, F, a, b, c⟩ := g_unit_in Z
  exact ⟨_, fd, _, a, b, c, F, fun _ _ _ _ h => fnM_len h⟩
def N_nought_in : List Str := ["height", "width"]
def c_nought_in : S := (.seq (.ret (.tup (.cons (.var 1) (.cons (.bin .Mult (.tup (.cons (.bin .Mult (.tup (.cons (.c (.int 0)) .nil)) (.var 1)) .nil)) (.var 0)) .nil)))) .pass)
def m_nought_in : List D → M D := fnM 2 2 c_nought_in
def i_nought_in : FnI := ⟨1, 2, m_nought_in⟩
def G_nought_in : Gam := ⟨N_nought_in, defScope (topS 22), 0, [], [], [], [], cellsOf (defScope (topS 22))⟩
theorem k_nought_in : compSs 400 G_nought_in (defBody (topS 22)) = some c_nought_in := by kernel_rfl
theorem s_nought_in : FnScope N_nought_in ["height", "width"] (defScope (topS 22)) := ⟨rfl, rfl, rfl, by decide +kernel, rfl, by decide +kernel, by decide +kernel⟩
theorem g_nought_in (Z : Wd w K mg base h) : ∃ fd, FnOk PP w K mg base (L2.CX PP w) 1 (He.fAd K ("nought_in", none)) fd ["height", "width"] (spD (GG K mg) (fnM 2 2 c_nought_in) 2) ∧ mg "nought_in" = some (.ref (He.fAd K ("nought_in", none))) ∧ PySem.W.keepIn K (.ref (He.fAd K ("nought_in", none))) = true ∧ Binds K fd ["height", "width"] [] := by
  obtain ⟨fd, F⟩ := Z.c.def_ 11 (d := d_nought_in) rfl
  exact ⟨fd, fn_core F s_nought_in (Γ := G_nought_in) rfl rfl k_nought_in rfl rfl TabOk.nil CstOk.nil FreeOk.nil, He.glo_ok Z.X Z.N (Z.c.fact 11 rfl), F.kp, FunD.bindsN F fun _ _ _ _ _ _ us hl => match us, hl with | [_, _], _ => rfl⟩
theorem f_nought_in (Z : Wd w K mg base h) : FnFact PP w K mg base (GG K mg) "nought_in" i_nought_in := by
  obtain ⟨fd, F, a, b, c⟩ := g_nought_in Z
  exact ⟨_, fd, _, a, b, c, F, fun _ _ _ _ h => fnM_len h⟩
def N_turned_in : List Str := ["grid", "width", "rows", "row", "column"]
def c_turned_in : S := (.seq (.asg (.cons (.nm 1) (.cons (.nm 2) .nil)) (.var 0)) (.seq (.ret (.tup (.cons (.call (bi lenD) (.cons (.var 2) .nil)) (.cons (.call (bi tupleD) (.cons (.lc [4] (.nm 4) (.rng1 (.var 1)) (.c (.bl true)) (.call (bi tupleD) (.cons (.lc [3] (.nm 3) (.it1 (.var 2)) (.c (.bl true)) (.ix (.var 3) (.var 4))) .nil))) .nil)) .nil)))) .pass))
def m_turned_in : List D → M D := fnM 5 1 c_turned_in
def i_turned_in : FnI := ⟨1, 1, m_turned_in⟩
def G_turned_in : Gam := ⟨N_turned_in, defScope (topS 23), 0, [], [], ["tuple", "range", "len"], [], cellsOf (defScope (topS 23))⟩
theorem k_turned_in : compSs 400 G_turned_in (defBody (topS 23)) = some c_turned_in := by kernel_rfl
theorem s_turned_in : FnScope N_turned_in ["grid"] (defScope (topS 23)) := ⟨rfl, rfl, rfl, by decide +kernel, rfl, by decide +kernel, by decide +kernel⟩
theorem g_turned_in (Z : Wd w K mg base h) : ∃ fd, FnOk PP w K mg base (L2.CX PP w) 1 (He.fAd K ("turned_in", none)) fd ["grid"] (spD (GG K mg) (fnM 5 1 c_turned_in) 1) ∧ mg "turned_in" = some (.ref (He.fAd K ("turned_in", none))) ∧ PySem.W.keepIn K (.ref (He.fAd K ("turned_in", none))) = true ∧ Binds K fd ["grid"] [] := by
  obtain ⟨fd, F⟩ := Z.c.def_ 12 (d := d_turned_in) rfl
  exact ⟨fd, fn_core F s_turned_in (Γ := G_turned_in) rfl rfl k_turned_in rfl rfl TabOk.nil CstOk.nil (FreeOk.cons (He.free_ok Z.X Z.N (Z.c.fact 40 rfl)) (FreeOk.cons (He.free_ok Z.X Z.N (Z.c.fact 46 rfl)) (FreeOk.cons (He.free_ok Z.X Z.N (Z.c.fact 41 rfl)) FreeOk.nil))), He.glo_ok Z.X Z.N (Z.c.fact 12 rfl), F.kp, FunD.bindsN F fun _ _ _ _ _ _ us hl => match us, hl with | [_], _ => rfl⟩
theorem f_turned_in (Z : Wd w K mg base h) : FnFact PP w K mg base (GG K mg) "turned_in" i_turned_in := by
  obtain ⟨fd, F, a, b, c⟩ := g_turned_in Z
  exact ⟨_, fd, _, a, b, c, F, fun _ _ _ _ h => fnM_len h⟩
def N_times_in : List Str := ["one", "other", "columns", "column", "row"]
def c_times_in : S := (.seq (.asg (.nm 2) (.ix (.call m_turned_in (.cons (.var 1) .nil)) (.c (.int 1)))) (.seq (.ret (.tup (.cons (.ix (.var 1) (.c (.int 0))) (.cons (.call (bi tupleD) (.cons (.lc [4] (.nm 4) (.it1 (.ix (.var 0) (.c (.int 1)))) (.c (.bl true)) (.call (bi tupleD) (.cons (.lc [3] (.nm 3) (.it1 (.var 2)) (.c (.bl true)) (.call m_dot_in (.cons (.var 4) (.cons (.var 3) .nil)))) .nil))) .nil)) .nil)))) .pass))
def m_times_in : List D → M D := fnM 5 2 c_times_in
def i_times_in : FnI := ⟨2, 2, m_times_in⟩
def G_times_in : Gam := ⟨N_times_in, defScope (topS 24), 1, [("dot_in", i_dot_in), ("turned_in", i_turned_in)], [], ["tuple"], [], cellsOf (defScope (topS 24))⟩
theorem k_times_in : compSs 400 G_times_in (defBody (topS 24)) = some c_times_in := by kernel_rfl
theorem s_times_in : FnScope N_times_in ["one", "other"] (defScope (topS 24)) := ⟨rfl, rfl, rfl, by decide +kernel, rfl, by decide +kernel, by decide +kernel⟩
theorem g_times_in (Z : Wd w K mg base h) : ∃ fd, FnOk PP w K mg base (L2.CX PP w) 2 (He.fAd K ("times_in", none)) fd ["one", "other"] (spD (GG K mg) (fnM 5 2 c_times_in) 2) ∧ mg "times_in" = some (.ref (He.fAd K ("times_in", none))) ∧ PySem.W.keepIn K (.ref (He.fAd K ("times_in", none))) = true ∧ Binds K fd ["one", "other"] [] := by
  obtain ⟨fd, F⟩ := Z.c.def_ 13 (d := d_times_in) rfl
  exact ⟨fd, fn_core F s_times_in (Γ := G_times_in) rfl rfl k_times_in rfl rfl (TabOk.cons (f_dot_in Z) (TabOk.cons (f_turned_in Z) TabOk.nil)) CstOk.nil (FreeOk.cons (He.free_ok Z.X Z.N (Z.c.fact 40 rfl)) FreeOk.nil), He.glo_ok Z.X Z.N (Z.c.fact 13 rfl), F.kp, FunD.bindsN F fun _ _ _ _ _ _ us hl => match us, hl with | [_, _], _ => rfl⟩
theorem f_times_in (Z : Wd w K mg base h) : FnFact PP w K mg base (GG K mg) "times_in" i_times_in := by
  obtain ⟨fd, F, a, b, c⟩ := g_times_in Z
  exact ⟨_, fd, _, a, b, c, F, fun _ _ _ _ h => fnM_len h⟩
def N_beside_in : List Str := ["one", "other", "left", "right"]
def c_beside_in : S := (.seq (.ret (.tup (.cons (.bin .Add (.ix (.var 0) (.c (.int 0))) (.ix (.var 1) (.c (.int 0)))) (.cons (.call (bi tupleD) (.cons (.lc [2, 3] (.cons (.nm 2) (.cons (.nm 3) .nil)) (.zip (.ix (.var 0) (.c (.int 1))) (.ix (.var 1) (.c (.int 1)))) (.c (.bl true)) (.tup (.star (.var 2) (.star (.var 3) .nil)))) .nil)) .nil)))) .pass)
def m_beside_in : List D → M D := fnM 4 2 c_beside_in
def i_beside_in : FnI := ⟨1, 2, m_beside_in⟩
def G_beside_in : Gam := ⟨N_beside_in, defScope (topS 25), 0, [], [], ["tuple", "zip"], [], cellsOf (defScope (topS 25))⟩
theorem k_beside_in : compSs 400 G_beside_in (defBody (topS 25)) = some c_beside_in := by kernel_rfl
theorem s_beside_in : FnScope N_beside_in ["one", "other"] (defScope (topS 25)) := ⟨rfl, rfl, rfl, by decide +kernel, rfl, by decide +kernel, by decide +kernel⟩
theorem g_beside_in (Z : Wd w K mg base h) : ∃ fd, FnOk PP w K mg base (L2.CX PP w) 1 (He.fAd K ("beside_in", none)) fd ["one", "other"] (spD (GG K mg) (fnM 4 2 c_beside_in) 2) ∧ mg "beside_in" = some (.ref (He.fAd K ("beside_in", none))) ∧ PySem.W.keepIn K (.ref (He.fAd K ("beside_in", none))) = true ∧ Binds K fd ["one", "other"] [] := by
  obtain ⟨fd, F⟩ := Z.c.def_ 14 (d := d_beside_in) rfl
  exact ⟨fd, fn_core F s_beside_in (Γ := G_beside_in) rfl rfl k_beside_in rfl rfl TabOk.nil CstOk.nil (FreeOk.cons (He.free_ok Z.X Z.N (Z.c.fact 40 rfl)) (FreeOk.cons (He.free_ok Z.X Z.N (Z.c.fact 45 rfl)) FreeOk.nil)), He.glo_ok Z.X Z.N (Z.c.fact 14 rfl), F.kp, FunD.bindsN F fun _ _ _ _ _ _ us hl => match us, hl with | [_, _], _ => rfl⟩
theorem f_beside_in (Z : Wd w K mg base h) : FnFact PP w K mg base (GG K mg) "beside_in" i_beside_in := by
  obtain ⟨fd, F, a, b, c⟩ := g_beside_in Z
  exact ⟨_, fd, _, a, b, c, F, fun _ _ _ _ h => fnM_len h⟩
def N_over_in : List Str := ["one", "other"]
def c_over_in : S := (.seq (.ret (.tup (.cons (.ix (.var 0) (.c (.int 0))) (.cons (.tup (.star (.ix (.var 0) (.c (.int 1))) (.star (.ix (.var 1) (.c (.int 1))) .nil))) .nil)))) .pass)
def m_over_in : List D → M D := fnM 2 2 c_over_in
def i_over_in : FnI := ⟨1, 2, m_over_in⟩
def G_over_in : Gam := ⟨N_over_in, defScope (topS 26), 0, [], [], [], [], cellsOf (defScope (topS 26))⟩
theorem k_over_in : compSs 400 G_over_in (defBody (topS 26)) = some c_over_in := by kernel_rfl
theorem s_over_in : FnScope N_over_in ["one", "other"] (defScope (topS 26)) := ⟨rfl, rfl, rfl, by decide +kernel, rfl, by decide +kernel, by decide +kernel⟩
theorem g_over_in (Z : Wd w K mg base h) : ∃ fd, FnOk PP w K mg base (L2.CX PP w) 1 (He.fAd K ("over_in", none)) fd ["one", "other"] (spD (GG K mg) (fnM 2 2 c_over_in) 2) ∧ mg "over_in" = some (.ref (He.fAd K ("over_in", none))) ∧ PySem.W.keepIn K (.ref (He.fAd K ("over_in", none))) = true ∧ Binds K fd ["one", "other"] [] := by
  obtain ⟨fd, F⟩ := Z.c.def_ 15 (d := d_over_in) rfl
  exact ⟨fd, fn_core F s_over_in (Γ := G_over_in) rfl rfl k_over_in rfl rfl TabOk.nil CstOk.nil FreeOk.nil, He.glo_ok Z.X Z.N (Z.c.fact 15 rfl), F.kp, FunD.bindsN F fun _ _ _ _ _ _ us hl => match us, hl with | [_, _], _ => rfl⟩
theorem f_over_in (Z : Wd w K mg base h) : FnFact PP w K mg base (GG K mg) "over_in" i_over_in := by
  obtain ⟨fd, F, a, b, c⟩ := g_over_in Z
  exact ⟨_, fd, _, a, b, c, F, fun _ _ _ _ h => fnM_len h⟩
def N_require_two_grids : List Str := ["one", "other"]
def c_require_two_grids : S := (.seq (.expr (.call m_require_grid (.cons (.var 0) .nil))) (.seq (.expr (.call m_require_grid (.cons (.var 1) .nil))) .pass))
def m_require_two_grids : List D → M D := fnM 2 2 c_require_two_grids
def i_require_two_grids : FnI := ⟨6, 2, m_require_two_grids⟩
def G_require_two_grids : Gam := ⟨N_require_two_grids, defScope (topS 27), 5, [("require_grid", i_require_grid)], [], [], [], cellsOf (defScope (topS 27))⟩
theorem k_require_two_grids : compSs 400 G_require_two_grids (defBody (topS 27)) = some c_require_two_grids := by kernel_rfl
theorem s_require_two_grids : FnScope N_require_two_grids ["one", "other"] (defScope (topS 27)) := ⟨rfl, rfl, rfl, by decide +kernel, rfl, by decide +kernel, by decide +kernel⟩
theorem g_require_two_grids (Z : Wd w K mg base h) : ∃ fd, FnOk PP w K mg base (L2.CX PP w) 6 (He.fAd K ("require_two_grids", none)) fd ["one", "other"] (spD (GG K mg) (fnM 2 2 c_require_two_grids) 2) ∧ mg "require_two_grids" = some (.ref (He.fAd K ("require_two_grids", none))) ∧ PySem.W.keepIn K (.ref (He.fAd K ("require_two_grids", none))) = true ∧ Binds K fd ["one", "other"] [] := by
  obtain ⟨fd, F⟩ := Z.c.def_ 16 (d := d_require_two_grids) rfl
  exact ⟨fd, fn_core F s_require_two_grids (Γ := G_require_two_grids) rfl rfl k_require_two_grids rfl rfl (TabOk.cons (f_require_grid Z) TabOk.nil) CstOk.nil FreeOk.nil, He.glo_ok Z.X Z.N (Z.c.fact 16 rfl), F.kp, FunD.bindsN F fun _ _ _ _ _ _ us hl => match us, hl with | [_, _], _ => rfl⟩
theorem f_require_two_grids (Z : Wd w K mg base h) : FnFact PP w K mg base (GG K mg) "require_two_grids" i_require_two_grids := by
  obtain ⟨fd, F, a, b, c⟩ := g_require_two_grids Z
  exact ⟨_, fd, _, a, b, c, F, fun _ _ _ _ h => fnM_len h⟩
def N_need_size : List Str := ["size"]
def c_need_size : S := (.seq (.ifs (.cmp .Gt (.var 0) (.c (.int 60))) (.seq .never .pass) .pass) .pass)
def m_need_size : List D → M D := fnM 1 1 c_need_size
def i_need_size : FnI := ⟨1, 1, m_need_size⟩
def G_need_size : Gam := ⟨N_need_size, defScope (topS 28), 0, [], [("MAX_SIZE", (.int 60))], [], [], cellsOf (defScope (topS 28))⟩
theorem k_need_size : compSs 400 G_need_size (defBody (topS 28)) = some c_need_size := by kernel_rfl
theorem s_need_size : FnScope N_need_size ["size"] (defScope (topS 28)) := ⟨rfl, rfl, rfl, by decide +kernel, rfl, by decide +kernel, by decide +kernel⟩
theorem g_need_size (Z : Wd w K mg base h) : ∃ fd, FnOk PP w K mg base (L2.CX PP w) 1 (He.fAd K ("need_size", none)) fd ["size"] (spD (GG K mg) (fnM 1 1 c_need_size) 1) ∧ mg "need_size" = some (.ref (He.fAd K ("need_size", none))) ∧ PySem.W.keepIn K (.ref (He.fAd K ("need_size", none))) = true ∧ Binds K fd ["size"] [] := by
  obtain ⟨fd, F⟩ := Z.c.def_ 17 (d := d_need_size) rfl
  exact ⟨fd, fn_core F s_need_size (Γ := G_need_size) rfl rfl k_need_size rfl rfl TabOk.nil (CstOk.cons (cst_int (He.int_ok Z.X Z.N (Z.c.fact 51 rfl))) CstOk.nil) FreeOk.nil, He.glo_ok Z.X Z.N (Z.c.fact 17 rfl), F.kp, FunD.bindsN F fun _ _ _ _ _ _ us hl => match us, hl with | [_], _ => rfl⟩
theorem f_need_size (Z : Wd w K mg base h) : FnFact PP w K mg base (GG K mg) "need_size" i_need_size := by
  obtain ⟨fd, F, a, b, c⟩ := g_need_size Z
  exact ⟨_, fd, _, a, b, c, F, fun _ _ _ _ h => fnM_len h⟩
def N_unit_grid : List Str := ["size"]
def c_unit_grid : S := (.seq (.expr (.call m_require_within (.cons (.var 0) (.cons (.c (.int 0)) (.cons (.c (.int 60)) .nil))))) (.seq (.ret (.call m_unit_in (.cons (.var 0) .nil))) .pass))
def m_unit_grid : List D → M D := fnM 1 1 c_unit_grid
def i_unit_grid : FnI := ⟨4, 1, m_unit_grid⟩
def G_unit_grid : Gam := ⟨N_unit_grid, defScope (topS 29), 3, [("unit_in", i_unit_in), ("require_within", i_require_within)], [("MAX_SIZE", (.int 60))], [], [], cellsOf (defScope (topS 29))⟩
theorem k_unit_grid : compSs 400 G_unit_grid (defBody (topS 29)) = some c_unit_grid := by kernel_rfl
theorem s_unit_grid : FnScope N_unit_grid ["size"] (defScope (topS 29)) := ⟨rfl, rfl, rfl, by decide +kernel, rfl, by decide +kernel, by decide +kernel⟩
theorem g_unit_grid (Z : Wd w K mg base h) : ∃ fd, FnOk PP w K mg base (L2.CX PP w) 4 (He.fAd K ("unit_grid", none)) fd ["size"] (spD (GG K mg) (fnM 1 1 c_unit_grid) 1) ∧ mg "unit_grid" = some (.ref (He.fAd K ("unit_grid", none))) ∧ PySem.W.keepIn K (.ref (He.fAd K ("unit_grid", none))) = true ∧ Binds K fd ["size"] [] := by
  obtain ⟨fd, F⟩ := Z.c.def_ 18 (d := d_unit_grid) rfl
  exact ⟨fd, fn_core F s_unit_grid (Γ := G_unit_grid) rfl rfl k_unit_grid rfl rfl (TabOk.cons (f_unit_in Z) (TabOk.cons (f_require_within Z) TabOk.nil)) (CstOk.cons (cst_int (He.int_ok Z.X Z.N (Z.c.fact 51 rfl))) CstOk.nil) FreeOk.nil, He.glo_ok Z.X Z.N (Z.c.fact 18 rfl), F.kp, FunD.bindsN F fun _ _ _ _ _ _ us hl => match us, hl with | [_], _ => rfl⟩
theorem f_unit_grid (Z : Wd w K mg base h) : FnFact PP w K mg base (GG K mg) "unit_grid" i_unit_grid := by
  obtain ⟨fd, F, a, b, c⟩ := g_unit_grid Z
  exact ⟨_, fd, _, a, b, c, F, fun _ _ _ _ h => fnM_len h⟩
def N_nought_grid : List Str := ["height", "width"]
def c_nought_grid : S := (.seq (.expr (.call m_require_within (.cons (.var 0) (.cons (.c (.int 0)) (.cons (.c (.int 60)) .nil))))) (.seq (.expr (.call m_require_within (.cons (.var 1) (.cons (.c (.int 0)) (.cons (.c (.int 60)) .nil))))) (.seq (.ret (.call m_nought_in (.cons (.var 0) (.cons (.var 1) .nil)))) .pass)))
def m_nought_grid : List D → M D := fnM 2 2 c_nought_grid
def i_nought_grid : FnI := ⟨4, 2, m_nought_grid⟩
def G_nought_grid : Gam := ⟨N_nought_grid, defScope (topS 30), 3, [("nought_in", i_nought_in), ("require_within", i_require_within)], [("MAX_SIZE", (.int 60))], [], [], cellsOf (defScope (topS 30))⟩
theorem k_nought_grid : compSs 400 G_nought_grid (defBody (topS 30)) = some c_nought_grid := by kernel_rfl
theorem s_nought_grid : FnScope N_nought_grid ["height", "width"] (defScope (topS 30)) := ⟨rfl, rfl, rfl, by decide +kernel, rfl, by decide +kernel, by decide +kernel⟩
theorem g_nought_grid (Z : Wd w K mg base h) : ∃ fd, FnOk PP w K mg base (L2.CX PP w) 4 (He.fAd K ("nought_grid", none)) fd ["height", "width"] (spD (GG K mg) (fnM 2 2 c_nought_grid) 2) ∧ mg "nought_grid" = some (.ref (He.fAd K ("nought_grid", none))) ∧ PySem.W.keepIn K (.ref (He.fAd K ("nought_grid", none))) = true ∧ Binds K fd ["height", "width"] [] := by
  obtain ⟨fd, F⟩ := Z.c.def_ 19 (d := d_nought_grid) rfl
  exact ⟨fd, fn_core F s_nought_grid (Γ := G_nought_grid) rfl rfl k_nought_grid rfl rfl (TabOk.cons (f_nought_in Z) (TabOk.cons (f_require_within Z) TabOk.nil)) (CstOk.cons (cst_int (He.int_ok Z.X Z.N (Z.c.fact 51 rfl))) CstOk.nil) FreeOk.nil, He.glo_ok Z.X Z.N (Z.c.fact 19 rfl), F.kp, FunD.bindsN F fun _ _ _ _ _ _ us hl => match us, hl with | [_, _], _ => rfl⟩
theorem f_nought_grid (Z : Wd w K mg base h) : FnFact PP w K mg base (GG K mg) "nought_grid" i_nought_grid := by
  obtain ⟨fd, F, a, b, c⟩ := g_nought_grid Z
  exact ⟨_, fd, _, a, b, c, F, fun _ _ _ _ h => fnM_len h⟩
def N_turned : List Str := ["grid"]
def c_turned : S := (.seq (.expr (.call m_require_grid (.cons (.var 0) .nil))) (.seq (.ret (.call m_turned_in (.cons (.var 0) .nil))) .pass))
def m_turned : List D → M D := fnM 1 1 c_turned
def i_turned : FnI := ⟨6, 1, m_turned⟩
def G_turned : Gam := ⟨N_turned, defScope (topS 31), 5, [("turned_in", i_turned_in), ("require_grid", i_require_grid)], [], [], [], cellsOf (defScope (topS 31))⟩
theorem k_turned : compSs 400 G_turned (defBody (topS 31)) = some c_turned := by kernel_rfl
theorem s_turned : FnScope N_turned ["grid"] (defScope (topS 31)) := ⟨rfl, rfl, rfl, by decide +kernel, rfl, by decide +kernel, by decide +kernel⟩
theorem g_turned (Z : Wd w K mg base h) : ∃ fd, FnOk PP w K mg base (L2.CX PP w) 6 (He.fAd K ("turned", none)) fd ["grid"] (spD (GG K mg) (fnM 1 1 c_turned) 1) ∧ mg "turned" = some (.ref (He.fAd K ("turned", none))) ∧ PySem.W.keepIn K (.ref (He.fAd K ("turned", none))) = true ∧ Binds K fd ["grid"] [] := by
  obtain ⟨fd, F⟩ := Z.c.def_ 20 (d := d_turned) rfl
  exact ⟨fd, fn_core F s_turned (Γ := G_turned) rfl rfl k_turned rfl rfl (TabOk.cons (f_turned_in Z) (TabOk.cons (f_require_grid Z) TabOk.nil)) CstOk.nil FreeOk.nil, He.glo_ok Z.X Z.N (Z.c.fact 20 rfl), F.kp, FunD.bindsN F fun _ _ _ _ _ _ us hl => match us, hl with | [_], _ => rfl⟩
theorem f_turned (Z : Wd w K mg base h) : FnFact PP w K mg base (GG K mg) "turned" i_turned := by
  obtain ⟨fd, F, a, b, c⟩ := g_turned Z
  exact ⟨_, fd, _, a, b, c, F, fun _ _ _ _ h => fnM_len h⟩
def N_grid_product : List Str := ["one", "other"]
def c_grid_product : S := (.seq (.expr (.call m_require_two_grids (.cons (.var 0) (.cons (.var 1) .nil)))) (.seq (.ifs (.cmp .NotEq (.ix (.var 0) (.c (.int 0))) (.call (bi lenD) (.cons (.ix (.var 1) (.c (.int 1))) .nil))) (.seq .never .pass) .pass) (.seq (.ret (.call m_times_in (.cons (.var 0) (.cons (.var 1) .nil)))) .pass)))
def m_grid_product : List D → M D := fnM 2 2 c_grid_product
def i_grid_product : FnI := ⟨7, 2, m_grid_product⟩
def G_grid_product : Gam := ⟨N_grid_product, defScope (topS 32), 6, [("times_in", i_times_in), ("require_two_grids", i_require_two_grids)], [], ["len"], [], cellsOf (defScope (topS 32))⟩
theorem k_grid_product : compSs 400 G_grid_product (defBody (topS 32)) = some c_grid_product := by kernel_rfl
theorem s_grid_product : FnScope N_grid_product ["one", "other"] (defScope (topS 32)) := ⟨rfl, rfl, rfl, by decide +kernel, rfl, by decide +kernel, by decide +kernel⟩
theorem g_grid_product (Z : Wd w K mg base h) : ∃ fd, FnOk PP w K mg base (L2.CX PP w) 7 (He.fAd K ("grid_product", none)) fd ["one", "other"] (spD (GG K mg) (fnM 2 2 c_grid_product) 2) ∧ mg "grid_product" = some (.ref (He.fAd K ("grid_product", none))) ∧ PySem.W.keepIn K (.ref (He.fAd K ("grid_product", none))) = true ∧ Binds K fd ["one", "other"] [] := by
  obtain ⟨fd, F⟩ := Z.c.def_ 21 (d := d_grid_product) rfl
  exact ⟨fd, fn_core F s_grid_product (Γ := G_grid_product) rfl rfl k_grid_product rfl rfl (TabOk.cons (f_times_in Z) (TabOk.cons (f_require_two_grids Z) TabOk.nil)) CstOk.nil (FreeOk.cons (He.free_ok Z.X Z.N (Z.c.fact 41 rfl)) FreeOk.nil), He.glo_ok Z.X Z.N (Z.c.fact 21 rfl), F.kp, FunD.bindsN F fun _ _ _ _ _ _ us hl => match us, hl with | [_, _], _ => rfl⟩
theorem f_grid_product (Z : Wd w K mg base h) : FnFact PP w K mg base (GG K mg) "grid_product" i_grid_product := by
  obtain ⟨fd, F, a, b, c⟩ := g_grid_product Z
  exact ⟨_, fd, _, a, b, c, F, fun _ _ _ _ h => fnM_len h⟩
def N_beside : List Str := ["one", "other"]
def c_beside : S := (.seq (.expr (.call m_require_two_grids (.cons (.var 0) (.cons (.var 1) .nil)))) (.seq (.ifs (.cmp .NotEq (.call (bi lenD) (.cons (.ix (.var 0) (.c (.int 1))) .nil)) (.call (bi lenD) (.cons (.ix (.var 1) (.c (.int 1))) .nil))) (.seq .never .pass) .pass) (.seq (.expr (.call m_need_size (.cons (.bin .Add (.ix (.var 0) (.c (.int 0))) (.ix (.var 1) (.c (.int 0)))) .nil))) (.seq (.ret (.call m_beside_in (.cons (.var 0) (.cons (.var 1) .nil)))) .pass))))
def m_beside : List D → M D := fnM 2 2 c_beside
def i_beside : FnI := ⟨7, 2, m_beside⟩
def G_beside : Gam := ⟨N_beside, defScope (topS 33), 6, [("beside_in", i_beside_in), ("need_size", i_need_size), ("require_two_grids", i_require_two_grids)], [], ["len"], [], cellsOf (defScope (topS 33))⟩
theorem k_beside : compSs 400 G_beside (defBody (topS 33)) = some c_beside := by kernel_rfl
theorem s_beside : FnScope N_beside ["one", "other"] (defScope (topS 33)) := ⟨rfl, rfl, rfl, by decide +kernel, rfl, by decide +kernel, by decide +kernel⟩
theorem g_beside (Z : Wd w K mg base h) : ∃ fd, FnOk PP w K mg base (L2.CX PP w) 7 (He.fAd K ("beside", none)) fd ["one", "other"] (spD (GG K mg) (fnM 2 2 c_beside) 2) ∧ mg "beside" = some (.ref (He.fAd K ("beside", none))) ∧ PySem.W.keepIn K (.ref (He.fAd K ("beside", none))) = true ∧ Binds K fd ["one", "other"] [] := by
  obtain ⟨fd, F⟩ := Z.c.def_ 22 (d := d_beside) rfl
  exact ⟨fd, fn_core F s_beside (Γ := G_beside) rfl rfl k_beside rfl rfl (TabOk.cons (f_beside_in Z) (TabOk.cons (f_need_size Z) (TabOk.cons (f_require_two_grids Z) TabOk.nil))) CstOk.nil (FreeOk.cons (He.free_ok Z.X Z.N (Z.c.fact 41 rfl)) FreeOk.nil), He.glo_ok Z.X Z.N (Z.c.fact 22 rfl), F.kp, FunD.bindsN F fun _ _ _ _ _ _ us hl => match us, hl with | [_, _], _ => rfl⟩
theorem f_beside (Z : Wd w K mg base h) : FnFact PP w K mg base (GG K mg) "beside" i_beside := by
  obtain ⟨fd, F, a, b, c⟩ := g_beside Z
  exact ⟨_, fd, _, a, b, c, F, fun _ _ _ _ h => fnM_len h⟩
def N_over : List Str := ["one", "other"]
def c_over : S := (.seq (.expr (.call m_require_two_grids (.cons (.var 0) (.cons (.var 1) .nil)))) (.seq (.ifs (.cmp .NotEq (.ix (.var 0) (.c (.int 0))) (.ix (.var 1) (.c (.int 0)))) (.seq .never .pass) .pass) (.seq (.expr (.call m_need_size (.cons (.bin .Add (.call (bi lenD) (.cons (.ix (.var 0) (.c (.int 1))) .nil)) (.call (bi lenD) (.cons (.ix (.var 1) (.c (.int 1))) .nil))) .nil))) (.seq (.ret (.call m_over_in (.cons (.var 0) (.cons (.var 1) .nil)))) .pass))))
def m_over : List D → M D := fnM 2 2 c_over
def i_over : FnI := ⟨7, 2, m_over⟩
def G_over : Gam := ⟨N_over, defScope (topS 34), 6, [("over_in", i_over_in), ("need_size", i_need_size), ("require_two_grids", i_require_two_grids)], [], ["len"], [], cellsOf (defScope (topS 34))⟩
theorem k_over : compSs 400 G_over (defBody (topS 34)) = some c_over := by kernel_rfl
theorem s_over : FnScope N_over ["one", "other"] (defScope (topS 34)) := ⟨rfl, rfl, rfl, by decide +kernel, rfl, by decide +kernel, by decide +kernel⟩
theorem g_over (Z : Wd w K mg base h) : ∃ fd, FnOk PP w K mg base (L2.CX PP w) 7 (He.fAd K ("over", none)) fd ["one", "other"] (spD (GG K mg) (fnM 2 2 c_over) 2) ∧ mg "over" = some (.ref (He.fAd K ("over", none))) ∧ PySem.W.keepIn K (.ref (He.fAd K ("over", none))) = true ∧ Binds K fd ["one", "other"] [] := by
  obtain ⟨fd, F⟩ := Z.c.def_ 23 (d := d_over) rfl
  exact ⟨fd, fn_core F s_over (Γ := G_over) rfl rfl k_over rfl rfl (TabOk.cons (f_over_in Z) (TabOk.cons (f_need_size Z) (TabOk.cons (f_require_two_grids Z) TabOk.nil))) CstOk.nil (FreeOk.cons (He.free_ok Z.X Z.N (Z.c.fact 41 rfl)) FreeOk.nil), He.glo_ok Z.X Z.N (Z.c.fact 23 rfl), F.kp, FunD.bindsN F fun _ _ _ _ _ _ us hl => match us, hl with | [_, _], _ => rfl⟩
theorem f_over (Z : Wd w K mg base h) : FnFact PP w K mg base (GG K mg) "over" i_over := by
  obtain ⟨fd, F, a, b, c⟩ := g_over Z
  exact ⟨_, fd, _, a, b, c, F, fun _ _ _ _ h => fnM_len h⟩
def N__law_hat : List Str := ["_law_script", "_law_spot", "_law_cell", "_law_great", "_law_seed"]
def c__law_hat : S := (.seq (.asg (.nm 2) (.ite (.cmp .Lt (.var 1) (.call (bi lenD) (.cons (.var 0) .nil))) (.call (bi intD) (.cons (.ix (.var 0) (.var 1)) .nil)) (.bin .Add (.bin .Mult (.c (.int 311)) (.var 1)) (.c (.int 47))))) (.seq (.asg (.nm 3) (.bin .Mod (.call (bi intD) (.cons (.call (bi absD) (.cons (.var 2) .nil)) .nil)) (.bin .Pow (.bin .Pow (.c (.int 10)) (.c (.int 51))) (.c (.int 8))))) (.seq (.asg (.nm 4) (.call (bi intD) (.cons (.bin .Add (.bin .Add (.bin .Add (.bin .Mult (.bin .Mod (.var 3) (.c (.int 2305843009213693907))) (.c (.int 83))) (.bin .Mult (.c (.int 5261)) (.var 1))) (.bin .Mult (.c (.int 29)) (.call (bi intD) (.cons (.cmp .Lt (.var 2) (.c (.int 0))) .nil)))) (.c (.int 61))) .nil))) (.seq (.ret (.lstM (.cons (.call (bi maxD) (.cons (.c (.int 0)) (.cons (.bin .Sub (.var 3) (.bin .Pow (.c (.int 10)) (.c (.int 16)))) .nil))) (.cons (.bin .Mod (.var 4) (.c (.int 2305843009213693951))) (.cons (.c (.int 0)) .nil))))) .pass))))
def r__law_hat : List D → M D := fnM 5 2 c__law_hat
def m__law_hat : List D → M D := mHat
def i__law_hat : FnI := ⟨1, 2, m__law_hat⟩
def G__law_hat : Gam := ⟨N__law_hat, defScope (topS 36), 0, [], [], ["max", "int", "abs", "len"], [(103, 11)], cellsOf (defScope (topS 36))⟩
theorem k__law_hat : compSs 400 G__law_hat (defBody (topS 36)) = some c__law_hat := by kernel_rfl
theorem s__law_hat : FnScope N__law_hat ["_law_script", "_law_spot"] (defScope (topS 36)) := ⟨rfl, rfl, rfl, by decide +kernel, rfl, by decide +kernel, by decide +kernel⟩
theorem g__law_hat (Z : Wd w K mg base h) : ∃ fd, FnOk PP w K mg base (L2.CX PP w) 1 (He.fAd K ("_law_hat", none)) fd ["_law_script", "_law_spot"] (spD (GG K mg) (fnM 5 2 c__law_hat) 2) ∧ mg "_law_hat" = some (.ref (He.fAd K ("_law_hat", none))) ∧ PySem.W.keepIn K (.ref (He.fAd K ("_law_hat", none))) = true ∧ Binds K fd ["_law_script", "_law_spot"] [] := by
  obtain ⟨fd, F⟩ := Z.c.def_ 24 (d := d__law_hat) rfl
  exact ⟨fd, fn_core F s__law_hat (Γ := G__law_hat) rfl rfl k__law_hat rfl rfl TabOk.nil CstOk.nil (FreeOk.cons (He.free_ok Z.X Z.N (Z.c.fact 43 rfl)) (FreeOk.cons (He.free_ok Z.X Z.N (Z.c.fact 38 rfl)) (FreeOk.cons (He.free_ok Z.X Z.N (Z.c.fact 47 rfl)) (FreeOk.cons (He.free_ok Z.X Z.N (Z.c.fact 41 rfl)) FreeOk.nil)))), He.glo_ok Z.X Z.N (Z.c.fact 24 rfl), F.kp, FunD.bindsN F fun _ _ _ _ _ _ us hl => match us, hl with | [_, _], _ => rfl⟩
theorem f__law_hat (Z : Wd w K mg base h) : FnFact PP w K mg base (GG K mg) "_law_hat" i__law_hat := by
  obtain ⟨fd, F, a, b, c⟩ := g__law_hat Z
  exact ⟨_, fd, _, a, b, c, hat_fn F (hat_law c__law_hat rfl), fun _ _ _ _ h => hat_len h⟩
def N__law_up_to : List Str := ["_law_hat_here", "_law_total", "_law_found", "_law_one", "_law_two"]
def c__law_up_to : S := (.seq (.ifs (.cmp .Gt (.ix (.var 0) (.c (.int 0))) (.c (.int 0))) (.seq (.asg (.nm 2) (.bin .Mod (.call (bi intD) (.cons (.ix (.var 0) (.c (.int 0))) .nil)) (.var 1))) (.seq (.setix (.var 0) (.c (.int 0)) (.bin .FloorDiv (.ix (.var 0) (.c (.int 0))) (.var 1))) (.seq (.ret (.var 2)) .pass))) .pass) (.seq (.setix (.var 0) (.c (.int 2)) (.bin .Add (.ix (.var 0) (.c (.int 2))) (.c (.int 1)))) (.seq (.asg (.nm 3) (.bin .Mod (.call (bi intD) (.cons (.bin .Add (.ix (.var 0) (.c (.int 1))) (.bin .Mult (.c (.int 86028157)) (.ix (.var 0) (.c (.int 2))))) .nil)) (.c (.int 2305843009213693951)))) (.seq (.asg (.nm 4) (.bin .Add (.bin .Add (.bin .Mult (.bin .Mod (.call (bi intD) (.cons (.bin .Add (.bin .Mult (.var 3) (.var 3)) (.c (.int 67867967))) .nil)) (.c (.int 2305843009213693921))) (.c (.int 15485863))) (.var 3)) (.bin .Mult (.c (.int 19)) (.ix (.var 0) (.c (.int 2)))))) (.seq (.ret (.bin .Mod (.call (bi intD) (.cons (.bin .FloorDiv (.var 4) (.c (.int 65539))) .nil)) (.var 1))) .pass)))))
def r__law_up_to : List D → M D := fnM 5 2 c__law_up_to
def m__law_up_to : List D → M D := mDraw
def i__law_up_to : FnI := ⟨1, 2, m__law_up_to⟩
def G__law_up_to : Gam := ⟨N__law_up_to, defScope (topS 37), 0, [], [], ["int"], [], cellsOf (defScope (topS 37))⟩
theorem k__law_up_to : compSs 400 G__law_up_to (defBody (topS 37)) = some c__law_up_to := by kernel_rfl
theorem s__law_up_to : FnScope N__law_up_to ["_law_hat_here", "_law_total"] (defScope (topS 37)) := ⟨rfl, rfl, rfl, by decide +kernel, rfl, by decide +kernel, by decide +kernel⟩
theorem g__law_up_to (Z : Wd w K mg base h) : ∃ fd, FnOk PP w K mg base (L2.CX PP w) 1 (He.fAd K ("_law_up_to", none)) fd ["_law_hat_here", "_law_total"] (spD (GG K mg) (fnM 5 2 c__law_up_to) 2) ∧ mg "_law_up_to" = some (.ref (He.fAd K ("_law_up_to", none))) ∧ PySem.W.keepIn K (.ref (He.fAd K ("_law_up_to", none))) = true ∧ Binds K fd ["_law_hat_here", "_law_total"] [] := by
  obtain ⟨fd, F⟩ := Z.c.def_ 25 (d := d__law_up_to) rfl
  exact ⟨fd, fn_core F s__law_up_to (Γ := G__law_up_to) rfl rfl k__law_up_to rfl rfl TabOk.nil CstOk.nil (FreeOk.cons (He.free_ok Z.X Z.N (Z.c.fact 38 rfl)) FreeOk.nil), He.glo_ok Z.X Z.N (Z.c.fact 25 rfl), F.kp, FunD.bindsN F fun _ _ _ _ _ _ us hl => match us, hl with | [_, _], _ => rfl⟩
theorem f__law_up_to (Z : Wd w K mg base h) : FnFact PP w K mg base (GG K mg) "_law_up_to" i__law_up_to := by
  obtain ⟨fd, F, a, b, c⟩ := g__law_up_to Z
  exact ⟨_, fd, _, a, b, c, up_fn F (up_law c__law_up_to rfl), fun _ _ _ _ h => draw_len h⟩
def N__law_out_of : List Str := ["_law_hat_here", "_law_items"]
def c__law_out_of : S := (.seq (.ret (.ix (.var 1) (.call m__law_up_to (.cons (.var 0) (.cons (.call (bi lenD) (.cons (.var 1) .nil)) .nil))))) .pass)
def m__law_out_of : List D → M D := fnM 2 2 c__law_out_of
def i__law_out_of : FnI := ⟨2, 2, m__law_out_of⟩
def G__law_out_of : Gam := ⟨N__law_out_of, defScope (topS 38), 1, [("_law_up_to", i__law_up_to)], [], ["len"], [], cellsOf (defScope (topS 38))⟩
theorem k__law_out_of : compSs 400 G__law_out_of (defBody (topS 38)) = some c__law_out_of := by kernel_rfl
theorem s__law_out_of : FnScope N__law_out_of ["_law_hat_here", "_law_items"] (defScope (topS 38)) := ⟨rfl, rfl, rfl, by decide +kernel, rfl, by decide +kernel, by decide +kernel⟩
theorem g__law_out_of (Z : Wd w K mg base h) : ∃ fd, FnOk PP w K mg base (L2.CX PP w) 2 (He.fAd K ("_law_out_of", none)) fd ["_law_hat_here", "_law_items"] (spD (GG K mg) (fnM 2 2 c__law_out_of) 2) ∧ mg "_law_out_of" = some (.ref (He.fAd K ("_law_out_of", none))) ∧ PySem.W.keepIn K (.ref (He.fAd K ("_law_out_of", none))) = true ∧ Binds K fd ["_law_hat_here", "_law_items"] [] := by
  obtain ⟨fd, F⟩ := Z.c.def_ 26 (d := d__law_out_of) rfl
  exact ⟨fd, fn_core F s__law_out_of (Γ := G__law_out_of) rfl rfl k__law_out_of rfl rfl (TabOk.cons (f__law_up_to Z) TabOk.nil) CstOk.nil (FreeOk.cons (He.free_ok Z.X Z.N (Z.c.fact 41 rfl)) FreeOk.nil), He.glo_ok Z.X Z.N (Z.c.fact 26 rfl), F.kp, FunD.bindsN F fun _ _ _ _ _ _ us hl => match us, hl with | [_, _], _ => rfl⟩
theorem f__law_out_of (Z : Wd w K mg base h) : FnFact PP w K mg base (GG K mg) "_law_out_of" i__law_out_of := by
  obtain ⟨fd, F, a, b, c⟩ := g__law_out_of Z
  exact ⟨_, fd, _, a, b, c, F, fun _ _ _ _ h => fnM_len h⟩
def N__law_unit : List Str := ["_law_size", "_law_to", "_law_at"]
def c__law_unit : S := (.seq (.ret (.tup (.cons (.var 0) (.cons (.call (bi tupleD) (.cons (.lc [2] (.nm 2) (.rng1 (.var 0)) (.c (.bl true)) (.call (bi tupleD) (.cons (.lc [1] (.nm 1) (.rng1 (.var 0)) (.c (.bl true)) (.call (bi intD) (.cons (.cmp .Eq (.var 2) (.var 1)) .nil))) .nil))) .nil)) .nil)))) .pass)
def m__law_unit : List D → M D := fnM 3 1 c__law_unit
def i__law_unit : FnI := ⟨1, 1, m__law_unit⟩
def G__law_unit : Gam := ⟨N__law_unit, defScope (topS 39), 0, [], [], ["tuple", "range", "int"], [], cellsOf (defScope (topS 39))⟩
theorem k__law_unit : compSs 400 G__law_unit (defBody (topS 39)) = some c__law_unit := by kernel_rfl
theorem s__law_unit : FnScope N__law_unit ["_law_size"] (defScope (topS 39)) := ⟨rfl, rfl, rfl, by decide +kernel, rfl, by decide +kernel, by decide +kernel⟩
theorem g__law_unit (Z : Wd w K mg base h) : ∃ fd, FnOk PP w K mg base (L2.CX PP w) 1 (He.fAd K ("_law_unit", none)) fd ["_law_size"] (spD (GG K mg) (fnM 3 1 c__law_unit) 1) ∧ mg "_law_unit" = some (.ref (He.fAd K ("_law_unit", none))) ∧ PySem.W.keepIn K (.ref (He.fAd K ("_law_unit", none))) = true ∧ Binds K fd ["_law_size"] [] := by
  obtain ⟨fd, F⟩ := Z.c.def_ 27 (d := d__law_unit) rfl
  exact ⟨fd, fn_core F s__law_unit (Γ := G__law_unit) rfl rfl k__law_unit rfl rfl TabOk.nil CstOk.nil (FreeOk.cons (He.free_ok Z.X Z.N (Z.c.fact 40 rfl)) (FreeOk.cons (He.free_ok Z.X Z.N (Z.c.fact 46 rfl)) (FreeOk.cons (He.free_ok Z.X Z.N (Z.c.fact 38 rfl)) FreeOk.nil))), He.glo_ok Z.X Z.N (Z.c.fact 27 rfl), F.kp, FunD.bindsN F fun _ _ _ _ _ _ us hl => match us, hl with | [_], _ => rfl⟩
theorem f__law_unit (Z : Wd w K mg base h) : FnFact PP w K mg base (GG K mg) "_law_unit" i__law_unit := by
  obtain ⟨fd, F, a, b, c⟩ := g__law_unit Z
  exact ⟨_, fd, _, a, b, c, F, fun _ _ _ _ h => fnM_len h⟩
def N__law_is_row : List Str := ["_law_value", "_law_size", "_law_entry"]
def c__law_is_row : S := (.seq (.ifs (.or_ (.not_ (.call (bi isiD) (.cons (.var 0) (.cons (.c (.ty "tuple")) .nil)))) (.cmp .NotEq (.call (bi lenD) (.cons (.var 0) .nil)) (.var 1))) (.seq (.ret (.c (.bl false))) .pass) .pass) (.seq (.ret (.cmp .Eq (.lc [2] (.nm 2) (.it1 (.var 0)) (.or_ (.not_ (.call (bi isiD) (.cons (.var 2) (.cons (.c (.ty "int")) .nil)))) (.call (bi isiD) (.cons (.var 2) (.cons (.c (.ty "bool")) .nil)))) (.var 2)) (.lst .nil))) .pass))
def m__law_is_row : List D → M D := fnM 3 2 c__law_is_row
def i__law_is_row : FnI := ⟨1, 2, m__law_is_row⟩
def G__law_is_row : Gam := ⟨N__law_is_row, defScope (topS 40), 0, [], [], ["isinstance", "int", "bool", "tuple", "len"], [], cellsOf (defScope (topS 40))⟩
theorem k__law_is_row : compSs 400 G__law_is_row (defBody (topS 40)) = some c__law_is_row := by kernel_rfl
theorem s__law_is_row : FnScope N__law_is_row ["_law_value", "_law_size"] (defScope (topS 40)) := ⟨rfl, rfl, rfl, by decide +kernel, rfl, by decide +kernel, by decide +kernel⟩
theorem g__law_is_row (Z : Wd w K mg base h) : ∃ fd, FnOk PP w K mg base (L2.CX PP w) 1 (He.fAd K ("_law_is_row", none)) fd ["_law_value", "_law_size"] (spD (GG K mg) (fnM 3 2 c__law_is_row) 2) ∧ mg "_law_is_row" = some (.ref (He.fAd K ("_law_is_row", none))) ∧ PySem.W.keepIn K (.ref (He.fAd K ("_law_is_row", none))) = true ∧ Binds K fd ["_law_value", "_law_size"] [] := by
  obtain ⟨fd, F⟩ := Z.c.def_ 28 (d := d__law_is_row) rfl
  exact ⟨fd, fn_core F s__law_is_row (Γ := G__law_is_row) rfl rfl k__law_is_row rfl rfl TabOk.nil CstOk.nil (FreeOk.cons (He.free_ok Z.X Z.N (Z.c.fact 37 rfl)) (FreeOk.cons (He.free_ok Z.X Z.N (Z.c.fact 38 rfl)) (FreeOk.cons (He.free_ok Z.X Z.N (Z.c.fact 39 rfl)) (FreeOk.cons (He.free_ok Z.X Z.N (Z.c.fact 40 rfl)) (FreeOk.cons (He.free_ok Z.X Z.N (Z.c.fact 41 rfl)) FreeOk.nil))))), He.glo_ok Z.X Z.N (Z.c.fact 28 rfl), F.kp, FunD.bindsN F fun _ _ _ _ _ _ us hl => match us, hl with | [_, _], _ => rfl⟩
theorem f__law_is_row (Z : Wd w K mg base h) : FnFact PP w K mg base (GG K mg) "_law_is_row" i__law_is_row := by
  obtain ⟨fd, F, a, b, c⟩ := g__law_is_row Z
  exact ⟨_, fd, _, a, b, c, F, fun _ _ _ _ h => fnM_len h⟩
def N__law_jg_entry : List Str := ["_law_hat_here"]
def c__law_jg_entry : S := (.seq (.ret (.call m__law_out_of (.cons (.var 0) (.cons (.lst (.cons (.c (.int 0)) (.cons (.c (.int 0)) (.cons (.c (.int 1)) (.cons (.neg (.c (.int 1))) (.cons (.c (.int 2)) (.cons (.neg (.c (.int 3))) (.cons (.c (.int 7)) (.cons (.bin .Sub (.bin .Pow (.c (.int 10)) (.c (.int 12))) (.c (.int 1))) (.cons (.bin .Sub (.c (.int 1)) (.bin .Pow (.c (.int 10)) (.c (.int 12)))) (.cons (.bin .Sub (.call m__law_up_to (.cons (.var 0) (.cons (.bin .Pow (.c (.int 10)) (.c (.int 6))) .nil))) (.c (.int 500000))) .nil))))))))))) .nil)))) .pass)
def m__law_jg_entry : List D → M D := fnM 1 1 c__law_jg_entry
def i__law_jg_entry : FnI := ⟨3, 1, m__law_jg_entry⟩
def G__law_jg_entry : Gam := ⟨N__law_jg_entry, defScope (topS 41), 2, [("_law_out_of", i__law_out_of), ("_law_up_to", i__law_up_to)], [], [], [], cellsOf (defScope (topS 41))⟩
theorem k__law_jg_entry : compSs 400 G__law_jg_entry (defBody (topS 41)) = some c__law_jg_entry := by kernel_rfl
theorem s__law_jg_entry : FnScope N__law_jg_entry ["_law_hat_here"] (defScope (topS 41)) := ⟨rfl, rfl, rfl, by decide +kernel, rfl, by decide +kernel, by decide +kernel⟩
theorem g__law_jg_entry (Z : Wd w K mg base h) : ∃ fd, FnOk PP w K mg base (L2.CX PP w) 3 (He.fAd K ("_law_jg_entry", none)) fd ["_law_hat_here"] (spD (GG K mg) (fnM 1 1 c__law_jg_entry) 1) ∧ mg "_law_jg_entry" = some (.ref (He.fAd K ("_law_jg_entry", none))) ∧ PySem.W.keepIn K (.ref (He.fAd K ("_law_jg_entry", none))) = true ∧ Binds K fd ["_law_hat_here"] [] := by
  obtain ⟨fd, F⟩ := Z.c.def_ 29 (d := d__law_jg_entry) rfl
  exact ⟨fd, fn_core F s__law_jg_entry (Γ := G__law_jg_entry) rfl rfl k__law_jg_entry rfl rfl (TabOk.cons (f__law_out_of Z) (TabOk.cons (f__law_up_to Z) TabOk.nil)) CstOk.nil FreeOk.nil, He.glo_ok Z.X Z.N (Z.c.fact 29 rfl), F.kp, FunD.bindsN F fun _ _ _ _ _ _ us hl => match us, hl with | [_], _ => rfl⟩
theorem f__law_jg_entry (Z : Wd w K mg base h) : FnFact PP w K mg base (GG K mg) "_law_jg_entry" i__law_jg_entry := by
  obtain ⟨fd, F, a, b, c⟩ := g__law_jg_entry Z
  exact ⟨_, fd, _, a, b, c, F, fun _ _ _ _ h => fnM_len h⟩
def N__law_jg_wide : List Str := ["_law_hat_here", "_law_height", "_law_width", "_law_at", "_law_line"]
def c__law_jg_wide : S := (.seq (.ret (.tup (.cons (.var 2) (.cons (.call (bi tupleD) (.cons (.lc [4] (.nm 4) (.rng1 (.var 1)) (.c (.bl true)) (.call (bi tupleD) (.cons (.lc [3] (.nm 3) (.rng1 (.var 2)) (.c (.bl true)) (.call m__law_jg_entry (.cons (.var 0) .nil))) .nil))) .nil)) .nil)))) .pass)
def m__law_jg_wide : List D → M D := fnM 5 3 c__law_jg_wide
def i__law_jg_wide : FnI := ⟨4, 3, m__law_jg_wide⟩
def G__law_jg_wide : Gam := ⟨N__law_jg_wide, defScope (topS 42), 3, [("_law_jg_entry", i__law_jg_entry)], [], ["tuple", "range"], [], cellsOf (defScope (topS 42))⟩
theorem k__law_jg_wide : compSs 400 G__law_jg_wide (defBody (topS 42)) = some c__law_jg_wide := by kernel_rfl
theorem s__law_jg_wide : FnScope N__law_jg_wide ["_law_hat_here", "_law_height", "_law_width"] (defScope (topS 42)) := ⟨rfl, rfl, rfl, by decide +kernel, rfl, by decide +kernel, by decide +kernel⟩
theorem g__law_jg_wide (Z : Wd w K mg base h) : ∃ fd, FnOk PP w K mg base (L2.CX PP w) 4 (He.fAd K ("_law_jg_wide", none)) fd ["_law_hat_here", "_law_height", "_law_width"] (spD (GG K mg) (fnM 5 3 c__law_jg_wide) 3) ∧ mg "_law_jg_wide" = some (.ref (He.fAd K ("_law_jg_wide", none))) ∧ PySem.W.keepIn K (.ref (He.fAd K ("_law_jg_wide", none))) = true ∧ Binds K fd ["_law_hat_here", "_law_height", "_law_width"] [] := by
  obtain ⟨fd, F⟩ := Z.c.def_ 30 (d := d__law_jg_wide) rfl
  exact ⟨fd, fn_core F s__law_jg_wide (Γ := G__law_jg_wide) rfl rfl k__law_jg_wide rfl rfl (TabOk.cons (f__law_jg_entry Z) TabOk.nil) CstOk.nil (FreeOk.cons (He.free_ok Z.X Z.N (Z.c.fact 40 rfl)) (FreeOk.cons (He.free_ok Z.X Z.N (Z.c.fact 46 rfl)) FreeOk.nil)), He.glo_ok Z.X Z.N (Z.c.fact 30 rfl), F.kp, FunD.bindsN F fun _ _ _ _ _ _ us hl => match us, hl with | [_, _, _], _ => rfl⟩
theorem f__law_jg_wide (Z : Wd w K mg base h) : FnFact PP w K mg base (GG K mg) "_law_jg_wide" i__law_jg_wide := by
  obtain ⟨fd, F, a, b, c⟩ := g__law_jg_wide Z
  exact ⟨_, fd, _, a, b, c, F, fun _ _ _ _ h => fnM_len h⟩
def N__law_jg_bent : List Str := ["_law_hat_here", "_law_value", "_law_at", "_law_way"]
def c__law_jg_bent (r : List D → M D) : S := (.seq (.ifs (.and_ (.call (bi isiD) (.cons (.var 1) (.cons (.c (.ty "int")) .nil))) (.not_ (.call (bi isiD) (.cons (.var 1) (.cons (.c (.ty "bool")) .nil))))) (.seq (.ret (.call m__law_out_of (.cons (.var 0) (.cons (.lst (.cons (.bin .Add (.var 1) (.c (.int 1))) (.cons (.bin .Sub (.var 1) (.c (.int 1))) (.cons (.bin .Mult (.c (.int 2)) (.var 1)) (.cons (.bin .Sub (.c (.int 0)) (.var 1)) (.cons (.bin .Add (.var 1) (.c (.int 6))) (.cons (.c (.bl true)) (.cons (.c (.str (PySem.Str.ofString "7"))) .nil)))))))) .nil)))) .pass) .pass) (.seq (.ifs (.or_ (.not_ (.call (bi isiD) (.cons (.var 1) (.cons (.c (.ty "tuple")) .nil)))) (.cmp .Eq (.var 1) (.tup .nil))) (.seq (.ret (.call m__law_out_of (.cons (.var 0) (.cons (.lst (.cons (.tup .nil) (.cons (.tup (.cons (.tup .nil) .nil)) (.cons (.tup (.cons (.c (.int 0)) .nil)) (.cons (.c .non) (.cons (.c (.int 0)) (.cons (.c (.str (PySem.Str.ofString "made"))) (.cons (.lst .nil) (.cons (.tup (.cons (.c (.int 1)) (.cons (.tup .nil) .nil))) .nil))))))))) .nil)))) .pass) .pass) (.seq (.par 2 3 (.call m__law_up_to (.cons (.var 0) (.cons (.call (bi lenD) (.cons (.var 1) .nil)) .nil))) (.call m__law_up_to (.cons (.var 0) (.cons (.c (.int 12)) .nil)))) (.seq (.ifs (.cmp .Eq (.var 3) (.c (.int 0))) (.seq (.ret (.bin .Add (.sl (.var 1) (.c .non) (.int_ (.var 2))) (.sl (.var 1) (.int_ (.bin .Add (.var 2) (.c (.int 1)))) (.c .non)))) .pass) .pass) (.seq (.ifs (.cmp .Eq (.var 3) (.c (.int 1))) (.seq (.ret (.bin .Add (.sl (.var 1) (.c .non) (.int_ (.bin .Add (.var 2) (.c (.int 1))))) (.sl (.var 1) (.int_ (.var 2)) (.c .non)))) .pass) .pass) (.seq (.ifs (.cmp .Eq (.var 3) (.c (.int 2))) (.seq (.ret (.call (bi listD) (.cons (.var 1) .nil))) .pass) .pass) (.seq (.ret (.bin .Add (.bin .Add (.sl (.var 1) (.c .non) (.int_ (.var 2))) (.tup (.cons (.call r (.cons (.var 0) (.cons (.ix (.var 1) (.var 2)) .nil))) .nil))) (.sl (.var 1) (.int_ (.bin .Add (.var 2) (.c (.int 1)))) (.c .non)))) .pass)))))))
def m__law_jg_bent : Nat → List D → M D
  | 0 => fun _ => badM
  | k + 1 => fnM 4 2 (c__law_jg_bent (m__law_jg_bent k))
def i__law_jg_bent (k : Nat) : FnI := ⟨3 + k, 2, m__law_jg_bent k⟩
def G__law_jg_bent (k : Nat) : Gam := ⟨N__law_jg_bent, defScope (topS 43), 3 + k, [("_law_jg_bent", i__law_jg_bent k), ("_law_up_to", i__law_up_to), ("_law_out_of", i__law_out_of)], [], ["list", "len", "isinstance", "tuple", "int", "bool"], [], cellsOf (defScope (topS 43))⟩
theorem s__law_jg_bent : FnScope N__law_jg_bent ["_law_hat_here", "_law_value"] (defScope (topS 43)) := ⟨rfl, rfl, rfl, by decide +kernel, rfl, by decide +kernel, by decide +kernel⟩
theorem f__law_jg_bent_0 (Z : Wd w K mg base h) : FnFact PP w K mg base (GG K mg) "_law_jg_bent" (i__law_jg_bent 0) := by
  obtain ⟨fd, F⟩ := Z.c.def_ 31 (d := d__law_jg_bent) rfl
  exact ⟨He.fAd K ("_law_jg_bent", none), fd, ["_law_hat_here", "_law_value"], He.glo_ok Z.X Z.N (Z.c.fact 31 rfl), F.kp, FunD.bindsN F fun _ _ _ _ _ _ us hl => match us, hl with | [_, _], _ => rfl, fn_bad, fun _ _ _ _ h => h.elim⟩
theorem k__law_jg_bent_0 : compSs 400 (G__law_jg_bent 0) (defBody (topS 43)) = some (c__law_jg_bent (m__law_jg_bent 0)) := by kernel_rfl
theorem f__law_jg_bent_1 (Z : Wd w K mg base h) : FnFact PP w K mg base (GG K mg) "_law_jg_bent" (i__law_jg_bent 1) := by
  obtain ⟨fd, F⟩ := Z.c.def_ 31 (d := d__law_jg_bent) rfl
  exact ⟨He.fAd K ("_law_jg_bent", none), fd, ["_law_hat_here", "_law_value"], He.glo_ok Z.X Z.N (Z.c.fact 31 rfl), F.kp, FunD.bindsN F fun _ _ _ _ _ _ us hl => match us, hl with | [_, _], _ => rfl, fn_core F s__law_jg_bent (Γ := G__law_jg_bent 0) rfl rfl k__law_jg_bent_0 rfl rfl (TabOk.cons (f__law_jg_bent_0 Z) (TabOk.cons (f__law_up_to Z) (TabOk.cons (f__law_out_of Z) TabOk.nil))) CstOk.nil (FreeOk.cons (He.free_ok Z.X Z.N (Z.c.fact 48 rfl)) (FreeOk.cons (He.free_ok Z.X Z.N (Z.c.fact 41 rfl)) (FreeOk.cons (He.free_ok Z.X Z.N (Z.c.fact 37 rfl)) (FreeOk.cons (He.free_ok Z.X Z.N (Z.c.fact 40 rfl)) (FreeOk.cons (He.free_ok Z.X Z.N (Z.c.fact 38 rfl)) (FreeOk.cons (He.free_ok Z.X Z.N (Z.c.fact 39 rfl)) FreeOk.nil)))))), fun _ _ _ _ h => fnM_len h⟩
theorem k__law_jg_bent_1 : compSs 400 (G__law_jg_bent 1) (defBody (topS 43)) = some (c__law_jg_bent (m__law_jg_bent 1)) := by kernel_rfl
theorem f__law_jg_bent_2 (Z : Wd w K mg base h) : FnFact PP w K mg base (GG K mg) "_law_jg_bent" (i__law_jg_bent 2) := by
  obtain ⟨fd, F⟩ := Z.c.def_ 31 (d := d__law_jg_bent) rfl
  exact ⟨He.fAd K ("_law_jg_bent", none), fd, ["_law_hat_here", "_law_value"], He.glo_ok Z.X Z.N (Z.c.fact 31 rfl), F.kp, FunD.bindsN F fun _ _ _ _ _ _ us hl => match us, hl with | [_, _], _ => rfl, fn_core F s__law_jg_bent (Γ := G__law_jg_bent 1) rfl rfl k__law_jg_bent_1 rfl rfl (TabOk.cons (f__law_jg_bent_1 Z) (TabOk.cons (f__law_up_to Z) (TabOk.cons (f__law_out_of Z) TabOk.nil))) CstOk.nil (FreeOk.cons (He.free_ok Z.X Z.N (Z.c.fact 48 rfl)) (FreeOk.cons (He.free_ok Z.X Z.N (Z.c.fact 41 rfl)) (FreeOk.cons (He.free_ok Z.X Z.N (Z.c.fact 37 rfl)) (FreeOk.cons (He.free_ok Z.X Z.N (Z.c.fact 40 rfl)) (FreeOk.cons (He.free_ok Z.X Z.N (Z.c.fact 38 rfl)) (FreeOk.cons (He.free_ok Z.X Z.N (Z.c.fact 39 rfl)) FreeOk.nil)))))), fun _ _ _ _ h => fnM_len h⟩
theorem k__law_jg_bent_2 : compSs 400 (G__law_jg_bent 2) (defBody (topS 43)) = some (c__law_jg_bent (m__law_jg_bent 2)) := by kernel_rfl
theorem f__law_jg_bent_3 (Z : Wd w K mg base h) : FnFact PP w K mg base (GG K mg) "_law_jg_bent" (i__law_jg_bent 3) := by
  obtain ⟨fd, F⟩ := Z.c.def_ 31 (d := d__law_jg_bent) rfl
  exact ⟨He.fAd K ("_law_jg_bent", none), fd, ["_law_hat_here", "_law_value"], He.glo_ok Z.X Z.N (Z.c.fact 31 rfl), F.kp, FunD.bindsN F fun _ _ _ _ _ _ us hl => match us, hl with | [_, _], _ => rfl, fn_core F s__law_jg_bent (Γ := G__law_jg_bent 2) rfl rfl k__law_jg_bent_2 rfl rfl (TabOk.cons (f__law_jg_bent_2 Z) (TabOk.cons (f__law_up_to Z) (TabOk.cons (f__law_out_of Z) TabOk.nil))) CstOk.nil (FreeOk.cons (He.free_ok Z.X Z.N (Z.c.fact 48 rfl)) (FreeOk.cons (He.free_ok Z.X Z.N (Z.c.fact 41 rfl)) (FreeOk.cons (He.free_ok Z.X Z.N (Z.c.fact 37 rfl)) (FreeOk.cons (He.free_ok Z.X Z.N (Z.c.fact 40 rfl)) (FreeOk.cons (He.free_ok Z.X Z.N (Z.c.fact 38 rfl)) (FreeOk.cons (He.free_ok Z.X Z.N (Z.c.fact 39 rfl)) FreeOk.nil)))))), fun _ _ _ _ h => fnM_len h⟩
theorem k__law_jg_bent_3 : compSs 400 (G__law_jg_bent 3) (defBody (topS 43)) = some (c__law_jg_bent (m__law_jg_bent 3)) := by kernel_rfl
theorem f__law_jg_bent_4 (Z : Wd w K mg base h) : FnFact PP w K mg base (GG K mg) "_law_jg_bent" (i__law_jg_bent 4) := by
  obtain ⟨fd, F⟩ := Z.c.def_ 31 (d := d__law_jg_bent) rfl
  exact ⟨He.fAd K ("_law_jg_bent", none), fd, ["_law_hat_here", "_law_value"], He.glo_ok Z.X Z.N (Z.c.fact 31 rfl), F.kp, FunD.bindsN F fun _ _ _ _ _ _ us hl => match us, hl with | [_, _], _ => rfl, fn_core F s__law_jg_bent (Γ := G__law_jg_bent 3) rfl rfl k__law_jg_bent_3 rfl rfl (TabOk.cons (f__law_jg_bent_3 Z) (TabOk.cons (f__law_up_to Z) (TabOk.cons (f__law_out_of Z) TabOk.nil))) CstOk.nil (FreeOk.cons (He.free_ok Z.X Z.N (Z.c.fact 48 rfl)) (FreeOk.cons (He.free_ok Z.X Z.N (Z.c.fact 41 rfl)) (FreeOk.cons (He.free_ok Z.X Z.N (Z.c.fact 37 rfl)) (FreeOk.cons (He.free_ok Z.X Z.N (Z.c.fact 40 rfl)) (FreeOk.cons (He.free_ok Z.X Z.N (Z.c.fact 38 rfl)) (FreeOk.cons (He.free_ok Z.X Z.N (Z.c.fact 39 rfl)) FreeOk.nil)))))), fun _ _ _ _ h => fnM_len h⟩
theorem k__law_jg_bent_4 : compSs 400 (G__law_jg_bent 4) (defBody (topS 43)) = some (c__law_jg_bent (m__law_jg_bent 4)) := by kernel_rfl
theorem f__law_jg_bent_5 (Z : Wd w K mg base h) : FnFact PP w K mg base (GG K mg) "_law_jg_bent" (i__law_jg_bent 5) := by
  obtain ⟨fd, F⟩ := Z.c.def_ 31 (d := d__law_jg_bent) rfl
  exact ⟨He.fAd K ("_law_jg_bent", none), fd, ["_law_hat_here", "_law_value"], He.glo_ok Z.X Z.N (Z.c.fact 31 rfl), F.kp, FunD.bindsN F fun _ _ _ _ _ _ us hl => match us, hl with | [_, _], _ => rfl, fn_core F s__law_jg_bent (Γ := G__law_jg_bent 4) rfl rfl k__law_jg_bent_4 rfl rfl (TabOk.cons (f__law_jg_bent_4 Z) (TabOk.cons (f__law_up_to Z) (TabOk.cons (f__law_out_of Z) TabOk.nil))) CstOk.nil (FreeOk.cons (He.free_ok Z.X Z.N (Z.c.fact 48 rfl)) (FreeOk.cons (He.free_ok Z.X Z.N (Z.c.fact 41 rfl)) (FreeOk.cons (He.free_ok Z.X Z.N (Z.c.fact 37 rfl)) (FreeOk.cons (He.free_ok Z.X Z.N (Z.c.fact 40 rfl)) (FreeOk.cons (He.free_ok Z.X Z.N (Z.c.fact 38 rfl)) (FreeOk.cons (He.free_ok Z.X Z.N (Z.c.fact 39 rfl)) FreeOk.nil)))))), fun _ _ _ _ h => fnM_len h⟩
theorem k__law_jg_bent_5 : compSs 400 (G__law_jg_bent 5) (defBody (topS 43)) = some (c__law_jg_bent (m__law_jg_bent 5)) := by kernel_rfl
theorem f__law_jg_bent_6 (Z : Wd w K mg base h) : FnFact PP w K mg base (GG K mg) "_law_jg_bent" (i__law_jg_bent 6) := by
  obtain ⟨fd, F⟩ := Z.c.def_ 31 (d := d__law_jg_bent) rfl
  exact ⟨He.fAd K ("_law_jg_bent", none), fd, ["_law_hat_here", "_law_value"], He.glo_ok Z.X Z.N (Z.c.fact 31 rfl), F.kp, FunD.bindsN F fun _ _ _ _ _ _ us hl => match us, hl with | [_, _], _ => rfl, fn_core F s__law_jg_bent (Γ := G__law_jg_bent 5) rfl rfl k__law_jg_bent_5 rfl rfl (TabOk.cons (f__law_jg_bent_5 Z) (TabOk.cons (f__law_up_to Z) (TabOk.cons (f__law_out_of Z) TabOk.nil))) CstOk.nil (FreeOk.cons (He.free_ok Z.X Z.N (Z.c.fact 48 rfl)) (FreeOk.cons (He.free_ok Z.X Z.N (Z.c.fact 41 rfl)) (FreeOk.cons (He.free_ok Z.X Z.N (Z.c.fact 37 rfl)) (FreeOk.cons (He.free_ok Z.X Z.N (Z.c.fact 40 rfl)) (FreeOk.cons (He.free_ok Z.X Z.N (Z.c.fact 38 rfl)) (FreeOk.cons (He.free_ok Z.X Z.N (Z.c.fact 39 rfl)) FreeOk.nil)))))), fun _ _ _ _ h => fnM_len h⟩
theorem k__law_jg_bent_6 : compSs 400 (G__law_jg_bent 6) (defBody (topS 43)) = some (c__law_jg_bent (m__law_jg_bent 6)) := by kernel_rfl
theorem f__law_jg_bent_7 (Z : Wd w K mg base h) : FnFact PP w K mg base (GG K mg) "_law_jg_bent" (i__law_jg_bent 7) := by
  obtain ⟨fd, F⟩ := Z.c.def_ 31 (d := d__law_jg_bent) rfl
  exact ⟨He.fAd K ("_law_jg_bent", none), fd, ["_law_hat_here", "_law_value"], He.glo_ok Z.X Z.N (Z.c.fact 31 rfl), F.kp, FunD.bindsN F fun _ _ _ _ _ _ us hl => match us, hl with | [_, _], _ => rfl, fn_core F s__law_jg_bent (Γ := G__law_jg_bent 6) rfl rfl k__law_jg_bent_6 rfl rfl (TabOk.cons (f__law_jg_bent_6 Z) (TabOk.cons (f__law_up_to Z) (TabOk.cons (f__law_out_of Z) TabOk.nil))) CstOk.nil (FreeOk.cons (He.free_ok Z.X Z.N (Z.c.fact 48 rfl)) (FreeOk.cons (He.free_ok Z.X Z.N (Z.c.fact 41 rfl)) (FreeOk.cons (He.free_ok Z.X Z.N (Z.c.fact 37 rfl)) (FreeOk.cons (He.free_ok Z.X Z.N (Z.c.fact 40 rfl)) (FreeOk.cons (He.free_ok Z.X Z.N (Z.c.fact 38 rfl)) (FreeOk.cons (He.free_ok Z.X Z.N (Z.c.fact 39 rfl)) FreeOk.nil)))))), fun _ _ _ _ h => fnM_len h⟩
theorem k__law_jg_bent_7 : compSs 400 (G__law_jg_bent 7) (defBody (topS 43)) = some (c__law_jg_bent (m__law_jg_bent 7)) := by kernel_rfl
theorem f__law_jg_bent_8 (Z : Wd w K mg base h) : FnFact PP w K mg base (GG K mg) "_law_jg_bent" (i__law_jg_bent 8) := by
  obtain ⟨fd, F⟩ := Z.c.def_ 31 (d := d__law_jg_bent) rfl
  exact ⟨He.fAd K ("_law_jg_bent", none), fd, ["_law_hat_here", "_law_value"], He.glo_ok Z.X Z.N (Z.c.fact 31 rfl), F.kp, FunD.bindsN F fun _ _ _ _ _ _ us hl => match us, hl with | [_, _], _ => rfl, fn_core F s__law_jg_bent (Γ := G__law_jg_bent 7) rfl rfl k__law_jg_bent_7 rfl rfl (TabOk.cons (f__law_jg_bent_7 Z) (TabOk.cons (f__law_up_to Z) (TabOk.cons (f__law_out_of Z) TabOk.nil))) CstOk.nil (FreeOk.cons (He.free_ok Z.X Z.N (Z.c.fact 48 rfl)) (FreeOk.cons (He.free_ok Z.X Z.N (Z.c.fact 41 rfl)) (FreeOk.cons (He.free_ok Z.X Z.N (Z.c.fact 37 rfl)) (FreeOk.cons (He.free_ok Z.X Z.N (Z.c.fact 40 rfl)) (FreeOk.cons (He.free_ok Z.X Z.N (Z.c.fact 38 rfl)) (FreeOk.cons (He.free_ok Z.X Z.N (Z.c.fact 39 rfl)) FreeOk.nil)))))), fun _ _ _ _ h => fnM_len h⟩
theorem k__law_jg_bent_8 : compSs 400 (G__law_jg_bent 8) (defBody (topS 43)) = some (c__law_jg_bent (m__law_jg_bent 8)) := by kernel_rfl
theorem f__law_jg_bent_9 (Z : Wd w K mg base h) : FnFact PP w K mg base (GG K mg) "_law_jg_bent" (i__law_jg_bent 9) := by
  obtain ⟨fd, F⟩ := Z.c.def_ 31 (d := d__law_jg_bent) rfl
  exact ⟨He.fAd K ("_law_jg_bent", none), fd, ["_law_hat_here", "_law_value"], He.glo_ok Z.X Z.N (Z.c.fact 31 rfl), F.kp, FunD.bindsN F fun _ _ _ _ _ _ us hl => match us, hl with | [_, _], _ => rfl, fn_core F s__law_jg_bent (Γ := G__law_jg_bent 8) rfl rfl k__law_jg_bent_8 rfl rfl (TabOk.cons (f__law_jg_bent_8 Z) (TabOk.cons (f__law_up_to Z) (TabOk.cons (f__law_out_of Z) TabOk.nil))) CstOk.nil (FreeOk.cons (He.free_ok Z.X Z.N (Z.c.fact 48 rfl)) (FreeOk.cons (He.free_ok Z.X Z.N (Z.c.fact 41 rfl)) (FreeOk.cons (He.free_ok Z.X Z.N (Z.c.fact 37 rfl)) (FreeOk.cons (He.free_ok Z.X Z.N (Z.c.fact 40 rfl)) (FreeOk.cons (He.free_ok Z.X Z.N (Z.c.fact 38 rfl)) (FreeOk.cons (He.free_ok Z.X Z.N (Z.c.fact 39 rfl)) FreeOk.nil)))))), fun _ _ _ _ h => fnM_len h⟩
theorem k__law_jg_bent_9 : compSs 400 (G__law_jg_bent 9) (defBody (topS 43)) = some (c__law_jg_bent (m__law_jg_bent 9)) := by kernel_rfl
theorem f__law_jg_bent_10 (Z : Wd w K mg base h) : FnFact PP w K mg base (GG K mg) "_law_jg_bent" (i__law_jg_bent 10) := by
  obtain ⟨fd, F⟩ := Z.c.def_ 31 (d := d__law_jg_bent) rfl
  exact ⟨He.fAd K ("_law_jg_bent", none), fd, ["_law_hat_here", "_law_value"], He.glo_ok Z.X Z.N (Z.c.fact 31 rfl), F.kp, FunD.bindsN F fun _ _ _ _ _ _ us hl => match us, hl with | [_, _], _ => rfl, fn_core F s__law_jg_bent (Γ := G__law_jg_bent 9) rfl rfl k__law_jg_bent_9 rfl rfl (TabOk.cons (f__law_jg_bent_9 Z) (TabOk.cons (f__law_up_to Z) (TabOk.cons (f__law_out_of Z) TabOk.nil))) CstOk.nil (FreeOk.cons (He.free_ok Z.X Z.N (Z.c.fact 48 rfl)) (FreeOk.cons (He.free_ok Z.X Z.N (Z.c.fact 41 rfl)) (FreeOk.cons (He.free_ok Z.X Z.N (Z.c.fact 37 rfl)) (FreeOk.cons (He.free_ok Z.X Z.N (Z.c.fact 40 rfl)) (FreeOk.cons (He.free_ok Z.X Z.N (Z.c.fact 38 rfl)) (FreeOk.cons (He.free_ok Z.X Z.N (Z.c.fact 39 rfl)) FreeOk.nil)))))), fun _ _ _ _ h => fnM_len h⟩
def N__law_jg_near : List Str := ["_law_hat_here", "_law_paper", "_law_many", "_law_found", "_law_turn", "_law_value"]
def c__law_jg_near : S := (.seq (.asg (.nm 3) (.lstM (.cons (.var 1) (.cons (.call m__law_out_of (.cons (.var 0) (.cons (.lst (.cons (.c .non) (.cons (.tup .nil) (.cons (.c (.int 0)) (.cons (.c (.bl true)) (.cons (.tup (.cons (.var 1) .nil)) (.cons (.tup (.cons (.var 1) (.cons (.var 1) .nil))) (.cons (.c (.str (PySem.Str.ofString "paper"))) (.cons .dnew (.cons (.lst (.cons (.var 1) .nil)) .nil)))))))))) .nil))) .nil)))) (.seq (.for_ (.nm 4) (.rng1 (.var 2)) (.seq (.asg (.nm 5) (.call (m__law_jg_bent 10) (.cons (.var 0) (.cons (.var 1) .nil)))) (.seq (.expr (.app (.var 3) (.ite (.cmp .Eq (.call m__law_up_to (.cons (.var 0) (.cons (.c (.int 4)) .nil))) (.c (.int 0))) (.call (m__law_jg_bent 10) (.cons (.var 0) (.cons (.var 5) .nil))) (.var 5)))) .pass))) (.seq (.ret (.var 3)) .pass)))
def m__law_jg_near : List D → M D := trimM (fnM 6 3 c__law_jg_near)
def i__law_jg_near : FnI := ⟨14, 3, m__law_jg_near⟩
def G__law_jg_near : Gam := ⟨N__law_jg_near, defScope (topS 44), 13, [("_law_up_to", i__law_up_to), ("_law_jg_bent", i__law_jg_bent 10), ("_law_out_of", i__law_out_of)], [], ["range"], [(139, 17)], cellsOf (defScope (topS 44))⟩
theorem k__law_jg_near : compSs 400 G__law_jg_near (defBody (topS 44)) = some c__law_jg_near := by kernel_rfl
theorem s__law_jg_near : FnScope N__law_jg_near ["_law_hat_here", "_law_paper", "_law_many"] (defScope (topS 44)) := ⟨rfl, rfl, rfl, by decide +kernel, rfl, by decide +kernel, by decide +kernel⟩
theorem g__law_jg_near (Z : Wd w K mg base h) : ∃ fd, FnOk PP w K mg base (L2.CX PP w) 14 (He.fAd K ("_law_jg_near", none)) fd ["_law_hat_here", "_law_paper", "_law_many"] (spD (GG K mg) (fnM 6 3 c__law_jg_near) 3) ∧ mg "_law_jg_near" = some (.ref (He.fAd K ("_law_jg_near", none))) ∧ PySem.W.keepIn K (.ref (He.fAd K ("_law_jg_near", none))) = true ∧ Binds K fd ["_law_hat_here", "_law_paper", "_law_many"] [] := by
  obtain ⟨fd, F⟩ := Z.c.def_ 32 (d := d__law_jg_near) rfl
  exact ⟨fd, fn_core F s__law_jg_near (Γ := G__law_jg_near) rfl rfl k__law_jg_near rfl rfl (TabOk.cons (f__law_up_to Z) (TabOk.cons (f__law_jg_bent_10 Z) (TabOk.cons (f__law_out_of Z) TabOk.nil))) CstOk.nil (FreeOk.cons (He.free_ok Z.X Z.N (Z.c.fact 46 rfl)) FreeOk.nil), He.glo_ok Z.X Z.N (Z.c.fact 32 rfl), F.kp, FunD.bindsN F fun _ _ _ _ _ _ us hl => match us, hl with | [_, _, _], _ => rfl⟩
theorem f__law_jg_near (Z : Wd w K mg base h) : FnFact PP w K mg base (GG K mg) "_law_jg_near" i__law_jg_near := by
  obtain ⟨fd, F, a, b, c⟩ := g__law_jg_near Z
  exact ⟨_, fd, _, a, b, c, trim_fn F, fun _ _ _ _ h => trim_len h⟩
def N__law_short : List Str := ["_law_value", "_law_entry"]
def c__law_short : S := (.seq (.ifs (.or_ (.not_ (.call (bi isiD) (.cons (.var 0) (.cons (.c (.ty "tuple")) .nil)))) (.or_ (.cmp .Gt (.call (bi lenD) (.cons (.var 0) .nil)) (.c (.int 60))) (.not_ (.call m__law_is_row (.cons (.var 0) (.cons (.call (bi lenD) (.cons (.var 0) .nil)) .nil)))))) (.seq (.ret (.c (.bl false))) .pass) .pass) (.seq (.ret (.cmp .Eq (.lc [1] (.nm 1) (.it1 (.var 0)) (.cmp .GtE (.call (bi absD) (.cons (.var 1) .nil)) (.bin .Pow (.c (.int 10)) (.c (.int 12)))) (.var 1)) (.lst .nil))) .pass))
def m__law_short : List D → M D := fnM 2 1 c__law_short
def i__law_short : FnI := ⟨2, 1, m__law_short⟩
def G__law_short : Gam := ⟨N__law_short, defScope (topS 45), 1, [("_law_is_row", i__law_is_row)], [], ["abs", "isinstance", "tuple", "len"], [], cellsOf (defScope (topS 45))⟩
theorem k__law_short : compSs 400 G__law_short (defBody (topS 45)) = some c__law_short := by kernel_rfl
theorem s__law_short : FnScope N__law_short ["_law_value"] (defScope (topS 45)) := ⟨rfl, rfl, rfl, by decide +kernel, rfl, by decide +kernel, by decide +kernel⟩
theorem g__law_short (Z : Wd w K mg base h) : ∃ fd, FnOk PP w K mg base (L2.CX PP w) 2 (He.fAd K ("_law_short", none)) fd ["_law_value"] (spD (GG K mg) (fnM 2 1 c__law_short) 1) ∧ mg "_law_short" = some (.ref (He.fAd K ("_law_short", none))) ∧ PySem.W.keepIn K (.ref (He.fAd K ("_law_short", none))) = true ∧ Binds K fd ["_law_value"] [] := by
  obtain ⟨fd, F⟩ := Z.c.def_ 33 (d := d__law_short) rfl
  exact ⟨fd, fn_core F s__law_short (Γ := G__law_short) rfl rfl k__law_short rfl rfl (TabOk.cons (f__law_is_row Z) TabOk.nil) CstOk.nil (FreeOk.cons (He.free_ok Z.X Z.N (Z.c.fact 47 rfl)) (FreeOk.cons (He.free_ok Z.X Z.N (Z.c.fact 37 rfl)) (FreeOk.cons (He.free_ok Z.X Z.N (Z.c.fact 40 rfl)) (FreeOk.cons (He.free_ok Z.X Z.N (Z.c.fact 41 rfl)) FreeOk.nil)))), He.glo_ok Z.X Z.N (Z.c.fact 33 rfl), F.kp, FunD.bindsN F fun _ _ _ _ _ _ us hl => match us, hl with | [_], _ => rfl⟩
theorem f__law_short (Z : Wd w K mg base h) : FnFact PP w K mg base (GG K mg) "_law_short" i__law_short := by
  obtain ⟨fd, F, a, b, c⟩ := g__law_short Z
  exact ⟨_, fd, _, a, b, c, F, fun _ _ _ _ h => fnM_len h⟩
def N__law_sized : List Str := ["_law_value", "_law_line"]
def c__law_sized : S := (.seq (.ifs (.or_ (.not_ (.call (bi isiD) (.cons (.var 0) (.cons (.c (.ty "tuple")) .nil)))) (.or_ (.cmp .NotEq (.call (bi lenD) (.cons (.var 0) .nil)) (.c (.int 2))) (.or_ (.not_ (.call m__law_short (.cons (.sl (.var 0) (.c .non) (.int_ (.c (.int 1)))) .nil))) (.not_ (.call (bi isiD) (.cons (.ix (.var 0) (.c (.int 1))) (.cons (.c (.ty "tuple")) .nil))))))) (.seq (.ret (.c (.bl false))) .pass) .pass) (.seq (.ifs (.or_ (.not_ (.chain .LtE .LtE (.c (.int 0)) (.ix (.var 0) (.c (.int 0))) (.c (.int 60)))) (.cmp .Gt (.call (bi lenD) (.cons (.ix (.var 0) (.c (.int 1))) .nil)) (.c (.int 60)))) (.seq (.ret (.c (.bl false))) .pass) .pass) (.seq (.ret (.cmp .Eq (.lc [1] (.nm 1) (.it1 (.ix (.var 0) (.c (.int 1)))) (.or_ (.not_ (.call m__law_short (.cons (.var 1) .nil))) (.cmp .NotEq (.call (bi lenD) (.cons (.var 1) .nil)) (.ix (.var 0) (.c (.int 0))))) (.var 1)) (.lst .nil))) .pass)))
def m__law_sized : List D → M D := fnM 2 1 c__law_sized
def i__law_sized : FnI := ⟨3, 1, m__law_sized⟩
def G__law_sized : Gam := ⟨N__law_sized, defScope (topS 46), 2, [("_law_short", i__law_short)], [], ["len", "isinstance", "tuple"], [], cellsOf (defScope (topS 46))⟩
theorem k__law_sized : compSs 400 G__law_sized (defBody (topS 46)) = some c__law_sized := by kernel_rfl
theorem s__law_sized : FnScope N__law_sized ["_law_value"] (defScope (topS 46)) := ⟨rfl, rfl, rfl, by decide +kernel, rfl, by decide +kernel, by decide +kernel⟩
theorem g__law_sized (Z : Wd w K mg base h) : ∃ fd, FnOk PP w K mg base (L2.CX PP w) 3 (He.fAd K ("_law_sized", none)) fd ["_law_value"] (spD (GG K mg) (fnM 2 1 c__law_sized) 1) ∧ mg "_law_sized" = some (.ref (He.fAd K ("_law_sized", none))) ∧ PySem.W.keepIn K (.ref (He.fAd K ("_law_sized", none))) = true ∧ Binds K fd ["_law_value"] [] := by
  obtain ⟨fd, F⟩ := Z.c.def_ 34 (d := d__law_sized) rfl
  exact ⟨fd, fn_core F s__law_sized (Γ := G__law_sized) rfl rfl k__law_sized rfl rfl (TabOk.cons (f__law_short Z) TabOk.nil) CstOk.nil (FreeOk.cons (He.free_ok Z.X Z.N (Z.c.fact 41 rfl)) (FreeOk.cons (He.free_ok Z.X Z.N (Z.c.fact 37 rfl)) (FreeOk.cons (He.free_ok Z.X Z.N (Z.c.fact 40 rfl)) FreeOk.nil))), He.glo_ok Z.X Z.N (Z.c.fact 34 rfl), F.kp, FunD.bindsN F fun _ _ _ _ _ _ us hl => match us, hl with | [_], _ => rfl⟩
theorem f__law_sized (Z : Wd w K mg base h) : FnFact PP w K mg base (GG K mg) "_law_sized" i__law_sized := by
  obtain ⟨fd, F, a, b, c⟩ := g__law_sized Z
  exact ⟨_, fd, _, a, b, c, F, fun _ _ _ _ h => fnM_len h⟩
def N__law_right : List Str := ["_law_hat_here", "_law_high", "_law_wide", "_law_grid", "_law_row", "_law_at", "_law_value", "_law_number", "_law_more", "_law_both"]
def c__law_right : S := (.seq (.par 1 2 (.call m__law_up_to (.cons (.var 0) (.cons (.c (.int 5)) .nil))) (.call m__law_up_to (.cons (.var 0) (.cons (.c (.int 5)) .nil)))) (.seq (.par 3 4 (.call m__law_jg_wide (.cons (.var 0) (.cons (.var 1) (.cons (.var 2) .nil)))) (.call (bi tupleD) (.cons (.lc [5] (.nm 5) (.rng1 (.var 2)) (.c (.bl true)) (.call m__law_jg_entry (.cons (.var 0) .nil))) .nil))) (.seq (.ifs (.or_ (.not_ (.call m_is_grid (.cons (.var 3) .nil))) (.not_ (.call m_is_row (.cons (.var 4) .nil)))) (.seq (.ret (.c (.bl false))) .pass) .pass) (.seq (.for_ (.nm 6) (.it1 (.bin .Add (.call m__law_jg_near (.cons (.var 0) (.cons (.var 3) (.cons (.c (.int 6)) .nil)))) (.call m__law_jg_near (.cons (.var 0) (.cons (.var 4) (.cons (.c (.int 4)) .nil)))))) (.seq (.ifs (.or_ (.cmp .NotEq (.call m_is_grid (.cons (.var 6) .nil)) (.call m__law_sized (.cons (.var 6) .nil))) (.cmp .NotEq (.call m_is_row (.cons (.var 6) .nil)) (.call m__law_short (.cons (.var 6) .nil)))) (.seq (.ret (.c (.bl false))) .pass) .pass) .pass)) (.seq (.asg (.nm 7) (.call m__law_out_of (.cons (.var 0) (.cons (.lst (.cons (.call m__law_jg_entry (.cons (.var 0) .nil)) (.cons (.bin .Pow (.c (.int 10)) (.c (.int 12))) (.cons (.bin .Sub (.c (.int 0)) (.bin .Pow (.c (.int 10)) (.c (.int 12)))) (.cons (.c (.bl true)) (.cons (.c .non) (.cons (.c (.str (PySem.Str.ofString "7"))) (.cons (.tup (.cons (.c (.int 1)) .nil)) (.cons (.bin .Pow (.c (.int 10)) (.c (.int 60))) .nil))))))))) .nil)))) (.seq (.ifs (.cmp .NotEq (.call m_is_integer (.cons (.var 7) .nil)) (.call m__law_short (.cons (.tup (.cons (.var 7) .nil)) .nil))) (.seq (.ret (.c (.bl false))) .pass) .pass) (.seq (.asg (.nm 8) (.call m__law_jg_wide (.cons (.var 0) (.cons (.var 1) (.cons (.call m__law_up_to (.cons (.var 0) (.cons (.c (.int 4)) .nil))) .nil))))) (.seq (.asg (.nm 9) (.call m_beside (.cons (.var 3) (.cons (.var 8) .nil)))) (.seq (.ifs (.or_ (.cmp .NotEq (.ix (.var 9) (.c (.int 0))) (.bin .Add (.var 2) (.ix (.var 8) (.c (.int 0))))) (.cmp .NotEq (.call m_over (.cons (.call m_turned (.cons (.var 3) .nil)) (.cons (.call m_turned (.cons (.var 8) .nil)) .nil))) (.call m_turned (.cons (.var 9) .nil)))) (.seq (.ret (.c (.bl false))) .pass) .pass) (.seq (.ret (.and_ (.cmp .Eq (.call m_beside (.cons (.call m_beside (.cons (.var 3) (.cons (.var 8) .nil))) (.cons (.var 3) .nil))) (.call m_beside (.cons (.var 3) (.cons (.call m_beside (.cons (.var 8) (.cons (.var 3) .nil))) .nil)))) (.and_ (.cmp .Eq (.call m_grid_product (.cons (.call m_unit_grid (.cons (.var 1) .nil)) (.cons (.var 3) .nil))) (.var 3)) (.cmp .Eq (.call m_grid_product (.cons (.var 3) (.cons (.call m_nought_grid (.cons (.var 2) (.cons (.c (.int 3)) .nil))) .nil))) (.call m_nought_grid (.cons (.var 1) (.cons (.c (.int 3)) .nil))))))) .pass))))))))))
def m__law_right : List D → M D := fnM 10 1 c__law_right
def i__law_right : FnI := ⟨15, 1, m__law_right⟩
def G__law_right : Gam := ⟨N__law_right, defScope (topS 47), 14, [("beside", i_beside), ("grid_product", i_grid_product), ("unit_grid", i_unit_grid), ("nought_grid", i_nought_grid), ("over", i_over), ("turned", i_turned), ("_law_jg_wide", i__law_jg_wide), ("_law_up_to", i__law_up_to), ("is_integer", i_is_integer), ("_law_short", i__law_short), ("_law_out_of", i__law_out_of), ("_law_jg_entry", i__law_jg_entry), ("_law_jg_near", i__law_jg_near), ("is_grid", i_is_grid), ("_law_sized", i__law_sized), ("is_row", i_is_row)], [], ["tuple", "range"], [], cellsOf (defScope (topS 47))⟩
theorem k__law_right : compSs 400 G__law_right (defBody (topS 47)) = some c__law_right := by kernel_rfl
theorem s__law_right : FnScope N__law_right ["_law_hat_here"] (defScope (topS 47)) := ⟨rfl, rfl, rfl, by decide +kernel, rfl, by decide +kernel, by decide +kernel⟩
theorem g__law_right (Z : Wd w K mg base h) : ∃ fd, FnOk PP w K mg base (L2.CX PP w) 15 (He.fAd K ("_law_right", none)) fd ["_law_hat_here"] (spD (GG K mg) (fnM 10 1 c__law_right) 1) ∧ mg "_law_right" = some (.ref (He.fAd K ("_law_right", none))) ∧ PySem.W.keepIn K (.ref (He.fAd K ("_law_right", none))) = true ∧ Binds K fd ["_law_hat_here"] [] := by
  obtain ⟨fd, F⟩ := Z.c.def_ 35 (d := d__law_right) rfl
  exact ⟨fd, fn_core F s__law_right (Γ := G__law_right) rfl rfl k__law_right rfl rfl (TabOk.cons (f_beside Z) (TabOk.cons (f_grid_product Z) (TabOk.cons (f_unit_grid Z) (TabOk.cons (f_nought_grid Z) (TabOk.cons (f_over Z) (TabOk.cons (f_turned Z) (TabOk.cons (f__law_jg_wide Z) (TabOk.cons (f__law_up_to Z) (TabOk.cons (f_is_integer Z) (TabOk.cons (f__law_short Z) (TabOk.cons (f__law_out_of Z) (TabOk.cons (f__law_jg_entry Z) (TabOk.cons (f__law_jg_near Z) (TabOk.cons (f_is_grid Z) (TabOk.cons (f__law_sized Z) (TabOk.cons (f_is_row Z) TabOk.nil)))))))))))))))) CstOk.nil (FreeOk.cons (He.free_ok Z.X Z.N (Z.c.fact 40 rfl)) (FreeOk.cons (He.free_ok Z.X Z.N (Z.c.fact 46 rfl)) FreeOk.nil)), He.glo_ok Z.X Z.N (Z.c.fact 35 rfl), F.kp, FunD.bindsN F fun _ _ _ _ _ _ us hl => match us, hl with | [_], _ => rfl⟩
theorem f__law_right (Z : Wd w K mg base h) : FnFact PP w K mg base (GG K mg) "_law_right" i__law_right := by
  obtain ⟨fd, F, a, b, c⟩ := g__law_right Z
  exact ⟨_, fd, _, a, b, c, F, fun _ _ _ _ h => fnM_len h⟩
def N_law : List Str := ["_law_script", "_law_spot", "_law_hat_here", "_law_turn", "_law_told"]
def c_law : S := (.seq (.for_ (.nm 1) (.rng1 (.call (bi maxD) (.cons (.c (.int 1)) (.cons (.call (bi minD) (.cons (.c (.int 4)) (.cons (.call (bi lenD) (.cons (.var 0) .nil)) .nil))) .nil)))) (.seq (.asg (.nm 2) (.call m__law_hat (.cons (.var 0) (.cons (.var 1) .nil)))) (.seq (.for_ (.nm 3) (.rng1 (.c (.int 3))) (.seq (.ifs (.not_ (.call m__law_right (.cons (.var 2) .nil))) (.seq (.ret (.c (.bl false))) .pass) .pass) .pass)) .pass))) (.seq (.ifs (.or_ (.cmp .NotEq (.call m_unit_grid (.cons (.c (.int 60)) .nil)) (.call m__law_unit (.cons (.c (.int 60)) .nil))) (.or_ (.cmp .NotEq (.call m_nought_grid (.cons (.c (.int 60)) (.cons (.c (.int 0)) .nil))) (.tup (.cons (.c (.int 0)) (.cons (.bin .Mult (.tup (.cons (.tup .nil) .nil)) (.c (.int 60))) .nil)))) (.or_ (.cmp .NotEq (.call m_nought_grid (.cons (.c (.int 0)) (.cons (.c (.int 60)) .nil))) (.tup (.cons (.c (.int 60)) (.cons (.tup .nil) .nil)))) (.cmp .NotEq (.call m_unit_grid (.cons (.c (.int 0)) .nil)) (.tup (.cons (.c (.int 0)) (.cons (.tup .nil) .nil))))))) (.seq (.ret (.c (.bl false))) .pass) .pass) (.seq (.asg (.nm 4) (.lst (.cons (.call m_is_row (.cons (.bin .Mult (.tup (.cons (.c (.int 1)) .nil)) (.c (.int 60))) .nil)) (.cons (.call m_is_row (.cons (.bin .Mult (.tup (.cons (.c (.int 1)) .nil)) (.c (.int 61))) .nil)) (.cons (.call m_is_grid (.cons (.tup (.cons (.c (.int 60)) (.cons (.bin .Mult (.tup (.cons (.bin .Mult (.tup (.cons (.c (.int 0)) .nil)) (.c (.int 60))) .nil)) (.c (.int 60))) .nil))) .nil)) (.cons (.call m_is_grid (.cons (.tup (.cons (.c (.int 61)) (.cons (.tup .nil) .nil))) .nil)) (.cons (.call m_is_grid (.cons (.tup (.cons (.c (.int 0)) (.cons (.bin .Mult (.tup (.cons (.tup .nil) .nil)) (.c (.int 61))) .nil))) .nil)) (.cons (.call m_is_grid (.cons (.tup (.cons (.c (.int 0)) (.cons (.bin .Mult (.tup (.cons (.tup .nil) .nil)) (.c (.int 60))) .nil))) .nil)) (.cons (.call m_is_grid (.cons (.tup (.cons (.c (.bl true)) (.cons (.tup .nil) .nil))) .nil)) .nil))))))))) (.seq (.ifs (.cmp .NotEq (.var 4) (.lst (.cons (.c (.bl true)) (.cons (.c (.bl false)) (.cons (.c (.bl true)) (.cons (.c (.bl false)) (.cons (.c (.bl false)) (.cons (.c (.bl true)) (.cons (.c (.bl false)) .nil))))))))) (.seq (.ret (.c (.bl false))) .pass) .pass) (.seq (.ret (.cmp .Eq (.lst (.cons (.call m_is_integer (.cons (.bin .Sub (.bin .Pow (.c (.int 10)) (.c (.int 12))) (.c (.int 1))) .nil)) (.cons (.call m_is_integer (.cons (.bin .Pow (.c (.int 10)) (.c (.int 12))) .nil)) (.cons (.call m_is_integer (.cons (.c (.bl false)) .nil)) (.cons (.c (.int 12)) (.cons (.c (.int 60)) .nil)))))) (.lst (.cons (.c (.bl true)) (.cons (.c (.bl false)) (.cons (.c (.bl false)) (.cons (.c (.int 12)) (.cons (.c (.int 60)) .nil)))))))) .pass)))))
def m_law : List D → M D := fnM 5 1 c_law
def i_law : FnI := ⟨16, 1, m_law⟩
def G_law : Gam := ⟨N_law, defScope (topS 48), 15, [("is_integer", i_is_integer), ("is_grid", i_is_grid), ("is_row", i_is_row), ("unit_grid", i_unit_grid), ("_law_unit", i__law_unit), ("nought_grid", i_nought_grid), ("_law_right", i__law_right), ("_law_hat", i__law_hat)], [("MAX_SIZE", (.int 60)), ("MAX_DIGITS", (.int 12))], ["range", "max", "min", "len"], [], cellsOf (defScope (topS 48))⟩
theorem k_law : compSs 400 G_law (defBody (topS 48)) = some c_law := by kernel_rfl
theorem s_law : FnScope N_law ["_law_script"] (defScope (topS 48)) := ⟨rfl, rfl, rfl, by decide +kernel, rfl, by decide +kernel, by decide +kernel⟩
theorem g_law (Z : Wd w K mg base h) : ∃ fd, FnOk PP w K mg base (L2.CX PP w) 16 (He.fAd K ("law", none)) fd ["_law_script"] (spD (GG K mg) (fnM 5 1 c_law) 1) ∧ mg "law" = some (.ref (He.fAd K ("law", none))) ∧ PySem.W.keepIn K (.ref (He.fAd K ("law", none))) = true ∧ Binds K fd ["_law_script"] [] := by
  obtain ⟨fd, F⟩ := Z.c.def_ 36 (d := d_law) rfl
  exact ⟨fd, fn_core F s_law (Γ := G_law) rfl rfl k_law rfl rfl (TabOk.cons (f_is_integer Z) (TabOk.cons (f_is_grid Z) (TabOk.cons (f_is_row Z) (TabOk.cons (f_unit_grid Z) (TabOk.cons (f__law_unit Z) (TabOk.cons (f_nought_grid Z) (TabOk.cons (f__law_right Z) (TabOk.cons (f__law_hat Z) TabOk.nil)))))))) (CstOk.cons (cst_int (He.int_ok Z.X Z.N (Z.c.fact 51 rfl))) (CstOk.cons (cst_int (He.int_ok Z.X Z.N (Z.c.fact 53 rfl))) CstOk.nil)) (FreeOk.cons (He.free_ok Z.X Z.N (Z.c.fact 46 rfl)) (FreeOk.cons (He.free_ok Z.X Z.N (Z.c.fact 43 rfl)) (FreeOk.cons (He.free_ok Z.X Z.N (Z.c.fact 49 rfl)) (FreeOk.cons (He.free_ok Z.X Z.N (Z.c.fact 41 rfl)) FreeOk.nil)))), He.glo_ok Z.X Z.N (Z.c.fact 36 rfl), F.kp, FunD.bindsN F fun _ _ _ _ _ _ us hl => match us, hl with | [_], _ => rfl⟩
theorem f_law (Z : Wd w K mg base h) : FnFact PP w K mg base (GG K mg) "law" i_law := by
  obtain ⟨fd, F, a, b, c⟩ := g_law Z
  exact ⟨_, fd, _, a, b, c, F, fun _ _ _ _ h => fnM_len h⟩
end
end K03

set_option Elab.async false
set_option linter.all false
set_option maxRecDepth 100000
set_option maxHeartbeats 4000000
/-! K03b: the told defs of k03 by functions (K01b, K01c turned to phase 2). -/
namespace K03
open PySem L2 Gw
theorem whole_int (i : Int) : m_is_whole [.int i] = ret (.bl true) := by
  unfold m_is_whole c_is_whole
  rw [fn1]
  have h1 : isiD [.int i, .ty "int"] = some (.bl true) := rfl
  have h2 : isiD [.int i, .ty "bool"] = some (.bl false) := rfl
  simp only [ex_seq, nxt_nx, nxt_rt, nxt_ct, nxt_bk, ex_ifs, brn_t, brn_f, ex_pass, ex_ret, ex_expr, ex_asg, bndM_so, ex_par, ex_aug, ex_for, endD_nx, endD_rt, bind_nm, bind_nil, bind_cons, bind_consl, ev_var, ev_c, ev_bin, ev_neg, ev_cmp, chn_t, chn_f, ev_chain, ev_and, ev_or, ev_ite, and_t, and_f, or_t, or_f, ite_t, ite_f, ev_not, ev_tup, ev_lst, ev_ix, ev_sl, intM_int, ev_int, ev_lc, ev_call, evs_nil, evs_cons, evs_star, evs_it1, evs_rng1, evs_rng2, evs_zip, evs_enum, andThen_ret, andThen_assoc, optM_so, List.getElem?_cons_succ, List.getElem?_cons_zero, slotM_so, Option.bind_some, Option.map_some, bi_eq, binM_eq, cmpM_eq, slM_eq, nr_non, nr_bl, nr_int, nr_str, nr_tup, nr_lst, nr_ty, nr_scr, nr_emp, nrs_nil, nrs_cons, Bool.and_self, Bool.and_true, ev_dnew, List.set_cons_succ, List.set_cons_zero, bin_add, bin_sub, neg_int, cmp_lt, cmp_le, cmp_gt, cmp_ge, cmp_isbl, cmp_notbl, cmp_eq_int, cmp_ne_int, cmp_eq_bl, cmp_ne_bl, truthM_bl, Bool.not_true, Bool.not_false, lenOk0, lenOk1, lenOk2, lenOk3, intD_int, absD_int, lenD_tup, lenD_lst, lenD_scr, tupD_lst, tupD_tup, startE, List.map_cons, List.map_nil, List.length_cons, List.length_nil, Nat.zero_add, Nat.reduceAdd, Nat.reduceSub, List.replicate_succ, List.replicate_zero, List.cons_append, List.nil_append, lenOk_small, Nat.reduceLeDiff, eq_self, items_tup, items_lst, ixM_tup, ixM_lst, decide_true, decide_false, wipeE, lcF_eq, lcB_so, lcC_t, lcC_f, noXM_ret, List.length_map, List.length_range, atI0, atI1, atI2, nc0, nc1, nc2, nc3, nc4, nc5, nc6, nc7, nc8, nc9, h1, h2]
abbrev small (i : Int) : Prop := -1000000000000 < i ∧ i < 1000000000000
theorem int_yes {i : Int} (h : small i) : m_is_integer [.int i] = ret (.bl true) := by
  unfold m_is_integer c_is_integer
  rw [fn1]
  simp only [ex_seq, nxt_nx, nxt_rt, nxt_ct, nxt_bk, ex_ifs, brn_t, brn_f, ex_pass, ex_ret, ex_expr, ex_asg, bndM_so, ex_par, ex_aug, ex_for, endD_nx, endD_rt, bind_nm, bind_nil, bind_cons, bind_consl, ev_var, ev_c, ev_bin, ev_neg, ev_cmp, chn_t, chn_f, ev_chain, ev_and, ev_or, ev_ite, and_t, and_f, or_t, or_f, ite_t, ite_f, ev_not, ev_tup, ev_lst, ev_ix, ev_sl, intM_int, ev_int, ev_lc, ev_call, evs_nil, evs_cons, evs_star, evs_it1, evs_rng1, evs_rng2, evs_zip, evs_enum, andThen_ret, andThen_assoc, optM_so, List.getElem?_cons_succ, List.getElem?_cons_zero, slotM_so, Option.bind_some, Option.map_some, bi_eq, binM_eq, cmpM_eq, slM_eq, nr_non, nr_bl, nr_int, nr_str, nr_tup, nr_lst, nr_ty, nr_scr, nr_emp, nrs_nil, nrs_cons, Bool.and_self, Bool.and_true, ev_dnew, List.set_cons_succ, List.set_cons_zero, bin_add, bin_sub, neg_int, cmp_lt, cmp_le, cmp_gt, cmp_ge, cmp_isbl, cmp_notbl, cmp_eq_int, cmp_ne_int, cmp_eq_bl, cmp_ne_bl, truthM_bl, Bool.not_true, Bool.not_false, lenOk0, lenOk1, lenOk2, lenOk3, intD_int, absD_int, lenD_tup, lenD_lst, lenD_scr, tupD_lst, tupD_tup, startE, List.map_cons, List.map_nil, List.length_cons, List.length_nil, Nat.zero_add, Nat.reduceAdd, Nat.reduceSub, List.replicate_succ, List.replicate_zero, List.cons_append, List.nil_append, lenOk_small, Nat.reduceLeDiff, eq_self, items_tup, items_lst, ixM_tup, ixM_lst, decide_true, decide_false, wipeE, lcF_eq, lcB_so, lcC_t, lcC_f, noXM_ret, List.length_map, List.length_range, atI0, atI1, atI2, nc0, nc1, nc2, nc3, nc4, nc5, nc6, nc7, nc8, nc9, whole_int, decide_eq_true h.1, decide_eq_true h.2]
theorem isi_tup (xs : List D) : isiD [.tup xs, .ty "tuple"] = some (.bl true) := rfl
theorem row_of {n : Nat} (f : Nat → Int) (hn : n ≤ 60) : m_is_row_of [rowR n f, .int (n : Nat)] = ret (.bl true) := by
  unfold m_is_row_of c_is_row_of
  rw [fn2]
  simp only [ex_seq, nxt_nx, nxt_rt, nxt_ct, nxt_bk, ex_ifs, brn_t, brn_f, ex_pass, ex_ret, ex_expr, ex_asg, bndM_so, ex_par, ex_aug, ex_for, endD_nx, endD_rt, bind_nm, bind_nil, bind_cons, bind_consl, ev_var, ev_c, ev_bin, ev_neg, ev_cmp, chn_t, chn_f, ev_chain, ev_and, ev_or, ev_ite, and_t, and_f, or_t, or_f, ite_t, ite_f, ev_not, ev_tup, ev_lst, ev_ix, ev_sl, intM_int, ev_int, ev_lc, ev_call, evs_nil, evs_cons, evs_star, evs_it1, evs_rng1, evs_rng2, evs_zip, evs_enum, andThen_ret, andThen_assoc, optM_so, List.getElem?_cons_succ, List.getElem?_cons_zero, slotM_so, Option.bind_some, Option.map_some, bi_eq, binM_eq, cmpM_eq, slM_eq, nr_non, nr_bl, nr_int, nr_str, nr_tup, nr_lst, nr_ty, nr_scr, nr_emp, nrs_nil, nrs_cons, Bool.and_self, Bool.and_true, ev_dnew, List.set_cons_succ, List.set_cons_zero, bin_add, bin_sub, neg_int, cmp_lt, cmp_le, cmp_gt, cmp_ge, cmp_isbl, cmp_notbl, cmp_eq_int, cmp_ne_int, cmp_eq_bl, cmp_ne_bl, truthM_bl, Bool.not_true, Bool.not_false, lenOk0, lenOk1, lenOk2, lenOk3, intD_int, absD_int, lenD_tup, lenD_lst, lenD_scr, tupD_lst, tupD_tup, startE, List.map_cons, List.map_nil, List.length_cons, List.length_nil, Nat.zero_add, Nat.reduceAdd, Nat.reduceSub, List.replicate_succ, List.replicate_zero, List.cons_append, List.nil_append, lenOk_small, Nat.reduceLeDiff, eq_self, items_tup, items_lst, ixM_tup, ixM_lst, decide_true, decide_false, wipeE, lcF_eq, lcB_so, lcC_t, lcC_f, noXM_ret, List.length_map, List.length_range, atI0, atI1, atI2, nc0, nc1, nc2, nc3, nc4, nc5, nc6, nc7, nc8, nc9, isi_tup]
  rw [lc_rng (fun _ => .bl true) (fun i hi => ?_) (by omega)]
  · simp only [ex_seq, nxt_nx, nxt_rt, nxt_ct, nxt_bk, ex_ifs, brn_t, brn_f, ex_pass, ex_ret, ex_expr, ex_asg, bndM_so, ex_par, ex_aug, ex_for, endD_nx, endD_rt, bind_nm, bind_nil, bind_cons, bind_consl, ev_var, ev_c, ev_bin, ev_neg, ev_cmp, chn_t, chn_f, ev_chain, ev_and, ev_or, ev_ite, and_t, and_f, or_t, or_f, ite_t, ite_f, ev_not, ev_tup, ev_lst, ev_ix, ev_sl, intM_int, ev_int, ev_lc, ev_call, evs_nil, evs_cons, evs_star, evs_it1, evs_rng1, evs_rng2, evs_zip, evs_enum, andThen_ret, andThen_assoc, optM_so, List.getElem?_cons_succ, List.getElem?_cons_zero, slotM_so, Option.bind_some, Option.map_some, bi_eq, binM_eq, cmpM_eq, slM_eq, nr_non, nr_bl, nr_int, nr_str, nr_tup, nr_lst, nr_ty, nr_scr, nr_emp, nrs_nil, nrs_cons, Bool.and_self, Bool.and_true, ev_dnew, List.set_cons_succ, List.set_cons_zero, bin_add, bin_sub, neg_int, cmp_lt, cmp_le, cmp_gt, cmp_ge, cmp_isbl, cmp_notbl, cmp_eq_int, cmp_ne_int, cmp_eq_bl, cmp_ne_bl, truthM_bl, Bool.not_true, Bool.not_false, lenOk0, lenOk1, lenOk2, lenOk3, intD_int, absD_int, lenD_tup, lenD_lst, lenD_scr, tupD_lst, tupD_tup, startE, List.map_cons, List.map_nil, List.length_cons, List.length_nil, Nat.zero_add, Nat.reduceAdd, Nat.reduceSub, List.replicate_succ, List.replicate_zero, List.cons_append, List.nil_append, lenOk_small, Nat.reduceLeDiff, eq_self, items_tup, items_lst, ixM_tup, ixM_lst, decide_true, decide_false, wipeE, lcF_eq, lcB_so, lcC_t, lcC_f, noXM_ret, List.length_map, List.length_range, atI0, atI1, atI2, nc0, nc1, nc2, nc3, nc4, nc5, nc6, nc7, nc8, nc9, all_true]
  · simp only [ex_seq, nxt_nx, nxt_rt, nxt_ct, nxt_bk, ex_ifs, brn_t, brn_f, ex_pass, ex_ret, ex_expr, ex_asg, bndM_so, ex_par, ex_aug, ex_for, endD_nx, endD_rt, bind_nm, bind_nil, bind_cons, bind_consl, ev_var, ev_c, ev_bin, ev_neg, ev_cmp, chn_t, chn_f, ev_chain, ev_and, ev_or, ev_ite, and_t, and_f, or_t, or_f, ite_t, ite_f, ev_not, ev_tup, ev_lst, ev_ix, ev_sl, intM_int, ev_int, ev_lc, ev_call, evs_nil, evs_cons, evs_star, evs_it1, evs_rng1, evs_rng2, evs_zip, evs_enum, andThen_ret, andThen_assoc, optM_so, List.getElem?_cons_succ, List.getElem?_cons_zero, slotM_so, Option.bind_some, Option.map_some, bi_eq, binM_eq, cmpM_eq, slM_eq, nr_non, nr_bl, nr_int, nr_str, nr_tup, nr_lst, nr_ty, nr_scr, nr_emp, nrs_nil, nrs_cons, Bool.and_self, Bool.and_true, ev_dnew, List.set_cons_succ, List.set_cons_zero, bin_add, bin_sub, neg_int, cmp_lt, cmp_le, cmp_gt, cmp_ge, cmp_isbl, cmp_notbl, cmp_eq_int, cmp_ne_int, cmp_eq_bl, cmp_ne_bl, truthM_bl, Bool.not_true, Bool.not_false, lenOk0, lenOk1, lenOk2, lenOk3, intD_int, absD_int, lenD_tup, lenD_lst, lenD_scr, tupD_lst, tupD_tup, startE, List.map_cons, List.map_nil, List.length_cons, List.length_nil, Nat.zero_add, Nat.reduceAdd, Nat.reduceSub, List.replicate_succ, List.replicate_zero, List.cons_append, List.nil_append, lenOk_small, Nat.reduceLeDiff, eq_self, items_tup, items_lst, ixM_tup, ixM_lst, decide_true, decide_false, wipeE, lcF_eq, lcB_so, lcC_t, lcC_f, noXM_ret, List.length_map, List.length_range, atI0, atI1, atI2, nc0, nc1, nc2, nc3, nc4, nc5, nc6, nc7, nc8, nc9, whole_int]
theorem row_yes {n : Nat} {f : Nat → Int} (hn : n ≤ 60) (hf : ∀ j, j < n → small (f j)) : m_is_row [rowR n f] = ret (.bl true) := by
  unfold m_is_row c_is_row
  rw [fn1]
  have h : ¬ (60 : Int) < (n : Nat) := by omega
  simp only [ex_seq, nxt_nx, nxt_rt, nxt_ct, nxt_bk, ex_ifs, brn_t, brn_f, ex_pass, ex_ret, ex_expr, ex_asg, bndM_so, ex_par, ex_aug, ex_for, endD_nx, endD_rt, bind_nm, bind_nil, bind_cons, bind_consl, ev_var, ev_c, ev_bin, ev_neg, ev_cmp, chn_t, chn_f, ev_chain, ev_and, ev_or, ev_ite, and_t, and_f, or_t, or_f, ite_t, ite_f, ev_not, ev_tup, ev_lst, ev_ix, ev_sl, intM_int, ev_int, ev_lc, ev_call, evs_nil, evs_cons, evs_star, evs_it1, evs_rng1, evs_rng2, evs_zip, evs_enum, andThen_ret, andThen_assoc, optM_so, List.getElem?_cons_succ, List.getElem?_cons_zero, slotM_so, Option.bind_some, Option.map_some, bi_eq, binM_eq, cmpM_eq, slM_eq, nr_non, nr_bl, nr_int, nr_str, nr_tup, nr_lst, nr_ty, nr_scr, nr_emp, nrs_nil, nrs_cons, Bool.and_self, Bool.and_true, ev_dnew, List.set_cons_succ, List.set_cons_zero, bin_add, bin_sub, neg_int, cmp_lt, cmp_le, cmp_gt, cmp_ge, cmp_isbl, cmp_notbl, cmp_eq_int, cmp_ne_int, cmp_eq_bl, cmp_ne_bl, truthM_bl, Bool.not_true, Bool.not_false, lenOk0, lenOk1, lenOk2, lenOk3, intD_int, absD_int, lenD_tup, lenD_lst, lenD_scr, tupD_lst, tupD_tup, startE, List.map_cons, List.map_nil, List.length_cons, List.length_nil, Nat.zero_add, Nat.reduceAdd, Nat.reduceSub, List.replicate_succ, List.replicate_zero, List.cons_append, List.nil_append, lenOk_small, Nat.reduceLeDiff, eq_self, items_tup, items_lst, ixM_tup, ixM_lst, decide_true, decide_false, wipeE, lcF_eq, lcB_so, lcC_t, lcC_f, noXM_ret, List.length_map, List.length_range, atI0, atI1, atI2, nc0, nc1, nc2, nc3, nc4, nc5, nc6, nc7, nc8, nc9, isi_tup, decide_eq_false h]
  rw [lc_rng (fun _ => .bl true) (fun i hi => ?_) (by omega)]
  · simp only [ex_seq, nxt_nx, nxt_rt, nxt_ct, nxt_bk, ex_ifs, brn_t, brn_f, ex_pass, ex_ret, ex_expr, ex_asg, bndM_so, ex_par, ex_aug, ex_for, endD_nx, endD_rt, bind_nm, bind_nil, bind_cons, bind_consl, ev_var, ev_c, ev_bin, ev_neg, ev_cmp, chn_t, chn_f, ev_chain, ev_and, ev_or, ev_ite, and_t, and_f, or_t, or_f, ite_t, ite_f, ev_not, ev_tup, ev_lst, ev_ix, ev_sl, intM_int, ev_int, ev_lc, ev_call, evs_nil, evs_cons, evs_star, evs_it1, evs_rng1, evs_rng2, evs_zip, evs_enum, andThen_ret, andThen_assoc, optM_so, List.getElem?_cons_succ, List.getElem?_cons_zero, slotM_so, Option.bind_some, Option.map_some, bi_eq, binM_eq, cmpM_eq, slM_eq, nr_non, nr_bl, nr_int, nr_str, nr_tup, nr_lst, nr_ty, nr_scr, nr_emp, nrs_nil, nrs_cons, Bool.and_self, Bool.and_true, ev_dnew, List.set_cons_succ, List.set_cons_zero, bin_add, bin_sub, neg_int, cmp_lt, cmp_le, cmp_gt, cmp_ge, cmp_isbl, cmp_notbl, cmp_eq_int, cmp_ne_int, cmp_eq_bl, cmp_ne_bl, truthM_bl, Bool.not_true, Bool.not_false, lenOk0, lenOk1, lenOk2, lenOk3, intD_int, absD_int, lenD_tup, lenD_lst, lenD_scr, tupD_lst, tupD_tup, startE, List.map_cons, List.map_nil, List.length_cons, List.length_nil, Nat.zero_add, Nat.reduceAdd, Nat.reduceSub, List.replicate_succ, List.replicate_zero, List.cons_append, List.nil_append, lenOk_small, Nat.reduceLeDiff, eq_self, items_tup, items_lst, ixM_tup, ixM_lst, decide_true, decide_false, wipeE, lcF_eq, lcB_so, lcC_t, lcC_f, noXM_ret, List.length_map, List.length_range, atI0, atI1, atI2, nc0, nc1, nc2, nc3, nc4, nc5, nc6, nc7, nc8, nc9, all_true]
  · simp only [ex_seq, nxt_nx, nxt_rt, nxt_ct, nxt_bk, ex_ifs, brn_t, brn_f, ex_pass, ex_ret, ex_expr, ex_asg, bndM_so, ex_par, ex_aug, ex_for, endD_nx, endD_rt, bind_nm, bind_nil, bind_cons, bind_consl, ev_var, ev_c, ev_bin, ev_neg, ev_cmp, chn_t, chn_f, ev_chain, ev_and, ev_or, ev_ite, and_t, and_f, or_t, or_f, ite_t, ite_f, ev_not, ev_tup, ev_lst, ev_ix, ev_sl, intM_int, ev_int, ev_lc, ev_call, evs_nil, evs_cons, evs_star, evs_it1, evs_rng1, evs_rng2, evs_zip, evs_enum, andThen_ret, andThen_assoc, optM_so, List.getElem?_cons_succ, List.getElem?_cons_zero, slotM_so, Option.bind_some, Option.map_some, bi_eq, binM_eq, cmpM_eq, slM_eq, nr_non, nr_bl, nr_int, nr_str, nr_tup, nr_lst, nr_ty, nr_scr, nr_emp, nrs_nil, nrs_cons, Bool.and_self, Bool.and_true, ev_dnew, List.set_cons_succ, List.set_cons_zero, bin_add, bin_sub, neg_int, cmp_lt, cmp_le, cmp_gt, cmp_ge, cmp_isbl, cmp_notbl, cmp_eq_int, cmp_ne_int, cmp_eq_bl, cmp_ne_bl, truthM_bl, Bool.not_true, Bool.not_false, lenOk0, lenOk1, lenOk2, lenOk3, intD_int, absD_int, lenD_tup, lenD_lst, lenD_scr, tupD_lst, tupD_tup, startE, List.map_cons, List.map_nil, List.length_cons, List.length_nil, Nat.zero_add, Nat.reduceAdd, Nat.reduceSub, List.replicate_succ, List.replicate_zero, List.cons_append, List.nil_append, lenOk_small, Nat.reduceLeDiff, eq_self, items_tup, items_lst, ixM_tup, ixM_lst, decide_true, decide_false, wipeE, lcF_eq, lcB_so, lcC_t, lcC_f, noXM_ret, List.length_map, List.length_range, atI0, atI1, atI2, nc0, nc1, nc2, nc3, nc4, nc5, nc6, nc7, nc8, nc9, int_yes (hf i hi)]
theorem grid_in {h w : Nat} (f : Nat → Nat → Int) (hh : h ≤ 60) (hw : w ≤ 60) : m_is_grid_in [gridR h w f] = ret (.bl true) := by
  unfold m_is_grid_in c_is_grid_in
  rw [fn1]
  have h0 : ¬ ((w : Nat) : Int) < 0 := by omega
  simp only [ex_seq, nxt_nx, nxt_rt, nxt_ct, nxt_bk, ex_ifs, brn_t, brn_f, ex_pass, ex_ret, ex_expr, ex_asg, bndM_so, ex_par, ex_aug, ex_for, endD_nx, endD_rt, bind_nm, bind_nil, bind_cons, bind_consl, ev_var, ev_c, ev_bin, ev_neg, ev_cmp, chn_t, chn_f, ev_chain, ev_and, ev_or, ev_ite, and_t, and_f, or_t, or_f, ite_t, ite_f, ev_not, ev_tup, ev_lst, ev_ix, ev_sl, intM_int, ev_int, ev_lc, ev_call, evs_nil, evs_cons, evs_star, evs_it1, evs_rng1, evs_rng2, evs_zip, evs_enum, andThen_ret, andThen_assoc, optM_so, List.getElem?_cons_succ, List.getElem?_cons_zero, slotM_so, Option.bind_some, Option.map_some, bi_eq, binM_eq, cmpM_eq, slM_eq, nr_non, nr_bl, nr_int, nr_str, nr_tup, nr_lst, nr_ty, nr_scr, nr_emp, nrs_nil, nrs_cons, Bool.and_self, Bool.and_true, ev_dnew, List.set_cons_succ, List.set_cons_zero, bin_add, bin_sub, neg_int, cmp_lt, cmp_le, cmp_gt, cmp_ge, cmp_isbl, cmp_notbl, cmp_eq_int, cmp_ne_int, cmp_eq_bl, cmp_ne_bl, truthM_bl, Bool.not_true, Bool.not_false, lenOk0, lenOk1, lenOk2, lenOk3, intD_int, absD_int, lenD_tup, lenD_lst, lenD_scr, tupD_lst, tupD_tup, startE, List.map_cons, List.map_nil, List.length_cons, List.length_nil, Nat.zero_add, Nat.reduceAdd, Nat.reduceSub, List.replicate_succ, List.replicate_zero, List.cons_append, List.nil_append, lenOk_small, Nat.reduceLeDiff, eq_self, items_tup, items_lst, ixM_tup, ixM_lst, decide_true, decide_false, wipeE, lcF_eq, lcB_so, lcC_t, lcC_f, noXM_ret, List.length_map, List.length_range, atI0, atI1, atI2, nc0, nc1, nc2, nc3, nc4, nc5, nc6, nc7, nc8, nc9, isi_tup, whole_int, decide_eq_false h0]
  rw [lc_rng (fun _ => .bl true) (fun i hi => ?_) (by omega)]
  · simp only [ex_seq, nxt_nx, nxt_rt, nxt_ct, nxt_bk, ex_ifs, brn_t, brn_f, ex_pass, ex_ret, ex_expr, ex_asg, bndM_so, ex_par, ex_aug, ex_for, endD_nx, endD_rt, bind_nm, bind_nil, bind_cons, bind_consl, ev_var, ev_c, ev_bin, ev_neg, ev_cmp, chn_t, chn_f, ev_chain, ev_and, ev_or, ev_ite, and_t, and_f, or_t, or_f, ite_t, ite_f, ev_not, ev_tup, ev_lst, ev_ix, ev_sl, intM_int, ev_int, ev_lc, ev_call, evs_nil, evs_cons, evs_star, evs_it1, evs_rng1, evs_rng2, evs_zip, evs_enum, andThen_ret, andThen_assoc, optM_so, List.getElem?_cons_succ, List.getElem?_cons_zero, slotM_so, Option.bind_some, Option.map_some, bi_eq, binM_eq, cmpM_eq, slM_eq, nr_non, nr_bl, nr_int, nr_str, nr_tup, nr_lst, nr_ty, nr_scr, nr_emp, nrs_nil, nrs_cons, Bool.and_self, Bool.and_true, ev_dnew, List.set_cons_succ, List.set_cons_zero, bin_add, bin_sub, neg_int, cmp_lt, cmp_le, cmp_gt, cmp_ge, cmp_isbl, cmp_notbl, cmp_eq_int, cmp_ne_int, cmp_eq_bl, cmp_ne_bl, truthM_bl, Bool.not_true, Bool.not_false, lenOk0, lenOk1, lenOk2, lenOk3, intD_int, absD_int, lenD_tup, lenD_lst, lenD_scr, tupD_lst, tupD_tup, startE, List.map_cons, List.map_nil, List.length_cons, List.length_nil, Nat.zero_add, Nat.reduceAdd, Nat.reduceSub, List.replicate_succ, List.replicate_zero, List.cons_append, List.nil_append, lenOk_small, Nat.reduceLeDiff, eq_self, items_tup, items_lst, ixM_tup, ixM_lst, decide_true, decide_false, wipeE, lcF_eq, lcB_so, lcC_t, lcC_f, noXM_ret, List.length_map, List.length_range, atI0, atI1, atI2, nc0, nc1, nc2, nc3, nc4, nc5, nc6, nc7, nc8, nc9, all_true]
  · simp only [ex_seq, nxt_nx, nxt_rt, nxt_ct, nxt_bk, ex_ifs, brn_t, brn_f, ex_pass, ex_ret, ex_expr, ex_asg, bndM_so, ex_par, ex_aug, ex_for, endD_nx, endD_rt, bind_nm, bind_nil, bind_cons, bind_consl, ev_var, ev_c, ev_bin, ev_neg, ev_cmp, chn_t, chn_f, ev_chain, ev_and, ev_or, ev_ite, and_t, and_f, or_t, or_f, ite_t, ite_f, ev_not, ev_tup, ev_lst, ev_ix, ev_sl, intM_int, ev_int, ev_lc, ev_call, evs_nil, evs_cons, evs_star, evs_it1, evs_rng1, evs_rng2, evs_zip, evs_enum, andThen_ret, andThen_assoc, optM_so, List.getElem?_cons_succ, List.getElem?_cons_zero, slotM_so, Option.bind_some, Option.map_some, bi_eq, binM_eq, cmpM_eq, slM_eq, nr_non, nr_bl, nr_int, nr_str, nr_tup, nr_lst, nr_ty, nr_scr, nr_emp, nrs_nil, nrs_cons, Bool.and_self, Bool.and_true, ev_dnew, List.set_cons_succ, List.set_cons_zero, bin_add, bin_sub, neg_int, cmp_lt, cmp_le, cmp_gt, cmp_ge, cmp_isbl, cmp_notbl, cmp_eq_int, cmp_ne_int, cmp_eq_bl, cmp_ne_bl, truthM_bl, Bool.not_true, Bool.not_false, lenOk0, lenOk1, lenOk2, lenOk3, intD_int, absD_int, lenD_tup, lenD_lst, lenD_scr, tupD_lst, tupD_tup, startE, List.map_cons, List.map_nil, List.length_cons, List.length_nil, Nat.zero_add, Nat.reduceAdd, Nat.reduceSub, List.replicate_succ, List.replicate_zero, List.cons_append, List.nil_append, lenOk_small, Nat.reduceLeDiff, eq_self, items_tup, items_lst, ixM_tup, ixM_lst, decide_true, decide_false, wipeE, lcF_eq, lcB_so, lcC_t, lcC_f, noXM_ret, List.length_map, List.length_range, atI0, atI1, atI2, nc0, nc1, nc2, nc3, nc4, nc5, nc6, nc7, nc8, nc9, row_of (f i) hw]
theorem max_nat (a b : Nat) : maxD [.int (a : Nat), .int (b : Nat)] = some (.int (max a b : Nat)) := by
  show some (D.int (if ((b : Nat) : Int) > (a : Nat) then _ else _)) = _
  congr 2
  split <;> omega
theorem grid_yes {h w : Nat} {f : Nat → Nat → Int} (hh : h ≤ 60) (hw : w ≤ 60) (hf : ∀ i j, i < h → j < w → small (f i j)) : m_is_grid [gridR h w f] = ret (.bl true) := by
  unfold m_is_grid c_is_grid
  rw [fn1]
  have hm : ¬ (60 : Int) < (max w h : Nat) := by omega
  simp only [ex_seq, nxt_nx, nxt_rt, nxt_ct, nxt_bk, ex_ifs, brn_t, brn_f, ex_pass, ex_ret, ex_expr, ex_asg, bndM_so, ex_par, ex_aug, ex_for, endD_nx, endD_rt, bind_nm, bind_nil, bind_cons, bind_consl, ev_var, ev_c, ev_bin, ev_neg, ev_cmp, chn_t, chn_f, ev_chain, ev_and, ev_or, ev_ite, and_t, and_f, or_t, or_f, ite_t, ite_f, ev_not, ev_tup, ev_lst, ev_ix, ev_sl, intM_int, ev_int, ev_lc, ev_call, evs_nil, evs_cons, evs_star, evs_it1, evs_rng1, evs_rng2, evs_zip, evs_enum, andThen_ret, andThen_assoc, optM_so, List.getElem?_cons_succ, List.getElem?_cons_zero, slotM_so, Option.bind_some, Option.map_some, bi_eq, binM_eq, cmpM_eq, slM_eq, nr_non, nr_bl, nr_int, nr_str, nr_tup, nr_lst, nr_ty, nr_scr, nr_emp, nrs_nil, nrs_cons, Bool.and_self, Bool.and_true, ev_dnew, List.set_cons_succ, List.set_cons_zero, bin_add, bin_sub, neg_int, cmp_lt, cmp_le, cmp_gt, cmp_ge, cmp_isbl, cmp_notbl, cmp_eq_int, cmp_ne_int, cmp_eq_bl, cmp_ne_bl, truthM_bl, Bool.not_true, Bool.not_false, lenOk0, lenOk1, lenOk2, lenOk3, intD_int, absD_int, lenD_tup, lenD_lst, lenD_scr, tupD_lst, tupD_tup, startE, List.map_cons, List.map_nil, List.length_cons, List.length_nil, Nat.zero_add, Nat.reduceAdd, Nat.reduceSub, List.replicate_succ, List.replicate_zero, List.cons_append, List.nil_append, lenOk_small, Nat.reduceLeDiff, eq_self, items_tup, items_lst, ixM_tup, ixM_lst, decide_true, decide_false, wipeE, lcF_eq, lcB_so, lcC_t, lcC_f, noXM_ret, List.length_map, List.length_range, atI0, atI1, atI2, nc0, nc1, nc2, nc3, nc4, nc5, nc6, nc7, nc8, nc9, grid_in f hh hw, max_nat, decide_eq_false hm]
  rw [lc_rng (fun _ => .bl true) (fun i hi => ?_) (by omega)]
  · simp only [ex_seq, nxt_nx, nxt_rt, nxt_ct, nxt_bk, ex_ifs, brn_t, brn_f, ex_pass, ex_ret, ex_expr, ex_asg, bndM_so, ex_par, ex_aug, ex_for, endD_nx, endD_rt, bind_nm, bind_nil, bind_cons, bind_consl, ev_var, ev_c, ev_bin, ev_neg, ev_cmp, chn_t, chn_f, ev_chain, ev_and, ev_or, ev_ite, and_t, and_f, or_t, or_f, ite_t, ite_f, ev_not, ev_tup, ev_lst, ev_ix, ev_sl, intM_int, ev_int, ev_lc, ev_call, evs_nil, evs_cons, evs_star, evs_it1, evs_rng1, evs_rng2, evs_zip, evs_enum, andThen_ret, andThen_assoc, optM_so, List.getElem?_cons_succ, List.getElem?_cons_zero, slotM_so, Option.bind_some, Option.map_some, bi_eq, binM_eq, cmpM_eq, slM_eq, nr_non, nr_bl, nr_int, nr_str, nr_tup, nr_lst, nr_ty, nr_scr, nr_emp, nrs_nil, nrs_cons, Bool.and_self, Bool.and_true, ev_dnew, List.set_cons_succ, List.set_cons_zero, bin_add, bin_sub, neg_int, cmp_lt, cmp_le, cmp_gt, cmp_ge, cmp_isbl, cmp_notbl, cmp_eq_int, cmp_ne_int, cmp_eq_bl, cmp_ne_bl, truthM_bl, Bool.not_true, Bool.not_false, lenOk0, lenOk1, lenOk2, lenOk3, intD_int, absD_int, lenD_tup, lenD_lst, lenD_scr, tupD_lst, tupD_tup, startE, List.map_cons, List.map_nil, List.length_cons, List.length_nil, Nat.zero_add, Nat.reduceAdd, Nat.reduceSub, List.replicate_succ, List.replicate_zero, List.cons_append, List.nil_append, lenOk_small, Nat.reduceLeDiff, eq_self, items_tup, items_lst, ixM_tup, ixM_lst, decide_true, decide_false, wipeE, lcF_eq, lcB_so, lcC_t, lcC_f, noXM_ret, List.length_map, List.length_range, atI0, atI1, atI2, nc0, nc1, nc2, nc3, nc4, nc5, nc6, nc7, nc8, nc9, all_true]
  · simp only [ex_seq, nxt_nx, nxt_rt, nxt_ct, nxt_bk, ex_ifs, brn_t, brn_f, ex_pass, ex_ret, ex_expr, ex_asg, bndM_so, ex_par, ex_aug, ex_for, endD_nx, endD_rt, bind_nm, bind_nil, bind_cons, bind_consl, ev_var, ev_c, ev_bin, ev_neg, ev_cmp, chn_t, chn_f, ev_chain, ev_and, ev_or, ev_ite, and_t, and_f, or_t, or_f, ite_t, ite_f, ev_not, ev_tup, ev_lst, ev_ix, ev_sl, intM_int, ev_int, ev_lc, ev_call, evs_nil, evs_cons, evs_star, evs_it1, evs_rng1, evs_rng2, evs_zip, evs_enum, andThen_ret, andThen_assoc, optM_so, List.getElem?_cons_succ, List.getElem?_cons_zero, slotM_so, Option.bind_some, Option.map_some, bi_eq, binM_eq, cmpM_eq, slM_eq, nr_non, nr_bl, nr_int, nr_str, nr_tup, nr_lst, nr_ty, nr_scr, nr_emp, nrs_nil, nrs_cons, Bool.and_self, Bool.and_true, ev_dnew, List.set_cons_succ, List.set_cons_zero, bin_add, bin_sub, neg_int, cmp_lt, cmp_le, cmp_gt, cmp_ge, cmp_isbl, cmp_notbl, cmp_eq_int, cmp_ne_int, cmp_eq_bl, cmp_ne_bl, truthM_bl, Bool.not_true, Bool.not_false, lenOk0, lenOk1, lenOk2, lenOk3, intD_int, absD_int, lenD_tup, lenD_lst, lenD_scr, tupD_lst, tupD_tup, startE, List.map_cons, List.map_nil, List.length_cons, List.length_nil, Nat.zero_add, Nat.reduceAdd, Nat.reduceSub, List.replicate_succ, List.replicate_zero, List.cons_append, List.nil_append, lenOk_small, Nat.reduceLeDiff, eq_self, items_tup, items_lst, ixM_tup, ixM_lst, decide_true, decide_false, wipeE, lcF_eq, lcB_so, lcC_t, lcC_f, noXM_ret, List.length_map, List.length_range, atI0, atI1, atI2, nc0, nc1, nc2, nc3, nc4, nc5, nc6, nc7, nc8, nc9, row_yes hw fun j hj => hf i j hi hj]
theorem req_grid {h w : Nat} {f : Nat → Nat → Int} (hh : h ≤ 60) (hw : w ≤ 60) (hf : ∀ i j, i < h → j < w → small (f i j)) : m_require_grid [gridR h w f] = ret .non := by
  unfold m_require_grid c_require_grid
  rw [fn1]
  simp only [ex_seq, nxt_nx, nxt_rt, nxt_ct, nxt_bk, ex_ifs, brn_t, brn_f, ex_pass, ex_ret, ex_expr, ex_asg, bndM_so, ex_par, ex_aug, ex_for, endD_nx, endD_rt, bind_nm, bind_nil, bind_cons, bind_consl, ev_var, ev_c, ev_bin, ev_neg, ev_cmp, chn_t, chn_f, ev_chain, ev_and, ev_or, ev_ite, and_t, and_f, or_t, or_f, ite_t, ite_f, ev_not, ev_tup, ev_lst, ev_ix, ev_sl, intM_int, ev_int, ev_lc, ev_call, evs_nil, evs_cons, evs_star, evs_it1, evs_rng1, evs_rng2, evs_zip, evs_enum, andThen_ret, andThen_assoc, optM_so, List.getElem?_cons_succ, List.getElem?_cons_zero, slotM_so, Option.bind_some, Option.map_some, bi_eq, binM_eq, cmpM_eq, slM_eq, nr_non, nr_bl, nr_int, nr_str, nr_tup, nr_lst, nr_ty, nr_scr, nr_emp, nrs_nil, nrs_cons, Bool.and_self, Bool.and_true, ev_dnew, List.set_cons_succ, List.set_cons_zero, bin_add, bin_sub, neg_int, cmp_lt, cmp_le, cmp_gt, cmp_ge, cmp_isbl, cmp_notbl, cmp_eq_int, cmp_ne_int, cmp_eq_bl, cmp_ne_bl, truthM_bl, Bool.not_true, Bool.not_false, lenOk0, lenOk1, lenOk2, lenOk3, intD_int, absD_int, lenD_tup, lenD_lst, lenD_scr, tupD_lst, tupD_tup, startE, List.map_cons, List.map_nil, List.length_cons, List.length_nil, Nat.zero_add, Nat.reduceAdd, Nat.reduceSub, List.replicate_succ, List.replicate_zero, List.cons_append, List.nil_append, lenOk_small, Nat.reduceLeDiff, eq_self, items_tup, items_lst, ixM_tup, ixM_lst, decide_true, decide_false, wipeE, lcF_eq, lcB_so, lcC_t, lcC_f, noXM_ret, List.length_map, List.length_range, atI0, atI1, atI2, nc0, nc1, nc2, nc3, nc4, nc5, nc6, nc7, nc8, nc9, grid_yes hh hw hf]
abbrev big (x : Int) : Prop := x.natAbs < 2 ^ 200
theorem dot_in {n : Nat} {f g : Nat → Int} (hn : n ≤ 60) (hf : ∀ j, j < n → big (f j)) (hg : ∀ j, j < n → big (g j)) : m_dot_in [rowR n f, rowR n g] = ret (.int (sm n fun j => f j * g j)) := by
  unfold m_dot_in c_dot_in
  rw [fn2]
  simp only [ex_seq, nxt_nx, nxt_rt, nxt_ct, nxt_bk, ex_ifs, brn_t, brn_f, ex_pass, ex_ret, ex_expr, ex_asg, bndM_so, ex_par, ex_aug, ex_for, endD_nx, endD_rt, bind_nm, bind_nil, bind_cons, bind_consl, ev_var, ev_c, ev_bin, ev_neg, ev_cmp, chn_t, chn_f, ev_chain, ev_and, ev_or, ev_ite, and_t, and_f, or_t, or_f, ite_t, ite_f, ev_not, ev_tup, ev_lst, ev_ix, ev_sl, intM_int, ev_int, ev_lc, ev_call, evs_nil, evs_cons, evs_star, evs_it1, evs_rng1, evs_rng2, evs_zip, evs_enum, andThen_ret, andThen_assoc, optM_so, List.getElem?_cons_succ, List.getElem?_cons_zero, slotM_so, Option.bind_some, Option.map_some, bi_eq, binM_eq, cmpM_eq, slM_eq, nr_non, nr_bl, nr_int, nr_str, nr_tup, nr_lst, nr_ty, nr_scr, nr_emp, nrs_nil, nrs_cons, Bool.and_self, Bool.and_true, ev_dnew, List.set_cons_succ, List.set_cons_zero, bin_add, bin_sub, neg_int, cmp_lt, cmp_le, cmp_gt, cmp_ge, cmp_isbl, cmp_notbl, cmp_eq_int, cmp_ne_int, cmp_eq_bl, cmp_ne_bl, truthM_bl, Bool.not_true, Bool.not_false, lenOk0, lenOk1, lenOk2, lenOk3, intD_int, absD_int, lenD_tup, lenD_lst, lenD_scr, tupD_lst, tupD_tup, startE, List.map_cons, List.map_nil, List.length_cons, List.length_nil, Nat.zero_add, Nat.reduceAdd, Nat.reduceSub, List.replicate_succ, List.replicate_zero, List.cons_append, List.nil_append, lenOk_small, Nat.reduceLeDiff, eq_self, items_tup, items_lst, ixM_tup, ixM_lst, decide_true, decide_false, wipeE, lcF_eq, lcB_so, lcC_t, lcC_f, noXM_ret, List.length_map, List.length_range, atI0, atI1, atI2, nc0, nc1, nc2, nc3, nc4, nc5, nc6, nc7, nc8, nc9, zip_rng]
  rw [lc_rng (fun j => .int (f j * g j)) (fun i hi => ?_) (by omega)]
  · simp only [ex_seq, nxt_nx, nxt_rt, nxt_ct, nxt_bk, ex_ifs, brn_t, brn_f, ex_pass, ex_ret, ex_expr, ex_asg, bndM_so, ex_par, ex_aug, ex_for, endD_nx, endD_rt, bind_nm, bind_nil, bind_cons, bind_consl, ev_var, ev_c, ev_bin, ev_neg, ev_cmp, chn_t, chn_f, ev_chain, ev_and, ev_or, ev_ite, and_t, and_f, or_t, or_f, ite_t, ite_f, ev_not, ev_tup, ev_lst, ev_ix, ev_sl, intM_int, ev_int, ev_lc, ev_call, evs_nil, evs_cons, evs_star, evs_it1, evs_rng1, evs_rng2, evs_zip, evs_enum, andThen_ret, andThen_assoc, optM_so, List.getElem?_cons_succ, List.getElem?_cons_zero, slotM_so, Option.bind_some, Option.map_some, bi_eq, binM_eq, cmpM_eq, slM_eq, nr_non, nr_bl, nr_int, nr_str, nr_tup, nr_lst, nr_ty, nr_scr, nr_emp, nrs_nil, nrs_cons, Bool.and_self, Bool.and_true, ev_dnew, List.set_cons_succ, List.set_cons_zero, bin_add, bin_sub, neg_int, cmp_lt, cmp_le, cmp_gt, cmp_ge, cmp_isbl, cmp_notbl, cmp_eq_int, cmp_ne_int, cmp_eq_bl, cmp_ne_bl, truthM_bl, Bool.not_true, Bool.not_false, lenOk0, lenOk1, lenOk2, lenOk3, intD_int, absD_int, lenD_tup, lenD_lst, lenD_scr, tupD_lst, tupD_tup, startE, List.map_cons, List.map_nil, List.length_cons, List.length_nil, Nat.zero_add, Nat.reduceAdd, Nat.reduceSub, List.replicate_succ, List.replicate_zero, List.cons_append, List.nil_append, lenOk_small, Nat.reduceLeDiff, eq_self, items_tup, items_lst, ixM_tup, ixM_lst, decide_true, decide_false, wipeE, lcF_eq, lcB_so, lcC_t, lcC_f, noXM_ret, List.length_map, List.length_range, atI0, atI1, atI2, nc0, nc1, nc2, nc3, nc4, nc5, nc6, nc7, nc8, nc9, sum_sm]
  · simp only [ex_seq, nxt_nx, nxt_rt, nxt_ct, nxt_bk, ex_ifs, brn_t, brn_f, ex_pass, ex_ret, ex_expr, ex_asg, bndM_so, ex_par, ex_aug, ex_for, endD_nx, endD_rt, bind_nm, bind_nil, bind_cons, bind_consl, ev_var, ev_c, ev_bin, ev_neg, ev_cmp, chn_t, chn_f, ev_chain, ev_and, ev_or, ev_ite, and_t, and_f, or_t, or_f, ite_t, ite_f, ev_not, ev_tup, ev_lst, ev_ix, ev_sl, intM_int, ev_int, ev_lc, ev_call, evs_nil, evs_cons, evs_star, evs_it1, evs_rng1, evs_rng2, evs_zip, evs_enum, andThen_ret, andThen_assoc, optM_so, List.getElem?_cons_succ, List.getElem?_cons_zero, slotM_so, Option.bind_some, Option.map_some, bi_eq, binM_eq, cmpM_eq, slM_eq, nr_non, nr_bl, nr_int, nr_str, nr_tup, nr_lst, nr_ty, nr_scr, nr_emp, nrs_nil, nrs_cons, Bool.and_self, Bool.and_true, ev_dnew, List.set_cons_succ, List.set_cons_zero, bin_add, bin_sub, neg_int, cmp_lt, cmp_le, cmp_gt, cmp_ge, cmp_isbl, cmp_notbl, cmp_eq_int, cmp_ne_int, cmp_eq_bl, cmp_ne_bl, truthM_bl, Bool.not_true, Bool.not_false, lenOk0, lenOk1, lenOk2, lenOk3, intD_int, absD_int, lenD_tup, lenD_lst, lenD_scr, tupD_lst, tupD_tup, startE, List.map_cons, List.map_nil, List.length_cons, List.length_nil, Nat.zero_add, Nat.reduceAdd, Nat.reduceSub, List.replicate_succ, List.replicate_zero, List.cons_append, List.nil_append, lenOk_small, Nat.reduceLeDiff, eq_self, items_tup, items_lst, ixM_tup, ixM_lst, decide_true, decide_false, wipeE, lcF_eq, lcB_so, lcC_t, lcC_f, noXM_ret, List.length_map, List.length_range, atI0, atI1, atI2, nc0, nc1, nc2, nc3, nc4, nc5, nc6, nc7, nc8, nc9, bin_mul (okMul_big (hf i hi) (hg i hi))]
theorem turned_in {h w : Nat} {f : Nat → Nat → Int} (hh : h ≤ 120) (hw : w ≤ 120) : m_turned_in [gridR h w f] = ret (gridR w h fun j i => f i j) := by
  unfold m_turned_in c_turned_in
  rw [fn1]
  simp only [ex_seq, nxt_nx, nxt_rt, nxt_ct, nxt_bk, ex_ifs, brn_t, brn_f, ex_pass, ex_ret, ex_expr, ex_asg, bndM_so, ex_par, ex_aug, ex_for, endD_nx, endD_rt, bind_nm, bind_nil, bind_cons, bind_consl, ev_var, ev_c, ev_bin, ev_neg, ev_cmp, chn_t, chn_f, ev_chain, ev_and, ev_or, ev_ite, and_t, and_f, or_t, or_f, ite_t, ite_f, ev_not, ev_tup, ev_lst, ev_ix, ev_sl, intM_int, ev_int, ev_lc, ev_call, evs_nil, evs_cons, evs_star, evs_it1, evs_rng1, evs_rng2, evs_zip, evs_enum, andThen_ret, andThen_assoc, optM_so, List.getElem?_cons_succ, List.getElem?_cons_zero, slotM_so, Option.bind_some, Option.map_some, bi_eq, binM_eq, cmpM_eq, slM_eq, nr_non, nr_bl, nr_int, nr_str, nr_tup, nr_lst, nr_ty, nr_scr, nr_emp, nrs_nil, nrs_cons, Bool.and_self, Bool.and_true, ev_dnew, List.set_cons_succ, List.set_cons_zero, bin_add, bin_sub, neg_int, cmp_lt, cmp_le, cmp_gt, cmp_ge, cmp_isbl, cmp_notbl, cmp_eq_int, cmp_ne_int, cmp_eq_bl, cmp_ne_bl, truthM_bl, Bool.not_true, Bool.not_false, lenOk0, lenOk1, lenOk2, lenOk3, intD_int, absD_int, lenD_tup, lenD_lst, lenD_scr, tupD_lst, tupD_tup, startE, List.map_cons, List.map_nil, List.length_cons, List.length_nil, Nat.zero_add, Nat.reduceAdd, Nat.reduceSub, List.replicate_succ, List.replicate_zero, List.cons_append, List.nil_append, lenOk_small, Nat.reduceLeDiff, eq_self, items_tup, items_lst, ixM_tup, ixM_lst, decide_true, decide_false, wipeE, lcF_eq, lcB_so, lcC_t, lcC_f, noXM_ret, List.length_map, List.length_range, atI0, atI1, atI2, nc0, nc1, nc2, nc3, nc4, nc5, nc6, nc7, nc8, nc9, rng_nat (show w < 1000000 by omega)]
  rw [lc_rng (fun j => rowR h fun i => f i j) (fun j hj => ?_) (by omega)]
  · simp only [ex_seq, nxt_nx, nxt_rt, nxt_ct, nxt_bk, ex_ifs, brn_t, brn_f, ex_pass, ex_ret, ex_expr, ex_asg, bndM_so, ex_par, ex_aug, ex_for, endD_nx, endD_rt, bind_nm, bind_nil, bind_cons, bind_consl, ev_var, ev_c, ev_bin, ev_neg, ev_cmp, chn_t, chn_f, ev_chain, ev_and, ev_or, ev_ite, and_t, and_f, or_t, or_f, ite_t, ite_f, ev_not, ev_tup, ev_lst, ev_ix, ev_sl, intM_int, ev_int, ev_lc, ev_call, evs_nil, evs_cons, evs_star, evs_it1, evs_rng1, evs_rng2, evs_zip, evs_enum, andThen_ret, andThen_assoc, optM_so, List.getElem?_cons_succ, List.getElem?_cons_zero, slotM_so, Option.bind_some, Option.map_some, bi_eq, binM_eq, cmpM_eq, slM_eq, nr_non, nr_bl, nr_int, nr_str, nr_tup, nr_lst, nr_ty, nr_scr, nr_emp, nrs_nil, nrs_cons, Bool.and_self, Bool.and_true, ev_dnew, List.set_cons_succ, List.set_cons_zero, bin_add, bin_sub, neg_int, cmp_lt, cmp_le, cmp_gt, cmp_ge, cmp_isbl, cmp_notbl, cmp_eq_int, cmp_ne_int, cmp_eq_bl, cmp_ne_bl, truthM_bl, Bool.not_true, Bool.not_false, lenOk0, lenOk1, lenOk2, lenOk3, intD_int, absD_int, lenD_tup, lenD_lst, lenD_scr, tupD_lst, tupD_tup, startE, List.map_cons, List.map_nil, List.length_cons, List.length_nil, Nat.zero_add, Nat.reduceAdd, Nat.reduceSub, List.replicate_succ, List.replicate_zero, List.cons_append, List.nil_append, lenOk_small, Nat.reduceLeDiff, eq_self, items_tup, items_lst, ixM_tup, ixM_lst, decide_true, decide_false, wipeE, lcF_eq, lcB_so, lcC_t, lcC_f, noXM_ret, List.length_map, List.length_range, atI0, atI1, atI2, nc0, nc1, nc2, nc3, nc4, nc5, nc6, nc7, nc8, nc9]
  · simp only [ex_seq, nxt_nx, nxt_rt, nxt_ct, nxt_bk, ex_ifs, brn_t, brn_f, ex_pass, ex_ret, ex_expr, ex_asg, bndM_so, ex_par, ex_aug, ex_for, endD_nx, endD_rt, bind_nm, bind_nil, bind_cons, bind_consl, ev_var, ev_c, ev_bin, ev_neg, ev_cmp, chn_t, chn_f, ev_chain, ev_and, ev_or, ev_ite, and_t, and_f, or_t, or_f, ite_t, ite_f, ev_not, ev_tup, ev_lst, ev_ix, ev_sl, intM_int, ev_int, ev_lc, ev_call, evs_nil, evs_cons, evs_star, evs_it1, evs_rng1, evs_rng2, evs_zip, evs_enum, andThen_ret, andThen_assoc, optM_so, List.getElem?_cons_succ, List.getElem?_cons_zero, slotM_so, Option.bind_some, Option.map_some, bi_eq, binM_eq, cmpM_eq, slM_eq, nr_non, nr_bl, nr_int, nr_str, nr_tup, nr_lst, nr_ty, nr_scr, nr_emp, nrs_nil, nrs_cons, Bool.and_self, Bool.and_true, ev_dnew, List.set_cons_succ, List.set_cons_zero, bin_add, bin_sub, neg_int, cmp_lt, cmp_le, cmp_gt, cmp_ge, cmp_isbl, cmp_notbl, cmp_eq_int, cmp_ne_int, cmp_eq_bl, cmp_ne_bl, truthM_bl, Bool.not_true, Bool.not_false, lenOk0, lenOk1, lenOk2, lenOk3, intD_int, absD_int, lenD_tup, lenD_lst, lenD_scr, tupD_lst, tupD_tup, startE, List.map_cons, List.map_nil, List.length_cons, List.length_nil, Nat.zero_add, Nat.reduceAdd, Nat.reduceSub, List.replicate_succ, List.replicate_zero, List.cons_append, List.nil_append, lenOk_small, Nat.reduceLeDiff, eq_self, items_tup, items_lst, ixM_tup, ixM_lst, decide_true, decide_false, wipeE, lcF_eq, lcB_so, lcC_t, lcC_f, noXM_ret, List.length_map, List.length_range, atI0, atI1, atI2, nc0, nc1, nc2, nc3, nc4, nc5, nc6, nc7, nc8, nc9]
    rw [lc_rng (fun i => .int (f i j)) (fun i hi => ?_) (by omega)]
    · simp only [ex_seq, nxt_nx, nxt_rt, nxt_ct, nxt_bk, ex_ifs, brn_t, brn_f, ex_pass, ex_ret, ex_expr, ex_asg, bndM_so, ex_par, ex_aug, ex_for, endD_nx, endD_rt, bind_nm, bind_nil, bind_cons, bind_consl, ev_var, ev_c, ev_bin, ev_neg, ev_cmp, chn_t, chn_f, ev_chain, ev_and, ev_or, ev_ite, and_t, and_f, or_t, or_f, ite_t, ite_f, ev_not, ev_tup, ev_lst, ev_ix, ev_sl, intM_int, ev_int, ev_lc, ev_call, evs_nil, evs_cons, evs_star, evs_it1, evs_rng1, evs_rng2, evs_zip, evs_enum, andThen_ret, andThen_assoc, optM_so, List.getElem?_cons_succ, List.getElem?_cons_zero, slotM_so, Option.bind_some, Option.map_some, bi_eq, binM_eq, cmpM_eq, slM_eq, nr_non, nr_bl, nr_int, nr_str, nr_tup, nr_lst, nr_ty, nr_scr, nr_emp, nrs_nil, nrs_cons, Bool.and_self, Bool.and_true, ev_dnew, List.set_cons_succ, List.set_cons_zero, bin_add, bin_sub, neg_int, cmp_lt, cmp_le, cmp_gt, cmp_ge, cmp_isbl, cmp_notbl, cmp_eq_int, cmp_ne_int, cmp_eq_bl, cmp_ne_bl, truthM_bl, Bool.not_true, Bool.not_false, lenOk0, lenOk1, lenOk2, lenOk3, intD_int, absD_int, lenD_tup, lenD_lst, lenD_scr, tupD_lst, tupD_tup, startE, List.map_cons, List.map_nil, List.length_cons, List.length_nil, Nat.zero_add, Nat.reduceAdd, Nat.reduceSub, List.replicate_succ, List.replicate_zero, List.cons_append, List.nil_append, lenOk_small, Nat.reduceLeDiff, eq_self, items_tup, items_lst, ixM_tup, ixM_lst, decide_true, decide_false, wipeE, lcF_eq, lcB_so, lcC_t, lcC_f, noXM_ret, List.length_map, List.length_range, atI0, atI1, atI2, nc0, nc1, nc2, nc3, nc4, nc5, nc6, nc7, nc8, nc9]
    · simp only [ex_seq, nxt_nx, nxt_rt, nxt_ct, nxt_bk, ex_ifs, brn_t, brn_f, ex_pass, ex_ret, ex_expr, ex_asg, bndM_so, ex_par, ex_aug, ex_for, endD_nx, endD_rt, bind_nm, bind_nil, bind_cons, bind_consl, ev_var, ev_c, ev_bin, ev_neg, ev_cmp, chn_t, chn_f, ev_chain, ev_and, ev_or, ev_ite, and_t, and_f, or_t, or_f, ite_t, ite_f, ev_not, ev_tup, ev_lst, ev_ix, ev_sl, intM_int, ev_int, ev_lc, ev_call, evs_nil, evs_cons, evs_star, evs_it1, evs_rng1, evs_rng2, evs_zip, evs_enum, andThen_ret, andThen_assoc, optM_so, List.getElem?_cons_succ, List.getElem?_cons_zero, slotM_so, Option.bind_some, Option.map_some, bi_eq, binM_eq, cmpM_eq, slM_eq, nr_non, nr_bl, nr_int, nr_str, nr_tup, nr_lst, nr_ty, nr_scr, nr_emp, nrs_nil, nrs_cons, Bool.and_self, Bool.and_true, ev_dnew, List.set_cons_succ, List.set_cons_zero, bin_add, bin_sub, neg_int, cmp_lt, cmp_le, cmp_gt, cmp_ge, cmp_isbl, cmp_notbl, cmp_eq_int, cmp_ne_int, cmp_eq_bl, cmp_ne_bl, truthM_bl, Bool.not_true, Bool.not_false, lenOk0, lenOk1, lenOk2, lenOk3, intD_int, absD_int, lenD_tup, lenD_lst, lenD_scr, tupD_lst, tupD_tup, startE, List.map_cons, List.map_nil, List.length_cons, List.length_nil, Nat.zero_add, Nat.reduceAdd, Nat.reduceSub, List.replicate_succ, List.replicate_zero, List.cons_append, List.nil_append, lenOk_small, Nat.reduceLeDiff, eq_self, items_tup, items_lst, ixM_tup, ixM_lst, decide_true, decide_false, wipeE, lcF_eq, lcB_so, lcC_t, lcC_f, noXM_ret, List.length_map, List.length_range, atI0, atI1, atI2, nc0, nc1, nc2, nc3, nc4, nc5, nc6, nc7, nc8, nc9, ix_rng hj]
theorem times_in {h k w : Nat} {f g : Nat → Nat → Int} (hh : h ≤ 60) (hk : k ≤ 60) (hw : w ≤ 60) (hf : ∀ i j, i < h → j < k → big (f i j)) (hg : ∀ i j, i < k → j < w → big (g i j)) : m_times_in [gridR h k f, gridR k w g] = ret (gridR h w fun i j => sm k fun l => f i l * g l j) := by
  unfold m_times_in c_times_in
  rw [fn2]
  simp only [ex_seq, nxt_nx, nxt_rt, nxt_ct, nxt_bk, ex_ifs, brn_t, brn_f, ex_pass, ex_ret, ex_expr, ex_asg, bndM_so, ex_par, ex_aug, ex_for, endD_nx, endD_rt, bind_nm, bind_nil, bind_cons, bind_consl, ev_var, ev_c, ev_bin, ev_neg, ev_cmp, chn_t, chn_f, ev_chain, ev_and, ev_or, ev_ite, and_t, and_f, or_t, or_f, ite_t, ite_f, ev_not, ev_tup, ev_lst, ev_ix, ev_sl, intM_int, ev_int, ev_lc, ev_call, evs_nil, evs_cons, evs_star, evs_it1, evs_rng1, evs_rng2, evs_zip, evs_enum, andThen_ret, andThen_assoc, optM_so, List.getElem?_cons_succ, List.getElem?_cons_zero, slotM_so, Option.bind_some, Option.map_some, bi_eq, binM_eq, cmpM_eq, slM_eq, nr_non, nr_bl, nr_int, nr_str, nr_tup, nr_lst, nr_ty, nr_scr, nr_emp, nrs_nil, nrs_cons, Bool.and_self, Bool.and_true, ev_dnew, List.set_cons_succ, List.set_cons_zero, bin_add, bin_sub, neg_int, cmp_lt, cmp_le, cmp_gt, cmp_ge, cmp_isbl, cmp_notbl, cmp_eq_int, cmp_ne_int, cmp_eq_bl, cmp_ne_bl, truthM_bl, Bool.not_true, Bool.not_false, lenOk0, lenOk1, lenOk2, lenOk3, intD_int, absD_int, lenD_tup, lenD_lst, lenD_scr, tupD_lst, tupD_tup, startE, List.map_cons, List.map_nil, List.length_cons, List.length_nil, Nat.zero_add, Nat.reduceAdd, Nat.reduceSub, List.replicate_succ, List.replicate_zero, List.cons_append, List.nil_append, lenOk_small, Nat.reduceLeDiff, eq_self, items_tup, items_lst, ixM_tup, ixM_lst, decide_true, decide_false, wipeE, lcF_eq, lcB_so, lcC_t, lcC_f, noXM_ret, List.length_map, List.length_range, atI0, atI1, atI2, nc0, nc1, nc2, nc3, nc4, nc5, nc6, nc7, nc8, nc9, turned_in (show k ≤ 120 by omega) (show w ≤ 120 by omega)]
  rw [lc_rng (fun i => rowR w fun j => sm k fun l => f i l * g l j) (fun i hi => ?_) (by omega)]
  · simp only [ex_seq, nxt_nx, nxt_rt, nxt_ct, nxt_bk, ex_ifs, brn_t, brn_f, ex_pass, ex_ret, ex_expr, ex_asg, bndM_so, ex_par, ex_aug, ex_for, endD_nx, endD_rt, bind_nm, bind_nil, bind_cons, bind_consl, ev_var, ev_c, ev_bin, ev_neg, ev_cmp, chn_t, chn_f, ev_chain, ev_and, ev_or, ev_ite, and_t, and_f, or_t, or_f, ite_t, ite_f, ev_not, ev_tup, ev_lst, ev_ix, ev_sl, intM_int, ev_int, ev_lc, ev_call, evs_nil, evs_cons, evs_star, evs_it1, evs_rng1, evs_rng2, evs_zip, evs_enum, andThen_ret, andThen_assoc, optM_so, List.getElem?_cons_succ, List.getElem?_cons_zero, slotM_so, Option.bind_some, Option.map_some, bi_eq, binM_eq, cmpM_eq, slM_eq, nr_non, nr_bl, nr_int, nr_str, nr_tup, nr_lst, nr_ty, nr_scr, nr_emp, nrs_nil, nrs_cons, Bool.and_self, Bool.and_true, ev_dnew, List.set_cons_succ, List.set_cons_zero, bin_add, bin_sub, neg_int, cmp_lt, cmp_le, cmp_gt, cmp_ge, cmp_isbl, cmp_notbl, cmp_eq_int, cmp_ne_int, cmp_eq_bl, cmp_ne_bl, truthM_bl, Bool.not_true, Bool.not_false, lenOk0, lenOk1, lenOk2, lenOk3, intD_int, absD_int, lenD_tup, lenD_lst, lenD_scr, tupD_lst, tupD_tup, startE, List.map_cons, List.map_nil, List.length_cons, List.length_nil, Nat.zero_add, Nat.reduceAdd, Nat.reduceSub, List.replicate_succ, List.replicate_zero, List.cons_append, List.nil_append, lenOk_small, Nat.reduceLeDiff, eq_self, items_tup, items_lst, ixM_tup, ixM_lst, decide_true, decide_false, wipeE, lcF_eq, lcB_so, lcC_t, lcC_f, noXM_ret, List.length_map, List.length_range, atI0, atI1, atI2, nc0, nc1, nc2, nc3, nc4, nc5, nc6, nc7, nc8, nc9]
  · simp only [ex_seq, nxt_nx, nxt_rt, nxt_ct, nxt_bk, ex_ifs, brn_t, brn_f, ex_pass, ex_ret, ex_expr, ex_asg, bndM_so, ex_par, ex_aug, ex_for, endD_nx, endD_rt, bind_nm, bind_nil, bind_cons, bind_consl, ev_var, ev_c, ev_bin, ev_neg, ev_cmp, chn_t, chn_f, ev_chain, ev_and, ev_or, ev_ite, and_t, and_f, or_t, or_f, ite_t, ite_f, ev_not, ev_tup, ev_lst, ev_ix, ev_sl, intM_int, ev_int, ev_lc, ev_call, evs_nil, evs_cons, evs_star, evs_it1, evs_rng1, evs_rng2, evs_zip, evs_enum, andThen_ret, andThen_assoc, optM_so, List.getElem?_cons_succ, List.getElem?_cons_zero, slotM_so, Option.bind_some, Option.map_some, bi_eq, binM_eq, cmpM_eq, slM_eq, nr_non, nr_bl, nr_int, nr_str, nr_tup, nr_lst, nr_ty, nr_scr, nr_emp, nrs_nil, nrs_cons, Bool.and_self, Bool.and_true, ev_dnew, List.set_cons_succ, List.set_cons_zero, bin_add, bin_sub, neg_int, cmp_lt, cmp_le, cmp_gt, cmp_ge, cmp_isbl, cmp_notbl, cmp_eq_int, cmp_ne_int, cmp_eq_bl, cmp_ne_bl, truthM_bl, Bool.not_true, Bool.not_false, lenOk0, lenOk1, lenOk2, lenOk3, intD_int, absD_int, lenD_tup, lenD_lst, lenD_scr, tupD_lst, tupD_tup, startE, List.map_cons, List.map_nil, List.length_cons, List.length_nil, Nat.zero_add, Nat.reduceAdd, Nat.reduceSub, List.replicate_succ, List.replicate_zero, List.cons_append, List.nil_append, lenOk_small, Nat.reduceLeDiff, eq_self, items_tup, items_lst, ixM_tup, ixM_lst, decide_true, decide_false, wipeE, lcF_eq, lcB_so, lcC_t, lcC_f, noXM_ret, List.length_map, List.length_range, atI0, atI1, atI2, nc0, nc1, nc2, nc3, nc4, nc5, nc6, nc7, nc8, nc9]
    rw [lc_rng (fun j => .int (sm k fun l => f i l * g l j)) (fun j hj => ?_) (by omega)]
    · simp only [ex_seq, nxt_nx, nxt_rt, nxt_ct, nxt_bk, ex_ifs, brn_t, brn_f, ex_pass, ex_ret, ex_expr, ex_asg, bndM_so, ex_par, ex_aug, ex_for, endD_nx, endD_rt, bind_nm, bind_nil, bind_cons, bind_consl, ev_var, ev_c, ev_bin, ev_neg, ev_cmp, chn_t, chn_f, ev_chain, ev_and, ev_or, ev_ite, and_t, and_f, or_t, or_f, ite_t, ite_f, ev_not, ev_tup, ev_lst, ev_ix, ev_sl, intM_int, ev_int, ev_lc, ev_call, evs_nil, evs_cons, evs_star, evs_it1, evs_rng1, evs_rng2, evs_zip, evs_enum, andThen_ret, andThen_assoc, optM_so, List.getElem?_cons_succ, List.getElem?_cons_zero, slotM_so, Option.bind_some, Option.map_some, bi_eq, binM_eq, cmpM_eq, slM_eq, nr_non, nr_bl, nr_int, nr_str, nr_tup, nr_lst, nr_ty, nr_scr, nr_emp, nrs_nil, nrs_cons, Bool.and_self, Bool.and_true, ev_dnew, List.set_cons_succ, List.set_cons_zero, bin_add, bin_sub, neg_int, cmp_lt, cmp_le, cmp_gt, cmp_ge, cmp_isbl, cmp_notbl, cmp_eq_int, cmp_ne_int, cmp_eq_bl, cmp_ne_bl, truthM_bl, Bool.not_true, Bool.not_false, lenOk0, lenOk1, lenOk2, lenOk3, intD_int, absD_int, lenD_tup, lenD_lst, lenD_scr, tupD_lst, tupD_tup, startE, List.map_cons, List.map_nil, List.length_cons, List.length_nil, Nat.zero_add, Nat.reduceAdd, Nat.reduceSub, List.replicate_succ, List.replicate_zero, List.cons_append, List.nil_append, lenOk_small, Nat.reduceLeDiff, eq_self, items_tup, items_lst, ixM_tup, ixM_lst, decide_true, decide_false, wipeE, lcF_eq, lcB_so, lcC_t, lcC_f, noXM_ret, List.length_map, List.length_range, atI0, atI1, atI2, nc0, nc1, nc2, nc3, nc4, nc5, nc6, nc7, nc8, nc9]
    · simp only [ex_seq, nxt_nx, nxt_rt, nxt_ct, nxt_bk, ex_ifs, brn_t, brn_f, ex_pass, ex_ret, ex_expr, ex_asg, bndM_so, ex_par, ex_aug, ex_for, endD_nx, endD_rt, bind_nm, bind_nil, bind_cons, bind_consl, ev_var, ev_c, ev_bin, ev_neg, ev_cmp, chn_t, chn_f, ev_chain, ev_and, ev_or, ev_ite, and_t, and_f, or_t, or_f, ite_t, ite_f, ev_not, ev_tup, ev_lst, ev_ix, ev_sl, intM_int, ev_int, ev_lc, ev_call, evs_nil, evs_cons, evs_star, evs_it1, evs_rng1, evs_rng2, evs_zip, evs_enum, andThen_ret, andThen_assoc, optM_so, List.getElem?_cons_succ, List.getElem?_cons_zero, slotM_so, Option.bind_some, Option.map_some, bi_eq, binM_eq, cmpM_eq, slM_eq, nr_non, nr_bl, nr_int, nr_str, nr_tup, nr_lst, nr_ty, nr_scr, nr_emp, nrs_nil, nrs_cons, Bool.and_self, Bool.and_true, ev_dnew, List.set_cons_succ, List.set_cons_zero, bin_add, bin_sub, neg_int, cmp_lt, cmp_le, cmp_gt, cmp_ge, cmp_isbl, cmp_notbl, cmp_eq_int, cmp_ne_int, cmp_eq_bl, cmp_ne_bl, truthM_bl, Bool.not_true, Bool.not_false, lenOk0, lenOk1, lenOk2, lenOk3, intD_int, absD_int, lenD_tup, lenD_lst, lenD_scr, tupD_lst, tupD_tup, startE, List.map_cons, List.map_nil, List.length_cons, List.length_nil, Nat.zero_add, Nat.reduceAdd, Nat.reduceSub, List.replicate_succ, List.replicate_zero, List.cons_append, List.nil_append, lenOk_small, Nat.reduceLeDiff, eq_self, items_tup, items_lst, ixM_tup, ixM_lst, decide_true, decide_false, wipeE, lcF_eq, lcB_so, lcC_t, lcC_f, noXM_ret, List.length_map, List.length_range, atI0, atI1, atI2, nc0, nc1, nc2, nc3, nc4, nc5, nc6, nc7, nc8, nc9, dot_in hk (fun l hl => hf i l hi hl) (fun l hl => hg l j hl hj)]
theorem sm_big {x : Int} (h : small x) : big x := by unfold small at h; unfold big; omega
abbrev GS (h w : Nat) (f : Nat → Nat → Int) : Prop := ∀ i j, i < h → j < w → small (f i j)
abbrev RS (n : Nat) (f : Nat → Int) : Prop := ∀ j, j < n → small (f j)
theorem beside_in {h w v : Nat} {f g : Nat → Nat → Int} (hh : h ≤ 60) (hw : w ≤ 60) (hv : v ≤ 60) : m_beside_in [gridR h w f, gridR h v g] = ret (gridR h (w + v) fun i j => jn w (f i) (g i) j) := by
  unfold m_beside_in c_beside_in
  rw [fn2]
  simp only [ex_seq, nxt_nx, nxt_rt, nxt_ct, nxt_bk, ex_ifs, brn_t, brn_f, ex_pass, ex_ret, ex_expr, ex_asg, bndM_so, ex_par, ex_aug, ex_for, endD_nx, endD_rt, bind_nm, bind_nil, bind_cons, bind_consl, ev_var, ev_c, ev_bin, ev_neg, ev_cmp, chn_t, chn_f, ev_chain, ev_and, ev_or, ev_ite, and_t, and_f, or_t, or_f, ite_t, ite_f, ev_not, ev_tup, ev_lst, ev_ix, ev_sl, intM_int, ev_int, ev_lc, ev_call, evs_nil, evs_cons, evs_star, evs_it1, evs_rng1, evs_rng2, evs_zip, evs_enum, andThen_ret, andThen_assoc, optM_so, List.getElem?_cons_succ, List.getElem?_cons_zero, slotM_so, Option.bind_some, Option.map_some, bi_eq, binM_eq, cmpM_eq, slM_eq, nr_non, nr_bl, nr_int, nr_str, nr_tup, nr_lst, nr_ty, nr_scr, nr_emp, nrs_nil, nrs_cons, Bool.and_self, Bool.and_true, ev_dnew, List.set_cons_succ, List.set_cons_zero, bin_add, bin_sub, neg_int, cmp_lt, cmp_le, cmp_gt, cmp_ge, cmp_isbl, cmp_notbl, cmp_eq_int, cmp_ne_int, cmp_eq_bl, cmp_ne_bl, truthM_bl, Bool.not_true, Bool.not_false, lenOk0, lenOk1, lenOk2, lenOk3, intD_int, absD_int, lenD_tup, lenD_lst, lenD_scr, tupD_lst, tupD_tup, startE, List.map_cons, List.map_nil, List.length_cons, List.length_nil, Nat.zero_add, Nat.reduceAdd, Nat.reduceSub, List.replicate_succ, List.replicate_zero, List.cons_append, List.nil_append, lenOk_small, Nat.reduceLeDiff, eq_self, items_tup, items_lst, ixM_tup, ixM_lst, decide_true, decide_false, wipeE, lcF_eq, lcB_so, lcC_t, lcC_f, noXM_ret, List.length_map, List.length_range, atI0, atI1, atI2, nc0, nc1, nc2, nc3, nc4, nc5, nc6, nc7, nc8, nc9, zip_rng]
  rw [lc_rng (fun i => rowR (w + v) fun j => jn w (f i) (g i) j) (fun i hi => ?_) (by omega)]
  · simp only [ex_seq, nxt_nx, nxt_rt, nxt_ct, nxt_bk, ex_ifs, brn_t, brn_f, ex_pass, ex_ret, ex_expr, ex_asg, bndM_so, ex_par, ex_aug, ex_for, endD_nx, endD_rt, bind_nm, bind_nil, bind_cons, bind_consl, ev_var, ev_c, ev_bin, ev_neg, ev_cmp, chn_t, chn_f, ev_chain, ev_and, ev_or, ev_ite, and_t, and_f, or_t, or_f, ite_t, ite_f, ev_not, ev_tup, ev_lst, ev_ix, ev_sl, intM_int, ev_int, ev_lc, ev_call, evs_nil, evs_cons, evs_star, evs_it1, evs_rng1, evs_rng2, evs_zip, evs_enum, andThen_ret, andThen_assoc, optM_so, List.getElem?_cons_succ, List.getElem?_cons_zero, slotM_so, Option.bind_some, Option.map_some, bi_eq, binM_eq, cmpM_eq, slM_eq, nr_non, nr_bl, nr_int, nr_str, nr_tup, nr_lst, nr_ty, nr_scr, nr_emp, nrs_nil, nrs_cons, Bool.and_self, Bool.and_true, ev_dnew, List.set_cons_succ, List.set_cons_zero, bin_add, bin_sub, neg_int, cmp_lt, cmp_le, cmp_gt, cmp_ge, cmp_isbl, cmp_notbl, cmp_eq_int, cmp_ne_int, cmp_eq_bl, cmp_ne_bl, truthM_bl, Bool.not_true, Bool.not_false, lenOk0, lenOk1, lenOk2, lenOk3, intD_int, absD_int, lenD_tup, lenD_lst, lenD_scr, tupD_lst, tupD_tup, startE, List.map_cons, List.map_nil, List.length_cons, List.length_nil, Nat.zero_add, Nat.reduceAdd, Nat.reduceSub, List.replicate_succ, List.replicate_zero, List.cons_append, List.nil_append, lenOk_small, Nat.reduceLeDiff, eq_self, items_tup, items_lst, ixM_tup, ixM_lst, decide_true, decide_false, wipeE, lcF_eq, lcB_so, lcC_t, lcC_f, noXM_ret, List.length_map, List.length_range, atI0, atI1, atI2, nc0, nc1, nc2, nc3, nc4, nc5, nc6, nc7, nc8, nc9]
    rfl
  · simp only [ex_seq, nxt_nx, nxt_rt, nxt_ct, nxt_bk, ex_ifs, brn_t, brn_f, ex_pass, ex_ret, ex_expr, ex_asg, bndM_so, ex_par, ex_aug, ex_for, endD_nx, endD_rt, bind_nm, bind_nil, bind_cons, bind_consl, ev_var, ev_c, ev_bin, ev_neg, ev_cmp, chn_t, chn_f, ev_chain, ev_and, ev_or, ev_ite, and_t, and_f, or_t, or_f, ite_t, ite_f, ev_not, ev_tup, ev_lst, ev_ix, ev_sl, intM_int, ev_int, ev_lc, ev_call, evs_nil, evs_cons, evs_star, evs_it1, evs_rng1, evs_rng2, evs_zip, evs_enum, andThen_ret, andThen_assoc, optM_so, List.getElem?_cons_succ, List.getElem?_cons_zero, slotM_so, Option.bind_some, Option.map_some, bi_eq, binM_eq, cmpM_eq, slM_eq, nr_non, nr_bl, nr_int, nr_str, nr_tup, nr_lst, nr_ty, nr_scr, nr_emp, nrs_nil, nrs_cons, Bool.and_self, Bool.and_true, ev_dnew, List.set_cons_succ, List.set_cons_zero, bin_add, bin_sub, neg_int, cmp_lt, cmp_le, cmp_gt, cmp_ge, cmp_isbl, cmp_notbl, cmp_eq_int, cmp_ne_int, cmp_eq_bl, cmp_ne_bl, truthM_bl, Bool.not_true, Bool.not_false, lenOk0, lenOk1, lenOk2, lenOk3, intD_int, absD_int, lenD_tup, lenD_lst, lenD_scr, tupD_lst, tupD_tup, startE, List.map_cons, List.map_nil, List.length_cons, List.length_nil, Nat.zero_add, Nat.reduceAdd, Nat.reduceSub, List.replicate_succ, List.replicate_zero, List.cons_append, List.nil_append, lenOk_small, Nat.reduceLeDiff, eq_self, items_tup, items_lst, ixM_tup, ixM_lst, decide_true, decide_false, wipeE, lcF_eq, lcB_so, lcC_t, lcC_f, noXM_ret, List.length_map, List.length_range, atI0, atI1, atI2, nc0, nc1, nc2, nc3, nc4, nc5, nc6, nc7, nc8, nc9, List.append_nil, row_app]
    rw [lenOk_small (by rw [List.length_map, List.length_range]; omega)]
    rfl
theorem over_in {h k w : Nat} {f g : Nat → Nat → Int} (hh : h ≤ 60) (hw : w ≤ 60) (hv : k ≤ 60) : m_over_in [gridR h w f, gridR k w g] = ret (gridR (h + k) w fun i j => jn h f g i j) := by
  unfold m_over_in c_over_in
  rw [fn2]
  simp only [ex_seq, nxt_nx, nxt_rt, nxt_ct, nxt_bk, ex_ifs, brn_t, brn_f, ex_pass, ex_ret, ex_expr, ex_asg, bndM_so, ex_par, ex_aug, ex_for, endD_nx, endD_rt, bind_nm, bind_nil, bind_cons, bind_consl, ev_var, ev_c, ev_bin, ev_neg, ev_cmp, chn_t, chn_f, ev_chain, ev_and, ev_or, ev_ite, and_t, and_f, or_t, or_f, ite_t, ite_f, ev_not, ev_tup, ev_lst, ev_ix, ev_sl, intM_int, ev_int, ev_lc, ev_call, evs_nil, evs_cons, evs_star, evs_it1, evs_rng1, evs_rng2, evs_zip, evs_enum, andThen_ret, andThen_assoc, optM_so, List.getElem?_cons_succ, List.getElem?_cons_zero, slotM_so, Option.bind_some, Option.map_some, bi_eq, binM_eq, cmpM_eq, slM_eq, nr_non, nr_bl, nr_int, nr_str, nr_tup, nr_lst, nr_ty, nr_scr, nr_emp, nrs_nil, nrs_cons, Bool.and_self, Bool.and_true, ev_dnew, List.set_cons_succ, List.set_cons_zero, bin_add, bin_sub, neg_int, cmp_lt, cmp_le, cmp_gt, cmp_ge, cmp_isbl, cmp_notbl, cmp_eq_int, cmp_ne_int, cmp_eq_bl, cmp_ne_bl, truthM_bl, Bool.not_true, Bool.not_false, lenOk0, lenOk1, lenOk2, lenOk3, intD_int, absD_int, lenD_tup, lenD_lst, lenD_scr, tupD_lst, tupD_tup, startE, List.map_cons, List.map_nil, List.length_cons, List.length_nil, Nat.zero_add, Nat.reduceAdd, Nat.reduceSub, List.replicate_succ, List.replicate_zero, List.cons_append, List.nil_append, lenOk_small, Nat.reduceLeDiff, eq_self, items_tup, items_lst, ixM_tup, ixM_lst, decide_true, decide_false, wipeE, lcF_eq, lcB_so, lcC_t, lcC_f, noXM_ret, List.length_map, List.length_range, atI0, atI1, atI2, nc0, nc1, nc2, nc3, nc4, nc5, nc6, nc7, nc8, nc9, List.append_nil, rows_app]
  rw [lenOk_small (by rw [List.length_map, List.length_range]; omega)]
  simp only [ex_seq, nxt_nx, nxt_rt, nxt_ct, nxt_bk, ex_ifs, brn_t, brn_f, ex_pass, ex_ret, ex_expr, ex_asg, bndM_so, ex_par, ex_aug, ex_for, endD_nx, endD_rt, bind_nm, bind_nil, bind_cons, bind_consl, ev_var, ev_c, ev_bin, ev_neg, ev_cmp, chn_t, chn_f, ev_chain, ev_and, ev_or, ev_ite, and_t, and_f, or_t, or_f, ite_t, ite_f, ev_not, ev_tup, ev_lst, ev_ix, ev_sl, intM_int, ev_int, ev_lc, ev_call, evs_nil, evs_cons, evs_star, evs_it1, evs_rng1, evs_rng2, evs_zip, evs_enum, andThen_ret, andThen_assoc, optM_so, List.getElem?_cons_succ, List.getElem?_cons_zero, slotM_so, Option.bind_some, Option.map_some, bi_eq, binM_eq, cmpM_eq, slM_eq, nr_non, nr_bl, nr_int, nr_str, nr_tup, nr_lst, nr_ty, nr_scr, nr_emp, nrs_nil, nrs_cons, Bool.and_self, Bool.and_true, ev_dnew, List.set_cons_succ, List.set_cons_zero, bin_add, bin_sub, neg_int, cmp_lt, cmp_le, cmp_gt, cmp_ge, cmp_isbl, cmp_notbl, cmp_eq_int, cmp_ne_int, cmp_eq_bl, cmp_ne_bl, truthM_bl, Bool.not_true, Bool.not_false, lenOk0, lenOk1, lenOk2, lenOk3, intD_int, absD_int, lenD_tup, lenD_lst, lenD_scr, tupD_lst, tupD_tup, startE, List.map_cons, List.map_nil, List.length_cons, List.length_nil, Nat.zero_add, Nat.reduceAdd, Nat.reduceSub, List.replicate_succ, List.replicate_zero, List.cons_append, List.nil_append, lenOk_small, Nat.reduceLeDiff, eq_self, items_tup, items_lst, ixM_tup, ixM_lst, decide_true, decide_false, wipeE, lcF_eq, lcB_so, lcC_t, lcC_f, noXM_ret, List.length_map, List.length_range, atI0, atI1, atI2, nc0, nc1, nc2, nc3, nc4, nc5, nc6, nc7, nc8, nc9]
theorem two_grids {h w k v : Nat} {f g : Nat → Nat → Int} (hh : h ≤ 60) (hw : w ≤ 60) (hk : k ≤ 60) (hv : v ≤ 60) (hf : GS h w f) (hg : GS k v g) : m_require_two_grids [gridR h w f, gridR k v g] = ret .non := by
  unfold m_require_two_grids c_require_two_grids
  rw [fn2]
  simp only [ex_seq, nxt_nx, nxt_rt, nxt_ct, nxt_bk, ex_ifs, brn_t, brn_f, ex_pass, ex_ret, ex_expr, ex_asg, bndM_so, ex_par, ex_aug, ex_for, endD_nx, endD_rt, bind_nm, bind_nil, bind_cons, bind_consl, ev_var, ev_c, ev_bin, ev_neg, ev_cmp, chn_t, chn_f, ev_chain, ev_and, ev_or, ev_ite, and_t, and_f, or_t, or_f, ite_t, ite_f, ev_not, ev_tup, ev_lst, ev_ix, ev_sl, intM_int, ev_int, ev_lc, ev_call, evs_nil, evs_cons, evs_star, evs_it1, evs_rng1, evs_rng2, evs_zip, evs_enum, andThen_ret, andThen_assoc, optM_so, List.getElem?_cons_succ, List.getElem?_cons_zero, slotM_so, Option.bind_some, Option.map_some, bi_eq, binM_eq, cmpM_eq, slM_eq, nr_non, nr_bl, nr_int, nr_str, nr_tup, nr_lst, nr_ty, nr_scr, nr_emp, nrs_nil, nrs_cons, Bool.and_self, Bool.and_true, ev_dnew, List.set_cons_succ, List.set_cons_zero, bin_add, bin_sub, neg_int, cmp_lt, cmp_le, cmp_gt, cmp_ge, cmp_isbl, cmp_notbl, cmp_eq_int, cmp_ne_int, cmp_eq_bl, cmp_ne_bl, truthM_bl, Bool.not_true, Bool.not_false, lenOk0, lenOk1, lenOk2, lenOk3, intD_int, absD_int, lenD_tup, lenD_lst, lenD_scr, tupD_lst, tupD_tup, startE, List.map_cons, List.map_nil, List.length_cons, List.length_nil, Nat.zero_add, Nat.reduceAdd, Nat.reduceSub, List.replicate_succ, List.replicate_zero, List.cons_append, List.nil_append, lenOk_small, Nat.reduceLeDiff, eq_self, items_tup, items_lst, ixM_tup, ixM_lst, decide_true, decide_false, wipeE, lcF_eq, lcB_so, lcC_t, lcC_f, noXM_ret, List.length_map, List.length_range, atI0, atI1, atI2, nc0, nc1, nc2, nc3, nc4, nc5, nc6, nc7, nc8, nc9, req_grid hh hw hf, req_grid hk hv hg]
theorem need_size {n : Int} (hn : n ≤ 60) : m_need_size [.int n] = ret .non := by
  unfold m_need_size c_need_size
  rw [fn1]
  simp only [ex_seq, nxt_nx, nxt_rt, nxt_ct, nxt_bk, ex_ifs, brn_t, brn_f, ex_pass, ex_ret, ex_expr, ex_asg, bndM_so, ex_par, ex_aug, ex_for, endD_nx, endD_rt, bind_nm, bind_nil, bind_cons, bind_consl, ev_var, ev_c, ev_bin, ev_neg, ev_cmp, chn_t, chn_f, ev_chain, ev_and, ev_or, ev_ite, and_t, and_f, or_t, or_f, ite_t, ite_f, ev_not, ev_tup, ev_lst, ev_ix, ev_sl, intM_int, ev_int, ev_lc, ev_call, evs_nil, evs_cons, evs_star, evs_it1, evs_rng1, evs_rng2, evs_zip, evs_enum, andThen_ret, andThen_assoc, optM_so, List.getElem?_cons_succ, List.getElem?_cons_zero, slotM_so, Option.bind_some, Option.map_some, bi_eq, binM_eq, cmpM_eq, slM_eq, nr_non, nr_bl, nr_int, nr_str, nr_tup, nr_lst, nr_ty, nr_scr, nr_emp, nrs_nil, nrs_cons, Bool.and_self, Bool.and_true, ev_dnew, List.set_cons_succ, List.set_cons_zero, bin_add, bin_sub, neg_int, cmp_lt, cmp_le, cmp_gt, cmp_ge, cmp_isbl, cmp_notbl, cmp_eq_int, cmp_ne_int, cmp_eq_bl, cmp_ne_bl, truthM_bl, Bool.not_true, Bool.not_false, lenOk0, lenOk1, lenOk2, lenOk3, intD_int, absD_int, lenD_tup, lenD_lst, lenD_scr, tupD_lst, tupD_tup, startE, List.map_cons, List.map_nil, List.length_cons, List.length_nil, Nat.zero_add, Nat.reduceAdd, Nat.reduceSub, List.replicate_succ, List.replicate_zero, List.cons_append, List.nil_append, lenOk_small, Nat.reduceLeDiff, eq_self, items_tup, items_lst, ixM_tup, ixM_lst, decide_true, decide_false, wipeE, lcF_eq, lcB_so, lcC_t, lcC_f, noXM_ret, List.length_map, List.length_range, atI0, atI1, atI2, nc0, nc1, nc2, nc3, nc4, nc5, nc6, nc7, nc8, nc9, decide_eq_false (show ¬ 60 < n by omega)]
theorem turned {h w : Nat} {f : Nat → Nat → Int} (hh : h ≤ 60) (hw : w ≤ 60) (hf : GS h w f) : m_turned [gridR h w f] = ret (gridR w h fun j i => f i j) := by
  unfold m_turned c_turned
  rw [fn1]
  simp only [ex_seq, nxt_nx, nxt_rt, nxt_ct, nxt_bk, ex_ifs, brn_t, brn_f, ex_pass, ex_ret, ex_expr, ex_asg, bndM_so, ex_par, ex_aug, ex_for, endD_nx, endD_rt, bind_nm, bind_nil, bind_cons, bind_consl, ev_var, ev_c, ev_bin, ev_neg, ev_cmp, chn_t, chn_f, ev_chain, ev_and, ev_or, ev_ite, and_t, and_f, or_t, or_f, ite_t, ite_f, ev_not, ev_tup, ev_lst, ev_ix, ev_sl, intM_int, ev_int, ev_lc, ev_call, evs_nil, evs_cons, evs_star, evs_it1, evs_rng1, evs_rng2, evs_zip, evs_enum, andThen_ret, andThen_assoc, optM_so, List.getElem?_cons_succ, List.getElem?_cons_zero, slotM_so, Option.bind_some, Option.map_some, bi_eq, binM_eq, cmpM_eq, slM_eq, nr_non, nr_bl, nr_int, nr_str, nr_tup, nr_lst, nr_ty, nr_scr, nr_emp, nrs_nil, nrs_cons, Bool.and_self, Bool.and_true, ev_dnew, List.set_cons_succ, List.set_cons_zero, bin_add, bin_sub, neg_int, cmp_lt, cmp_le, cmp_gt, cmp_ge, cmp_isbl, cmp_notbl, cmp_eq_int, cmp_ne_int, cmp_eq_bl, cmp_ne_bl, truthM_bl, Bool.not_true, Bool.not_false, lenOk0, lenOk1, lenOk2, lenOk3, intD_int, absD_int, lenD_tup, lenD_lst, lenD_scr, tupD_lst, tupD_tup, startE, List.map_cons, List.map_nil, List.length_cons, List.length_nil, Nat.zero_add, Nat.reduceAdd, Nat.reduceSub, List.replicate_succ, List.replicate_zero, List.cons_append, List.nil_append, lenOk_small, Nat.reduceLeDiff, eq_self, items_tup, items_lst, ixM_tup, ixM_lst, decide_true, decide_false, wipeE, lcF_eq, lcB_so, lcC_t, lcC_f, noXM_ret, List.length_map, List.length_range, atI0, atI1, atI2, nc0, nc1, nc2, nc3, nc4, nc5, nc6, nc7, nc8, nc9, req_grid hh hw hf, turned_in (show h ≤ 120 by omega) (show w ≤ 120 by omega)]
theorem grid_product {h k w : Nat} {f g : Nat → Nat → Int} (hh : h ≤ 60) (hk : k ≤ 60) (hw : w ≤ 60) (hf : GS h k f) (hg : GS k w g) : m_grid_product [gridR h k f, gridR k w g] = ret (gridR h w fun i j => sm k fun l => f i l * g l j) := by
  unfold m_grid_product c_grid_product
  rw [fn2]
  simp only [ex_seq, nxt_nx, nxt_rt, nxt_ct, nxt_bk, ex_ifs, brn_t, brn_f, ex_pass, ex_ret, ex_expr, ex_asg, bndM_so, ex_par, ex_aug, ex_for, endD_nx, endD_rt, bind_nm, bind_nil, bind_cons, bind_consl, ev_var, ev_c, ev_bin, ev_neg, ev_cmp, chn_t, chn_f, ev_chain, ev_and, ev_or, ev_ite, and_t, and_f, or_t, or_f, ite_t, ite_f, ev_not, ev_tup, ev_lst, ev_ix, ev_sl, intM_int, ev_int, ev_lc, ev_call, evs_nil, evs_cons, evs_star, evs_it1, evs_rng1, evs_rng2, evs_zip, evs_enum, andThen_ret, andThen_assoc, optM_so, List.getElem?_cons_succ, List.getElem?_cons_zero, slotM_so, Option.bind_some, Option.map_some, bi_eq, binM_eq, cmpM_eq, slM_eq, nr_non, nr_bl, nr_int, nr_str, nr_tup, nr_lst, nr_ty, nr_scr, nr_emp, nrs_nil, nrs_cons, Bool.and_self, Bool.and_true, ev_dnew, List.set_cons_succ, List.set_cons_zero, bin_add, bin_sub, neg_int, cmp_lt, cmp_le, cmp_gt, cmp_ge, cmp_isbl, cmp_notbl, cmp_eq_int, cmp_ne_int, cmp_eq_bl, cmp_ne_bl, truthM_bl, Bool.not_true, Bool.not_false, lenOk0, lenOk1, lenOk2, lenOk3, intD_int, absD_int, lenD_tup, lenD_lst, lenD_scr, tupD_lst, tupD_tup, startE, List.map_cons, List.map_nil, List.length_cons, List.length_nil, Nat.zero_add, Nat.reduceAdd, Nat.reduceSub, List.replicate_succ, List.replicate_zero, List.cons_append, List.nil_append, lenOk_small, Nat.reduceLeDiff, eq_self, items_tup, items_lst, ixM_tup, ixM_lst, decide_true, decide_false, wipeE, lcF_eq, lcB_so, lcC_t, lcC_f, noXM_ret, List.length_map, List.length_range, atI0, atI1, atI2, nc0, nc1, nc2, nc3, nc4, nc5, nc6, nc7, nc8, nc9, two_grids hh hk hk hw hf hg, times_in hh hk hw (fun i j hi hj => sm_big (hf i j hi hj)) fun i j hi hj => sm_big (hg i j hi hj)]
theorem beside {h w v : Nat} {f g : Nat → Nat → Int} (hh : h ≤ 60) (hw : w + v ≤ 60) (hf : GS h w f) (hg : GS h v g) : m_beside [gridR h w f, gridR h v g] = ret (gridR h (w + v) fun i j => jn w (f i) (g i) j) := by
  unfold m_beside c_beside
  rw [fn2]
  simp only [ex_seq, nxt_nx, nxt_rt, nxt_ct, nxt_bk, ex_ifs, brn_t, brn_f, ex_pass, ex_ret, ex_expr, ex_asg, bndM_so, ex_par, ex_aug, ex_for, endD_nx, endD_rt, bind_nm, bind_nil, bind_cons, bind_consl, ev_var, ev_c, ev_bin, ev_neg, ev_cmp, chn_t, chn_f, ev_chain, ev_and, ev_or, ev_ite, and_t, and_f, or_t, or_f, ite_t, ite_f, ev_not, ev_tup, ev_lst, ev_ix, ev_sl, intM_int, ev_int, ev_lc, ev_call, evs_nil, evs_cons, evs_star, evs_it1, evs_rng1, evs_rng2, evs_zip, evs_enum, andThen_ret, andThen_assoc, optM_so, List.getElem?_cons_succ, List.getElem?_cons_zero, slotM_so, Option.bind_some, Option.map_some, bi_eq, binM_eq, cmpM_eq, slM_eq, nr_non, nr_bl, nr_int, nr_str, nr_tup, nr_lst, nr_ty, nr_scr, nr_emp, nrs_nil, nrs_cons, Bool.and_self, Bool.and_true, ev_dnew, List.set_cons_succ, List.set_cons_zero, bin_add, bin_sub, neg_int, cmp_lt, cmp_le, cmp_gt, cmp_ge, cmp_isbl, cmp_notbl, cmp_eq_int, cmp_ne_int, cmp_eq_bl, cmp_ne_bl, truthM_bl, Bool.not_true, Bool.not_false, lenOk0, lenOk1, lenOk2, lenOk3, intD_int, absD_int, lenD_tup, lenD_lst, lenD_scr, tupD_lst, tupD_tup, startE, List.map_cons, List.map_nil, List.length_cons, List.length_nil, Nat.zero_add, Nat.reduceAdd, Nat.reduceSub, List.replicate_succ, List.replicate_zero, List.cons_append, List.nil_append, lenOk_small, Nat.reduceLeDiff, eq_self, items_tup, items_lst, ixM_tup, ixM_lst, decide_true, decide_false, wipeE, lcF_eq, lcB_so, lcC_t, lcC_f, noXM_ret, List.length_map, List.length_range, atI0, atI1, atI2, nc0, nc1, nc2, nc3, nc4, nc5, nc6, nc7, nc8, nc9, two_grids hh (show w ≤ 60 by omega) hh (show v ≤ 60 by omega) hf hg, need_size (show (w : Int) + v ≤ 60 by omega), beside_in hh (show w ≤ 60 by omega) (show v ≤ 60 by omega)]
theorem over {h k w : Nat} {f g : Nat → Nat → Int} (hh : h + k ≤ 60) (hw : w ≤ 60) (hf : GS h w f) (hg : GS k w g) : m_over [gridR h w f, gridR k w g] = ret (gridR (h + k) w fun i j => jn h f g i j) := by
  unfold m_over c_over
  rw [fn2]
  simp only [ex_seq, nxt_nx, nxt_rt, nxt_ct, nxt_bk, ex_ifs, brn_t, brn_f, ex_pass, ex_ret, ex_expr, ex_asg, bndM_so, ex_par, ex_aug, ex_for, endD_nx, endD_rt, bind_nm, bind_nil, bind_cons, bind_consl, ev_var, ev_c, ev_bin, ev_neg, ev_cmp, chn_t, chn_f, ev_chain, ev_and, ev_or, ev_ite, and_t, and_f, or_t, or_f, ite_t, ite_f, ev_not, ev_tup, ev_lst, ev_ix, ev_sl, intM_int, ev_int, ev_lc, ev_call, evs_nil, evs_cons, evs_star, evs_it1, evs_rng1, evs_rng2, evs_zip, evs_enum, andThen_ret, andThen_assoc, optM_so, List.getElem?_cons_succ, List.getElem?_cons_zero, slotM_so, Option.bind_some, Option.map_some, bi_eq, binM_eq, cmpM_eq, slM_eq, nr_non, nr_bl, nr_int, nr_str, nr_tup, nr_lst, nr_ty, nr_scr, nr_emp, nrs_nil, nrs_cons, Bool.and_self, Bool.and_true, ev_dnew, List.set_cons_succ, List.set_cons_zero, bin_add, bin_sub, neg_int, cmp_lt, cmp_le, cmp_gt, cmp_ge, cmp_isbl, cmp_notbl, cmp_eq_int, cmp_ne_int, cmp_eq_bl, cmp_ne_bl, truthM_bl, Bool.not_true, Bool.not_false, lenOk0, lenOk1, lenOk2, lenOk3, intD_int, absD_int, lenD_tup, lenD_lst, lenD_scr, tupD_lst, tupD_tup, startE, List.map_cons, List.map_nil, List.length_cons, List.length_nil, Nat.zero_add, Nat.reduceAdd, Nat.reduceSub, List.replicate_succ, List.replicate_zero, List.cons_append, List.nil_append, lenOk_small, Nat.reduceLeDiff, eq_self, items_tup, items_lst, ixM_tup, ixM_lst, decide_true, decide_false, wipeE, lcF_eq, lcB_so, lcC_t, lcC_f, noXM_ret, List.length_map, List.length_range, atI0, atI1, atI2, nc0, nc1, nc2, nc3, nc4, nc5, nc6, nc7, nc8, nc9, two_grids (show h ≤ 60 by omega) hw (show k ≤ 60 by omega) hw hf hg, need_size (show (h : Int) + k ≤ 60 by omega), over_in (show h ≤ 60 by omega) hw (show k ≤ 60 by omega)]
theorem intD_bl (b : Bool) : intD [.bl b] = some (.int (if b = true then 1 else 0)) := rfl
theorem pow6 : binD .Pow (.int 10) (.int 6) = some (.int 1000000) := bin_pow (by decide +kernel)
theorem pow12 : binD .Pow (.int 10) (.int 12) = some (.int 1000000000000) := bin_pow (by decide +kernel)
theorem eUp : m__law_up_to = mDraw := rfl
theorem eOut : m__law_out_of = mOut := rfl
abbrev NoE : Str → D → Sto → Prop := fun _ _ _ => False
section
variable {st : Sto} {i : Nat}
theorem jg_ok (hs : st[i]? = some .hat) : OkM (m__law_jg_entry [.ref i]) st (fun d s => s = st ∧ ∃ z : Int, d = .int z ∧ small z) NoE := by
  rw [← andThen_retr (m__law_jg_entry [.ref i])]
  unfold m__law_jg_entry c__law_jg_entry
  rw [fn1]
  simp only [ex_seq, nxt_nx, nxt_rt, nxt_ct, nxt_bk, ex_ifs, brn_t, brn_f, ex_pass, ex_ret, ex_expr, ex_asg, bndM_so, ex_par, ex_aug, ex_for, endD_nx, endD_rt, bind_nm, bind_nil, bind_cons, bind_consl, ev_var, ev_c, ev_bin, ev_neg, ev_cmp, chn_t, chn_f, ev_chain, ev_and, ev_or, ev_ite, and_t, and_f, or_t, or_f, ite_t, ite_f, ev_not, ev_tup, ev_lst, ev_ix, ev_sl, intM_int, ev_int, ev_lc, ev_call, evs_nil, evs_cons, evs_star, evs_it1, evs_rng1, evs_rng2, evs_zip, evs_enum, andThen_ret, andThen_assoc, optM_so, List.getElem?_cons_succ, List.getElem?_cons_zero, slotM_so, Option.bind_some, Option.map_some, bi_eq, binM_eq, cmpM_eq, slM_eq, nr_non, nr_bl, nr_int, nr_str, nr_tup, nr_lst, nr_ty, nr_scr, nr_emp, nrs_nil, nrs_cons, Bool.and_self, Bool.and_true, ev_dnew, List.set_cons_succ, List.set_cons_zero, bin_add, bin_sub, neg_int, cmp_lt, cmp_le, cmp_gt, cmp_ge, cmp_isbl, cmp_notbl, cmp_eq_int, cmp_ne_int, cmp_eq_bl, cmp_ne_bl, truthM_bl, Bool.not_true, Bool.not_false, lenOk0, lenOk1, lenOk2, lenOk3, intD_int, absD_int, lenD_tup, lenD_lst, lenD_scr, tupD_lst, tupD_tup, startE, List.map_cons, List.map_nil, List.length_cons, List.length_nil, Nat.zero_add, Nat.reduceAdd, Nat.reduceSub, List.replicate_succ, List.replicate_zero, List.cons_append, List.nil_append, lenOk_small, Nat.reduceLeDiff, eq_self, items_tup, items_lst, ixM_tup, ixM_lst, decide_true, decide_false, wipeE, lcF_eq, lcB_so, lcC_t, lcC_f, noXM_ret, List.length_map, List.length_range, atI0, atI1, atI2, nc0, nc1, nc2, nc3, nc4, nc5, nc6, nc7, nc8, nc9, pow6, pow12, eUp, eOut]
  refine draw_all hs (by decide) (by decide) fun k hk => ?_
  simp only [ex_seq, nxt_nx, nxt_rt, nxt_ct, nxt_bk, ex_ifs, brn_t, brn_f, ex_pass, ex_ret, ex_expr, ex_asg, bndM_so, ex_par, ex_aug, ex_for, endD_nx, endD_rt, bind_nm, bind_nil, bind_cons, bind_consl, ev_var, ev_c, ev_bin, ev_neg, ev_cmp, chn_t, chn_f, ev_chain, ev_and, ev_or, ev_ite, and_t, and_f, or_t, or_f, ite_t, ite_f, ev_not, ev_tup, ev_lst, ev_ix, ev_sl, intM_int, ev_int, ev_lc, ev_call, evs_nil, evs_cons, evs_star, evs_it1, evs_rng1, evs_rng2, evs_zip, evs_enum, andThen_ret, andThen_assoc, optM_so, List.getElem?_cons_succ, List.getElem?_cons_zero, slotM_so, Option.bind_some, Option.map_some, bi_eq, binM_eq, cmpM_eq, slM_eq, nr_non, nr_bl, nr_int, nr_str, nr_tup, nr_lst, nr_ty, nr_scr, nr_emp, nrs_nil, nrs_cons, Bool.and_self, Bool.and_true, ev_dnew, List.set_cons_succ, List.set_cons_zero, bin_add, bin_sub, neg_int, cmp_lt, cmp_le, cmp_gt, cmp_ge, cmp_isbl, cmp_notbl, cmp_eq_int, cmp_ne_int, cmp_eq_bl, cmp_ne_bl, truthM_bl, Bool.not_true, Bool.not_false, lenOk0, lenOk1, lenOk2, lenOk3, intD_int, absD_int, lenD_tup, lenD_lst, lenD_scr, tupD_lst, tupD_tup, startE, List.map_cons, List.map_nil, List.length_cons, List.length_nil, Nat.zero_add, Nat.reduceAdd, Nat.reduceSub, List.replicate_succ, List.replicate_zero, List.cons_append, List.nil_append, lenOk_small, Nat.reduceLeDiff, eq_self, items_tup, items_lst, ixM_tup, ixM_lst, decide_true, decide_false, wipeE, lcF_eq, lcB_so, lcC_t, lcC_f, noXM_ret, List.length_map, List.length_range, atI0, atI1, atI2, nc0, nc1, nc2, nc3, nc4, nc5, nc6, nc7, nc8, nc9, pow6, pow12, eUp, eOut]
  refine out_all hs (by simp) (by simp) fun x hx => ⟨rfl, ?_⟩
  simp only [List.mem_cons, List.not_mem_nil, or_false] at hx
  rcases hx with rfl | rfl | rfl | rfl | rfl | rfl | rfl | rfl | rfl | rfl
  all_goals exact ⟨_, rfl, by omega, by omega⟩
theorem mem_ok {m : M D} {p : D → Prop} (h : OkM m st (fun d s => s = st ∧ p d) NoE) : OkM (andThen (noXM m) fun y => ret (some y)) st (fun o s => s = st ∧ ∃ y, o = some y ∧ p y) NoE :=
  OkM.use (OkM.noX h) fun d hd => ⟨rfl, d, rfl, hd⟩
theorem wide_ok {h w : Nat} (hs : st[i]? = some .hat) (hh : h ≤ 60) (hw : w ≤ 60) : OkM (m__law_jg_wide [.ref i, .int (h : Nat), .int (w : Nat)]) st (fun d s => s = st ∧ ∃ f : Nat → Nat → Int, d = gridR h w f ∧ GS h w f) NoE := by
  unfold m__law_jg_wide c__law_jg_wide
  rw [fn3]
  simp only [ex_seq, nxt_nx, nxt_rt, nxt_ct, nxt_bk, ex_ifs, brn_t, brn_f, ex_pass, ex_ret, ex_expr, ex_asg, bndM_so, ex_par, ex_aug, ex_for, endD_nx, endD_rt, bind_nm, bind_nil, bind_cons, bind_consl, ev_var, ev_c, ev_bin, ev_neg, ev_cmp, chn_t, chn_f, ev_chain, ev_and, ev_or, ev_ite, and_t, and_f, or_t, or_f, ite_t, ite_f, ev_not, ev_tup, ev_lst, ev_ix, ev_sl, intM_int, ev_int, ev_lc, ev_call, evs_nil, evs_cons, evs_star, evs_it1, evs_rng1, evs_rng2, evs_zip, evs_enum, andThen_ret, andThen_assoc, optM_so, List.getElem?_cons_succ, List.getElem?_cons_zero, slotM_so, Option.bind_some, Option.map_some, bi_eq, binM_eq, cmpM_eq, slM_eq, nr_non, nr_bl, nr_int, nr_str, nr_tup, nr_lst, nr_ty, nr_scr, nr_emp, nrs_nil, nrs_cons, Bool.and_self, Bool.and_true, ev_dnew, List.set_cons_succ, List.set_cons_zero, bin_add, bin_sub, neg_int, cmp_lt, cmp_le, cmp_gt, cmp_ge, cmp_isbl, cmp_notbl, cmp_eq_int, cmp_ne_int, cmp_eq_bl, cmp_ne_bl, truthM_bl, Bool.not_true, Bool.not_false, lenOk0, lenOk1, lenOk2, lenOk3, intD_int, absD_int, lenD_tup, lenD_lst, lenD_scr, tupD_lst, tupD_tup, startE, List.map_cons, List.map_nil, List.length_cons, List.length_nil, Nat.zero_add, Nat.reduceAdd, Nat.reduceSub, List.replicate_succ, List.replicate_zero, List.cons_append, List.nil_append, lenOk_small, Nat.reduceLeDiff, eq_self, items_tup, items_lst, ixM_tup, ixM_lst, decide_true, decide_false, wipeE, lcF_eq, lcB_so, lcC_t, lcC_f, noXM_ret, List.length_map, List.length_range, atI0, atI1, atI2, nc0, nc1, nc2, nc3, nc4, nc5, nc6, nc7, nc8, nc9, rng_nat (show h < 1000000 by omega)]
  refine OkM.use (lc_draw (rowR w) (fun _ => 0) (p := RS w) (by omega) fun k hk => ?_) fun zs hz => ?_
  · simp only [ex_seq, nxt_nx, nxt_rt, nxt_ct, nxt_bk, ex_ifs, brn_t, brn_f, ex_pass, ex_ret, ex_expr, ex_asg, bndM_so, ex_par, ex_aug, ex_for, endD_nx, endD_rt, bind_nm, bind_nil, bind_cons, bind_consl, ev_var, ev_c, ev_bin, ev_neg, ev_cmp, chn_t, chn_f, ev_chain, ev_and, ev_or, ev_ite, and_t, and_f, or_t, or_f, ite_t, ite_f, ev_not, ev_tup, ev_lst, ev_ix, ev_sl, intM_int, ev_int, ev_lc, ev_call, evs_nil, evs_cons, evs_star, evs_it1, evs_rng1, evs_rng2, evs_zip, evs_enum, andThen_ret, andThen_assoc, optM_so, List.getElem?_cons_succ, List.getElem?_cons_zero, slotM_so, Option.bind_some, Option.map_some, bi_eq, binM_eq, cmpM_eq, slM_eq, nr_non, nr_bl, nr_int, nr_str, nr_tup, nr_lst, nr_ty, nr_scr, nr_emp, nrs_nil, nrs_cons, Bool.and_self, Bool.and_true, ev_dnew, List.set_cons_succ, List.set_cons_zero, bin_add, bin_sub, neg_int, cmp_lt, cmp_le, cmp_gt, cmp_ge, cmp_isbl, cmp_notbl, cmp_eq_int, cmp_ne_int, cmp_eq_bl, cmp_ne_bl, truthM_bl, Bool.not_true, Bool.not_false, lenOk0, lenOk1, lenOk2, lenOk3, intD_int, absD_int, lenD_tup, lenD_lst, lenD_scr, tupD_lst, tupD_tup, startE, List.map_cons, List.map_nil, List.length_cons, List.length_nil, Nat.zero_add, Nat.reduceAdd, Nat.reduceSub, List.replicate_succ, List.replicate_zero, List.cons_append, List.nil_append, lenOk_small, Nat.reduceLeDiff, eq_self, items_tup, items_lst, ixM_tup, ixM_lst, decide_true, decide_false, wipeE, lcF_eq, lcB_so, lcC_t, lcC_f, noXM_ret, List.length_map, List.length_range, atI0, atI1, atI2, nc0, nc1, nc2, nc3, nc4, nc5, nc6, nc7, nc8, nc9, rng_nat (show w < 1000000 by omega)]
    refine mem_ok ?_
    refine OkM.use (lc_draw D.int 0 (p := small) (by omega) fun j hj => ?_) fun ys hy => ?_
    · simp only [ex_seq, nxt_nx, nxt_rt, nxt_ct, nxt_bk, ex_ifs, brn_t, brn_f, ex_pass, ex_ret, ex_expr, ex_asg, bndM_so, ex_par, ex_aug, ex_for, endD_nx, endD_rt, bind_nm, bind_nil, bind_cons, bind_consl, ev_var, ev_c, ev_bin, ev_neg, ev_cmp, chn_t, chn_f, ev_chain, ev_and, ev_or, ev_ite, and_t, and_f, or_t, or_f, ite_t, ite_f, ev_not, ev_tup, ev_lst, ev_ix, ev_sl, intM_int, ev_int, ev_lc, ev_call, evs_nil, evs_cons, evs_star, evs_it1, evs_rng1, evs_rng2, evs_zip, evs_enum, andThen_ret, andThen_assoc, optM_so, List.getElem?_cons_succ, List.getElem?_cons_zero, slotM_so, Option.bind_some, Option.map_some, bi_eq, binM_eq, cmpM_eq, slM_eq, nr_non, nr_bl, nr_int, nr_str, nr_tup, nr_lst, nr_ty, nr_scr, nr_emp, nrs_nil, nrs_cons, Bool.and_self, Bool.and_true, ev_dnew, List.set_cons_succ, List.set_cons_zero, bin_add, bin_sub, neg_int, cmp_lt, cmp_le, cmp_gt, cmp_ge, cmp_isbl, cmp_notbl, cmp_eq_int, cmp_ne_int, cmp_eq_bl, cmp_ne_bl, truthM_bl, Bool.not_true, Bool.not_false, lenOk0, lenOk1, lenOk2, lenOk3, intD_int, absD_int, lenD_tup, lenD_lst, lenD_scr, tupD_lst, tupD_tup, startE, List.map_cons, List.map_nil, List.length_cons, List.length_nil, Nat.zero_add, Nat.reduceAdd, Nat.reduceSub, List.replicate_succ, List.replicate_zero, List.cons_append, List.nil_append, lenOk_small, Nat.reduceLeDiff, eq_self, items_tup, items_lst, ixM_tup, ixM_lst, decide_true, decide_false, wipeE, lcF_eq, lcB_so, lcC_t, lcC_f, noXM_ret, List.length_map, List.length_range, atI0, atI1, atI2, nc0, nc1, nc2, nc3, nc4, nc5, nc6, nc7, nc8, nc9]
      exact mem_ok (jg_ok hs)
    · obtain ⟨f, rfl, hf⟩ := hy
      exact ⟨rfl, f, rfl, hf⟩
  · obtain ⟨f, rfl, hf⟩ := hz
    exact ⟨rfl, f, rfl, fun a b ha hb => hf a ha b hb⟩
end
end K03

set_option Elab.async false
set_option linter.all false
set_option maxRecDepth 100000
set_option maxHeartbeats 4000000
/-! K03c: unit grids, grids of noughts. -/
namespace K03
open PySem L2 Gw
theorem req_within {v lo hi : Int} (h1 : lo ≤ v) (h2 : v ≤ hi) : m_require_within [.int v, .int lo, .int hi] = ret .non := by
  have e : m_is_within [.int v, .int lo, .int hi] = ret (.bl true) := by
    unfold m_is_within c_is_within
    rw [fn3]
    simp only [ex_seq, nxt_nx, nxt_rt, nxt_ct, nxt_bk, ex_ifs, brn_t, brn_f, ex_pass, ex_ret, ex_expr, ex_asg, bndM_so, ex_par, ex_aug, ex_for, endD_nx, endD_rt, bind_nm, bind_nil, bind_cons, bind_consl, ev_var, ev_c, ev_bin, ev_neg, ev_cmp, chn_t, chn_f, ev_chain, ev_and, ev_or, ev_ite, and_t, and_f, or_t, or_f, ite_t, ite_f, ev_not, ev_tup, ev_lst, ev_ix, ev_sl, intM_int, ev_int, ev_lc, ev_call, evs_nil, evs_cons, evs_star, evs_it1, evs_rng1, evs_rng2, evs_zip, evs_enum, andThen_ret, andThen_assoc, optM_so, List.getElem?_cons_succ, List.getElem?_cons_zero, slotM_so, Option.bind_some, Option.map_some, bi_eq, binM_eq, cmpM_eq, slM_eq, nr_non, nr_bl, nr_int, nr_str, nr_tup, nr_lst, nr_ty, nr_scr, nr_emp, nrs_nil, nrs_cons, Bool.and_self, Bool.and_true, ev_dnew, List.set_cons_succ, List.set_cons_zero, bin_add, bin_sub, neg_int, cmp_lt, cmp_le, cmp_gt, cmp_ge, cmp_isbl, cmp_notbl, cmp_eq_int, cmp_ne_int, cmp_eq_bl, cmp_ne_bl, truthM_bl, Bool.not_true, Bool.not_false, lenOk0, lenOk1, lenOk2, lenOk3, intD_int, absD_int, lenD_tup, lenD_lst, lenD_scr, tupD_lst, tupD_tup, startE, List.map_cons, List.map_nil, List.length_cons, List.length_nil, Nat.zero_add, Nat.reduceAdd, Nat.reduceSub, List.replicate_succ, List.replicate_zero, List.cons_append, List.nil_append, lenOk_small, Nat.reduceLeDiff, eq_self, items_tup, items_lst, ixM_tup, ixM_lst, decide_true, decide_false, wipeE, lcF_eq, lcB_so, lcC_t, lcC_f, noXM_ret, List.length_map, List.length_range, atI0, atI1, atI2, nc0, nc1, nc2, nc3, nc4, nc5, nc6, nc7, nc8, nc9, whole_int, decide_eq_true h1, decide_eq_true h2]
  unfold m_require_within c_require_within
  rw [fn3]
  simp only [ex_seq, nxt_nx, nxt_rt, nxt_ct, nxt_bk, ex_ifs, brn_t, brn_f, ex_pass, ex_ret, ex_expr, ex_asg, bndM_so, ex_par, ex_aug, ex_for, endD_nx, endD_rt, bind_nm, bind_nil, bind_cons, bind_consl, ev_var, ev_c, ev_bin, ev_neg, ev_cmp, chn_t, chn_f, ev_chain, ev_and, ev_or, ev_ite, and_t, and_f, or_t, or_f, ite_t, ite_f, ev_not, ev_tup, ev_lst, ev_ix, ev_sl, intM_int, ev_int, ev_lc, ev_call, evs_nil, evs_cons, evs_star, evs_it1, evs_rng1, evs_rng2, evs_zip, evs_enum, andThen_ret, andThen_assoc, optM_so, List.getElem?_cons_succ, List.getElem?_cons_zero, slotM_so, Option.bind_some, Option.map_some, bi_eq, binM_eq, cmpM_eq, slM_eq, nr_non, nr_bl, nr_int, nr_str, nr_tup, nr_lst, nr_ty, nr_scr, nr_emp, nrs_nil, nrs_cons, Bool.and_self, Bool.and_true, ev_dnew, List.set_cons_succ, List.set_cons_zero, bin_add, bin_sub, neg_int, cmp_lt, cmp_le, cmp_gt, cmp_ge, cmp_isbl, cmp_notbl, cmp_eq_int, cmp_ne_int, cmp_eq_bl, cmp_ne_bl, truthM_bl, Bool.not_true, Bool.not_false, lenOk0, lenOk1, lenOk2, lenOk3, intD_int, absD_int, lenD_tup, lenD_lst, lenD_scr, tupD_lst, tupD_tup, startE, List.map_cons, List.map_nil, List.length_cons, List.length_nil, Nat.zero_add, Nat.reduceAdd, Nat.reduceSub, List.replicate_succ, List.replicate_zero, List.cons_append, List.nil_append, lenOk_small, Nat.reduceLeDiff, eq_self, items_tup, items_lst, ixM_tup, ixM_lst, decide_true, decide_false, wipeE, lcF_eq, lcB_so, lcC_t, lcC_f, noXM_ret, List.length_map, List.length_range, atI0, atI1, atI2, nc0, nc1, nc2, nc3, nc4, nc5, nc6, nc7, nc8, nc9, e]
theorem unit_in {n : Nat} (hn : n ≤ 60) : m_unit_in [.int (n : Nat)] = ret (gridR n n fun i j => if i = j then 1 else 0) := by
  unfold m_unit_in c_unit_in
  rw [fn1]
  simp only [ex_seq, nxt_nx, nxt_rt, nxt_ct, nxt_bk, ex_ifs, brn_t, brn_f, ex_pass, ex_ret, ex_expr, ex_asg, bndM_so, ex_par, ex_aug, ex_for, endD_nx, endD_rt, bind_nm, bind_nil, bind_cons, bind_consl, ev_var, ev_c, ev_bin, ev_neg, ev_cmp, chn_t, chn_f, ev_chain, ev_and, ev_or, ev_ite, and_t, and_f, or_t, or_f, ite_t, ite_f, ev_not, ev_tup, ev_lst, ev_ix, ev_sl, intM_int, ev_int, ev_lc, ev_call, evs_nil, evs_cons, evs_star, evs_it1, evs_rng1, evs_rng2, evs_zip, evs_enum, andThen_ret, andThen_assoc, optM_so, List.getElem?_cons_succ, List.getElem?_cons_zero, slotM_so, Option.bind_some, Option.map_some, bi_eq, binM_eq, cmpM_eq, slM_eq, nr_non, nr_bl, nr_int, nr_str, nr_tup, nr_lst, nr_ty, nr_scr, nr_emp, nrs_nil, nrs_cons, Bool.and_self, Bool.and_true, ev_dnew, List.set_cons_succ, List.set_cons_zero, bin_add, bin_sub, neg_int, cmp_lt, cmp_le, cmp_gt, cmp_ge, cmp_isbl, cmp_notbl, cmp_eq_int, cmp_ne_int, cmp_eq_bl, cmp_ne_bl, truthM_bl, Bool.not_true, Bool.not_false, lenOk0, lenOk1, lenOk2, lenOk3, intD_int, absD_int, lenD_tup, lenD_lst, lenD_scr, tupD_lst, tupD_tup, startE, List.map_cons, List.map_nil, List.length_cons, List.length_nil, Nat.zero_add, Nat.reduceAdd, Nat.reduceSub, List.replicate_succ, List.replicate_zero, List.cons_append, List.nil_append, lenOk_small, Nat.reduceLeDiff, eq_self, items_tup, items_lst, ixM_tup, ixM_lst, decide_true, decide_false, wipeE, lcF_eq, lcB_so, lcC_t, lcC_f, noXM_ret, List.length_map, List.length_range, atI0, atI1, atI2, nc0, nc1, nc2, nc3, nc4, nc5, nc6, nc7, nc8, nc9, rng_nat (show n < 1000000 by omega)]
  rw [lc_rng (fun i => rowR n fun j => if i = j then 1 else 0) (fun i hi => ?_) (by omega)]
  · simp only [ex_seq, nxt_nx, nxt_rt, nxt_ct, nxt_bk, ex_ifs, brn_t, brn_f, ex_pass, ex_ret, ex_expr, ex_asg, bndM_so, ex_par, ex_aug, ex_for, endD_nx, endD_rt, bind_nm, bind_nil, bind_cons, bind_consl, ev_var, ev_c, ev_bin, ev_neg, ev_cmp, chn_t, chn_f, ev_chain, ev_and, ev_or, ev_ite, and_t, and_f, or_t, or_f, ite_t, ite_f, ev_not, ev_tup, ev_lst, ev_ix, ev_sl, intM_int, ev_int, ev_lc, ev_call, evs_nil, evs_cons, evs_star, evs_it1, evs_rng1, evs_rng2, evs_zip, evs_enum, andThen_ret, andThen_assoc, optM_so, List.getElem?_cons_succ, List.getElem?_cons_zero, slotM_so, Option.bind_some, Option.map_some, bi_eq, binM_eq, cmpM_eq, slM_eq, nr_non, nr_bl, nr_int, nr_str, nr_tup, nr_lst, nr_ty, nr_scr, nr_emp, nrs_nil, nrs_cons, Bool.and_self, Bool.and_true, ev_dnew, List.set_cons_succ, List.set_cons_zero, bin_add, bin_sub, neg_int, cmp_lt, cmp_le, cmp_gt, cmp_ge, cmp_isbl, cmp_notbl, cmp_eq_int, cmp_ne_int, cmp_eq_bl, cmp_ne_bl, truthM_bl, Bool.not_true, Bool.not_false, lenOk0, lenOk1, lenOk2, lenOk3, intD_int, absD_int, lenD_tup, lenD_lst, lenD_scr, tupD_lst, tupD_tup, startE, List.map_cons, List.map_nil, List.length_cons, List.length_nil, Nat.zero_add, Nat.reduceAdd, Nat.reduceSub, List.replicate_succ, List.replicate_zero, List.cons_append, List.nil_append, lenOk_small, Nat.reduceLeDiff, eq_self, items_tup, items_lst, ixM_tup, ixM_lst, decide_true, decide_false, wipeE, lcF_eq, lcB_so, lcC_t, lcC_f, noXM_ret, List.length_map, List.length_range, atI0, atI1, atI2, nc0, nc1, nc2, nc3, nc4, nc5, nc6, nc7, nc8, nc9]
  · simp only [ex_seq, nxt_nx, nxt_rt, nxt_ct, nxt_bk, ex_ifs, brn_t, brn_f, ex_pass, ex_ret, ex_expr, ex_asg, bndM_so, ex_par, ex_aug, ex_for, endD_nx, endD_rt, bind_nm, bind_nil, bind_cons, bind_consl, ev_var, ev_c, ev_bin, ev_neg, ev_cmp, chn_t, chn_f, ev_chain, ev_and, ev_or, ev_ite, and_t, and_f, or_t, or_f, ite_t, ite_f, ev_not, ev_tup, ev_lst, ev_ix, ev_sl, intM_int, ev_int, ev_lc, ev_call, evs_nil, evs_cons, evs_star, evs_it1, evs_rng1, evs_rng2, evs_zip, evs_enum, andThen_ret, andThen_assoc, optM_so, List.getElem?_cons_succ, List.getElem?_cons_zero, slotM_so, Option.bind_some, Option.map_some, bi_eq, binM_eq, cmpM_eq, slM_eq, nr_non, nr_bl, nr_int, nr_str, nr_tup, nr_lst, nr_ty, nr_scr, nr_emp, nrs_nil, nrs_cons, Bool.and_self, Bool.and_true, ev_dnew, List.set_cons_succ, List.set_cons_zero, bin_add, bin_sub, neg_int, cmp_lt, cmp_le, cmp_gt, cmp_ge, cmp_isbl, cmp_notbl, cmp_eq_int, cmp_ne_int, cmp_eq_bl, cmp_ne_bl, truthM_bl, Bool.not_true, Bool.not_false, lenOk0, lenOk1, lenOk2, lenOk3, intD_int, absD_int, lenD_tup, lenD_lst, lenD_scr, tupD_lst, tupD_tup, startE, List.map_cons, List.map_nil, List.length_cons, List.length_nil, Nat.zero_add, Nat.reduceAdd, Nat.reduceSub, List.replicate_succ, List.replicate_zero, List.cons_append, List.nil_append, lenOk_small, Nat.reduceLeDiff, eq_self, items_tup, items_lst, ixM_tup, ixM_lst, decide_true, decide_false, wipeE, lcF_eq, lcB_so, lcC_t, lcC_f, noXM_ret, List.length_map, List.length_range, atI0, atI1, atI2, nc0, nc1, nc2, nc3, nc4, nc5, nc6, nc7, nc8, nc9, rng_nat (show n < 1000000 by omega)]
    rw [lc_rng (fun j => .int (if i = j then 1 else 0)) (fun j hj => ?_) (by omega)]
    · simp only [ex_seq, nxt_nx, nxt_rt, nxt_ct, nxt_bk, ex_ifs, brn_t, brn_f, ex_pass, ex_ret, ex_expr, ex_asg, bndM_so, ex_par, ex_aug, ex_for, endD_nx, endD_rt, bind_nm, bind_nil, bind_cons, bind_consl, ev_var, ev_c, ev_bin, ev_neg, ev_cmp, chn_t, chn_f, ev_chain, ev_and, ev_or, ev_ite, and_t, and_f, or_t, or_f, ite_t, ite_f, ev_not, ev_tup, ev_lst, ev_ix, ev_sl, intM_int, ev_int, ev_lc, ev_call, evs_nil, evs_cons, evs_star, evs_it1, evs_rng1, evs_rng2, evs_zip, evs_enum, andThen_ret, andThen_assoc, optM_so, List.getElem?_cons_succ, List.getElem?_cons_zero, slotM_so, Option.bind_some, Option.map_some, bi_eq, binM_eq, cmpM_eq, slM_eq, nr_non, nr_bl, nr_int, nr_str, nr_tup, nr_lst, nr_ty, nr_scr, nr_emp, nrs_nil, nrs_cons, Bool.and_self, Bool.and_true, ev_dnew, List.set_cons_succ, List.set_cons_zero, bin_add, bin_sub, neg_int, cmp_lt, cmp_le, cmp_gt, cmp_ge, cmp_isbl, cmp_notbl, cmp_eq_int, cmp_ne_int, cmp_eq_bl, cmp_ne_bl, truthM_bl, Bool.not_true, Bool.not_false, lenOk0, lenOk1, lenOk2, lenOk3, intD_int, absD_int, lenD_tup, lenD_lst, lenD_scr, tupD_lst, tupD_tup, startE, List.map_cons, List.map_nil, List.length_cons, List.length_nil, Nat.zero_add, Nat.reduceAdd, Nat.reduceSub, List.replicate_succ, List.replicate_zero, List.cons_append, List.nil_append, lenOk_small, Nat.reduceLeDiff, eq_self, items_tup, items_lst, ixM_tup, ixM_lst, decide_true, decide_false, wipeE, lcF_eq, lcB_so, lcC_t, lcC_f, noXM_ret, List.length_map, List.length_range, atI0, atI1, atI2, nc0, nc1, nc2, nc3, nc4, nc5, nc6, nc7, nc8, nc9]
    · simp only [ex_seq, nxt_nx, nxt_rt, nxt_ct, nxt_bk, ex_ifs, brn_t, brn_f, ex_pass, ex_ret, ex_expr, ex_asg, bndM_so, ex_par, ex_aug, ex_for, endD_nx, endD_rt, bind_nm, bind_nil, bind_cons, bind_consl, ev_var, ev_c, ev_bin, ev_neg, ev_cmp, chn_t, chn_f, ev_chain, ev_and, ev_or, ev_ite, and_t, and_f, or_t, or_f, ite_t, ite_f, ev_not, ev_tup, ev_lst, ev_ix, ev_sl, intM_int, ev_int, ev_lc, ev_call, evs_nil, evs_cons, evs_star, evs_it1, evs_rng1, evs_rng2, evs_zip, evs_enum, andThen_ret, andThen_assoc, optM_so, List.getElem?_cons_succ, List.getElem?_cons_zero, slotM_so, Option.bind_some, Option.map_some, bi_eq, binM_eq, cmpM_eq, slM_eq, nr_non, nr_bl, nr_int, nr_str, nr_tup, nr_lst, nr_ty, nr_scr, nr_emp, nrs_nil, nrs_cons, Bool.and_self, Bool.and_true, ev_dnew, List.set_cons_succ, List.set_cons_zero, bin_add, bin_sub, neg_int, cmp_lt, cmp_le, cmp_gt, cmp_ge, cmp_isbl, cmp_notbl, cmp_eq_int, cmp_ne_int, cmp_eq_bl, cmp_ne_bl, truthM_bl, Bool.not_true, Bool.not_false, lenOk0, lenOk1, lenOk2, lenOk3, intD_int, absD_int, lenD_tup, lenD_lst, lenD_scr, tupD_lst, tupD_tup, startE, List.map_cons, List.map_nil, List.length_cons, List.length_nil, Nat.zero_add, Nat.reduceAdd, Nat.reduceSub, List.replicate_succ, List.replicate_zero, List.cons_append, List.nil_append, lenOk_small, Nat.reduceLeDiff, eq_self, items_tup, items_lst, ixM_tup, ixM_lst, decide_true, decide_false, wipeE, lcF_eq, lcB_so, lcC_t, lcC_f, noXM_ret, List.length_map, List.length_range, atI0, atI1, atI2, nc0, nc1, nc2, nc3, nc4, nc5, nc6, nc7, nc8, nc9, intD_bl]
      congr 3
      by_cases e : i = j
      · subst e; simp
      · rw [if_neg e, if_neg]
        simp
        omega
theorem l_unit {n : Nat} (hn : n ≤ 60) : m__law_unit [.int (n : Nat)] = ret (gridR n n fun i j => if i = j then 1 else 0) := by
  unfold m__law_unit c__law_unit
  rw [fn1]
  simp only [ex_seq, nxt_nx, nxt_rt, nxt_ct, nxt_bk, ex_ifs, brn_t, brn_f, ex_pass, ex_ret, ex_expr, ex_asg, bndM_so, ex_par, ex_aug, ex_for, endD_nx, endD_rt, bind_nm, bind_nil, bind_cons, bind_consl, ev_var, ev_c, ev_bin, ev_neg, ev_cmp, chn_t, chn_f, ev_chain, ev_and, ev_or, ev_ite, and_t, and_f, or_t, or_f, ite_t, ite_f, ev_not, ev_tup, ev_lst, ev_ix, ev_sl, intM_int, ev_int, ev_lc, ev_call, evs_nil, evs_cons, evs_star, evs_it1, evs_rng1, evs_rng2, evs_zip, evs_enum, andThen_ret, andThen_assoc, optM_so, List.getElem?_cons_succ, List.getElem?_cons_zero, slotM_so, Option.bind_some, Option.map_some, bi_eq, binM_eq, cmpM_eq, slM_eq, nr_non, nr_bl, nr_int, nr_str, nr_tup, nr_lst, nr_ty, nr_scr, nr_emp, nrs_nil, nrs_cons, Bool.and_self, Bool.and_true, ev_dnew, List.set_cons_succ, List.set_cons_zero, bin_add, bin_sub, neg_int, cmp_lt, cmp_le, cmp_gt, cmp_ge, cmp_isbl, cmp_notbl, cmp_eq_int, cmp_ne_int, cmp_eq_bl, cmp_ne_bl, truthM_bl, Bool.not_true, Bool.not_false, lenOk0, lenOk1, lenOk2, lenOk3, intD_int, absD_int, lenD_tup, lenD_lst, lenD_scr, tupD_lst, tupD_tup, startE, List.map_cons, List.map_nil, List.length_cons, List.length_nil, Nat.zero_add, Nat.reduceAdd, Nat.reduceSub, List.replicate_succ, List.replicate_zero, List.cons_append, List.nil_append, lenOk_small, Nat.reduceLeDiff, eq_self, items_tup, items_lst, ixM_tup, ixM_lst, decide_true, decide_false, wipeE, lcF_eq, lcB_so, lcC_t, lcC_f, noXM_ret, List.length_map, List.length_range, atI0, atI1, atI2, nc0, nc1, nc2, nc3, nc4, nc5, nc6, nc7, nc8, nc9, rng_nat (show n < 1000000 by omega)]
  rw [lc_rng (fun i => rowR n fun j => if i = j then 1 else 0) (fun i hi => ?_) (by omega)]
  · simp only [ex_seq, nxt_nx, nxt_rt, nxt_ct, nxt_bk, ex_ifs, brn_t, brn_f, ex_pass, ex_ret, ex_expr, ex_asg, bndM_so, ex_par, ex_aug, ex_for, endD_nx, endD_rt, bind_nm, bind_nil, bind_cons, bind_consl, ev_var, ev_c, ev_bin, ev_neg, ev_cmp, chn_t, chn_f, ev_chain, ev_and, ev_or, ev_ite, and_t, and_f, or_t, or_f, ite_t, ite_f, ev_not, ev_tup, ev_lst, ev_ix, ev_sl, intM_int, ev_int, ev_lc, ev_call, evs_nil, evs_cons, evs_star, evs_it1, evs_rng1, evs_rng2, evs_zip, evs_enum, andThen_ret, andThen_assoc, optM_so, List.getElem?_cons_succ, List.getElem?_cons_zero, slotM_so, Option.bind_some, Option.map_some, bi_eq, binM_eq, cmpM_eq, slM_eq, nr_non, nr_bl, nr_int, nr_str, nr_tup, nr_lst, nr_ty, nr_scr, nr_emp, nrs_nil, nrs_cons, Bool.and_self, Bool.and_true, ev_dnew, List.set_cons_succ, List.set_cons_zero, bin_add, bin_sub, neg_int, cmp_lt, cmp_le, cmp_gt, cmp_ge, cmp_isbl, cmp_notbl, cmp_eq_int, cmp_ne_int, cmp_eq_bl, cmp_ne_bl, truthM_bl, Bool.not_true, Bool.not_false, lenOk0, lenOk1, lenOk2, lenOk3, intD_int, absD_int, lenD_tup, lenD_lst, lenD_scr, tupD_lst, tupD_tup, startE, List.map_cons, List.map_nil, List.length_cons, List.length_nil, Nat.zero_add, Nat.reduceAdd, Nat.reduceSub, List.replicate_succ, List.replicate_zero, List.cons_append, List.nil_append, lenOk_small, Nat.reduceLeDiff, eq_self, items_tup, items_lst, ixM_tup, ixM_lst, decide_true, decide_false, wipeE, lcF_eq, lcB_so, lcC_t, lcC_f, noXM_ret, List.length_map, List.length_range, atI0, atI1, atI2, nc0, nc1, nc2, nc3, nc4, nc5, nc6, nc7, nc8, nc9]
  · simp only [ex_seq, nxt_nx, nxt_rt, nxt_ct, nxt_bk, ex_ifs, brn_t, brn_f, ex_pass, ex_ret, ex_expr, ex_asg, bndM_so, ex_par, ex_aug, ex_for, endD_nx, endD_rt, bind_nm, bind_nil, bind_cons, bind_consl, ev_var, ev_c, ev_bin, ev_neg, ev_cmp, chn_t, chn_f, ev_chain, ev_and, ev_or, ev_ite, and_t, and_f, or_t, or_f, ite_t, ite_f, ev_not, ev_tup, ev_lst, ev_ix, ev_sl, intM_int, ev_int, ev_lc, ev_call, evs_nil, evs_cons, evs_star, evs_it1, evs_rng1, evs_rng2, evs_zip, evs_enum, andThen_ret, andThen_assoc, optM_so, List.getElem?_cons_succ, List.getElem?_cons_zero, slotM_so, Option.bind_some, Option.map_some, bi_eq, binM_eq, cmpM_eq, slM_eq, nr_non, nr_bl, nr_int, nr_str, nr_tup, nr_lst, nr_ty, nr_scr, nr_emp, nrs_nil, nrs_cons, Bool.and_self, Bool.and_true, ev_dnew, List.set_cons_succ, List.set_cons_zero, bin_add, bin_sub, neg_int, cmp_lt, cmp_le, cmp_gt, cmp_ge, cmp_isbl, cmp_notbl, cmp_eq_int, cmp_ne_int, cmp_eq_bl, cmp_ne_bl, truthM_bl, Bool.not_true, Bool.not_false, lenOk0, lenOk1, lenOk2, lenOk3, intD_int, absD_int, lenD_tup, lenD_lst, lenD_scr, tupD_lst, tupD_tup, startE, List.map_cons, List.map_nil, List.length_cons, List.length_nil, Nat.zero_add, Nat.reduceAdd, Nat.reduceSub, List.replicate_succ, List.replicate_zero, List.cons_append, List.nil_append, lenOk_small, Nat.reduceLeDiff, eq_self, items_tup, items_lst, ixM_tup, ixM_lst, decide_true, decide_false, wipeE, lcF_eq, lcB_so, lcC_t, lcC_f, noXM_ret, List.length_map, List.length_range, atI0, atI1, atI2, nc0, nc1, nc2, nc3, nc4, nc5, nc6, nc7, nc8, nc9, rng_nat (show n < 1000000 by omega)]
    rw [lc_rng (fun j => .int (if i = j then 1 else 0)) (fun j hj => ?_) (by omega)]
    · simp only [ex_seq, nxt_nx, nxt_rt, nxt_ct, nxt_bk, ex_ifs, brn_t, brn_f, ex_pass, ex_ret, ex_expr, ex_asg, bndM_so, ex_par, ex_aug, ex_for, endD_nx, endD_rt, bind_nm, bind_nil, bind_cons, bind_consl, ev_var, ev_c, ev_bin, ev_neg, ev_cmp, chn_t, chn_f, ev_chain, ev_and, ev_or, ev_ite, and_t, and_f, or_t, or_f, ite_t, ite_f, ev_not, ev_tup, ev_lst, ev_ix, ev_sl, intM_int, ev_int, ev_lc, ev_call, evs_nil, evs_cons, evs_star, evs_it1, evs_rng1, evs_rng2, evs_zip, evs_enum, andThen_ret, andThen_assoc, optM_so, List.getElem?_cons_succ, List.getElem?_cons_zero, slotM_so, Option.bind_some, Option.map_some, bi_eq, binM_eq, cmpM_eq, slM_eq, nr_non, nr_bl, nr_int, nr_str, nr_tup, nr_lst, nr_ty, nr_scr, nr_emp, nrs_nil, nrs_cons, Bool.and_self, Bool.and_true, ev_dnew, List.set_cons_succ, List.set_cons_zero, bin_add, bin_sub, neg_int, cmp_lt, cmp_le, cmp_gt, cmp_ge, cmp_isbl, cmp_notbl, cmp_eq_int, cmp_ne_int, cmp_eq_bl, cmp_ne_bl, truthM_bl, Bool.not_true, Bool.not_false, lenOk0, lenOk1, lenOk2, lenOk3, intD_int, absD_int, lenD_tup, lenD_lst, lenD_scr, tupD_lst, tupD_tup, startE, List.map_cons, List.map_nil, List.length_cons, List.length_nil, Nat.zero_add, Nat.reduceAdd, Nat.reduceSub, List.replicate_succ, List.replicate_zero, List.cons_append, List.nil_append, lenOk_small, Nat.reduceLeDiff, eq_self, items_tup, items_lst, ixM_tup, ixM_lst, decide_true, decide_false, wipeE, lcF_eq, lcB_so, lcC_t, lcC_f, noXM_ret, List.length_map, List.length_range, atI0, atI1, atI2, nc0, nc1, nc2, nc3, nc4, nc5, nc6, nc7, nc8, nc9]
    · simp only [ex_seq, nxt_nx, nxt_rt, nxt_ct, nxt_bk, ex_ifs, brn_t, brn_f, ex_pass, ex_ret, ex_expr, ex_asg, bndM_so, ex_par, ex_aug, ex_for, endD_nx, endD_rt, bind_nm, bind_nil, bind_cons, bind_consl, ev_var, ev_c, ev_bin, ev_neg, ev_cmp, chn_t, chn_f, ev_chain, ev_and, ev_or, ev_ite, and_t, and_f, or_t, or_f, ite_t, ite_f, ev_not, ev_tup, ev_lst, ev_ix, ev_sl, intM_int, ev_int, ev_lc, ev_call, evs_nil, evs_cons, evs_star, evs_it1, evs_rng1, evs_rng2, evs_zip, evs_enum, andThen_ret, andThen_assoc, optM_so, List.getElem?_cons_succ, List.getElem?_cons_zero, slotM_so, Option.bind_some, Option.map_some, bi_eq, binM_eq, cmpM_eq, slM_eq, nr_non, nr_bl, nr_int, nr_str, nr_tup, nr_lst, nr_ty, nr_scr, nr_emp, nrs_nil, nrs_cons, Bool.and_self, Bool.and_true, ev_dnew, List.set_cons_succ, List.set_cons_zero, bin_add, bin_sub, neg_int, cmp_lt, cmp_le, cmp_gt, cmp_ge, cmp_isbl, cmp_notbl, cmp_eq_int, cmp_ne_int, cmp_eq_bl, cmp_ne_bl, truthM_bl, Bool.not_true, Bool.not_false, lenOk0, lenOk1, lenOk2, lenOk3, intD_int, absD_int, lenD_tup, lenD_lst, lenD_scr, tupD_lst, tupD_tup, startE, List.map_cons, List.map_nil, List.length_cons, List.length_nil, Nat.zero_add, Nat.reduceAdd, Nat.reduceSub, List.replicate_succ, List.replicate_zero, List.cons_append, List.nil_append, lenOk_small, Nat.reduceLeDiff, eq_self, items_tup, items_lst, ixM_tup, ixM_lst, decide_true, decide_false, wipeE, lcF_eq, lcB_so, lcC_t, lcC_f, noXM_ret, List.length_map, List.length_range, atI0, atI1, atI2, nc0, nc1, nc2, nc3, nc4, nc5, nc6, nc7, nc8, nc9, intD_bl]
      congr 3
      by_cases e : i = j
      · subst e; simp
      · rw [if_neg e, if_neg]
        simp
        omega
theorem unit_grid {n : Nat} (hn : n ≤ 60) : m_unit_grid [.int (n : Nat)] = ret (gridR n n fun i j => if i = j then 1 else 0) := by
  unfold m_unit_grid c_unit_grid
  rw [fn1]
  simp only [ex_seq, nxt_nx, nxt_rt, nxt_ct, nxt_bk, ex_ifs, brn_t, brn_f, ex_pass, ex_ret, ex_expr, ex_asg, bndM_so, ex_par, ex_aug, ex_for, endD_nx, endD_rt, bind_nm, bind_nil, bind_cons, bind_consl, ev_var, ev_c, ev_bin, ev_neg, ev_cmp, chn_t, chn_f, ev_chain, ev_and, ev_or, ev_ite, and_t, and_f, or_t, or_f, ite_t, ite_f, ev_not, ev_tup, ev_lst, ev_ix, ev_sl, intM_int, ev_int, ev_lc, ev_call, evs_nil, evs_cons, evs_star, evs_it1, evs_rng1, evs_rng2, evs_zip, evs_enum, andThen_ret, andThen_assoc, optM_so, List.getElem?_cons_succ, List.getElem?_cons_zero, slotM_so, Option.bind_some, Option.map_some, bi_eq, binM_eq, cmpM_eq, slM_eq, nr_non, nr_bl, nr_int, nr_str, nr_tup, nr_lst, nr_ty, nr_scr, nr_emp, nrs_nil, nrs_cons, Bool.and_self, Bool.and_true, ev_dnew, List.set_cons_succ, List.set_cons_zero, bin_add, bin_sub, neg_int, cmp_lt, cmp_le, cmp_gt, cmp_ge, cmp_isbl, cmp_notbl, cmp_eq_int, cmp_ne_int, cmp_eq_bl, cmp_ne_bl, truthM_bl, Bool.not_true, Bool.not_false, lenOk0, lenOk1, lenOk2, lenOk3, intD_int, absD_int, lenD_tup, lenD_lst, lenD_scr, tupD_lst, tupD_tup, startE, List.map_cons, List.map_nil, List.length_cons, List.length_nil, Nat.zero_add, Nat.reduceAdd, Nat.reduceSub, List.replicate_succ, List.replicate_zero, List.cons_append, List.nil_append, lenOk_small, Nat.reduceLeDiff, eq_self, items_tup, items_lst, ixM_tup, ixM_lst, decide_true, decide_false, wipeE, lcF_eq, lcB_so, lcC_t, lcC_f, noXM_ret, List.length_map, List.length_range, atI0, atI1, atI2, nc0, nc1, nc2, nc3, nc4, nc5, nc6, nc7, nc8, nc9, req_within (show (0 : Int) ≤ (n : Nat) by omega) (show ((n : Nat) : Int) ≤ 60 by omega), unit_in hn]
theorem rep_one (d : D) : ∀ n : Nat, (List.replicate n [d]).flatten = (List.range n).map fun _ => d
  | 0 => rfl
  | n + 1 => by
    rw [List.replicate_succ', List.flatten_append, rep_one d n, List.range_succ, List.map_append]
    rfl
theorem mul_rep {d : D} {n : Nat} (h : n ≤ 1000) : binD .Mult (.tup [d]) (.int (n : Nat)) = some (.tup ((List.range n).map fun _ => d)) := by
  have e : binD .Mult (.tup [d]) (.int (n : Nat)) = some (.tup (List.replicate ((n : Nat) : Int).toNat [d]).flatten) := if_pos (by
    rw [decide_eq_true (show -1000 ≤ ((n : Nat) : Int) by omega), decide_eq_true (show ((n : Nat) : Int) ≤ 1000 by omega)]
    rfl)
  rw [e, Int.toNat_natCast, rep_one]
theorem nought_in {h w : Nat} (hh : h ≤ 60) (hw : w ≤ 60) : m_nought_in [.int (h : Nat), .int (w : Nat)] = ret (gridR h w fun _ _ => 0) := by
  unfold m_nought_in c_nought_in
  rw [fn2]
  simp only [ex_seq, nxt_nx, nxt_rt, nxt_ct, nxt_bk, ex_ifs, brn_t, brn_f, ex_pass, ex_ret, ex_expr, ex_asg, bndM_so, ex_par, ex_aug, ex_for, endD_nx, endD_rt, bind_nm, bind_nil, bind_cons, bind_consl, ev_var, ev_c, ev_bin, ev_neg, ev_cmp, chn_t, chn_f, ev_chain, ev_and, ev_or, ev_ite, and_t, and_f, or_t, or_f, ite_t, ite_f, ev_not, ev_tup, ev_lst, ev_ix, ev_sl, intM_int, ev_int, ev_lc, ev_call, evs_nil, evs_cons, evs_star, evs_it1, evs_rng1, evs_rng2, evs_zip, evs_enum, andThen_ret, andThen_assoc, optM_so, List.getElem?_cons_succ, List.getElem?_cons_zero, slotM_so, Option.bind_some, Option.map_some, bi_eq, binM_eq, cmpM_eq, slM_eq, nr_non, nr_bl, nr_int, nr_str, nr_tup, nr_lst, nr_ty, nr_scr, nr_emp, nrs_nil, nrs_cons, Bool.and_self, Bool.and_true, ev_dnew, List.set_cons_succ, List.set_cons_zero, bin_add, bin_sub, neg_int, cmp_lt, cmp_le, cmp_gt, cmp_ge, cmp_isbl, cmp_notbl, cmp_eq_int, cmp_ne_int, cmp_eq_bl, cmp_ne_bl, truthM_bl, Bool.not_true, Bool.not_false, lenOk0, lenOk1, lenOk2, lenOk3, intD_int, absD_int, lenD_tup, lenD_lst, lenD_scr, tupD_lst, tupD_tup, startE, List.map_cons, List.map_nil, List.length_cons, List.length_nil, Nat.zero_add, Nat.reduceAdd, Nat.reduceSub, List.replicate_succ, List.replicate_zero, List.cons_append, List.nil_append, lenOk_small, Nat.reduceLeDiff, eq_self, items_tup, items_lst, ixM_tup, ixM_lst, decide_true, decide_false, wipeE, lcF_eq, lcB_so, lcC_t, lcC_f, noXM_ret, List.length_map, List.length_range, atI0, atI1, atI2, nc0, nc1, nc2, nc3, nc4, nc5, nc6, nc7, nc8, nc9, mul_rep (show w ≤ 1000 by omega), mul_rep (show h ≤ 1000 by omega)]
theorem nought_grid {h w : Nat} (hh : h ≤ 60) (hw : w ≤ 60) : m_nought_grid [.int (h : Nat), .int (w : Nat)] = ret (gridR h w fun _ _ => 0) := by
  unfold m_nought_grid c_nought_grid
  rw [fn2]
  simp only [ex_seq, nxt_nx, nxt_rt, nxt_ct, nxt_bk, ex_ifs, brn_t, brn_f, ex_pass, ex_ret, ex_expr, ex_asg, bndM_so, ex_par, ex_aug, ex_for, endD_nx, endD_rt, bind_nm, bind_nil, bind_cons, bind_consl, ev_var, ev_c, ev_bin, ev_neg, ev_cmp, chn_t, chn_f, ev_chain, ev_and, ev_or, ev_ite, and_t, and_f, or_t, or_f, ite_t, ite_f, ev_not, ev_tup, ev_lst, ev_ix, ev_sl, intM_int, ev_int, ev_lc, ev_call, evs_nil, evs_cons, evs_star, evs_it1, evs_rng1, evs_rng2, evs_zip, evs_enum, andThen_ret, andThen_assoc, optM_so, List.getElem?_cons_succ, List.getElem?_cons_zero, slotM_so, Option.bind_some, Option.map_some, bi_eq, binM_eq, cmpM_eq, slM_eq, nr_non, nr_bl, nr_int, nr_str, nr_tup, nr_lst, nr_ty, nr_scr, nr_emp, nrs_nil, nrs_cons, Bool.and_self, Bool.and_true, ev_dnew, List.set_cons_succ, List.set_cons_zero, bin_add, bin_sub, neg_int, cmp_lt, cmp_le, cmp_gt, cmp_ge, cmp_isbl, cmp_notbl, cmp_eq_int, cmp_ne_int, cmp_eq_bl, cmp_ne_bl, truthM_bl, Bool.not_true, Bool.not_false, lenOk0, lenOk1, lenOk2, lenOk3, intD_int, absD_int, lenD_tup, lenD_lst, lenD_scr, tupD_lst, tupD_tup, startE, List.map_cons, List.map_nil, List.length_cons, List.length_nil, Nat.zero_add, Nat.reduceAdd, Nat.reduceSub, List.replicate_succ, List.replicate_zero, List.cons_append, List.nil_append, lenOk_small, Nat.reduceLeDiff, eq_self, items_tup, items_lst, ixM_tup, ixM_lst, decide_true, decide_false, wipeE, lcF_eq, lcB_so, lcC_t, lcC_f, noXM_ret, List.length_map, List.length_range, atI0, atI1, atI2, nc0, nc1, nc2, nc3, nc4, nc5, nc6, nc7, nc8, nc9, req_within (show (0 : Int) ≤ (h : Nat) by omega) (show ((h : Nat) : Int) ≤ 60 by omega), req_within (show (0 : Int) ≤ (w : Nat) by omega) (show ((w : Nat) : Int) ≤ 60 by omega), nought_in hh hw]
end K03

set_option Elab.async false
set_option linter.all false
set_option maxRecDepth 100000
set_option maxHeartbeats 4000000
/-! K03d: arbitrary values judged. -/
namespace K03
open PySem L2 Gw
/-- a plain top -/
def pl : D → Bool
  | .non => true | .bl _ => true | .int _ => true | .str _ => true | .tup _ => true | .lst _ => true | .emp => true | _ => false
def isI : D → Bool
  | .int _ => true
  | _ => false
def isB : D → Bool
  | .bl _ => true
  | _ => false
def isT : D → Bool
  | .tup _ => true
  | _ => false
theorem pl_nr {d : D} (h : pl d = true) : d.nr = true := by cases d <;> first | rfl | cases h
theorem isi_t {d : D} (h : pl d = true) : isiD [d, .ty "tuple"] = some (.bl (isT d)) := by cases d <;> first | rfl | cases h
theorem isi_i {d : D} (h : pl d = true) : isiD [d, .ty "int"] = some (.bl (isI d || isB d)) := by cases d <;> first | rfl | cases h
theorem isi_b {d : D} (h : pl d = true) : isiD [d, .ty "bool"] = some (.bl (isB d)) := by cases d <;> first | rfl | cases h
theorem whole {d : D} (h : pl d = true) : m_is_whole [d] = ret (.bl (isI d)) := by
  have hx : (isI d = true ∧ isB d = false) ∨ (isI d = false ∧ isB d = true) ∨ (isI d = false ∧ isB d = false) := by cases d <;> simp [isI, isB]
  unfold m_is_whole c_is_whole
  rw [fn1]
  rcases hx with ⟨e1, e2⟩ | ⟨e1, e2⟩ | ⟨e1, e2⟩ <;> simp only [ex_seq, nxt_nx, nxt_rt, nxt_ct, nxt_bk, ex_ifs, brn_t, brn_f, ex_pass, ex_ret, ex_expr, ex_asg, bndM_so, ex_par, ex_aug, ex_for, endD_nx, endD_rt, bind_nm, bind_nil, bind_cons, bind_consl, ev_var, ev_c, ev_bin, ev_neg, ev_cmp, chn_t, chn_f, ev_chain, ev_and, ev_or, ev_ite, and_t, and_f, or_t, or_f, ite_t, ite_f, ev_not, ev_tup, ev_lst, ev_ix, ev_sl, intM_int, ev_int, ev_lc, ev_call, evs_nil, evs_cons, evs_star, evs_it1, evs_rng1, evs_rng2, evs_zip, evs_enum, andThen_ret, andThen_assoc, optM_so, List.getElem?_cons_succ, List.getElem?_cons_zero, slotM_so, Option.bind_some, Option.map_some, bi_eq, binM_eq, cmpM_eq, slM_eq, nr_non, nr_bl, nr_int, nr_str, nr_tup, nr_lst, nr_ty, nr_scr, nr_emp, nrs_nil, nrs_cons, Bool.and_self, Bool.and_true, ev_dnew, List.set_cons_succ, List.set_cons_zero, bin_add, bin_sub, neg_int, cmp_lt, cmp_le, cmp_gt, cmp_ge, cmp_isbl, cmp_notbl, cmp_eq_int, cmp_ne_int, cmp_eq_bl, cmp_ne_bl, truthM_bl, Bool.not_true, Bool.not_false, lenOk0, lenOk1, lenOk2, lenOk3, intD_int, absD_int, lenD_tup, lenD_lst, lenD_scr, tupD_lst, tupD_tup, startE, List.map_cons, List.map_nil, List.length_cons, List.length_nil, Nat.zero_add, Nat.reduceAdd, Nat.reduceSub, List.replicate_succ, List.replicate_zero, List.cons_append, List.nil_append, lenOk_small, Nat.reduceLeDiff, eq_self, items_tup, items_lst, ixM_tup, ixM_lst, decide_true, decide_false, wipeE, lcF_eq, lcB_so, lcC_t, lcC_f, noXM_ret, List.length_map, List.length_range, atI0, atI1, atI2, nc0, nc1, nc2, nc3, nc4, nc5, nc6, nc7, nc8, nc9, pl_nr h, isi_i h, isi_b h, e1, e2, Bool.or_false, Bool.or_true, Bool.or_self]
def intB : D → Bool
  | .int i => decide (small i)
  | _ => false
theorem integer {d : D} (h : pl d = true) : m_is_integer [d] = ret (.bl (intB d)) := by
  unfold m_is_integer c_is_integer
  rw [fn1]
  rcases Bool.eq_false_or_eq_true (isI d) with hi | e1
  case inr =>
    have e2 : intB d = false := by cases d <;> first | rfl | cases e1
    simp only [ex_seq, nxt_nx, nxt_rt, nxt_ct, nxt_bk, ex_ifs, brn_t, brn_f, ex_pass, ex_ret, ex_expr, ex_asg, bndM_so, ex_par, ex_aug, ex_for, endD_nx, endD_rt, bind_nm, bind_nil, bind_cons, bind_consl, ev_var, ev_c, ev_bin, ev_neg, ev_cmp, chn_t, chn_f, ev_chain, ev_and, ev_or, ev_ite, and_t, and_f, or_t, or_f, ite_t, ite_f, ev_not, ev_tup, ev_lst, ev_ix, ev_sl, intM_int, ev_int, ev_lc, ev_call, evs_nil, evs_cons, evs_star, evs_it1, evs_rng1, evs_rng2, evs_zip, evs_enum, andThen_ret, andThen_assoc, optM_so, List.getElem?_cons_succ, List.getElem?_cons_zero, slotM_so, Option.bind_some, Option.map_some, bi_eq, binM_eq, cmpM_eq, slM_eq, nr_non, nr_bl, nr_int, nr_str, nr_tup, nr_lst, nr_ty, nr_scr, nr_emp, nrs_nil, nrs_cons, Bool.and_self, Bool.and_true, ev_dnew, List.set_cons_succ, List.set_cons_zero, bin_add, bin_sub, neg_int, cmp_lt, cmp_le, cmp_gt, cmp_ge, cmp_isbl, cmp_notbl, cmp_eq_int, cmp_ne_int, cmp_eq_bl, cmp_ne_bl, truthM_bl, Bool.not_true, Bool.not_false, lenOk0, lenOk1, lenOk2, lenOk3, intD_int, absD_int, lenD_tup, lenD_lst, lenD_scr, tupD_lst, tupD_tup, startE, List.map_cons, List.map_nil, List.length_cons, List.length_nil, Nat.zero_add, Nat.reduceAdd, Nat.reduceSub, List.replicate_succ, List.replicate_zero, List.cons_append, List.nil_append, lenOk_small, Nat.reduceLeDiff, eq_self, items_tup, items_lst, ixM_tup, ixM_lst, decide_true, decide_false, wipeE, lcF_eq, lcB_so, lcC_t, lcC_f, noXM_ret, List.length_map, List.length_range, atI0, atI1, atI2, nc0, nc1, nc2, nc3, nc4, nc5, nc6, nc7, nc8, nc9, whole h, e1, e2]
  cases d <;> first | (cases hi; done) | skip
  rename_i i
  have hi' : isI (.int i) = true := rfl
  by_cases h1 : -1000000000000 < i
  · by_cases h2 : i < 1000000000000
    · simp only [ex_seq, nxt_nx, nxt_rt, nxt_ct, nxt_bk, ex_ifs, brn_t, brn_f, ex_pass, ex_ret, ex_expr, ex_asg, bndM_so, ex_par, ex_aug, ex_for, endD_nx, endD_rt, bind_nm, bind_nil, bind_cons, bind_consl, ev_var, ev_c, ev_bin, ev_neg, ev_cmp, chn_t, chn_f, ev_chain, ev_and, ev_or, ev_ite, and_t, and_f, or_t, or_f, ite_t, ite_f, ev_not, ev_tup, ev_lst, ev_ix, ev_sl, intM_int, ev_int, ev_lc, ev_call, evs_nil, evs_cons, evs_star, evs_it1, evs_rng1, evs_rng2, evs_zip, evs_enum, andThen_ret, andThen_assoc, optM_so, List.getElem?_cons_succ, List.getElem?_cons_zero, slotM_so, Option.bind_some, Option.map_some, bi_eq, binM_eq, cmpM_eq, slM_eq, nr_non, nr_bl, nr_int, nr_str, nr_tup, nr_lst, nr_ty, nr_scr, nr_emp, nrs_nil, nrs_cons, Bool.and_self, Bool.and_true, ev_dnew, List.set_cons_succ, List.set_cons_zero, bin_add, bin_sub, neg_int, cmp_lt, cmp_le, cmp_gt, cmp_ge, cmp_isbl, cmp_notbl, cmp_eq_int, cmp_ne_int, cmp_eq_bl, cmp_ne_bl, truthM_bl, Bool.not_true, Bool.not_false, lenOk0, lenOk1, lenOk2, lenOk3, intD_int, absD_int, lenD_tup, lenD_lst, lenD_scr, tupD_lst, tupD_tup, startE, List.map_cons, List.map_nil, List.length_cons, List.length_nil, Nat.zero_add, Nat.reduceAdd, Nat.reduceSub, List.replicate_succ, List.replicate_zero, List.cons_append, List.nil_append, lenOk_small, Nat.reduceLeDiff, eq_self, items_tup, items_lst, ixM_tup, ixM_lst, decide_true, decide_false, wipeE, lcF_eq, lcB_so, lcC_t, lcC_f, noXM_ret, List.length_map, List.length_range, atI0, atI1, atI2, nc0, nc1, nc2, nc3, nc4, nc5, nc6, nc7, nc8, nc9, whole h, hi', intB, decide_eq_true h1, decide_eq_true h2, decide_eq_true (show small i from ⟨h1, h2⟩)]
    · simp only [ex_seq, nxt_nx, nxt_rt, nxt_ct, nxt_bk, ex_ifs, brn_t, brn_f, ex_pass, ex_ret, ex_expr, ex_asg, bndM_so, ex_par, ex_aug, ex_for, endD_nx, endD_rt, bind_nm, bind_nil, bind_cons, bind_consl, ev_var, ev_c, ev_bin, ev_neg, ev_cmp, chn_t, chn_f, ev_chain, ev_and, ev_or, ev_ite, and_t, and_f, or_t, or_f, ite_t, ite_f, ev_not, ev_tup, ev_lst, ev_ix, ev_sl, intM_int, ev_int, ev_lc, ev_call, evs_nil, evs_cons, evs_star, evs_it1, evs_rng1, evs_rng2, evs_zip, evs_enum, andThen_ret, andThen_assoc, optM_so, List.getElem?_cons_succ, List.getElem?_cons_zero, slotM_so, Option.bind_some, Option.map_some, bi_eq, binM_eq, cmpM_eq, slM_eq, nr_non, nr_bl, nr_int, nr_str, nr_tup, nr_lst, nr_ty, nr_scr, nr_emp, nrs_nil, nrs_cons, Bool.and_self, Bool.and_true, ev_dnew, List.set_cons_succ, List.set_cons_zero, bin_add, bin_sub, neg_int, cmp_lt, cmp_le, cmp_gt, cmp_ge, cmp_isbl, cmp_notbl, cmp_eq_int, cmp_ne_int, cmp_eq_bl, cmp_ne_bl, truthM_bl, Bool.not_true, Bool.not_false, lenOk0, lenOk1, lenOk2, lenOk3, intD_int, absD_int, lenD_tup, lenD_lst, lenD_scr, tupD_lst, tupD_tup, startE, List.map_cons, List.map_nil, List.length_cons, List.length_nil, Nat.zero_add, Nat.reduceAdd, Nat.reduceSub, List.replicate_succ, List.replicate_zero, List.cons_append, List.nil_append, lenOk_small, Nat.reduceLeDiff, eq_self, items_tup, items_lst, ixM_tup, ixM_lst, decide_true, decide_false, wipeE, lcF_eq, lcB_so, lcC_t, lcC_f, noXM_ret, List.length_map, List.length_range, atI0, atI1, atI2, nc0, nc1, nc2, nc3, nc4, nc5, nc6, nc7, nc8, nc9, whole h, hi', intB, decide_eq_true h1, decide_eq_false h2, decide_eq_false (show ¬ small i from fun z => h2 z.2)]
  · simp only [ex_seq, nxt_nx, nxt_rt, nxt_ct, nxt_bk, ex_ifs, brn_t, brn_f, ex_pass, ex_ret, ex_expr, ex_asg, bndM_so, ex_par, ex_aug, ex_for, endD_nx, endD_rt, bind_nm, bind_nil, bind_cons, bind_consl, ev_var, ev_c, ev_bin, ev_neg, ev_cmp, chn_t, chn_f, ev_chain, ev_and, ev_or, ev_ite, and_t, and_f, or_t, or_f, ite_t, ite_f, ev_not, ev_tup, ev_lst, ev_ix, ev_sl, intM_int, ev_int, ev_lc, ev_call, evs_nil, evs_cons, evs_star, evs_it1, evs_rng1, evs_rng2, evs_zip, evs_enum, andThen_ret, andThen_assoc, optM_so, List.getElem?_cons_succ, List.getElem?_cons_zero, slotM_so, Option.bind_some, Option.map_some, bi_eq, binM_eq, cmpM_eq, slM_eq, nr_non, nr_bl, nr_int, nr_str, nr_tup, nr_lst, nr_ty, nr_scr, nr_emp, nrs_nil, nrs_cons, Bool.and_self, Bool.and_true, ev_dnew, List.set_cons_succ, List.set_cons_zero, bin_add, bin_sub, neg_int, cmp_lt, cmp_le, cmp_gt, cmp_ge, cmp_isbl, cmp_notbl, cmp_eq_int, cmp_ne_int, cmp_eq_bl, cmp_ne_bl, truthM_bl, Bool.not_true, Bool.not_false, lenOk0, lenOk1, lenOk2, lenOk3, intD_int, absD_int, lenD_tup, lenD_lst, lenD_scr, tupD_lst, tupD_tup, startE, List.map_cons, List.map_nil, List.length_cons, List.length_nil, Nat.zero_add, Nat.reduceAdd, Nat.reduceSub, List.replicate_succ, List.replicate_zero, List.cons_append, List.nil_append, lenOk_small, Nat.reduceLeDiff, eq_self, items_tup, items_lst, ixM_tup, ixM_lst, decide_true, decide_false, wipeE, lcF_eq, lcB_so, lcC_t, lcC_f, noXM_ret, List.length_map, List.length_range, atI0, atI1, atI2, nc0, nc1, nc2, nc3, nc4, nc5, nc6, nc7, nc8, nc9, whole h, hi', intB, decide_eq_false h1, decide_eq_false (show ¬ small i from fun z => h1 z.1)]
/-- a comprehension of a bool for each member, over any list -/
theorem lc_any {F : D → M (Option D)} {xs : List D} (g : D → D) (h : ∀ x ∈ xs, F x = ret (some (g x))) (hn : xs.length ≤ 1000000) : lcGo F [] xs = ret (xs.map g) := by
  have := lcGo_map (f := F) (g := g) xs [] h (by rw [List.length_nil]; exact Nat.le_trans (by omega) line_big)
  rwa [List.nil_append] at this
theorem all_any (xs : List D) (p : D → Bool) : allD [.lst (xs.map fun x => .bl (p x))] = some (.bl (xs.all p)) := by
  show (D.bools _).map _ = _
  have := bools_map (xs.map p)
  rw [List.map_map] at this
  rw [show (xs.map fun x => D.bl (p x)) = xs.map (D.bl ∘ p) from rfl, this]
  show some (D.bl _) = _
  congr 2
  rw [List.all_map]
  rfl
def rowB : D → Bool
  | .tup xs => decide (xs.length ≤ 60) && xs.all intB
  | _ => false
theorem row {d : D} (h : pl d = true) (hm : ∀ xs, d = .tup xs → ∀ x ∈ xs, pl x = true) : m_is_row [d] = ret (.bl (rowB d)) := by
  unfold m_is_row c_is_row
  rw [fn1]
  rcases Bool.eq_false_or_eq_true (isT d) with ht | e1
  case inr =>
    have e2 : rowB d = false := by cases d <;> first | rfl | cases e1
    simp only [ex_seq, nxt_nx, nxt_rt, nxt_ct, nxt_bk, ex_ifs, brn_t, brn_f, ex_pass, ex_ret, ex_expr, ex_asg, bndM_so, ex_par, ex_aug, ex_for, endD_nx, endD_rt, bind_nm, bind_nil, bind_cons, bind_consl, ev_var, ev_c, ev_bin, ev_neg, ev_cmp, chn_t, chn_f, ev_chain, ev_and, ev_or, ev_ite, and_t, and_f, or_t, or_f, ite_t, ite_f, ev_not, ev_tup, ev_lst, ev_ix, ev_sl, intM_int, ev_int, ev_lc, ev_call, evs_nil, evs_cons, evs_star, evs_it1, evs_rng1, evs_rng2, evs_zip, evs_enum, andThen_ret, andThen_assoc, optM_so, List.getElem?_cons_succ, List.getElem?_cons_zero, slotM_so, Option.bind_some, Option.map_some, bi_eq, binM_eq, cmpM_eq, slM_eq, nr_non, nr_bl, nr_int, nr_str, nr_tup, nr_lst, nr_ty, nr_scr, nr_emp, nrs_nil, nrs_cons, Bool.and_self, Bool.and_true, ev_dnew, List.set_cons_succ, List.set_cons_zero, bin_add, bin_sub, neg_int, cmp_lt, cmp_le, cmp_gt, cmp_ge, cmp_isbl, cmp_notbl, cmp_eq_int, cmp_ne_int, cmp_eq_bl, cmp_ne_bl, truthM_bl, Bool.not_true, Bool.not_false, lenOk0, lenOk1, lenOk2, lenOk3, intD_int, absD_int, lenD_tup, lenD_lst, lenD_scr, tupD_lst, tupD_tup, startE, List.map_cons, List.map_nil, List.length_cons, List.length_nil, Nat.zero_add, Nat.reduceAdd, Nat.reduceSub, List.replicate_succ, List.replicate_zero, List.cons_append, List.nil_append, lenOk_small, Nat.reduceLeDiff, eq_self, items_tup, items_lst, ixM_tup, ixM_lst, decide_true, decide_false, wipeE, lcF_eq, lcB_so, lcC_t, lcC_f, noXM_ret, List.length_map, List.length_range, atI0, atI1, atI2, nc0, nc1, nc2, nc3, nc4, nc5, nc6, nc7, nc8, nc9, pl_nr h, isi_t h, e1, e2]
  cases d <;> first | (cases ht; done) | skip
  rename_i xs
  have hx := hm xs rfl
  by_cases hl : xs.length ≤ 60
  · have h6 : ¬ (60 : Int) < (xs.length : Nat) := by omega
    simp only [ex_seq, nxt_nx, nxt_rt, nxt_ct, nxt_bk, ex_ifs, brn_t, brn_f, ex_pass, ex_ret, ex_expr, ex_asg, bndM_so, ex_par, ex_aug, ex_for, endD_nx, endD_rt, bind_nm, bind_nil, bind_cons, bind_consl, ev_var, ev_c, ev_bin, ev_neg, ev_cmp, chn_t, chn_f, ev_chain, ev_and, ev_or, ev_ite, and_t, and_f, or_t, or_f, ite_t, ite_f, ev_not, ev_tup, ev_lst, ev_ix, ev_sl, intM_int, ev_int, ev_lc, ev_call, evs_nil, evs_cons, evs_star, evs_it1, evs_rng1, evs_rng2, evs_zip, evs_enum, andThen_ret, andThen_assoc, optM_so, List.getElem?_cons_succ, List.getElem?_cons_zero, slotM_so, Option.bind_some, Option.map_some, bi_eq, binM_eq, cmpM_eq, slM_eq, nr_non, nr_bl, nr_int, nr_str, nr_tup, nr_lst, nr_ty, nr_scr, nr_emp, nrs_nil, nrs_cons, Bool.and_self, Bool.and_true, ev_dnew, List.set_cons_succ, List.set_cons_zero, bin_add, bin_sub, neg_int, cmp_lt, cmp_le, cmp_gt, cmp_ge, cmp_isbl, cmp_notbl, cmp_eq_int, cmp_ne_int, cmp_eq_bl, cmp_ne_bl, truthM_bl, Bool.not_true, Bool.not_false, lenOk0, lenOk1, lenOk2, lenOk3, intD_int, absD_int, lenD_tup, lenD_lst, lenD_scr, tupD_lst, tupD_tup, startE, List.map_cons, List.map_nil, List.length_cons, List.length_nil, Nat.zero_add, Nat.reduceAdd, Nat.reduceSub, List.replicate_succ, List.replicate_zero, List.cons_append, List.nil_append, lenOk_small, Nat.reduceLeDiff, eq_self, items_tup, items_lst, ixM_tup, ixM_lst, decide_true, decide_false, wipeE, lcF_eq, lcB_so, lcC_t, lcC_f, noXM_ret, List.length_map, List.length_range, atI0, atI1, atI2, nc0, nc1, nc2, nc3, nc4, nc5, nc6, nc7, nc8, nc9, isi_tup, decide_eq_false h6]
    rw [lc_any (fun x => .bl (intB x)) (fun x hx' => ?_) (by omega)]
    · simp only [ex_seq, nxt_nx, nxt_rt, nxt_ct, nxt_bk, ex_ifs, brn_t, brn_f, ex_pass, ex_ret, ex_expr, ex_asg, bndM_so, ex_par, ex_aug, ex_for, endD_nx, endD_rt, bind_nm, bind_nil, bind_cons, bind_consl, ev_var, ev_c, ev_bin, ev_neg, ev_cmp, chn_t, chn_f, ev_chain, ev_and, ev_or, ev_ite, and_t, and_f, or_t, or_f, ite_t, ite_f, ev_not, ev_tup, ev_lst, ev_ix, ev_sl, intM_int, ev_int, ev_lc, ev_call, evs_nil, evs_cons, evs_star, evs_it1, evs_rng1, evs_rng2, evs_zip, evs_enum, andThen_ret, andThen_assoc, optM_so, List.getElem?_cons_succ, List.getElem?_cons_zero, slotM_so, Option.bind_some, Option.map_some, bi_eq, binM_eq, cmpM_eq, slM_eq, nr_non, nr_bl, nr_int, nr_str, nr_tup, nr_lst, nr_ty, nr_scr, nr_emp, nrs_nil, nrs_cons, Bool.and_self, Bool.and_true, ev_dnew, List.set_cons_succ, List.set_cons_zero, bin_add, bin_sub, neg_int, cmp_lt, cmp_le, cmp_gt, cmp_ge, cmp_isbl, cmp_notbl, cmp_eq_int, cmp_ne_int, cmp_eq_bl, cmp_ne_bl, truthM_bl, Bool.not_true, Bool.not_false, lenOk0, lenOk1, lenOk2, lenOk3, intD_int, absD_int, lenD_tup, lenD_lst, lenD_scr, tupD_lst, tupD_tup, startE, List.map_cons, List.map_nil, List.length_cons, List.length_nil, Nat.zero_add, Nat.reduceAdd, Nat.reduceSub, List.replicate_succ, List.replicate_zero, List.cons_append, List.nil_append, lenOk_small, Nat.reduceLeDiff, eq_self, items_tup, items_lst, ixM_tup, ixM_lst, decide_true, decide_false, wipeE, lcF_eq, lcB_so, lcC_t, lcC_f, noXM_ret, List.length_map, List.length_range, atI0, atI1, atI2, nc0, nc1, nc2, nc3, nc4, nc5, nc6, nc7, nc8, nc9, all_any, rowB, decide_eq_true hl, Bool.true_and]
    · simp only [ex_seq, nxt_nx, nxt_rt, nxt_ct, nxt_bk, ex_ifs, brn_t, brn_f, ex_pass, ex_ret, ex_expr, ex_asg, bndM_so, ex_par, ex_aug, ex_for, endD_nx, endD_rt, bind_nm, bind_nil, bind_cons, bind_consl, ev_var, ev_c, ev_bin, ev_neg, ev_cmp, chn_t, chn_f, ev_chain, ev_and, ev_or, ev_ite, and_t, and_f, or_t, or_f, ite_t, ite_f, ev_not, ev_tup, ev_lst, ev_ix, ev_sl, intM_int, ev_int, ev_lc, ev_call, evs_nil, evs_cons, evs_star, evs_it1, evs_rng1, evs_rng2, evs_zip, evs_enum, andThen_ret, andThen_assoc, optM_so, List.getElem?_cons_succ, List.getElem?_cons_zero, slotM_so, Option.bind_some, Option.map_some, bi_eq, binM_eq, cmpM_eq, slM_eq, nr_non, nr_bl, nr_int, nr_str, nr_tup, nr_lst, nr_ty, nr_scr, nr_emp, nrs_nil, nrs_cons, Bool.and_self, Bool.and_true, ev_dnew, List.set_cons_succ, List.set_cons_zero, bin_add, bin_sub, neg_int, cmp_lt, cmp_le, cmp_gt, cmp_ge, cmp_isbl, cmp_notbl, cmp_eq_int, cmp_ne_int, cmp_eq_bl, cmp_ne_bl, truthM_bl, Bool.not_true, Bool.not_false, lenOk0, lenOk1, lenOk2, lenOk3, intD_int, absD_int, lenD_tup, lenD_lst, lenD_scr, tupD_lst, tupD_tup, startE, List.map_cons, List.map_nil, List.length_cons, List.length_nil, Nat.zero_add, Nat.reduceAdd, Nat.reduceSub, List.replicate_succ, List.replicate_zero, List.cons_append, List.nil_append, lenOk_small, Nat.reduceLeDiff, eq_self, items_tup, items_lst, ixM_tup, ixM_lst, decide_true, decide_false, wipeE, lcF_eq, lcB_so, lcC_t, lcC_f, noXM_ret, List.length_map, List.length_range, atI0, atI1, atI2, nc0, nc1, nc2, nc3, nc4, nc5, nc6, nc7, nc8, nc9, integer (hx x hx')]
  · have h6 : (60 : Int) < (xs.length : Nat) := by omega
    simp only [ex_seq, nxt_nx, nxt_rt, nxt_ct, nxt_bk, ex_ifs, brn_t, brn_f, ex_pass, ex_ret, ex_expr, ex_asg, bndM_so, ex_par, ex_aug, ex_for, endD_nx, endD_rt, bind_nm, bind_nil, bind_cons, bind_consl, ev_var, ev_c, ev_bin, ev_neg, ev_cmp, chn_t, chn_f, ev_chain, ev_and, ev_or, ev_ite, and_t, and_f, or_t, or_f, ite_t, ite_f, ev_not, ev_tup, ev_lst, ev_ix, ev_sl, intM_int, ev_int, ev_lc, ev_call, evs_nil, evs_cons, evs_star, evs_it1, evs_rng1, evs_rng2, evs_zip, evs_enum, andThen_ret, andThen_assoc, optM_so, List.getElem?_cons_succ, List.getElem?_cons_zero, slotM_so, Option.bind_some, Option.map_some, bi_eq, binM_eq, cmpM_eq, slM_eq, nr_non, nr_bl, nr_int, nr_str, nr_tup, nr_lst, nr_ty, nr_scr, nr_emp, nrs_nil, nrs_cons, Bool.and_self, Bool.and_true, ev_dnew, List.set_cons_succ, List.set_cons_zero, bin_add, bin_sub, neg_int, cmp_lt, cmp_le, cmp_gt, cmp_ge, cmp_isbl, cmp_notbl, cmp_eq_int, cmp_ne_int, cmp_eq_bl, cmp_ne_bl, truthM_bl, Bool.not_true, Bool.not_false, lenOk0, lenOk1, lenOk2, lenOk3, intD_int, absD_int, lenD_tup, lenD_lst, lenD_scr, tupD_lst, tupD_tup, startE, List.map_cons, List.map_nil, List.length_cons, List.length_nil, Nat.zero_add, Nat.reduceAdd, Nat.reduceSub, List.replicate_succ, List.replicate_zero, List.cons_append, List.nil_append, lenOk_small, Nat.reduceLeDiff, eq_self, items_tup, items_lst, ixM_tup, ixM_lst, decide_true, decide_false, wipeE, lcF_eq, lcB_so, lcC_t, lcC_f, noXM_ret, List.length_map, List.length_range, atI0, atI1, atI2, nc0, nc1, nc2, nc3, nc4, nc5, nc6, nc7, nc8, nc9, isi_tup, decide_eq_true h6, rowB, decide_eq_false hl, Bool.false_and]
def rowOfB (n : Int) : D → Bool
  | .tup xs => decide (((xs.length : Nat) : Int) = n) && xs.all isI
  | _ => false
theorem row_of_any {d : D} {n : Int} (h : pl d = true) (hm : ∀ xs, d = .tup xs → xs.length ≤ 1000000 ∧ ∀ x ∈ xs, pl x = true) : m_is_row_of [d, .int n] = ret (.bl (rowOfB n d)) := by
  unfold m_is_row_of c_is_row_of
  rw [fn2]
  rcases Bool.eq_false_or_eq_true (isT d) with ht | e1
  case inr =>
    have e2 : rowOfB n d = false := by cases d <;> first | rfl | cases e1
    simp only [ex_seq, nxt_nx, nxt_rt, nxt_ct, nxt_bk, ex_ifs, brn_t, brn_f, ex_pass, ex_ret, ex_expr, ex_asg, bndM_so, ex_par, ex_aug, ex_for, endD_nx, endD_rt, bind_nm, bind_nil, bind_cons, bind_consl, ev_var, ev_c, ev_bin, ev_neg, ev_cmp, chn_t, chn_f, ev_chain, ev_and, ev_or, ev_ite, and_t, and_f, or_t, or_f, ite_t, ite_f, ev_not, ev_tup, ev_lst, ev_ix, ev_sl, intM_int, ev_int, ev_lc, ev_call, evs_nil, evs_cons, evs_star, evs_it1, evs_rng1, evs_rng2, evs_zip, evs_enum, andThen_ret, andThen_assoc, optM_so, List.getElem?_cons_succ, List.getElem?_cons_zero, slotM_so, Option.bind_some, Option.map_some, bi_eq, binM_eq, cmpM_eq, slM_eq, nr_non, nr_bl, nr_int, nr_str, nr_tup, nr_lst, nr_ty, nr_scr, nr_emp, nrs_nil, nrs_cons, Bool.and_self, Bool.and_true, ev_dnew, List.set_cons_succ, List.set_cons_zero, bin_add, bin_sub, neg_int, cmp_lt, cmp_le, cmp_gt, cmp_ge, cmp_isbl, cmp_notbl, cmp_eq_int, cmp_ne_int, cmp_eq_bl, cmp_ne_bl, truthM_bl, Bool.not_true, Bool.not_false, lenOk0, lenOk1, lenOk2, lenOk3, intD_int, absD_int, lenD_tup, lenD_lst, lenD_scr, tupD_lst, tupD_tup, startE, List.map_cons, List.map_nil, List.length_cons, List.length_nil, Nat.zero_add, Nat.reduceAdd, Nat.reduceSub, List.replicate_succ, List.replicate_zero, List.cons_append, List.nil_append, lenOk_small, Nat.reduceLeDiff, eq_self, items_tup, items_lst, ixM_tup, ixM_lst, decide_true, decide_false, wipeE, lcF_eq, lcB_so, lcC_t, lcC_f, noXM_ret, List.length_map, List.length_range, atI0, atI1, atI2, nc0, nc1, nc2, nc3, nc4, nc5, nc6, nc7, nc8, nc9, pl_nr h, isi_t h, e1, e2]
  cases d <;> first | (cases ht; done) | skip
  rename_i xs
  obtain ⟨hl, hx⟩ := hm xs rfl
  by_cases hn : ((xs.length : Nat) : Int) = n
  · simp only [ex_seq, nxt_nx, nxt_rt, nxt_ct, nxt_bk, ex_ifs, brn_t, brn_f, ex_pass, ex_ret, ex_expr, ex_asg, bndM_so, ex_par, ex_aug, ex_for, endD_nx, endD_rt, bind_nm, bind_nil, bind_cons, bind_consl, ev_var, ev_c, ev_bin, ev_neg, ev_cmp, chn_t, chn_f, ev_chain, ev_and, ev_or, ev_ite, and_t, and_f, or_t, or_f, ite_t, ite_f, ev_not, ev_tup, ev_lst, ev_ix, ev_sl, intM_int, ev_int, ev_lc, ev_call, evs_nil, evs_cons, evs_star, evs_it1, evs_rng1, evs_rng2, evs_zip, evs_enum, andThen_ret, andThen_assoc, optM_so, List.getElem?_cons_succ, List.getElem?_cons_zero, slotM_so, Option.bind_some, Option.map_some, bi_eq, binM_eq, cmpM_eq, slM_eq, nr_non, nr_bl, nr_int, nr_str, nr_tup, nr_lst, nr_ty, nr_scr, nr_emp, nrs_nil, nrs_cons, Bool.and_self, Bool.and_true, ev_dnew, List.set_cons_succ, List.set_cons_zero, bin_add, bin_sub, neg_int, cmp_lt, cmp_le, cmp_gt, cmp_ge, cmp_isbl, cmp_notbl, cmp_eq_int, cmp_ne_int, cmp_eq_bl, cmp_ne_bl, truthM_bl, Bool.not_true, Bool.not_false, lenOk0, lenOk1, lenOk2, lenOk3, intD_int, absD_int, lenD_tup, lenD_lst, lenD_scr, tupD_lst, tupD_tup, startE, List.map_cons, List.map_nil, List.length_cons, List.length_nil, Nat.zero_add, Nat.reduceAdd, Nat.reduceSub, List.replicate_succ, List.replicate_zero, List.cons_append, List.nil_append, lenOk_small, Nat.reduceLeDiff, eq_self, items_tup, items_lst, ixM_tup, ixM_lst, decide_true, decide_false, wipeE, lcF_eq, lcB_so, lcC_t, lcC_f, noXM_ret, List.length_map, List.length_range, atI0, atI1, atI2, nc0, nc1, nc2, nc3, nc4, nc5, nc6, nc7, nc8, nc9, isi_tup, decide_eq_true hn]
    rw [lc_any (fun x => .bl (isI x)) (fun x hx' => ?_) hl]
    · simp only [ex_seq, nxt_nx, nxt_rt, nxt_ct, nxt_bk, ex_ifs, brn_t, brn_f, ex_pass, ex_ret, ex_expr, ex_asg, bndM_so, ex_par, ex_aug, ex_for, endD_nx, endD_rt, bind_nm, bind_nil, bind_cons, bind_consl, ev_var, ev_c, ev_bin, ev_neg, ev_cmp, chn_t, chn_f, ev_chain, ev_and, ev_or, ev_ite, and_t, and_f, or_t, or_f, ite_t, ite_f, ev_not, ev_tup, ev_lst, ev_ix, ev_sl, intM_int, ev_int, ev_lc, ev_call, evs_nil, evs_cons, evs_star, evs_it1, evs_rng1, evs_rng2, evs_zip, evs_enum, andThen_ret, andThen_assoc, optM_so, List.getElem?_cons_succ, List.getElem?_cons_zero, slotM_so, Option.bind_some, Option.map_some, bi_eq, binM_eq, cmpM_eq, slM_eq, nr_non, nr_bl, nr_int, nr_str, nr_tup, nr_lst, nr_ty, nr_scr, nr_emp, nrs_nil, nrs_cons, Bool.and_self, Bool.and_true, ev_dnew, List.set_cons_succ, List.set_cons_zero, bin_add, bin_sub, neg_int, cmp_lt, cmp_le, cmp_gt, cmp_ge, cmp_isbl, cmp_notbl, cmp_eq_int, cmp_ne_int, cmp_eq_bl, cmp_ne_bl, truthM_bl, Bool.not_true, Bool.not_false, lenOk0, lenOk1, lenOk2, lenOk3, intD_int, absD_int, lenD_tup, lenD_lst, lenD_scr, tupD_lst, tupD_tup, startE, List.map_cons, List.map_nil, List.length_cons, List.length_nil, Nat.zero_add, Nat.reduceAdd, Nat.reduceSub, List.replicate_succ, List.replicate_zero, List.cons_append, List.nil_append, lenOk_small, Nat.reduceLeDiff, eq_self, items_tup, items_lst, ixM_tup, ixM_lst, decide_true, decide_false, wipeE, lcF_eq, lcB_so, lcC_t, lcC_f, noXM_ret, List.length_map, List.length_range, atI0, atI1, atI2, nc0, nc1, nc2, nc3, nc4, nc5, nc6, nc7, nc8, nc9, all_any, rowOfB, decide_eq_true hn, Bool.true_and]
    · simp only [ex_seq, nxt_nx, nxt_rt, nxt_ct, nxt_bk, ex_ifs, brn_t, brn_f, ex_pass, ex_ret, ex_expr, ex_asg, bndM_so, ex_par, ex_aug, ex_for, endD_nx, endD_rt, bind_nm, bind_nil, bind_cons, bind_consl, ev_var, ev_c, ev_bin, ev_neg, ev_cmp, chn_t, chn_f, ev_chain, ev_and, ev_or, ev_ite, and_t, and_f, or_t, or_f, ite_t, ite_f, ev_not, ev_tup, ev_lst, ev_ix, ev_sl, intM_int, ev_int, ev_lc, ev_call, evs_nil, evs_cons, evs_star, evs_it1, evs_rng1, evs_rng2, evs_zip, evs_enum, andThen_ret, andThen_assoc, optM_so, List.getElem?_cons_succ, List.getElem?_cons_zero, slotM_so, Option.bind_some, Option.map_some, bi_eq, binM_eq, cmpM_eq, slM_eq, nr_non, nr_bl, nr_int, nr_str, nr_tup, nr_lst, nr_ty, nr_scr, nr_emp, nrs_nil, nrs_cons, Bool.and_self, Bool.and_true, ev_dnew, List.set_cons_succ, List.set_cons_zero, bin_add, bin_sub, neg_int, cmp_lt, cmp_le, cmp_gt, cmp_ge, cmp_isbl, cmp_notbl, cmp_eq_int, cmp_ne_int, cmp_eq_bl, cmp_ne_bl, truthM_bl, Bool.not_true, Bool.not_false, lenOk0, lenOk1, lenOk2, lenOk3, intD_int, absD_int, lenD_tup, lenD_lst, lenD_scr, tupD_lst, tupD_tup, startE, List.map_cons, List.map_nil, List.length_cons, List.length_nil, Nat.zero_add, Nat.reduceAdd, Nat.reduceSub, List.replicate_succ, List.replicate_zero, List.cons_append, List.nil_append, lenOk_small, Nat.reduceLeDiff, eq_self, items_tup, items_lst, ixM_tup, ixM_lst, decide_true, decide_false, wipeE, lcF_eq, lcB_so, lcC_t, lcC_f, noXM_ret, List.length_map, List.length_range, atI0, atI1, atI2, nc0, nc1, nc2, nc3, nc4, nc5, nc6, nc7, nc8, nc9, whole (hx x hx')]
  · simp only [ex_seq, nxt_nx, nxt_rt, nxt_ct, nxt_bk, ex_ifs, brn_t, brn_f, ex_pass, ex_ret, ex_expr, ex_asg, bndM_so, ex_par, ex_aug, ex_for, endD_nx, endD_rt, bind_nm, bind_nil, bind_cons, bind_consl, ev_var, ev_c, ev_bin, ev_neg, ev_cmp, chn_t, chn_f, ev_chain, ev_and, ev_or, ev_ite, and_t, and_f, or_t, or_f, ite_t, ite_f, ev_not, ev_tup, ev_lst, ev_ix, ev_sl, intM_int, ev_int, ev_lc, ev_call, evs_nil, evs_cons, evs_star, evs_it1, evs_rng1, evs_rng2, evs_zip, evs_enum, andThen_ret, andThen_assoc, optM_so, List.getElem?_cons_succ, List.getElem?_cons_zero, slotM_so, Option.bind_some, Option.map_some, bi_eq, binM_eq, cmpM_eq, slM_eq, nr_non, nr_bl, nr_int, nr_str, nr_tup, nr_lst, nr_ty, nr_scr, nr_emp, nrs_nil, nrs_cons, Bool.and_self, Bool.and_true, ev_dnew, List.set_cons_succ, List.set_cons_zero, bin_add, bin_sub, neg_int, cmp_lt, cmp_le, cmp_gt, cmp_ge, cmp_isbl, cmp_notbl, cmp_eq_int, cmp_ne_int, cmp_eq_bl, cmp_ne_bl, truthM_bl, Bool.not_true, Bool.not_false, lenOk0, lenOk1, lenOk2, lenOk3, intD_int, absD_int, lenD_tup, lenD_lst, lenD_scr, tupD_lst, tupD_tup, startE, List.map_cons, List.map_nil, List.length_cons, List.length_nil, Nat.zero_add, Nat.reduceAdd, Nat.reduceSub, List.replicate_succ, List.replicate_zero, List.cons_append, List.nil_append, lenOk_small, Nat.reduceLeDiff, eq_self, items_tup, items_lst, ixM_tup, ixM_lst, decide_true, decide_false, wipeE, lcF_eq, lcB_so, lcC_t, lcC_f, noXM_ret, List.length_map, List.length_range, atI0, atI1, atI2, nc0, nc1, nc2, nc3, nc4, nc5, nc6, nc7, nc8, nc9, isi_tup, decide_eq_false hn, rowOfB, Bool.false_and]
/-- plain down to a depth -/
def PV : Nat → D → Prop
  | 0, d => pl d = true
  | k + 1, d => pl d = true ∧ ∀ xs, d = .tup xs → xs.length ≤ 1000000 ∧ ∀ x ∈ xs, PV k x
theorem PV.pl : ∀ {k : Nat} {d : D}, PV k d → pl d = true
  | 0, _, h => h
  | _ + 1, _, h => h.1
def gridInB : D → Bool
  | .tup [.int w, .tup rows] => decide (0 ≤ w) && rows.all (rowOfB w)
  | _ => false
theorem grid_in_any {d : D} (h : PV 3 d) : m_is_grid_in [d] = ret (.bl (gridInB d)) := by
  unfold m_is_grid_in c_is_grid_in
  rw [fn1]
  rcases Bool.eq_false_or_eq_true (isT d) with ht | e1
  case inr =>
    have e2 : gridInB d = false := by cases d <;> first | rfl | cases e1
    simp only [ex_seq, nxt_nx, nxt_rt, nxt_ct, nxt_bk, ex_ifs, brn_t, brn_f, ex_pass, ex_ret, ex_expr, ex_asg, bndM_so, ex_par, ex_aug, ex_for, endD_nx, endD_rt, bind_nm, bind_nil, bind_cons, bind_consl, ev_var, ev_c, ev_bin, ev_neg, ev_cmp, chn_t, chn_f, ev_chain, ev_and, ev_or, ev_ite, and_t, and_f, or_t, or_f, ite_t, ite_f, ev_not, ev_tup, ev_lst, ev_ix, ev_sl, intM_int, ev_int, ev_lc, ev_call, evs_nil, evs_cons, evs_star, evs_it1, evs_rng1, evs_rng2, evs_zip, evs_enum, andThen_ret, andThen_assoc, optM_so, List.getElem?_cons_succ, List.getElem?_cons_zero, slotM_so, Option.bind_some, Option.map_some, bi_eq, binM_eq, cmpM_eq, slM_eq, nr_non, nr_bl, nr_int, nr_str, nr_tup, nr_lst, nr_ty, nr_scr, nr_emp, nrs_nil, nrs_cons, Bool.and_self, Bool.and_true, ev_dnew, List.set_cons_succ, List.set_cons_zero, bin_add, bin_sub, neg_int, cmp_lt, cmp_le, cmp_gt, cmp_ge, cmp_isbl, cmp_notbl, cmp_eq_int, cmp_ne_int, cmp_eq_bl, cmp_ne_bl, truthM_bl, Bool.not_true, Bool.not_false, lenOk0, lenOk1, lenOk2, lenOk3, intD_int, absD_int, lenD_tup, lenD_lst, lenD_scr, tupD_lst, tupD_tup, startE, List.map_cons, List.map_nil, List.length_cons, List.length_nil, Nat.zero_add, Nat.reduceAdd, Nat.reduceSub, List.replicate_succ, List.replicate_zero, List.cons_append, List.nil_append, lenOk_small, Nat.reduceLeDiff, eq_self, items_tup, items_lst, ixM_tup, ixM_lst, decide_true, decide_false, wipeE, lcF_eq, lcB_so, lcC_t, lcC_f, noXM_ret, List.length_map, List.length_range, atI0, atI1, atI2, nc0, nc1, nc2, nc3, nc4, nc5, nc6, nc7, nc8, nc9, pl_nr h.pl, isi_t h.pl, e1, e2]
  cases d <;> first | (cases ht; done) | skip
  rename_i xs
  obtain ⟨hl, hx⟩ := h.2 xs rfl
  by_cases h2 : ((xs.length : Nat) : Int) = 2
  case neg =>
    have e2 : gridInB (.tup xs) = false := by
      match xs, h2 with
      | [], _ => rfl
      | [a], _ => cases a <;> rfl
      | [a, b], h2 => exact absurd rfl h2
      | a :: b :: c :: r, _ => cases a <;> cases b <;> rfl
    simp only [ex_seq, nxt_nx, nxt_rt, nxt_ct, nxt_bk, ex_ifs, brn_t, brn_f, ex_pass, ex_ret, ex_expr, ex_asg, bndM_so, ex_par, ex_aug, ex_for, endD_nx, endD_rt, bind_nm, bind_nil, bind_cons, bind_consl, ev_var, ev_c, ev_bin, ev_neg, ev_cmp, chn_t, chn_f, ev_chain, ev_and, ev_or, ev_ite, and_t, and_f, or_t, or_f, ite_t, ite_f, ev_not, ev_tup, ev_lst, ev_ix, ev_sl, intM_int, ev_int, ev_lc, ev_call, evs_nil, evs_cons, evs_star, evs_it1, evs_rng1, evs_rng2, evs_zip, evs_enum, andThen_ret, andThen_assoc, optM_so, List.getElem?_cons_succ, List.getElem?_cons_zero, slotM_so, Option.bind_some, Option.map_some, bi_eq, binM_eq, cmpM_eq, slM_eq, nr_non, nr_bl, nr_int, nr_str, nr_tup, nr_lst, nr_ty, nr_scr, nr_emp, nrs_nil, nrs_cons, Bool.and_self, Bool.and_true, ev_dnew, List.set_cons_succ, List.set_cons_zero, bin_add, bin_sub, neg_int, cmp_lt, cmp_le, cmp_gt, cmp_ge, cmp_isbl, cmp_notbl, cmp_eq_int, cmp_ne_int, cmp_eq_bl, cmp_ne_bl, truthM_bl, Bool.not_true, Bool.not_false, lenOk0, lenOk1, lenOk2, lenOk3, intD_int, absD_int, lenD_tup, lenD_lst, lenD_scr, tupD_lst, tupD_tup, startE, List.map_cons, List.map_nil, List.length_cons, List.length_nil, Nat.zero_add, Nat.reduceAdd, Nat.reduceSub, List.replicate_succ, List.replicate_zero, List.cons_append, List.nil_append, lenOk_small, Nat.reduceLeDiff, eq_self, items_tup, items_lst, ixM_tup, ixM_lst, decide_true, decide_false, wipeE, lcF_eq, lcB_so, lcC_t, lcC_f, noXM_ret, List.length_map, List.length_range, atI0, atI1, atI2, nc0, nc1, nc2, nc3, nc4, nc5, nc6, nc7, nc8, nc9, isi_tup, decide_eq_false h2, e2]
  obtain ⟨a, b, rfl⟩ : ∃ a b, xs = [a, b] := by
    match xs, (show xs.length = 2 by omega) with
    | [a, b], _ => exact ⟨a, b, rfl⟩
  clear h2
  have ha := hx a (by simp)
  have hb := hx b (by simp)
  rcases Bool.eq_false_or_eq_true (isI a) with hi | hi
  case inr =>
    have e2 : gridInB (.tup [a, b]) = false := by cases a <;> first | rfl | cases hi
    simp only [ex_seq, nxt_nx, nxt_rt, nxt_ct, nxt_bk, ex_ifs, brn_t, brn_f, ex_pass, ex_ret, ex_expr, ex_asg, bndM_so, ex_par, ex_aug, ex_for, endD_nx, endD_rt, bind_nm, bind_nil, bind_cons, bind_consl, ev_var, ev_c, ev_bin, ev_neg, ev_cmp, chn_t, chn_f, ev_chain, ev_and, ev_or, ev_ite, and_t, and_f, or_t, or_f, ite_t, ite_f, ev_not, ev_tup, ev_lst, ev_ix, ev_sl, intM_int, ev_int, ev_lc, ev_call, evs_nil, evs_cons, evs_star, evs_it1, evs_rng1, evs_rng2, evs_zip, evs_enum, andThen_ret, andThen_assoc, optM_so, List.getElem?_cons_succ, List.getElem?_cons_zero, slotM_so, Option.bind_some, Option.map_some, bi_eq, binM_eq, cmpM_eq, slM_eq, nr_non, nr_bl, nr_int, nr_str, nr_tup, nr_lst, nr_ty, nr_scr, nr_emp, nrs_nil, nrs_cons, Bool.and_self, Bool.and_true, ev_dnew, List.set_cons_succ, List.set_cons_zero, bin_add, bin_sub, neg_int, cmp_lt, cmp_le, cmp_gt, cmp_ge, cmp_isbl, cmp_notbl, cmp_eq_int, cmp_ne_int, cmp_eq_bl, cmp_ne_bl, truthM_bl, Bool.not_true, Bool.not_false, lenOk0, lenOk1, lenOk2, lenOk3, intD_int, absD_int, lenD_tup, lenD_lst, lenD_scr, tupD_lst, tupD_tup, startE, List.map_cons, List.map_nil, List.length_cons, List.length_nil, Nat.zero_add, Nat.reduceAdd, Nat.reduceSub, List.replicate_succ, List.replicate_zero, List.cons_append, List.nil_append, lenOk_small, Nat.reduceLeDiff, eq_self, items_tup, items_lst, ixM_tup, ixM_lst, decide_true, decide_false, wipeE, lcF_eq, lcB_so, lcC_t, lcC_f, noXM_ret, List.length_map, List.length_range, atI0, atI1, atI2, nc0, nc1, nc2, nc3, nc4, nc5, nc6, nc7, nc8, nc9, isi_tup, whole ha.pl, hi, e2]
  cases a <;> first | (cases hi; done) | skip
  rename_i w
  by_cases hw : w < 0
  case pos =>
    have e2 : gridInB (.tup [.int w, b]) = false := by cases b <;> first | rfl | (simp [gridInB]; omega)
    simp only [ex_seq, nxt_nx, nxt_rt, nxt_ct, nxt_bk, ex_ifs, brn_t, brn_f, ex_pass, ex_ret, ex_expr, ex_asg, bndM_so, ex_par, ex_aug, ex_for, endD_nx, endD_rt, bind_nm, bind_nil, bind_cons, bind_consl, ev_var, ev_c, ev_bin, ev_neg, ev_cmp, chn_t, chn_f, ev_chain, ev_and, ev_or, ev_ite, and_t, and_f, or_t, or_f, ite_t, ite_f, ev_not, ev_tup, ev_lst, ev_ix, ev_sl, intM_int, ev_int, ev_lc, ev_call, evs_nil, evs_cons, evs_star, evs_it1, evs_rng1, evs_rng2, evs_zip, evs_enum, andThen_ret, andThen_assoc, optM_so, List.getElem?_cons_succ, List.getElem?_cons_zero, slotM_so, Option.bind_some, Option.map_some, bi_eq, binM_eq, cmpM_eq, slM_eq, nr_non, nr_bl, nr_int, nr_str, nr_tup, nr_lst, nr_ty, nr_scr, nr_emp, nrs_nil, nrs_cons, Bool.and_self, Bool.and_true, ev_dnew, List.set_cons_succ, List.set_cons_zero, bin_add, bin_sub, neg_int, cmp_lt, cmp_le, cmp_gt, cmp_ge, cmp_isbl, cmp_notbl, cmp_eq_int, cmp_ne_int, cmp_eq_bl, cmp_ne_bl, truthM_bl, Bool.not_true, Bool.not_false, lenOk0, lenOk1, lenOk2, lenOk3, intD_int, absD_int, lenD_tup, lenD_lst, lenD_scr, tupD_lst, tupD_tup, startE, List.map_cons, List.map_nil, List.length_cons, List.length_nil, Nat.zero_add, Nat.reduceAdd, Nat.reduceSub, List.replicate_succ, List.replicate_zero, List.cons_append, List.nil_append, lenOk_small, Nat.reduceLeDiff, eq_self, items_tup, items_lst, ixM_tup, ixM_lst, decide_true, decide_false, wipeE, lcF_eq, lcB_so, lcC_t, lcC_f, noXM_ret, List.length_map, List.length_range, atI0, atI1, atI2, nc0, nc1, nc2, nc3, nc4, nc5, nc6, nc7, nc8, nc9, isi_tup, whole_int, decide_eq_true hw, e2]
  rcases Bool.eq_false_or_eq_true (isT b) with hj | hj
  case inr =>
    have e2 : gridInB (.tup [.int w, b]) = false := by cases b <;> first | rfl | cases hj
    simp only [ex_seq, nxt_nx, nxt_rt, nxt_ct, nxt_bk, ex_ifs, brn_t, brn_f, ex_pass, ex_ret, ex_expr, ex_asg, bndM_so, ex_par, ex_aug, ex_for, endD_nx, endD_rt, bind_nm, bind_nil, bind_cons, bind_consl, ev_var, ev_c, ev_bin, ev_neg, ev_cmp, chn_t, chn_f, ev_chain, ev_and, ev_or, ev_ite, and_t, and_f, or_t, or_f, ite_t, ite_f, ev_not, ev_tup, ev_lst, ev_ix, ev_sl, intM_int, ev_int, ev_lc, ev_call, evs_nil, evs_cons, evs_star, evs_it1, evs_rng1, evs_rng2, evs_zip, evs_enum, andThen_ret, andThen_assoc, optM_so, List.getElem?_cons_succ, List.getElem?_cons_zero, slotM_so, Option.bind_some, Option.map_some, bi_eq, binM_eq, cmpM_eq, slM_eq, nr_non, nr_bl, nr_int, nr_str, nr_tup, nr_lst, nr_ty, nr_scr, nr_emp, nrs_nil, nrs_cons, Bool.and_self, Bool.and_true, ev_dnew, List.set_cons_succ, List.set_cons_zero, bin_add, bin_sub, neg_int, cmp_lt, cmp_le, cmp_gt, cmp_ge, cmp_isbl, cmp_notbl, cmp_eq_int, cmp_ne_int, cmp_eq_bl, cmp_ne_bl, truthM_bl, Bool.not_true, Bool.not_false, lenOk0, lenOk1, lenOk2, lenOk3, intD_int, absD_int, lenD_tup, lenD_lst, lenD_scr, tupD_lst, tupD_tup, startE, List.map_cons, List.map_nil, List.length_cons, List.length_nil, Nat.zero_add, Nat.reduceAdd, Nat.reduceSub, List.replicate_succ, List.replicate_zero, List.cons_append, List.nil_append, lenOk_small, Nat.reduceLeDiff, eq_self, items_tup, items_lst, ixM_tup, ixM_lst, decide_true, decide_false, wipeE, lcF_eq, lcB_so, lcC_t, lcC_f, noXM_ret, List.length_map, List.length_range, atI0, atI1, atI2, nc0, nc1, nc2, nc3, nc4, nc5, nc6, nc7, nc8, nc9, isi_tup, whole_int, decide_eq_false hw, pl_nr hb.pl, isi_t hb.pl, hj, e2]
  cases b <;> first | (cases hj; done) | skip
  rename_i rows
  obtain ⟨hl2, hr⟩ := hb.2 rows rfl
  simp only [ex_seq, nxt_nx, nxt_rt, nxt_ct, nxt_bk, ex_ifs, brn_t, brn_f, ex_pass, ex_ret, ex_expr, ex_asg, bndM_so, ex_par, ex_aug, ex_for, endD_nx, endD_rt, bind_nm, bind_nil, bind_cons, bind_consl, ev_var, ev_c, ev_bin, ev_neg, ev_cmp, chn_t, chn_f, ev_chain, ev_and, ev_or, ev_ite, and_t, and_f, or_t, or_f, ite_t, ite_f, ev_not, ev_tup, ev_lst, ev_ix, ev_sl, intM_int, ev_int, ev_lc, ev_call, evs_nil, evs_cons, evs_star, evs_it1, evs_rng1, evs_rng2, evs_zip, evs_enum, andThen_ret, andThen_assoc, optM_so, List.getElem?_cons_succ, List.getElem?_cons_zero, slotM_so, Option.bind_some, Option.map_some, bi_eq, binM_eq, cmpM_eq, slM_eq, nr_non, nr_bl, nr_int, nr_str, nr_tup, nr_lst, nr_ty, nr_scr, nr_emp, nrs_nil, nrs_cons, Bool.and_self, Bool.and_true, ev_dnew, List.set_cons_succ, List.set_cons_zero, bin_add, bin_sub, neg_int, cmp_lt, cmp_le, cmp_gt, cmp_ge, cmp_isbl, cmp_notbl, cmp_eq_int, cmp_ne_int, cmp_eq_bl, cmp_ne_bl, truthM_bl, Bool.not_true, Bool.not_false, lenOk0, lenOk1, lenOk2, lenOk3, intD_int, absD_int, lenD_tup, lenD_lst, lenD_scr, tupD_lst, tupD_tup, startE, List.map_cons, List.map_nil, List.length_cons, List.length_nil, Nat.zero_add, Nat.reduceAdd, Nat.reduceSub, List.replicate_succ, List.replicate_zero, List.cons_append, List.nil_append, lenOk_small, Nat.reduceLeDiff, eq_self, items_tup, items_lst, ixM_tup, ixM_lst, decide_true, decide_false, wipeE, lcF_eq, lcB_so, lcC_t, lcC_f, noXM_ret, List.length_map, List.length_range, atI0, atI1, atI2, nc0, nc1, nc2, nc3, nc4, nc5, nc6, nc7, nc8, nc9, isi_tup, whole_int, decide_eq_false hw]
  rw [lc_any (fun x => .bl (rowOfB w x)) (fun x hx' => ?_) hl2]
  · simp only [ex_seq, nxt_nx, nxt_rt, nxt_ct, nxt_bk, ex_ifs, brn_t, brn_f, ex_pass, ex_ret, ex_expr, ex_asg, bndM_so, ex_par, ex_aug, ex_for, endD_nx, endD_rt, bind_nm, bind_nil, bind_cons, bind_consl, ev_var, ev_c, ev_bin, ev_neg, ev_cmp, chn_t, chn_f, ev_chain, ev_and, ev_or, ev_ite, and_t, and_f, or_t, or_f, ite_t, ite_f, ev_not, ev_tup, ev_lst, ev_ix, ev_sl, intM_int, ev_int, ev_lc, ev_call, evs_nil, evs_cons, evs_star, evs_it1, evs_rng1, evs_rng2, evs_zip, evs_enum, andThen_ret, andThen_assoc, optM_so, List.getElem?_cons_succ, List.getElem?_cons_zero, slotM_so, Option.bind_some, Option.map_some, bi_eq, binM_eq, cmpM_eq, slM_eq, nr_non, nr_bl, nr_int, nr_str, nr_tup, nr_lst, nr_ty, nr_scr, nr_emp, nrs_nil, nrs_cons, Bool.and_self, Bool.and_true, ev_dnew, List.set_cons_succ, List.set_cons_zero, bin_add, bin_sub, neg_int, cmp_lt, cmp_le, cmp_gt, cmp_ge, cmp_isbl, cmp_notbl, cmp_eq_int, cmp_ne_int, cmp_eq_bl, cmp_ne_bl, truthM_bl, Bool.not_true, Bool.not_false, lenOk0, lenOk1, lenOk2, lenOk3, intD_int, absD_int, lenD_tup, lenD_lst, lenD_scr, tupD_lst, tupD_tup, startE, List.map_cons, List.map_nil, List.length_cons, List.length_nil, Nat.zero_add, Nat.reduceAdd, Nat.reduceSub, List.replicate_succ, List.replicate_zero, List.cons_append, List.nil_append, lenOk_small, Nat.reduceLeDiff, eq_self, items_tup, items_lst, ixM_tup, ixM_lst, decide_true, decide_false, wipeE, lcF_eq, lcB_so, lcC_t, lcC_f, noXM_ret, List.length_map, List.length_range, atI0, atI1, atI2, nc0, nc1, nc2, nc3, nc4, nc5, nc6, nc7, nc8, nc9, all_any, gridInB, decide_eq_true (show 0 ≤ w by omega), Bool.true_and]
  · simp only [ex_seq, nxt_nx, nxt_rt, nxt_ct, nxt_bk, ex_ifs, brn_t, brn_f, ex_pass, ex_ret, ex_expr, ex_asg, bndM_so, ex_par, ex_aug, ex_for, endD_nx, endD_rt, bind_nm, bind_nil, bind_cons, bind_consl, ev_var, ev_c, ev_bin, ev_neg, ev_cmp, chn_t, chn_f, ev_chain, ev_and, ev_or, ev_ite, and_t, and_f, or_t, or_f, ite_t, ite_f, ev_not, ev_tup, ev_lst, ev_ix, ev_sl, intM_int, ev_int, ev_lc, ev_call, evs_nil, evs_cons, evs_star, evs_it1, evs_rng1, evs_rng2, evs_zip, evs_enum, andThen_ret, andThen_assoc, optM_so, List.getElem?_cons_succ, List.getElem?_cons_zero, slotM_so, Option.bind_some, Option.map_some, bi_eq, binM_eq, cmpM_eq, slM_eq, nr_non, nr_bl, nr_int, nr_str, nr_tup, nr_lst, nr_ty, nr_scr, nr_emp, nrs_nil, nrs_cons, Bool.and_self, Bool.and_true, ev_dnew, List.set_cons_succ, List.set_cons_zero, bin_add, bin_sub, neg_int, cmp_lt, cmp_le, cmp_gt, cmp_ge, cmp_isbl, cmp_notbl, cmp_eq_int, cmp_ne_int, cmp_eq_bl, cmp_ne_bl, truthM_bl, Bool.not_true, Bool.not_false, lenOk0, lenOk1, lenOk2, lenOk3, intD_int, absD_int, lenD_tup, lenD_lst, lenD_scr, tupD_lst, tupD_tup, startE, List.map_cons, List.map_nil, List.length_cons, List.length_nil, Nat.zero_add, Nat.reduceAdd, Nat.reduceSub, List.replicate_succ, List.replicate_zero, List.cons_append, List.nil_append, lenOk_small, Nat.reduceLeDiff, eq_self, items_tup, items_lst, ixM_tup, ixM_lst, decide_true, decide_false, wipeE, lcF_eq, lcB_so, lcC_t, lcC_f, noXM_ret, List.length_map, List.length_range, atI0, atI1, atI2, nc0, nc1, nc2, nc3, nc4, nc5, nc6, nc7, nc8, nc9, row_of_any (hr x hx').pl (fun ys e => (hr x hx').2 ys e)]
def gridB : D → Bool
  | .tup [.int w, .tup rows] => decide (0 ≤ w) && rows.all (rowOfB w) && (decide (w ≤ 60) && decide (rows.length ≤ 60)) && rows.all rowB
  | _ => false
theorem max_int (a b : Int) : maxD [.int a, .int b] = some (.int (if b > a then b else a)) := rfl
theorem grid_any {d : D} (h : PV 3 d) : m_is_grid [d] = ret (.bl (gridB d)) := by
  unfold m_is_grid c_is_grid
  rw [fn1]
  rcases Bool.eq_false_or_eq_true (gridInB d) with hg | hg
  case inr =>
    have e2 : gridB d = false := by
      unfold gridB
      split
      · rename_i w rows
        have hz : (decide (0 ≤ w) && rows.all (rowOfB w)) = false := hg
        rw [hz]; rfl
      · rfl
    simp only [ex_seq, nxt_nx, nxt_rt, nxt_ct, nxt_bk, ex_ifs, brn_t, brn_f, ex_pass, ex_ret, ex_expr, ex_asg, bndM_so, ex_par, ex_aug, ex_for, endD_nx, endD_rt, bind_nm, bind_nil, bind_cons, bind_consl, ev_var, ev_c, ev_bin, ev_neg, ev_cmp, chn_t, chn_f, ev_chain, ev_and, ev_or, ev_ite, and_t, and_f, or_t, or_f, ite_t, ite_f, ev_not, ev_tup, ev_lst, ev_ix, ev_sl, intM_int, ev_int, ev_lc, ev_call, evs_nil, evs_cons, evs_star, evs_it1, evs_rng1, evs_rng2, evs_zip, evs_enum, andThen_ret, andThen_assoc, optM_so, List.getElem?_cons_succ, List.getElem?_cons_zero, slotM_so, Option.bind_some, Option.map_some, bi_eq, binM_eq, cmpM_eq, slM_eq, nr_non, nr_bl, nr_int, nr_str, nr_tup, nr_lst, nr_ty, nr_scr, nr_emp, nrs_nil, nrs_cons, Bool.and_self, Bool.and_true, ev_dnew, List.set_cons_succ, List.set_cons_zero, bin_add, bin_sub, neg_int, cmp_lt, cmp_le, cmp_gt, cmp_ge, cmp_isbl, cmp_notbl, cmp_eq_int, cmp_ne_int, cmp_eq_bl, cmp_ne_bl, truthM_bl, Bool.not_true, Bool.not_false, lenOk0, lenOk1, lenOk2, lenOk3, intD_int, absD_int, lenD_tup, lenD_lst, lenD_scr, tupD_lst, tupD_tup, startE, List.map_cons, List.map_nil, List.length_cons, List.length_nil, Nat.zero_add, Nat.reduceAdd, Nat.reduceSub, List.replicate_succ, List.replicate_zero, List.cons_append, List.nil_append, lenOk_small, Nat.reduceLeDiff, eq_self, items_tup, items_lst, ixM_tup, ixM_lst, decide_true, decide_false, wipeE, lcF_eq, lcB_so, lcC_t, lcC_f, noXM_ret, List.length_map, List.length_range, atI0, atI1, atI2, nc0, nc1, nc2, nc3, nc4, nc5, nc6, nc7, nc8, nc9, pl_nr h.pl, grid_in_any h, hg, e2]
  have hd : ∃ w rows, d = .tup [.int w, .tup rows] := by
    unfold gridInB at hg
    split at hg
    · exact ⟨_, _, rfl⟩
    · cases hg
  obtain ⟨w, rows, rfl⟩ := hd
  have hb := (h.2 _ rfl).2 (.tup rows) (by simp)
  obtain ⟨hl2, hr⟩ := hb.2 rows rfl
  have hg' : (decide (0 ≤ w) && rows.all (rowOfB w)) = true := hg
  by_cases hm : (if ((rows.length : Nat) : Int) > w then ((rows.length : Nat) : Int) else w) > 60
  case pos =>
    have e2 : gridB (.tup [.int w, .tup rows]) = false := by
      have : (decide (w ≤ 60) && decide (rows.length ≤ 60)) = false := by
        by_cases c : w ≤ 60
        · rw [decide_eq_false (show ¬ rows.length ≤ 60 by split at hm <;> omega), Bool.and_false]
        · rw [decide_eq_false c, Bool.false_and]
      show ((decide (0 ≤ w) && rows.all (rowOfB w)) && (decide (w ≤ 60) && decide (rows.length ≤ 60)) && rows.all rowB) = false
      rw [this, Bool.and_false, Bool.false_and]
    simp only [ex_seq, nxt_nx, nxt_rt, nxt_ct, nxt_bk, ex_ifs, brn_t, brn_f, ex_pass, ex_ret, ex_expr, ex_asg, bndM_so, ex_par, ex_aug, ex_for, endD_nx, endD_rt, bind_nm, bind_nil, bind_cons, bind_consl, ev_var, ev_c, ev_bin, ev_neg, ev_cmp, chn_t, chn_f, ev_chain, ev_and, ev_or, ev_ite, and_t, and_f, or_t, or_f, ite_t, ite_f, ev_not, ev_tup, ev_lst, ev_ix, ev_sl, intM_int, ev_int, ev_lc, ev_call, evs_nil, evs_cons, evs_star, evs_it1, evs_rng1, evs_rng2, evs_zip, evs_enum, andThen_ret, andThen_assoc, optM_so, List.getElem?_cons_succ, List.getElem?_cons_zero, slotM_so, Option.bind_some, Option.map_some, bi_eq, binM_eq, cmpM_eq, slM_eq, nr_non, nr_bl, nr_int, nr_str, nr_tup, nr_lst, nr_ty, nr_scr, nr_emp, nrs_nil, nrs_cons, Bool.and_self, Bool.and_true, ev_dnew, List.set_cons_succ, List.set_cons_zero, bin_add, bin_sub, neg_int, cmp_lt, cmp_le, cmp_gt, cmp_ge, cmp_isbl, cmp_notbl, cmp_eq_int, cmp_ne_int, cmp_eq_bl, cmp_ne_bl, truthM_bl, Bool.not_true, Bool.not_false, lenOk0, lenOk1, lenOk2, lenOk3, intD_int, absD_int, lenD_tup, lenD_lst, lenD_scr, tupD_lst, tupD_tup, startE, List.map_cons, List.map_nil, List.length_cons, List.length_nil, Nat.zero_add, Nat.reduceAdd, Nat.reduceSub, List.replicate_succ, List.replicate_zero, List.cons_append, List.nil_append, lenOk_small, Nat.reduceLeDiff, eq_self, items_tup, items_lst, ixM_tup, ixM_lst, decide_true, decide_false, wipeE, lcF_eq, lcB_so, lcC_t, lcC_f, noXM_ret, List.length_map, List.length_range, atI0, atI1, atI2, nc0, nc1, nc2, nc3, nc4, nc5, nc6, nc7, nc8, nc9, grid_in_any h, hg, max_int, decide_eq_true hm, e2]
  have e3 : gridB (.tup [.int w, .tup rows]) = rows.all rowB := by
    show ((decide (0 ≤ w) && rows.all (rowOfB w)) && (decide (w ≤ 60) && decide (rows.length ≤ 60)) && rows.all rowB) = _
    rw [hg', decide_eq_true (show w ≤ 60 by split at hm <;> omega), decide_eq_true (show rows.length ≤ 60 by split at hm <;> omega)]
    rfl
  simp only [ex_seq, nxt_nx, nxt_rt, nxt_ct, nxt_bk, ex_ifs, brn_t, brn_f, ex_pass, ex_ret, ex_expr, ex_asg, bndM_so, ex_par, ex_aug, ex_for, endD_nx, endD_rt, bind_nm, bind_nil, bind_cons, bind_consl, ev_var, ev_c, ev_bin, ev_neg, ev_cmp, chn_t, chn_f, ev_chain, ev_and, ev_or, ev_ite, and_t, and_f, or_t, or_f, ite_t, ite_f, ev_not, ev_tup, ev_lst, ev_ix, ev_sl, intM_int, ev_int, ev_lc, ev_call, evs_nil, evs_cons, evs_star, evs_it1, evs_rng1, evs_rng2, evs_zip, evs_enum, andThen_ret, andThen_assoc, optM_so, List.getElem?_cons_succ, List.getElem?_cons_zero, slotM_so, Option.bind_some, Option.map_some, bi_eq, binM_eq, cmpM_eq, slM_eq, nr_non, nr_bl, nr_int, nr_str, nr_tup, nr_lst, nr_ty, nr_scr, nr_emp, nrs_nil, nrs_cons, Bool.and_self, Bool.and_true, ev_dnew, List.set_cons_succ, List.set_cons_zero, bin_add, bin_sub, neg_int, cmp_lt, cmp_le, cmp_gt, cmp_ge, cmp_isbl, cmp_notbl, cmp_eq_int, cmp_ne_int, cmp_eq_bl, cmp_ne_bl, truthM_bl, Bool.not_true, Bool.not_false, lenOk0, lenOk1, lenOk2, lenOk3, intD_int, absD_int, lenD_tup, lenD_lst, lenD_scr, tupD_lst, tupD_tup, startE, List.map_cons, List.map_nil, List.length_cons, List.length_nil, Nat.zero_add, Nat.reduceAdd, Nat.reduceSub, List.replicate_succ, List.replicate_zero, List.cons_append, List.nil_append, lenOk_small, Nat.reduceLeDiff, eq_self, items_tup, items_lst, ixM_tup, ixM_lst, decide_true, decide_false, wipeE, lcF_eq, lcB_so, lcC_t, lcC_f, noXM_ret, List.length_map, List.length_range, atI0, atI1, atI2, nc0, nc1, nc2, nc3, nc4, nc5, nc6, nc7, nc8, nc9, grid_in_any h, hg, max_int, decide_eq_false hm]
  rw [lc_any (fun x => .bl (rowB x)) (fun x hx' => ?_) hl2]
  · simp only [ex_seq, nxt_nx, nxt_rt, nxt_ct, nxt_bk, ex_ifs, brn_t, brn_f, ex_pass, ex_ret, ex_expr, ex_asg, bndM_so, ex_par, ex_aug, ex_for, endD_nx, endD_rt, bind_nm, bind_nil, bind_cons, bind_consl, ev_var, ev_c, ev_bin, ev_neg, ev_cmp, chn_t, chn_f, ev_chain, ev_and, ev_or, ev_ite, and_t, and_f, or_t, or_f, ite_t, ite_f, ev_not, ev_tup, ev_lst, ev_ix, ev_sl, intM_int, ev_int, ev_lc, ev_call, evs_nil, evs_cons, evs_star, evs_it1, evs_rng1, evs_rng2, evs_zip, evs_enum, andThen_ret, andThen_assoc, optM_so, List.getElem?_cons_succ, List.getElem?_cons_zero, slotM_so, Option.bind_some, Option.map_some, bi_eq, binM_eq, cmpM_eq, slM_eq, nr_non, nr_bl, nr_int, nr_str, nr_tup, nr_lst, nr_ty, nr_scr, nr_emp, nrs_nil, nrs_cons, Bool.and_self, Bool.and_true, ev_dnew, List.set_cons_succ, List.set_cons_zero, bin_add, bin_sub, neg_int, cmp_lt, cmp_le, cmp_gt, cmp_ge, cmp_isbl, cmp_notbl, cmp_eq_int, cmp_ne_int, cmp_eq_bl, cmp_ne_bl, truthM_bl, Bool.not_true, Bool.not_false, lenOk0, lenOk1, lenOk2, lenOk3, intD_int, absD_int, lenD_tup, lenD_lst, lenD_scr, tupD_lst, tupD_tup, startE, List.map_cons, List.map_nil, List.length_cons, List.length_nil, Nat.zero_add, Nat.reduceAdd, Nat.reduceSub, List.replicate_succ, List.replicate_zero, List.cons_append, List.nil_append, lenOk_small, Nat.reduceLeDiff, eq_self, items_tup, items_lst, ixM_tup, ixM_lst, decide_true, decide_false, wipeE, lcF_eq, lcB_so, lcC_t, lcC_f, noXM_ret, List.length_map, List.length_range, atI0, atI1, atI2, nc0, nc1, nc2, nc3, nc4, nc5, nc6, nc7, nc8, nc9, all_any, e3]
  · simp only [ex_seq, nxt_nx, nxt_rt, nxt_ct, nxt_bk, ex_ifs, brn_t, brn_f, ex_pass, ex_ret, ex_expr, ex_asg, bndM_so, ex_par, ex_aug, ex_for, endD_nx, endD_rt, bind_nm, bind_nil, bind_cons, bind_consl, ev_var, ev_c, ev_bin, ev_neg, ev_cmp, chn_t, chn_f, ev_chain, ev_and, ev_or, ev_ite, and_t, and_f, or_t, or_f, ite_t, ite_f, ev_not, ev_tup, ev_lst, ev_ix, ev_sl, intM_int, ev_int, ev_lc, ev_call, evs_nil, evs_cons, evs_star, evs_it1, evs_rng1, evs_rng2, evs_zip, evs_enum, andThen_ret, andThen_assoc, optM_so, List.getElem?_cons_succ, List.getElem?_cons_zero, slotM_so, Option.bind_some, Option.map_some, bi_eq, binM_eq, cmpM_eq, slM_eq, nr_non, nr_bl, nr_int, nr_str, nr_tup, nr_lst, nr_ty, nr_scr, nr_emp, nrs_nil, nrs_cons, Bool.and_self, Bool.and_true, ev_dnew, List.set_cons_succ, List.set_cons_zero, bin_add, bin_sub, neg_int, cmp_lt, cmp_le, cmp_gt, cmp_ge, cmp_isbl, cmp_notbl, cmp_eq_int, cmp_ne_int, cmp_eq_bl, cmp_ne_bl, truthM_bl, Bool.not_true, Bool.not_false, lenOk0, lenOk1, lenOk2, lenOk3, intD_int, absD_int, lenD_tup, lenD_lst, lenD_scr, tupD_lst, tupD_tup, startE, List.map_cons, List.map_nil, List.length_cons, List.length_nil, Nat.zero_add, Nat.reduceAdd, Nat.reduceSub, List.replicate_succ, List.replicate_zero, List.cons_append, List.nil_append, lenOk_small, Nat.reduceLeDiff, eq_self, items_tup, items_lst, ixM_tup, ixM_lst, decide_true, decide_false, wipeE, lcF_eq, lcB_so, lcC_t, lcC_f, noXM_ret, List.length_map, List.length_range, atI0, atI1, atI2, nc0, nc1, nc2, nc3, nc4, nc5, nc6, nc7, nc8, nc9, row (hr x hx').pl (fun ys e y hy => ((hr x hx').2 ys e).2 y hy)]
end K03

set_option Elab.async false
set_option linter.all false
set_option maxRecDepth 100000
set_option maxHeartbeats 4000000
/-! K03e: the law's judgements. -/
namespace K03
open PySem L2 Gw
theorem lcGo_flt {F : D → M (Option D)} {p : D → Bool} : ∀ (xs acc : List D), (∀ x ∈ xs, F x = ret (if p x = true then some x else none)) → acc.length + xs.length ≤ sizeLine → lcGo F acc xs = ret (acc ++ xs.filter p)
  | [], acc, _, _ => by simp [lcGo]
  | x :: xs, acc, h, hl => by
    rw [List.length_cons] at hl
    show andThen (F x) _ = _
    rw [h x List.mem_cons_self, andThen_ret]
    by_cases hp : p x = true
    · rw [if_pos hp]
      show (if acc.length < sizeLine then lcGo F (acc ++ [x]) xs else badM) = _
      rw [if_pos (by omega), lcGo_flt xs (acc ++ [x]) (fun y hy => h y (List.mem_cons_of_mem _ hy)) (by rw [List.length_append, List.length_cons, List.length_nil]; omega), List.append_assoc, List.filter_cons_of_pos hp]
      rfl
    · rw [if_neg hp]
      show lcGo F acc xs = _
      rw [lcGo_flt xs acc (fun y hy => h y (List.mem_cons_of_mem _ hy)) (by omega), List.filter_cons_of_neg hp]
theorem shps_filter {p : D → Bool} {n : Nat} : ∀ {xs : List D}, D.shps xs n = true → D.shps (xs.filter p) n = true
  | [], _ => rfl
  | x :: xs, h => by
    obtain ⟨a, b⟩ := Bool.and_eq_true_iff.mp (show (D.shp x n && D.shps xs n) = true from h)
    by_cases hp : p x = true
    · rw [List.filter_cons_of_pos hp]
      exact Bool.and_eq_true_iff.mpr ⟨a, shps_filter b⟩
    · rw [List.filter_cons_of_neg hp]
      exact shps_filter b
theorem filter_none {p : D → Bool} : ∀ xs : List D, (xs.filter fun x => !p x).isEmpty = xs.all p
  | [] => rfl
  | x :: xs => by
    by_cases hp : p x = true
    · rw [List.filter_cons_of_neg (by simp [hp]), filter_none xs, List.all_cons, hp, Bool.true_and]
    · rw [List.filter_cons_of_pos (by simp [hp]), List.all_cons]
      simp [hp]
theorem l_is_row {d : D} {n : Int} (h : pl d = true) (hm : ∀ xs, d = .tup xs → xs.length ≤ 1000000 ∧ D.shps xs 63 = true ∧ ∀ x ∈ xs, pl x = true) : m__law_is_row [d, .int n] = ret (.bl (rowOfB n d)) := by
  unfold m__law_is_row c__law_is_row
  rw [fn2]
  rcases Bool.eq_false_or_eq_true (isT d) with ht | e1
  case inr =>
    have e2 : rowOfB n d = false := by cases d <;> first | rfl | cases e1
    simp only [ex_seq, nxt_nx, nxt_rt, nxt_ct, nxt_bk, ex_ifs, brn_t, brn_f, ex_pass, ex_ret, ex_expr, ex_asg, bndM_so, ex_par, ex_aug, ex_for, endD_nx, endD_rt, bind_nm, bind_nil, bind_cons, bind_consl, ev_var, ev_c, ev_bin, ev_neg, ev_cmp, chn_t, chn_f, ev_chain, ev_and, ev_or, ev_ite, and_t, and_f, or_t, or_f, ite_t, ite_f, ev_not, ev_tup, ev_lst, ev_ix, ev_sl, intM_int, ev_int, ev_lc, ev_call, evs_nil, evs_cons, evs_star, evs_it1, evs_rng1, evs_rng2, evs_zip, evs_enum, andThen_ret, andThen_assoc, optM_so, List.getElem?_cons_succ, List.getElem?_cons_zero, slotM_so, Option.bind_some, Option.map_some, bi_eq, binM_eq, cmpM_eq, slM_eq, nr_non, nr_bl, nr_int, nr_str, nr_tup, nr_lst, nr_ty, nr_scr, nr_emp, nrs_nil, nrs_cons, Bool.and_self, Bool.and_true, ev_dnew, List.set_cons_succ, List.set_cons_zero, bin_add, bin_sub, neg_int, cmp_lt, cmp_le, cmp_gt, cmp_ge, cmp_isbl, cmp_notbl, cmp_eq_int, cmp_ne_int, cmp_eq_bl, cmp_ne_bl, truthM_bl, Bool.not_true, Bool.not_false, lenOk0, lenOk1, lenOk2, lenOk3, intD_int, absD_int, lenD_tup, lenD_lst, lenD_scr, tupD_lst, tupD_tup, startE, List.map_cons, List.map_nil, List.length_cons, List.length_nil, Nat.zero_add, Nat.reduceAdd, Nat.reduceSub, List.replicate_succ, List.replicate_zero, List.cons_append, List.nil_append, lenOk_small, Nat.reduceLeDiff, eq_self, items_tup, items_lst, ixM_tup, ixM_lst, decide_true, decide_false, wipeE, lcF_eq, lcB_so, lcC_t, lcC_f, noXM_ret, List.length_map, List.length_range, atI0, atI1, atI2, nc0, nc1, nc2, nc3, nc4, nc5, nc6, nc7, nc8, nc9, pl_nr h, isi_t h, e1, e2]
  cases d <;> first | (cases ht; done) | skip
  rename_i xs
  obtain ⟨hl, hs, hx⟩ := hm xs rfl
  by_cases hn : ((xs.length : Nat) : Int) = n
  case neg => simp only [ex_seq, nxt_nx, nxt_rt, nxt_ct, nxt_bk, ex_ifs, brn_t, brn_f, ex_pass, ex_ret, ex_expr, ex_asg, bndM_so, ex_par, ex_aug, ex_for, endD_nx, endD_rt, bind_nm, bind_nil, bind_cons, bind_consl, ev_var, ev_c, ev_bin, ev_neg, ev_cmp, chn_t, chn_f, ev_chain, ev_and, ev_or, ev_ite, and_t, and_f, or_t, or_f, ite_t, ite_f, ev_not, ev_tup, ev_lst, ev_ix, ev_sl, intM_int, ev_int, ev_lc, ev_call, evs_nil, evs_cons, evs_star, evs_it1, evs_rng1, evs_rng2, evs_zip, evs_enum, andThen_ret, andThen_assoc, optM_so, List.getElem?_cons_succ, List.getElem?_cons_zero, slotM_so, Option.bind_some, Option.map_some, bi_eq, binM_eq, cmpM_eq, slM_eq, nr_non, nr_bl, nr_int, nr_str, nr_tup, nr_lst, nr_ty, nr_scr, nr_emp, nrs_nil, nrs_cons, Bool.and_self, Bool.and_true, ev_dnew, List.set_cons_succ, List.set_cons_zero, bin_add, bin_sub, neg_int, cmp_lt, cmp_le, cmp_gt, cmp_ge, cmp_isbl, cmp_notbl, cmp_eq_int, cmp_ne_int, cmp_eq_bl, cmp_ne_bl, truthM_bl, Bool.not_true, Bool.not_false, lenOk0, lenOk1, lenOk2, lenOk3, intD_int, absD_int, lenD_tup, lenD_lst, lenD_scr, tupD_lst, tupD_tup, startE, List.map_cons, List.map_nil, List.length_cons, List.length_nil, Nat.zero_add, Nat.reduceAdd, Nat.reduceSub, List.replicate_succ, List.replicate_zero, List.cons_append, List.nil_append, lenOk_small, Nat.reduceLeDiff, eq_self, items_tup, items_lst, ixM_tup, ixM_lst, decide_true, decide_false, wipeE, lcF_eq, lcB_so, lcC_t, lcC_f, noXM_ret, List.length_map, List.length_range, atI0, atI1, atI2, nc0, nc1, nc2, nc3, nc4, nc5, nc6, nc7, nc8, nc9, isi_tup, decide_eq_false hn, rowOfB, Bool.false_and]
  simp only [ex_seq, nxt_nx, nxt_rt, nxt_ct, nxt_bk, ex_ifs, brn_t, brn_f, ex_pass, ex_ret, ex_expr, ex_asg, bndM_so, ex_par, ex_aug, ex_for, endD_nx, endD_rt, bind_nm, bind_nil, bind_cons, bind_consl, ev_var, ev_c, ev_bin, ev_neg, ev_cmp, chn_t, chn_f, ev_chain, ev_and, ev_or, ev_ite, and_t, and_f, or_t, or_f, ite_t, ite_f, ev_not, ev_tup, ev_lst, ev_ix, ev_sl, intM_int, ev_int, ev_lc, ev_call, evs_nil, evs_cons, evs_star, evs_it1, evs_rng1, evs_rng2, evs_zip, evs_enum, andThen_ret, andThen_assoc, optM_so, List.getElem?_cons_succ, List.getElem?_cons_zero, slotM_so, Option.bind_some, Option.map_some, bi_eq, binM_eq, cmpM_eq, slM_eq, nr_non, nr_bl, nr_int, nr_str, nr_tup, nr_lst, nr_ty, nr_scr, nr_emp, nrs_nil, nrs_cons, Bool.and_self, Bool.and_true, ev_dnew, List.set_cons_succ, List.set_cons_zero, bin_add, bin_sub, neg_int, cmp_lt, cmp_le, cmp_gt, cmp_ge, cmp_isbl, cmp_notbl, cmp_eq_int, cmp_ne_int, cmp_eq_bl, cmp_ne_bl, truthM_bl, Bool.not_true, Bool.not_false, lenOk0, lenOk1, lenOk2, lenOk3, intD_int, absD_int, lenD_tup, lenD_lst, lenD_scr, tupD_lst, tupD_tup, startE, List.map_cons, List.map_nil, List.length_cons, List.length_nil, Nat.zero_add, Nat.reduceAdd, Nat.reduceSub, List.replicate_succ, List.replicate_zero, List.cons_append, List.nil_append, lenOk_small, Nat.reduceLeDiff, eq_self, items_tup, items_lst, ixM_tup, ixM_lst, decide_true, decide_false, wipeE, lcF_eq, lcB_so, lcC_t, lcC_f, noXM_ret, List.length_map, List.length_range, atI0, atI1, atI2, nc0, nc1, nc2, nc3, nc4, nc5, nc6, nc7, nc8, nc9, isi_tup, decide_eq_true hn]
  rw [lcGo_flt (p := fun x => !isI x) xs [] (fun x hx' => ?_) (by rw [List.length_nil]; exact Nat.le_trans (by omega) line_big)]
  · simp only [ex_seq, nxt_nx, nxt_rt, nxt_ct, nxt_bk, ex_ifs, brn_t, brn_f, ex_pass, ex_ret, ex_expr, ex_asg, bndM_so, ex_par, ex_aug, ex_for, endD_nx, endD_rt, bind_nm, bind_nil, bind_cons, bind_consl, ev_var, ev_c, ev_bin, ev_neg, ev_cmp, chn_t, chn_f, ev_chain, ev_and, ev_or, ev_ite, and_t, and_f, or_t, or_f, ite_t, ite_f, ev_not, ev_tup, ev_lst, ev_ix, ev_sl, intM_int, ev_int, ev_lc, ev_call, evs_nil, evs_cons, evs_star, evs_it1, evs_rng1, evs_rng2, evs_zip, evs_enum, andThen_ret, andThen_assoc, optM_so, List.getElem?_cons_succ, List.getElem?_cons_zero, slotM_so, Option.bind_some, Option.map_some, bi_eq, binM_eq, cmpM_eq, slM_eq, nr_non, nr_bl, nr_int, nr_str, nr_tup, nr_lst, nr_ty, nr_scr, nr_emp, nrs_nil, nrs_cons, Bool.and_self, Bool.and_true, ev_dnew, List.set_cons_succ, List.set_cons_zero, bin_add, bin_sub, neg_int, cmp_lt, cmp_le, cmp_gt, cmp_ge, cmp_isbl, cmp_notbl, cmp_eq_int, cmp_ne_int, cmp_eq_bl, cmp_ne_bl, truthM_bl, Bool.not_true, Bool.not_false, lenOk0, lenOk1, lenOk2, lenOk3, intD_int, absD_int, lenD_tup, lenD_lst, lenD_scr, tupD_lst, tupD_tup, startE, List.map_cons, List.map_nil, List.length_cons, List.length_nil, Nat.zero_add, Nat.reduceAdd, Nat.reduceSub, List.replicate_succ, List.replicate_zero, List.cons_append, List.nil_append, lenOk_small, Nat.reduceLeDiff, eq_self, items_tup, items_lst, ixM_tup, ixM_lst, decide_true, decide_false, wipeE, lcF_eq, lcB_so, lcC_t, lcC_f, noXM_ret, List.length_map, List.length_range, atI0, atI1, atI2, nc0, nc1, nc2, nc3, nc4, nc5, nc6, nc7, nc8, nc9, eq_nil_lst (shps_filter hs), filter_none, rowOfB, decide_eq_true hn, Bool.true_and]
  · have px := hx x hx'
    have hc : (isI x = true ∧ isB x = false) ∨ (isI x = false ∧ isB x = true) ∨ (isI x = false ∧ isB x = false) := by cases x <;> simp [isI, isB]
    rcases hc with ⟨e1, e2⟩ | ⟨e1, e2⟩ | ⟨e1, e2⟩ <;> simp only [ex_seq, nxt_nx, nxt_rt, nxt_ct, nxt_bk, ex_ifs, brn_t, brn_f, ex_pass, ex_ret, ex_expr, ex_asg, bndM_so, ex_par, ex_aug, ex_for, endD_nx, endD_rt, bind_nm, bind_nil, bind_cons, bind_consl, ev_var, ev_c, ev_bin, ev_neg, ev_cmp, chn_t, chn_f, ev_chain, ev_and, ev_or, ev_ite, and_t, and_f, or_t, or_f, ite_t, ite_f, ev_not, ev_tup, ev_lst, ev_ix, ev_sl, intM_int, ev_int, ev_lc, ev_call, evs_nil, evs_cons, evs_star, evs_it1, evs_rng1, evs_rng2, evs_zip, evs_enum, andThen_ret, andThen_assoc, optM_so, List.getElem?_cons_succ, List.getElem?_cons_zero, slotM_so, Option.bind_some, Option.map_some, bi_eq, binM_eq, cmpM_eq, slM_eq, nr_non, nr_bl, nr_int, nr_str, nr_tup, nr_lst, nr_ty, nr_scr, nr_emp, nrs_nil, nrs_cons, Bool.and_self, Bool.and_true, ev_dnew, List.set_cons_succ, List.set_cons_zero, bin_add, bin_sub, neg_int, cmp_lt, cmp_le, cmp_gt, cmp_ge, cmp_isbl, cmp_notbl, cmp_eq_int, cmp_ne_int, cmp_eq_bl, cmp_ne_bl, truthM_bl, Bool.not_true, Bool.not_false, lenOk0, lenOk1, lenOk2, lenOk3, intD_int, absD_int, lenD_tup, lenD_lst, lenD_scr, tupD_lst, tupD_tup, startE, List.map_cons, List.map_nil, List.length_cons, List.length_nil, Nat.zero_add, Nat.reduceAdd, Nat.reduceSub, List.replicate_succ, List.replicate_zero, List.cons_append, List.nil_append, lenOk_small, Nat.reduceLeDiff, eq_self, items_tup, items_lst, ixM_tup, ixM_lst, decide_true, decide_false, wipeE, lcF_eq, lcB_so, lcC_t, lcC_f, noXM_ret, List.length_map, List.length_range, atI0, atI1, atI2, nc0, nc1, nc2, nc3, nc4, nc5, nc6, nc7, nc8, nc9, pl_nr px, isi_i px, isi_b px, e1, e2, Bool.or_false, Bool.or_true, Bool.or_self, Bool.false_eq_true, if_true, if_false]
theorem all_int {xs : List D} (h : xs.all isI = true) : xs.all intB = (xs.filter fun x => !intB x).isEmpty := (filter_none xs).symm
theorem l_short {d : D} (h : pl d = true) (hm : ∀ xs, d = .tup xs → xs.length ≤ 1000000 ∧ D.shps xs 63 = true ∧ ∀ x ∈ xs, pl x = true) : m__law_short [d] = ret (.bl (rowB d)) := by
  unfold m__law_short c__law_short
  rw [fn1]
  rcases Bool.eq_false_or_eq_true (isT d) with ht | e1
  case inr =>
    have e2 : rowB d = false := by cases d <;> first | rfl | cases e1
    simp only [ex_seq, nxt_nx, nxt_rt, nxt_ct, nxt_bk, ex_ifs, brn_t, brn_f, ex_pass, ex_ret, ex_expr, ex_asg, bndM_so, ex_par, ex_aug, ex_for, endD_nx, endD_rt, bind_nm, bind_nil, bind_cons, bind_consl, ev_var, ev_c, ev_bin, ev_neg, ev_cmp, chn_t, chn_f, ev_chain, ev_and, ev_or, ev_ite, and_t, and_f, or_t, or_f, ite_t, ite_f, ev_not, ev_tup, ev_lst, ev_ix, ev_sl, intM_int, ev_int, ev_lc, ev_call, evs_nil, evs_cons, evs_star, evs_it1, evs_rng1, evs_rng2, evs_zip, evs_enum, andThen_ret, andThen_assoc, optM_so, List.getElem?_cons_succ, List.getElem?_cons_zero, slotM_so, Option.bind_some, Option.map_some, bi_eq, binM_eq, cmpM_eq, slM_eq, nr_non, nr_bl, nr_int, nr_str, nr_tup, nr_lst, nr_ty, nr_scr, nr_emp, nrs_nil, nrs_cons, Bool.and_self, Bool.and_true, ev_dnew, List.set_cons_succ, List.set_cons_zero, bin_add, bin_sub, neg_int, cmp_lt, cmp_le, cmp_gt, cmp_ge, cmp_isbl, cmp_notbl, cmp_eq_int, cmp_ne_int, cmp_eq_bl, cmp_ne_bl, truthM_bl, Bool.not_true, Bool.not_false, lenOk0, lenOk1, lenOk2, lenOk3, intD_int, absD_int, lenD_tup, lenD_lst, lenD_scr, tupD_lst, tupD_tup, startE, List.map_cons, List.map_nil, List.length_cons, List.length_nil, Nat.zero_add, Nat.reduceAdd, Nat.reduceSub, List.replicate_succ, List.replicate_zero, List.cons_append, List.nil_append, lenOk_small, Nat.reduceLeDiff, eq_self, items_tup, items_lst, ixM_tup, ixM_lst, decide_true, decide_false, wipeE, lcF_eq, lcB_so, lcC_t, lcC_f, noXM_ret, List.length_map, List.length_range, atI0, atI1, atI2, nc0, nc1, nc2, nc3, nc4, nc5, nc6, nc7, nc8, nc9, pl_nr h, isi_t h, e1, e2]
  cases d <;> first | (cases ht; done) | skip
  rename_i xs
  obtain ⟨hl, hs, hx⟩ := hm xs rfl
  by_cases h6 : (60 : Int) < (xs.length : Nat)
  case pos => simp only [ex_seq, nxt_nx, nxt_rt, nxt_ct, nxt_bk, ex_ifs, brn_t, brn_f, ex_pass, ex_ret, ex_expr, ex_asg, bndM_so, ex_par, ex_aug, ex_for, endD_nx, endD_rt, bind_nm, bind_nil, bind_cons, bind_consl, ev_var, ev_c, ev_bin, ev_neg, ev_cmp, chn_t, chn_f, ev_chain, ev_and, ev_or, ev_ite, and_t, and_f, or_t, or_f, ite_t, ite_f, ev_not, ev_tup, ev_lst, ev_ix, ev_sl, intM_int, ev_int, ev_lc, ev_call, evs_nil, evs_cons, evs_star, evs_it1, evs_rng1, evs_rng2, evs_zip, evs_enum, andThen_ret, andThen_assoc, optM_so, List.getElem?_cons_succ, List.getElem?_cons_zero, slotM_so, Option.bind_some, Option.map_some, bi_eq, binM_eq, cmpM_eq, slM_eq, nr_non, nr_bl, nr_int, nr_str, nr_tup, nr_lst, nr_ty, nr_scr, nr_emp, nrs_nil, nrs_cons, Bool.and_self, Bool.and_true, ev_dnew, List.set_cons_succ, List.set_cons_zero, bin_add, bin_sub, neg_int, cmp_lt, cmp_le, cmp_gt, cmp_ge, cmp_isbl, cmp_notbl, cmp_eq_int, cmp_ne_int, cmp_eq_bl, cmp_ne_bl, truthM_bl, Bool.not_true, Bool.not_false, lenOk0, lenOk1, lenOk2, lenOk3, intD_int, absD_int, lenD_tup, lenD_lst, lenD_scr, tupD_lst, tupD_tup, startE, List.map_cons, List.map_nil, List.length_cons, List.length_nil, Nat.zero_add, Nat.reduceAdd, Nat.reduceSub, List.replicate_succ, List.replicate_zero, List.cons_append, List.nil_append, lenOk_small, Nat.reduceLeDiff, eq_self, items_tup, items_lst, ixM_tup, ixM_lst, decide_true, decide_false, wipeE, lcF_eq, lcB_so, lcC_t, lcC_f, noXM_ret, List.length_map, List.length_range, atI0, atI1, atI2, nc0, nc1, nc2, nc3, nc4, nc5, nc6, nc7, nc8, nc9, isi_tup, decide_eq_true h6, rowB, decide_eq_false (show ¬ xs.length ≤ 60 by omega), Bool.false_and]
  have hr : rowOfB ((xs.length : Nat) : Int) (.tup xs) = xs.all isI := by
    show (decide (((xs.length : Nat) : Int) = ((xs.length : Nat) : Int)) && xs.all isI) = _
    rw [decide_eq_true rfl, Bool.true_and]
  rcases Bool.eq_false_or_eq_true (xs.all isI) with ha | ha
  case inr =>
    have e2 : xs.all intB = false := by
      rw [List.all_eq_false] at ha ⊢
      obtain ⟨x, h1, h2⟩ := ha
      exact ⟨x, h1, fun z => h2 (by cases x <;> first | rfl | cases z)⟩
    simp only [ex_seq, nxt_nx, nxt_rt, nxt_ct, nxt_bk, ex_ifs, brn_t, brn_f, ex_pass, ex_ret, ex_expr, ex_asg, bndM_so, ex_par, ex_aug, ex_for, endD_nx, endD_rt, bind_nm, bind_nil, bind_cons, bind_consl, ev_var, ev_c, ev_bin, ev_neg, ev_cmp, chn_t, chn_f, ev_chain, ev_and, ev_or, ev_ite, and_t, and_f, or_t, or_f, ite_t, ite_f, ev_not, ev_tup, ev_lst, ev_ix, ev_sl, intM_int, ev_int, ev_lc, ev_call, evs_nil, evs_cons, evs_star, evs_it1, evs_rng1, evs_rng2, evs_zip, evs_enum, andThen_ret, andThen_assoc, optM_so, List.getElem?_cons_succ, List.getElem?_cons_zero, slotM_so, Option.bind_some, Option.map_some, bi_eq, binM_eq, cmpM_eq, slM_eq, nr_non, nr_bl, nr_int, nr_str, nr_tup, nr_lst, nr_ty, nr_scr, nr_emp, nrs_nil, nrs_cons, Bool.and_self, Bool.and_true, ev_dnew, List.set_cons_succ, List.set_cons_zero, bin_add, bin_sub, neg_int, cmp_lt, cmp_le, cmp_gt, cmp_ge, cmp_isbl, cmp_notbl, cmp_eq_int, cmp_ne_int, cmp_eq_bl, cmp_ne_bl, truthM_bl, Bool.not_true, Bool.not_false, lenOk0, lenOk1, lenOk2, lenOk3, intD_int, absD_int, lenD_tup, lenD_lst, lenD_scr, tupD_lst, tupD_tup, startE, List.map_cons, List.map_nil, List.length_cons, List.length_nil, Nat.zero_add, Nat.reduceAdd, Nat.reduceSub, List.replicate_succ, List.replicate_zero, List.cons_append, List.nil_append, lenOk_small, Nat.reduceLeDiff, eq_self, items_tup, items_lst, ixM_tup, ixM_lst, decide_true, decide_false, wipeE, lcF_eq, lcB_so, lcC_t, lcC_f, noXM_ret, List.length_map, List.length_range, atI0, atI1, atI2, nc0, nc1, nc2, nc3, nc4, nc5, nc6, nc7, nc8, nc9, isi_tup, decide_eq_false h6, l_is_row h hm, hr, ha, rowB, e2, Bool.and_false]
  simp only [ex_seq, nxt_nx, nxt_rt, nxt_ct, nxt_bk, ex_ifs, brn_t, brn_f, ex_pass, ex_ret, ex_expr, ex_asg, bndM_so, ex_par, ex_aug, ex_for, endD_nx, endD_rt, bind_nm, bind_nil, bind_cons, bind_consl, ev_var, ev_c, ev_bin, ev_neg, ev_cmp, chn_t, chn_f, ev_chain, ev_and, ev_or, ev_ite, and_t, and_f, or_t, or_f, ite_t, ite_f, ev_not, ev_tup, ev_lst, ev_ix, ev_sl, intM_int, ev_int, ev_lc, ev_call, evs_nil, evs_cons, evs_star, evs_it1, evs_rng1, evs_rng2, evs_zip, evs_enum, andThen_ret, andThen_assoc, optM_so, List.getElem?_cons_succ, List.getElem?_cons_zero, slotM_so, Option.bind_some, Option.map_some, bi_eq, binM_eq, cmpM_eq, slM_eq, nr_non, nr_bl, nr_int, nr_str, nr_tup, nr_lst, nr_ty, nr_scr, nr_emp, nrs_nil, nrs_cons, Bool.and_self, Bool.and_true, ev_dnew, List.set_cons_succ, List.set_cons_zero, bin_add, bin_sub, neg_int, cmp_lt, cmp_le, cmp_gt, cmp_ge, cmp_isbl, cmp_notbl, cmp_eq_int, cmp_ne_int, cmp_eq_bl, cmp_ne_bl, truthM_bl, Bool.not_true, Bool.not_false, lenOk0, lenOk1, lenOk2, lenOk3, intD_int, absD_int, lenD_tup, lenD_lst, lenD_scr, tupD_lst, tupD_tup, startE, List.map_cons, List.map_nil, List.length_cons, List.length_nil, Nat.zero_add, Nat.reduceAdd, Nat.reduceSub, List.replicate_succ, List.replicate_zero, List.cons_append, List.nil_append, lenOk_small, Nat.reduceLeDiff, eq_self, items_tup, items_lst, ixM_tup, ixM_lst, decide_true, decide_false, wipeE, lcF_eq, lcB_so, lcC_t, lcC_f, noXM_ret, List.length_map, List.length_range, atI0, atI1, atI2, nc0, nc1, nc2, nc3, nc4, nc5, nc6, nc7, nc8, nc9, isi_tup, decide_eq_false h6, l_is_row h hm, hr, ha]
  rw [lcGo_flt (p := fun x => !intB x) xs [] (fun x hx' => ?_) (by rw [List.length_nil]; exact Nat.le_trans (by omega) line_big)]
  · simp only [ex_seq, nxt_nx, nxt_rt, nxt_ct, nxt_bk, ex_ifs, brn_t, brn_f, ex_pass, ex_ret, ex_expr, ex_asg, bndM_so, ex_par, ex_aug, ex_for, endD_nx, endD_rt, bind_nm, bind_nil, bind_cons, bind_consl, ev_var, ev_c, ev_bin, ev_neg, ev_cmp, chn_t, chn_f, ev_chain, ev_and, ev_or, ev_ite, and_t, and_f, or_t, or_f, ite_t, ite_f, ev_not, ev_tup, ev_lst, ev_ix, ev_sl, intM_int, ev_int, ev_lc, ev_call, evs_nil, evs_cons, evs_star, evs_it1, evs_rng1, evs_rng2, evs_zip, evs_enum, andThen_ret, andThen_assoc, optM_so, List.getElem?_cons_succ, List.getElem?_cons_zero, slotM_so, Option.bind_some, Option.map_some, bi_eq, binM_eq, cmpM_eq, slM_eq, nr_non, nr_bl, nr_int, nr_str, nr_tup, nr_lst, nr_ty, nr_scr, nr_emp, nrs_nil, nrs_cons, Bool.and_self, Bool.and_true, ev_dnew, List.set_cons_succ, List.set_cons_zero, bin_add, bin_sub, neg_int, cmp_lt, cmp_le, cmp_gt, cmp_ge, cmp_isbl, cmp_notbl, cmp_eq_int, cmp_ne_int, cmp_eq_bl, cmp_ne_bl, truthM_bl, Bool.not_true, Bool.not_false, lenOk0, lenOk1, lenOk2, lenOk3, intD_int, absD_int, lenD_tup, lenD_lst, lenD_scr, tupD_lst, tupD_tup, startE, List.map_cons, List.map_nil, List.length_cons, List.length_nil, Nat.zero_add, Nat.reduceAdd, Nat.reduceSub, List.replicate_succ, List.replicate_zero, List.cons_append, List.nil_append, lenOk_small, Nat.reduceLeDiff, eq_self, items_tup, items_lst, ixM_tup, ixM_lst, decide_true, decide_false, wipeE, lcF_eq, lcB_so, lcC_t, lcC_f, noXM_ret, List.length_map, List.length_range, atI0, atI1, atI2, nc0, nc1, nc2, nc3, nc4, nc5, nc6, nc7, nc8, nc9, eq_nil_lst (shps_filter hs), filter_none, rowB, decide_eq_true (show xs.length ≤ 60 by omega), Bool.true_and]
  · have hi := List.all_eq_true.mp ha x hx'
    cases x <;> first | (cases hi; done) | skip
    rename_i i
    by_cases hb : (1000000000000 : Int) ≤ (i.natAbs : Nat)
    · simp only [ex_seq, nxt_nx, nxt_rt, nxt_ct, nxt_bk, ex_ifs, brn_t, brn_f, ex_pass, ex_ret, ex_expr, ex_asg, bndM_so, ex_par, ex_aug, ex_for, endD_nx, endD_rt, bind_nm, bind_nil, bind_cons, bind_consl, ev_var, ev_c, ev_bin, ev_neg, ev_cmp, chn_t, chn_f, ev_chain, ev_and, ev_or, ev_ite, and_t, and_f, or_t, or_f, ite_t, ite_f, ev_not, ev_tup, ev_lst, ev_ix, ev_sl, intM_int, ev_int, ev_lc, ev_call, evs_nil, evs_cons, evs_star, evs_it1, evs_rng1, evs_rng2, evs_zip, evs_enum, andThen_ret, andThen_assoc, optM_so, List.getElem?_cons_succ, List.getElem?_cons_zero, slotM_so, Option.bind_some, Option.map_some, bi_eq, binM_eq, cmpM_eq, slM_eq, nr_non, nr_bl, nr_int, nr_str, nr_tup, nr_lst, nr_ty, nr_scr, nr_emp, nrs_nil, nrs_cons, Bool.and_self, Bool.and_true, ev_dnew, List.set_cons_succ, List.set_cons_zero, bin_add, bin_sub, neg_int, cmp_lt, cmp_le, cmp_gt, cmp_ge, cmp_isbl, cmp_notbl, cmp_eq_int, cmp_ne_int, cmp_eq_bl, cmp_ne_bl, truthM_bl, Bool.not_true, Bool.not_false, lenOk0, lenOk1, lenOk2, lenOk3, intD_int, absD_int, lenD_tup, lenD_lst, lenD_scr, tupD_lst, tupD_tup, startE, List.map_cons, List.map_nil, List.length_cons, List.length_nil, Nat.zero_add, Nat.reduceAdd, Nat.reduceSub, List.replicate_succ, List.replicate_zero, List.cons_append, List.nil_append, lenOk_small, Nat.reduceLeDiff, eq_self, items_tup, items_lst, ixM_tup, ixM_lst, decide_true, decide_false, wipeE, lcF_eq, lcB_so, lcC_t, lcC_f, noXM_ret, List.length_map, List.length_range, atI0, atI1, atI2, nc0, nc1, nc2, nc3, nc4, nc5, nc6, nc7, nc8, nc9, pow12, decide_eq_true hb, intB, decide_eq_false (show ¬ small i from fun z => by unfold small at z; omega), if_true]
    · simp only [ex_seq, nxt_nx, nxt_rt, nxt_ct, nxt_bk, ex_ifs, brn_t, brn_f, ex_pass, ex_ret, ex_expr, ex_asg, bndM_so, ex_par, ex_aug, ex_for, endD_nx, endD_rt, bind_nm, bind_nil, bind_cons, bind_consl, ev_var, ev_c, ev_bin, ev_neg, ev_cmp, chn_t, chn_f, ev_chain, ev_and, ev_or, ev_ite, and_t, and_f, or_t, or_f, ite_t, ite_f, ev_not, ev_tup, ev_lst, ev_ix, ev_sl, intM_int, ev_int, ev_lc, ev_call, evs_nil, evs_cons, evs_star, evs_it1, evs_rng1, evs_rng2, evs_zip, evs_enum, andThen_ret, andThen_assoc, optM_so, List.getElem?_cons_succ, List.getElem?_cons_zero, slotM_so, Option.bind_some, Option.map_some, bi_eq, binM_eq, cmpM_eq, slM_eq, nr_non, nr_bl, nr_int, nr_str, nr_tup, nr_lst, nr_ty, nr_scr, nr_emp, nrs_nil, nrs_cons, Bool.and_self, Bool.and_true, ev_dnew, List.set_cons_succ, List.set_cons_zero, bin_add, bin_sub, neg_int, cmp_lt, cmp_le, cmp_gt, cmp_ge, cmp_isbl, cmp_notbl, cmp_eq_int, cmp_ne_int, cmp_eq_bl, cmp_ne_bl, truthM_bl, Bool.not_true, Bool.not_false, lenOk0, lenOk1, lenOk2, lenOk3, intD_int, absD_int, lenD_tup, lenD_lst, lenD_scr, tupD_lst, tupD_tup, startE, List.map_cons, List.map_nil, List.length_cons, List.length_nil, Nat.zero_add, Nat.reduceAdd, Nat.reduceSub, List.replicate_succ, List.replicate_zero, List.cons_append, List.nil_append, lenOk_small, Nat.reduceLeDiff, eq_self, items_tup, items_lst, ixM_tup, ixM_lst, decide_true, decide_false, wipeE, lcF_eq, lcB_so, lcC_t, lcC_f, noXM_ret, List.length_map, List.length_range, atI0, atI1, atI2, nc0, nc1, nc2, nc3, nc4, nc5, nc6, nc7, nc8, nc9, pow12, decide_eq_false hb, intB, decide_eq_true (show small i from ⟨by omega, by omega⟩), Bool.false_eq_true, if_false]
/-- plain down to a depth, and to be compared -/
def SV : Nat → D → Prop
  | 0, d => pl d = true
  | k + 1, d => pl d = true ∧ ∀ xs, d = .tup xs → xs.length ≤ 1000000 ∧ D.shps xs 63 = true ∧ ∀ x ∈ xs, SV k x
theorem SV.pl : ∀ {k : Nat} {d : D}, SV k d → pl d = true
  | 0, _, h => h
  | _ + 1, _, h => h.1
theorem SV.pv : ∀ {k : Nat} {d : D}, SV k d → PV k d
  | 0, _, h => h
  | k + 1, _, h => ⟨h.1, fun xs e => ⟨(h.2 xs e).1, fun x hx => ((h.2 xs e).2.2 x hx).pv⟩⟩
def lenB (w : Int) : D → Bool
  | .tup ys => decide (((ys.length : Nat) : Int) = w)
  | _ => false
theorem row_len (w : Int) (x : D) : (rowB x && lenB w x) = (rowOfB w x && rowB x) := by
  cases x <;> first | rfl | skip
  rename_i ys
  show ((decide (ys.length ≤ 60) && ys.all intB) && decide (((ys.length : Nat) : Int) = w)) = ((decide (((ys.length : Nat) : Int) = w) && ys.all isI) && (decide (ys.length ≤ 60) && ys.all intB))
  rcases Bool.eq_false_or_eq_true (ys.all intB) with h | h
  · have hi : ys.all isI = true := by
      rw [List.all_eq_true] at h ⊢
      intro x hx
      have := h x hx
      cases x <;> first | rfl | cases this
    rw [h, hi]
    cases decide (ys.length ≤ 60) <;> cases decide (((ys.length : Nat) : Int) = w) <;> rfl
  · rw [h]
    simp
theorem all_and {p q : D → Bool} : ∀ xs : List D, xs.all (fun x => p x && q x) = (xs.all p && xs.all q)
  | [] => rfl
  | x :: xs => by
    rw [List.all_cons, List.all_cons, List.all_cons, all_and xs]
    cases p x <;> cases q x <;> cases xs.all p <;> cases xs.all q <;> rfl
theorem cut1 (a b : D) : slD (.tup [a, b]) .non (.int 1) = some (.tup [a]) := rfl
theorem l_sized {d : D} (h : SV 3 d) : m__law_sized [d] = ret (.bl (gridB d)) := by
  unfold m__law_sized c__law_sized
  rw [fn1]
  rcases Bool.eq_false_or_eq_true (isT d) with ht | e1
  case inr =>
    have e2 : gridB d = false := by cases d <;> first | rfl | cases e1
    simp only [ex_seq, nxt_nx, nxt_rt, nxt_ct, nxt_bk, ex_ifs, brn_t, brn_f, ex_pass, ex_ret, ex_expr, ex_asg, bndM_so, ex_par, ex_aug, ex_for, endD_nx, endD_rt, bind_nm, bind_nil, bind_cons, bind_consl, ev_var, ev_c, ev_bin, ev_neg, ev_cmp, chn_t, chn_f, ev_chain, ev_and, ev_or, ev_ite, and_t, and_f, or_t, or_f, ite_t, ite_f, ev_not, ev_tup, ev_lst, ev_ix, ev_sl, intM_int, ev_int, ev_lc, ev_call, evs_nil, evs_cons, evs_star, evs_it1, evs_rng1, evs_rng2, evs_zip, evs_enum, andThen_ret, andThen_assoc, optM_so, List.getElem?_cons_succ, List.getElem?_cons_zero, slotM_so, Option.bind_some, Option.map_some, bi_eq, binM_eq, cmpM_eq, slM_eq, nr_non, nr_bl, nr_int, nr_str, nr_tup, nr_lst, nr_ty, nr_scr, nr_emp, nrs_nil, nrs_cons, Bool.and_self, Bool.and_true, ev_dnew, List.set_cons_succ, List.set_cons_zero, bin_add, bin_sub, neg_int, cmp_lt, cmp_le, cmp_gt, cmp_ge, cmp_isbl, cmp_notbl, cmp_eq_int, cmp_ne_int, cmp_eq_bl, cmp_ne_bl, truthM_bl, Bool.not_true, Bool.not_false, lenOk0, lenOk1, lenOk2, lenOk3, intD_int, absD_int, lenD_tup, lenD_lst, lenD_scr, tupD_lst, tupD_tup, startE, List.map_cons, List.map_nil, List.length_cons, List.length_nil, Nat.zero_add, Nat.reduceAdd, Nat.reduceSub, List.replicate_succ, List.replicate_zero, List.cons_append, List.nil_append, lenOk_small, Nat.reduceLeDiff, eq_self, items_tup, items_lst, ixM_tup, ixM_lst, decide_true, decide_false, wipeE, lcF_eq, lcB_so, lcC_t, lcC_f, noXM_ret, List.length_map, List.length_range, atI0, atI1, atI2, nc0, nc1, nc2, nc3, nc4, nc5, nc6, nc7, nc8, nc9, pl_nr h.pl, isi_t h.pl, e1, e2]
  cases d <;> first | (cases ht; done) | skip
  rename_i xs
  obtain ⟨hl, hs, hx⟩ := h.2 xs rfl
  by_cases h2 : ((xs.length : Nat) : Int) = 2
  case neg =>
    have e2 : gridB (.tup xs) = false := by
      match xs, h2 with
      | [], _ => rfl
      | [a], _ => cases a <;> rfl
      | [a, b], h2 => exact absurd rfl h2
      | a :: b :: c :: r, _ => cases a <;> cases b <;> rfl
    simp only [ex_seq, nxt_nx, nxt_rt, nxt_ct, nxt_bk, ex_ifs, brn_t, brn_f, ex_pass, ex_ret, ex_expr, ex_asg, bndM_so, ex_par, ex_aug, ex_for, endD_nx, endD_rt, bind_nm, bind_nil, bind_cons, bind_consl, ev_var, ev_c, ev_bin, ev_neg, ev_cmp, chn_t, chn_f, ev_chain, ev_and, ev_or, ev_ite, and_t, and_f, or_t, or_f, ite_t, ite_f, ev_not, ev_tup, ev_lst, ev_ix, ev_sl, intM_int, ev_int, ev_lc, ev_call, evs_nil, evs_cons, evs_star, evs_it1, evs_rng1, evs_rng2, evs_zip, evs_enum, andThen_ret, andThen_assoc, optM_so, List.getElem?_cons_succ, List.getElem?_cons_zero, slotM_so, Option.bind_some, Option.map_some, bi_eq, binM_eq, cmpM_eq, slM_eq, nr_non, nr_bl, nr_int, nr_str, nr_tup, nr_lst, nr_ty, nr_scr, nr_emp, nrs_nil, nrs_cons, Bool.and_self, Bool.and_true, ev_dnew, List.set_cons_succ, List.set_cons_zero, bin_add, bin_sub, neg_int, cmp_lt, cmp_le, cmp_gt, cmp_ge, cmp_isbl, cmp_notbl, cmp_eq_int, cmp_ne_int, cmp_eq_bl, cmp_ne_bl, truthM_bl, Bool.not_true, Bool.not_false, lenOk0, lenOk1, lenOk2, lenOk3, intD_int, absD_int, lenD_tup, lenD_lst, lenD_scr, tupD_lst, tupD_tup, startE, List.map_cons, List.map_nil, List.length_cons, List.length_nil, Nat.zero_add, Nat.reduceAdd, Nat.reduceSub, List.replicate_succ, List.replicate_zero, List.cons_append, List.nil_append, lenOk_small, Nat.reduceLeDiff, eq_self, items_tup, items_lst, ixM_tup, ixM_lst, decide_true, decide_false, wipeE, lcF_eq, lcB_so, lcC_t, lcC_f, noXM_ret, List.length_map, List.length_range, atI0, atI1, atI2, nc0, nc1, nc2, nc3, nc4, nc5, nc6, nc7, nc8, nc9, isi_tup, decide_eq_false h2, e2]
  obtain ⟨a, b, rfl⟩ : ∃ a b, xs = [a, b] := by
    match xs, (show xs.length = 2 by omega) with
    | [a, b], _ => exact ⟨a, b, rfl⟩
  clear h2
  have ha := hx a (by simp)
  have hb := hx b (by simp)
  have hs1 : D.shps [a] 63 = true := by
    obtain ⟨q, _⟩ := Bool.and_eq_true_iff.mp (show (D.shp a 63 && D.shps [b] 63) = true from hs)
    exact Bool.and_eq_true_iff.mpr ⟨q, rfl⟩
  have es := l_short (d := .tup [a]) rfl (fun ys e => by cases e; exact ⟨by show 1 ≤ 1000000; decide, hs1, fun x hx' => by rw [List.mem_singleton.mp hx']; exact ha.pl⟩)
  have er : rowB (.tup [a]) = intB a := by
    show (decide (1 ≤ 60) && ([a] : List D).all intB) = intB a
    simp
  rw [er] at es
  rcases Bool.eq_false_or_eq_true (intB a) with hi | hi
  case inr =>
    have e2 : gridB (.tup [a, b]) = false := by
      cases a <;> first | rfl | skip
      rename_i w
      cases b <;> first | rfl | skip
      rename_i rows
      have hw : ¬ small w := of_decide_eq_false hi
      show (decide (0 ≤ w) && rows.all (rowOfB w) && (decide (w ≤ 60) && decide (rows.length ≤ 60)) && rows.all rowB) = false
      by_cases c0 : 0 ≤ w
      · by_cases c1 : w ≤ 60
        · exact absurd ⟨by omega, by omega⟩ hw
        · simp [c1]
      · simp [c0]
    simp only [ex_seq, nxt_nx, nxt_rt, nxt_ct, nxt_bk, ex_ifs, brn_t, brn_f, ex_pass, ex_ret, ex_expr, ex_asg, bndM_so, ex_par, ex_aug, ex_for, endD_nx, endD_rt, bind_nm, bind_nil, bind_cons, bind_consl, ev_var, ev_c, ev_bin, ev_neg, ev_cmp, chn_t, chn_f, ev_chain, ev_and, ev_or, ev_ite, and_t, and_f, or_t, or_f, ite_t, ite_f, ev_not, ev_tup, ev_lst, ev_ix, ev_sl, intM_int, ev_int, ev_lc, ev_call, evs_nil, evs_cons, evs_star, evs_it1, evs_rng1, evs_rng2, evs_zip, evs_enum, andThen_ret, andThen_assoc, optM_so, List.getElem?_cons_succ, List.getElem?_cons_zero, slotM_so, Option.bind_some, Option.map_some, bi_eq, binM_eq, cmpM_eq, slM_eq, nr_non, nr_bl, nr_int, nr_str, nr_tup, nr_lst, nr_ty, nr_scr, nr_emp, nrs_nil, nrs_cons, Bool.and_self, Bool.and_true, ev_dnew, List.set_cons_succ, List.set_cons_zero, bin_add, bin_sub, neg_int, cmp_lt, cmp_le, cmp_gt, cmp_ge, cmp_isbl, cmp_notbl, cmp_eq_int, cmp_ne_int, cmp_eq_bl, cmp_ne_bl, truthM_bl, Bool.not_true, Bool.not_false, lenOk0, lenOk1, lenOk2, lenOk3, intD_int, absD_int, lenD_tup, lenD_lst, lenD_scr, tupD_lst, tupD_tup, startE, List.map_cons, List.map_nil, List.length_cons, List.length_nil, Nat.zero_add, Nat.reduceAdd, Nat.reduceSub, List.replicate_succ, List.replicate_zero, List.cons_append, List.nil_append, lenOk_small, Nat.reduceLeDiff, eq_self, items_tup, items_lst, ixM_tup, ixM_lst, decide_true, decide_false, wipeE, lcF_eq, lcB_so, lcC_t, lcC_f, noXM_ret, List.length_map, List.length_range, atI0, atI1, atI2, nc0, nc1, nc2, nc3, nc4, nc5, nc6, nc7, nc8, nc9, isi_tup, cut1, es, hi, e2]
  cases a <;> first | (cases hi; done) | skip
  rename_i w
  rcases Bool.eq_false_or_eq_true (isT b) with hj | hj
  case inr =>
    have e2 : gridB (.tup [.int w, b]) = false := by cases b <;> first | rfl | cases hj
    simp only [ex_seq, nxt_nx, nxt_rt, nxt_ct, nxt_bk, ex_ifs, brn_t, brn_f, ex_pass, ex_ret, ex_expr, ex_asg, bndM_so, ex_par, ex_aug, ex_for, endD_nx, endD_rt, bind_nm, bind_nil, bind_cons, bind_consl, ev_var, ev_c, ev_bin, ev_neg, ev_cmp, chn_t, chn_f, ev_chain, ev_and, ev_or, ev_ite, and_t, and_f, or_t, or_f, ite_t, ite_f, ev_not, ev_tup, ev_lst, ev_ix, ev_sl, intM_int, ev_int, ev_lc, ev_call, evs_nil, evs_cons, evs_star, evs_it1, evs_rng1, evs_rng2, evs_zip, evs_enum, andThen_ret, andThen_assoc, optM_so, List.getElem?_cons_succ, List.getElem?_cons_zero, slotM_so, Option.bind_some, Option.map_some, bi_eq, binM_eq, cmpM_eq, slM_eq, nr_non, nr_bl, nr_int, nr_str, nr_tup, nr_lst, nr_ty, nr_scr, nr_emp, nrs_nil, nrs_cons, Bool.and_self, Bool.and_true, ev_dnew, List.set_cons_succ, List.set_cons_zero, bin_add, bin_sub, neg_int, cmp_lt, cmp_le, cmp_gt, cmp_ge, cmp_isbl, cmp_notbl, cmp_eq_int, cmp_ne_int, cmp_eq_bl, cmp_ne_bl, truthM_bl, Bool.not_true, Bool.not_false, lenOk0, lenOk1, lenOk2, lenOk3, intD_int, absD_int, lenD_tup, lenD_lst, lenD_scr, tupD_lst, tupD_tup, startE, List.map_cons, List.map_nil, List.length_cons, List.length_nil, Nat.zero_add, Nat.reduceAdd, Nat.reduceSub, List.replicate_succ, List.replicate_zero, List.cons_append, List.nil_append, lenOk_small, Nat.reduceLeDiff, eq_self, items_tup, items_lst, ixM_tup, ixM_lst, decide_true, decide_false, wipeE, lcF_eq, lcB_so, lcC_t, lcC_f, noXM_ret, List.length_map, List.length_range, atI0, atI1, atI2, nc0, nc1, nc2, nc3, nc4, nc5, nc6, nc7, nc8, nc9, isi_tup, cut1, es, hi, pl_nr hb.pl, isi_t hb.pl, hj, e2]
  cases b <;> first | (cases hj; done) | skip
  rename_i rows
  obtain ⟨hl2, hs2, hr⟩ := hb.2 rows rfl
  have eg : gridB (.tup [.int w, .tup rows]) = (decide (0 ≤ w) && rows.all (rowOfB w) && (decide (w ≤ 60) && decide (rows.length ≤ 60)) && rows.all rowB) := rfl
  by_cases c0 : 0 ≤ w
  case neg =>
    have e2 : gridB (.tup [.int w, .tup rows]) = false := by rw [eg, decide_eq_false c0]; rfl
    simp only [ex_seq, nxt_nx, nxt_rt, nxt_ct, nxt_bk, ex_ifs, brn_t, brn_f, ex_pass, ex_ret, ex_expr, ex_asg, bndM_so, ex_par, ex_aug, ex_for, endD_nx, endD_rt, bind_nm, bind_nil, bind_cons, bind_consl, ev_var, ev_c, ev_bin, ev_neg, ev_cmp, chn_t, chn_f, ev_chain, ev_and, ev_or, ev_ite, and_t, and_f, or_t, or_f, ite_t, ite_f, ev_not, ev_tup, ev_lst, ev_ix, ev_sl, intM_int, ev_int, ev_lc, ev_call, evs_nil, evs_cons, evs_star, evs_it1, evs_rng1, evs_rng2, evs_zip, evs_enum, andThen_ret, andThen_assoc, optM_so, List.getElem?_cons_succ, List.getElem?_cons_zero, slotM_so, Option.bind_some, Option.map_some, bi_eq, binM_eq, cmpM_eq, slM_eq, nr_non, nr_bl, nr_int, nr_str, nr_tup, nr_lst, nr_ty, nr_scr, nr_emp, nrs_nil, nrs_cons, Bool.and_self, Bool.and_true, ev_dnew, List.set_cons_succ, List.set_cons_zero, bin_add, bin_sub, neg_int, cmp_lt, cmp_le, cmp_gt, cmp_ge, cmp_isbl, cmp_notbl, cmp_eq_int, cmp_ne_int, cmp_eq_bl, cmp_ne_bl, truthM_bl, Bool.not_true, Bool.not_false, lenOk0, lenOk1, lenOk2, lenOk3, intD_int, absD_int, lenD_tup, lenD_lst, lenD_scr, tupD_lst, tupD_tup, startE, List.map_cons, List.map_nil, List.length_cons, List.length_nil, Nat.zero_add, Nat.reduceAdd, Nat.reduceSub, List.replicate_succ, List.replicate_zero, List.cons_append, List.nil_append, lenOk_small, Nat.reduceLeDiff, eq_self, items_tup, items_lst, ixM_tup, ixM_lst, decide_true, decide_false, wipeE, lcF_eq, lcB_so, lcC_t, lcC_f, noXM_ret, List.length_map, List.length_range, atI0, atI1, atI2, nc0, nc1, nc2, nc3, nc4, nc5, nc6, nc7, nc8, nc9, isi_tup, cut1, es, hi, decide_eq_false c0, e2]
  by_cases c1 : w ≤ 60
  case neg =>
    have e2 : gridB (.tup [.int w, .tup rows]) = false := by rw [eg, decide_eq_false c1]; simp
    simp only [ex_seq, nxt_nx, nxt_rt, nxt_ct, nxt_bk, ex_ifs, brn_t, brn_f, ex_pass, ex_ret, ex_expr, ex_asg, bndM_so, ex_par, ex_aug, ex_for, endD_nx, endD_rt, bind_nm, bind_nil, bind_cons, bind_consl, ev_var, ev_c, ev_bin, ev_neg, ev_cmp, chn_t, chn_f, ev_chain, ev_and, ev_or, ev_ite, and_t, and_f, or_t, or_f, ite_t, ite_f, ev_not, ev_tup, ev_lst, ev_ix, ev_sl, intM_int, ev_int, ev_lc, ev_call, evs_nil, evs_cons, evs_star, evs_it1, evs_rng1, evs_rng2, evs_zip, evs_enum, andThen_ret, andThen_assoc, optM_so, List.getElem?_cons_succ, List.getElem?_cons_zero, slotM_so, Option.bind_some, Option.map_some, bi_eq, binM_eq, cmpM_eq, slM_eq, nr_non, nr_bl, nr_int, nr_str, nr_tup, nr_lst, nr_ty, nr_scr, nr_emp, nrs_nil, nrs_cons, Bool.and_self, Bool.and_true, ev_dnew, List.set_cons_succ, List.set_cons_zero, bin_add, bin_sub, neg_int, cmp_lt, cmp_le, cmp_gt, cmp_ge, cmp_isbl, cmp_notbl, cmp_eq_int, cmp_ne_int, cmp_eq_bl, cmp_ne_bl, truthM_bl, Bool.not_true, Bool.not_false, lenOk0, lenOk1, lenOk2, lenOk3, intD_int, absD_int, lenD_tup, lenD_lst, lenD_scr, tupD_lst, tupD_tup, startE, List.map_cons, List.map_nil, List.length_cons, List.length_nil, Nat.zero_add, Nat.reduceAdd, Nat.reduceSub, List.replicate_succ, List.replicate_zero, List.cons_append, List.nil_append, lenOk_small, Nat.reduceLeDiff, eq_self, items_tup, items_lst, ixM_tup, ixM_lst, decide_true, decide_false, wipeE, lcF_eq, lcB_so, lcC_t, lcC_f, noXM_ret, List.length_map, List.length_range, atI0, atI1, atI2, nc0, nc1, nc2, nc3, nc4, nc5, nc6, nc7, nc8, nc9, isi_tup, cut1, es, hi, decide_eq_true c0, decide_eq_false c1, e2]
  by_cases c2 : (60 : Int) < (rows.length : Nat)
  case pos =>
    have e2 : gridB (.tup [.int w, .tup rows]) = false := by rw [eg, decide_eq_false (show ¬ rows.length ≤ 60 by omega)]; simp
    simp only [ex_seq, nxt_nx, nxt_rt, nxt_ct, nxt_bk, ex_ifs, brn_t, brn_f, ex_pass, ex_ret, ex_expr, ex_asg, bndM_so, ex_par, ex_aug, ex_for, endD_nx, endD_rt, bind_nm, bind_nil, bind_cons, bind_consl, ev_var, ev_c, ev_bin, ev_neg, ev_cmp, chn_t, chn_f, ev_chain, ev_and, ev_or, ev_ite, and_t, and_f, or_t, or_f, ite_t, ite_f, ev_not, ev_tup, ev_lst, ev_ix, ev_sl, intM_int, ev_int, ev_lc, ev_call, evs_nil, evs_cons, evs_star, evs_it1, evs_rng1, evs_rng2, evs_zip, evs_enum, andThen_ret, andThen_assoc, optM_so, List.getElem?_cons_succ, List.getElem?_cons_zero, slotM_so, Option.bind_some, Option.map_some, bi_eq, binM_eq, cmpM_eq, slM_eq, nr_non, nr_bl, nr_int, nr_str, nr_tup, nr_lst, nr_ty, nr_scr, nr_emp, nrs_nil, nrs_cons, Bool.and_self, Bool.and_true, ev_dnew, List.set_cons_succ, List.set_cons_zero, bin_add, bin_sub, neg_int, cmp_lt, cmp_le, cmp_gt, cmp_ge, cmp_isbl, cmp_notbl, cmp_eq_int, cmp_ne_int, cmp_eq_bl, cmp_ne_bl, truthM_bl, Bool.not_true, Bool.not_false, lenOk0, lenOk1, lenOk2, lenOk3, intD_int, absD_int, lenD_tup, lenD_lst, lenD_scr, tupD_lst, tupD_tup, startE, List.map_cons, List.map_nil, List.length_cons, List.length_nil, Nat.zero_add, Nat.reduceAdd, Nat.reduceSub, List.replicate_succ, List.replicate_zero, List.cons_append, List.nil_append, lenOk_small, Nat.reduceLeDiff, eq_self, items_tup, items_lst, ixM_tup, ixM_lst, decide_true, decide_false, wipeE, lcF_eq, lcB_so, lcC_t, lcC_f, noXM_ret, List.length_map, List.length_range, atI0, atI1, atI2, nc0, nc1, nc2, nc3, nc4, nc5, nc6, nc7, nc8, nc9, isi_tup, cut1, es, hi, decide_eq_true c0, decide_eq_true c1, decide_eq_true c2, e2]
  have e3 : gridB (.tup [.int w, .tup rows]) = rows.all fun x => rowB x && lenB w x := by
    rw [eg, decide_eq_true c0, decide_eq_true c1, decide_eq_true (show rows.length ≤ 60 by omega), Bool.true_and, Bool.and_self, Bool.and_true, ← all_and]
    congr 1
    funext x
    exact (row_len w x).symm
  simp only [ex_seq, nxt_nx, nxt_rt, nxt_ct, nxt_bk, ex_ifs, brn_t, brn_f, ex_pass, ex_ret, ex_expr, ex_asg, bndM_so, ex_par, ex_aug, ex_for, endD_nx, endD_rt, bind_nm, bind_nil, bind_cons, bind_consl, ev_var, ev_c, ev_bin, ev_neg, ev_cmp, chn_t, chn_f, ev_chain, ev_and, ev_or, ev_ite, and_t, and_f, or_t, or_f, ite_t, ite_f, ev_not, ev_tup, ev_lst, ev_ix, ev_sl, intM_int, ev_int, ev_lc, ev_call, evs_nil, evs_cons, evs_star, evs_it1, evs_rng1, evs_rng2, evs_zip, evs_enum, andThen_ret, andThen_assoc, optM_so, List.getElem?_cons_succ, List.getElem?_cons_zero, slotM_so, Option.bind_some, Option.map_some, bi_eq, binM_eq, cmpM_eq, slM_eq, nr_non, nr_bl, nr_int, nr_str, nr_tup, nr_lst, nr_ty, nr_scr, nr_emp, nrs_nil, nrs_cons, Bool.and_self, Bool.and_true, ev_dnew, List.set_cons_succ, List.set_cons_zero, bin_add, bin_sub, neg_int, cmp_lt, cmp_le, cmp_gt, cmp_ge, cmp_isbl, cmp_notbl, cmp_eq_int, cmp_ne_int, cmp_eq_bl, cmp_ne_bl, truthM_bl, Bool.not_true, Bool.not_false, lenOk0, lenOk1, lenOk2, lenOk3, intD_int, absD_int, lenD_tup, lenD_lst, lenD_scr, tupD_lst, tupD_tup, startE, List.map_cons, List.map_nil, List.length_cons, List.length_nil, Nat.zero_add, Nat.reduceAdd, Nat.reduceSub, List.replicate_succ, List.replicate_zero, List.cons_append, List.nil_append, lenOk_small, Nat.reduceLeDiff, eq_self, items_tup, items_lst, ixM_tup, ixM_lst, decide_true, decide_false, wipeE, lcF_eq, lcB_so, lcC_t, lcC_f, noXM_ret, List.length_map, List.length_range, atI0, atI1, atI2, nc0, nc1, nc2, nc3, nc4, nc5, nc6, nc7, nc8, nc9, isi_tup, cut1, es, hi, decide_eq_true c0, decide_eq_true c1, decide_eq_false c2]
  rw [lcGo_flt (p := fun x => !(rowB x && lenB w x)) rows [] (fun x hx' => ?_) (by rw [List.length_nil]; exact Nat.le_trans (by omega) line_big)]
  · simp only [ex_seq, nxt_nx, nxt_rt, nxt_ct, nxt_bk, ex_ifs, brn_t, brn_f, ex_pass, ex_ret, ex_expr, ex_asg, bndM_so, ex_par, ex_aug, ex_for, endD_nx, endD_rt, bind_nm, bind_nil, bind_cons, bind_consl, ev_var, ev_c, ev_bin, ev_neg, ev_cmp, chn_t, chn_f, ev_chain, ev_and, ev_or, ev_ite, and_t, and_f, or_t, or_f, ite_t, ite_f, ev_not, ev_tup, ev_lst, ev_ix, ev_sl, intM_int, ev_int, ev_lc, ev_call, evs_nil, evs_cons, evs_star, evs_it1, evs_rng1, evs_rng2, evs_zip, evs_enum, andThen_ret, andThen_assoc, optM_so, List.getElem?_cons_succ, List.getElem?_cons_zero, slotM_so, Option.bind_some, Option.map_some, bi_eq, binM_eq, cmpM_eq, slM_eq, nr_non, nr_bl, nr_int, nr_str, nr_tup, nr_lst, nr_ty, nr_scr, nr_emp, nrs_nil, nrs_cons, Bool.and_self, Bool.and_true, ev_dnew, List.set_cons_succ, List.set_cons_zero, bin_add, bin_sub, neg_int, cmp_lt, cmp_le, cmp_gt, cmp_ge, cmp_isbl, cmp_notbl, cmp_eq_int, cmp_ne_int, cmp_eq_bl, cmp_ne_bl, truthM_bl, Bool.not_true, Bool.not_false, lenOk0, lenOk1, lenOk2, lenOk3, intD_int, absD_int, lenD_tup, lenD_lst, lenD_scr, tupD_lst, tupD_tup, startE, List.map_cons, List.map_nil, List.length_cons, List.length_nil, Nat.zero_add, Nat.reduceAdd, Nat.reduceSub, List.replicate_succ, List.replicate_zero, List.cons_append, List.nil_append, lenOk_small, Nat.reduceLeDiff, eq_self, items_tup, items_lst, ixM_tup, ixM_lst, decide_true, decide_false, wipeE, lcF_eq, lcB_so, lcC_t, lcC_f, noXM_ret, List.length_map, List.length_range, atI0, atI1, atI2, nc0, nc1, nc2, nc3, nc4, nc5, nc6, nc7, nc8, nc9, eq_nil_lst (shps_filter hs2), filter_none, e3]
  · have px := hr x hx'
    have e4 := l_short px.pl (fun ys e => ⟨(px.2 ys e).1, (px.2 ys e).2.1, fun y hy => ((px.2 ys e).2.2 y hy)⟩)
    rcases Bool.eq_false_or_eq_true (rowB x) with hz | hz
    case inr => simp only [ex_seq, nxt_nx, nxt_rt, nxt_ct, nxt_bk, ex_ifs, brn_t, brn_f, ex_pass, ex_ret, ex_expr, ex_asg, bndM_so, ex_par, ex_aug, ex_for, endD_nx, endD_rt, bind_nm, bind_nil, bind_cons, bind_consl, ev_var, ev_c, ev_bin, ev_neg, ev_cmp, chn_t, chn_f, ev_chain, ev_and, ev_or, ev_ite, and_t, and_f, or_t, or_f, ite_t, ite_f, ev_not, ev_tup, ev_lst, ev_ix, ev_sl, intM_int, ev_int, ev_lc, ev_call, evs_nil, evs_cons, evs_star, evs_it1, evs_rng1, evs_rng2, evs_zip, evs_enum, andThen_ret, andThen_assoc, optM_so, List.getElem?_cons_succ, List.getElem?_cons_zero, slotM_so, Option.bind_some, Option.map_some, bi_eq, binM_eq, cmpM_eq, slM_eq, nr_non, nr_bl, nr_int, nr_str, nr_tup, nr_lst, nr_ty, nr_scr, nr_emp, nrs_nil, nrs_cons, Bool.and_self, Bool.and_true, ev_dnew, List.set_cons_succ, List.set_cons_zero, bin_add, bin_sub, neg_int, cmp_lt, cmp_le, cmp_gt, cmp_ge, cmp_isbl, cmp_notbl, cmp_eq_int, cmp_ne_int, cmp_eq_bl, cmp_ne_bl, truthM_bl, Bool.not_true, Bool.not_false, lenOk0, lenOk1, lenOk2, lenOk3, intD_int, absD_int, lenD_tup, lenD_lst, lenD_scr, tupD_lst, tupD_tup, startE, List.map_cons, List.map_nil, List.length_cons, List.length_nil, Nat.zero_add, Nat.reduceAdd, Nat.reduceSub, List.replicate_succ, List.replicate_zero, List.cons_append, List.nil_append, lenOk_small, Nat.reduceLeDiff, eq_self, items_tup, items_lst, ixM_tup, ixM_lst, decide_true, decide_false, wipeE, lcF_eq, lcB_so, lcC_t, lcC_f, noXM_ret, List.length_map, List.length_range, atI0, atI1, atI2, nc0, nc1, nc2, nc3, nc4, nc5, nc6, nc7, nc8, nc9, e4, hz, Bool.false_and, if_true]
    cases x <;> first | (cases hz; done) | skip
    rename_i ys
    by_cases c3 : ((ys.length : Nat) : Int) = w
    · simp only [ex_seq, nxt_nx, nxt_rt, nxt_ct, nxt_bk, ex_ifs, brn_t, brn_f, ex_pass, ex_ret, ex_expr, ex_asg, bndM_so, ex_par, ex_aug, ex_for, endD_nx, endD_rt, bind_nm, bind_nil, bind_cons, bind_consl, ev_var, ev_c, ev_bin, ev_neg, ev_cmp, chn_t, chn_f, ev_chain, ev_and, ev_or, ev_ite, and_t, and_f, or_t, or_f, ite_t, ite_f, ev_not, ev_tup, ev_lst, ev_ix, ev_sl, intM_int, ev_int, ev_lc, ev_call, evs_nil, evs_cons, evs_star, evs_it1, evs_rng1, evs_rng2, evs_zip, evs_enum, andThen_ret, andThen_assoc, optM_so, List.getElem?_cons_succ, List.getElem?_cons_zero, slotM_so, Option.bind_some, Option.map_some, bi_eq, binM_eq, cmpM_eq, slM_eq, nr_non, nr_bl, nr_int, nr_str, nr_tup, nr_lst, nr_ty, nr_scr, nr_emp, nrs_nil, nrs_cons, Bool.and_self, Bool.and_true, ev_dnew, List.set_cons_succ, List.set_cons_zero, bin_add, bin_sub, neg_int, cmp_lt, cmp_le, cmp_gt, cmp_ge, cmp_isbl, cmp_notbl, cmp_eq_int, cmp_ne_int, cmp_eq_bl, cmp_ne_bl, truthM_bl, Bool.not_true, Bool.not_false, lenOk0, lenOk1, lenOk2, lenOk3, intD_int, absD_int, lenD_tup, lenD_lst, lenD_scr, tupD_lst, tupD_tup, startE, List.map_cons, List.map_nil, List.length_cons, List.length_nil, Nat.zero_add, Nat.reduceAdd, Nat.reduceSub, List.replicate_succ, List.replicate_zero, List.cons_append, List.nil_append, lenOk_small, Nat.reduceLeDiff, eq_self, items_tup, items_lst, ixM_tup, ixM_lst, decide_true, decide_false, wipeE, lcF_eq, lcB_so, lcC_t, lcC_f, noXM_ret, List.length_map, List.length_range, atI0, atI1, atI2, nc0, nc1, nc2, nc3, nc4, nc5, nc6, nc7, nc8, nc9, e4, hz, lenB, decide_eq_true c3, Bool.true_and, Bool.false_eq_true, if_false]
    · simp only [ex_seq, nxt_nx, nxt_rt, nxt_ct, nxt_bk, ex_ifs, brn_t, brn_f, ex_pass, ex_ret, ex_expr, ex_asg, bndM_so, ex_par, ex_aug, ex_for, endD_nx, endD_rt, bind_nm, bind_nil, bind_cons, bind_consl, ev_var, ev_c, ev_bin, ev_neg, ev_cmp, chn_t, chn_f, ev_chain, ev_and, ev_or, ev_ite, and_t, and_f, or_t, or_f, ite_t, ite_f, ev_not, ev_tup, ev_lst, ev_ix, ev_sl, intM_int, ev_int, ev_lc, ev_call, evs_nil, evs_cons, evs_star, evs_it1, evs_rng1, evs_rng2, evs_zip, evs_enum, andThen_ret, andThen_assoc, optM_so, List.getElem?_cons_succ, List.getElem?_cons_zero, slotM_so, Option.bind_some, Option.map_some, bi_eq, binM_eq, cmpM_eq, slM_eq, nr_non, nr_bl, nr_int, nr_str, nr_tup, nr_lst, nr_ty, nr_scr, nr_emp, nrs_nil, nrs_cons, Bool.and_self, Bool.and_true, ev_dnew, List.set_cons_succ, List.set_cons_zero, bin_add, bin_sub, neg_int, cmp_lt, cmp_le, cmp_gt, cmp_ge, cmp_isbl, cmp_notbl, cmp_eq_int, cmp_ne_int, cmp_eq_bl, cmp_ne_bl, truthM_bl, Bool.not_true, Bool.not_false, lenOk0, lenOk1, lenOk2, lenOk3, intD_int, absD_int, lenD_tup, lenD_lst, lenD_scr, tupD_lst, tupD_tup, startE, List.map_cons, List.map_nil, List.length_cons, List.length_nil, Nat.zero_add, Nat.reduceAdd, Nat.reduceSub, List.replicate_succ, List.replicate_zero, List.cons_append, List.nil_append, lenOk_small, Nat.reduceLeDiff, eq_self, items_tup, items_lst, ixM_tup, ixM_lst, decide_true, decide_false, wipeE, lcF_eq, lcB_so, lcC_t, lcC_f, noXM_ret, List.length_map, List.length_range, atI0, atI1, atI2, nc0, nc1, nc2, nc3, nc4, nc5, nc6, nc7, nc8, nc9, e4, hz, lenB, decide_eq_false c3, Bool.true_and, if_true]
end K03

set_option Elab.async false
set_option linter.all false
set_option maxRecDepth 100000
set_option maxHeartbeats 4000000
/-! K03f: values near others. -/
namespace K03
open PySem L2 Gw
mutual
/-- tuples and lists at most n long, depth at most k -/
def vb (n : Nat) : D → Nat → Bool
  | .non, _ => true
  | .bl _, _ => true
  | .int _, _ => true
  | .str x, _ => PyData.canLay0 (.str x)
  | .tup xs, k => match k with
    | 0 => false
    | k + 1 => decide (xs.length ≤ n) && vbs n xs k
  | .lst xs, k => match k with
    | 0 => false
    | k + 1 => decide (xs.length ≤ n) && vbs n xs k
  | _, _ => false
def vbs (n : Nat) : List D → Nat → Bool
  | [], _ => true
  | x :: xs, k => vb n x k && vbs n xs k
end
theorem vbs_iff {n k : Nat} : ∀ {xs : List D}, vbs n xs k = true ↔ ∀ x ∈ xs, vb n x k = true
  | [] => by simp [vbs]
  | x :: xs => by
    rw [show vbs n (x :: xs) k = (vb n x k && vbs n xs k) from by simp only [vbs], Bool.and_eq_true, vbs_iff (xs := xs)]
    simp
theorem vb_pl {n k : Nat} {d : D} (h : vb n d k = true) : pl d = true := by cases d <;> first | rfl | (simp [vb] at h)
theorem vb_tup {n k : Nat} {xs : List D} (h : vb n (.tup xs) k = true) : ∃ j, k = j + 1 ∧ xs.length ≤ n ∧ ∀ x ∈ xs, vb n x j = true := by
  cases k with
  | zero => simp [vb] at h
  | succ j =>
    simp only [vb, Bool.and_eq_true, decide_eq_true_eq] at h
    exact ⟨j, rfl, h.1, vbs_iff.mp h.2⟩
theorem vb_lst {n k : Nat} {xs : List D} (h : vb n (.lst xs) k = true) : ∃ j, k = j + 1 ∧ xs.length ≤ n ∧ ∀ x ∈ xs, vb n x j = true := by
  cases k with
  | zero => simp [vb] at h
  | succ j =>
    simp only [vb, Bool.and_eq_true, decide_eq_true_eq] at h
    exact ⟨j, rfl, h.1, vbs_iff.mp h.2⟩
theorem vb_mkT {n j : Nat} {xs : List D} (h : xs.length ≤ n) (hx : ∀ x ∈ xs, vb n x j = true) : vb n (.tup xs) (j + 1) = true := by
  simp only [vb, Bool.and_eq_true, decide_eq_true_eq]
  exact ⟨h, vbs_iff.mpr hx⟩
theorem vb_mkL {n j : Nat} {xs : List D} (h : xs.length ≤ n) (hx : ∀ x ∈ xs, vb n x j = true) : vb n (.lst xs) (j + 1) = true := by
  simp only [vb, Bool.and_eq_true, decide_eq_true_eq]
  exact ⟨h, vbs_iff.mpr hx⟩
theorem vb_mono : ∀ (k : Nat) (d : D) (n n' k' : Nat), n ≤ n' → k ≤ k' → vb n d k = true → vb n' d k' = true := by
  intro k
  induction k with
  | zero =>
    intro d n n' k' hn hk h
    cases d <;> first | (simp [vb]; done) | (simp [vb] at h; done) | (simpa [vb] using h)
  | succ k ih =>
    intro d n n' k' hn hk h
    obtain ⟨j, rfl⟩ : ∃ j, k' = j + 1 := ⟨k' - 1, by omega⟩
    cases d <;> first | (simp [vb]; done) | (simp [vb] at h; done) | skip
    · simpa [vb] using h
    · obtain ⟨i, e, h1, h2⟩ := vb_tup h
      cases e
      exact vb_mkT (by omega) fun x hx => ih x n n' j hn (by omega) (h2 x hx)
    · obtain ⟨i, e, h1, h2⟩ := vb_lst h
      cases e
      exact vb_mkL (by omega) fun x hx => ih x n n' j hn (by omega) (h2 x hx)
theorem vb_shp : ∀ (k : Nat) (d : D) (n : Nat), vb n d k = true → d.shp k = true := by
  intro k
  induction k with
  | zero =>
    intro d n h
    cases d <;> first | rfl | (simp [vb] at h; done) | (simpa [vb, D.shp] using h)
  | succ k ih =>
    intro d n h
    have key : ∀ xs : List D, (∀ x ∈ xs, vb n x k = true) → D.shps xs k = true := by
      intro xs
      induction xs with
      | nil => exact fun _ => rfl
      | cons x xs ihx => exact fun hx => Bool.and_eq_true_iff.mpr ⟨ih x n (hx x List.mem_cons_self), ihx fun y hy => hx y (List.mem_cons_of_mem _ hy)⟩
    cases d <;> first | rfl | (simp [vb] at h; done) | skip
    · simpa [vb, D.shp] using h
    · obtain ⟨i, e, h1, h2⟩ := vb_tup h
      cases e
      exact key _ h2
    · obtain ⟨i, e, h1, h2⟩ := vb_lst h
      cases e
      exact key _ h2
theorem shps_of {k : Nat} {xs : List D} (h : ∀ x ∈ xs, x.shp k = true) : D.shps xs k = true := by
  induction xs with
  | nil => rfl
  | cons x xs ih => exact Bool.and_eq_true_iff.mpr ⟨h x List.mem_cons_self, ih fun y hy => h y (List.mem_cons_of_mem _ hy)⟩
theorem vb_sv : ∀ (j : Nat) (d : D) (n k : Nat), n ≤ 1000000 → k ≤ 63 → vb n d k = true → SV j d
  | 0, d, n, k, _, _, h => vb_pl h
  | j + 1, d, n, k, hn, hk, h => by
    refine ⟨vb_pl h, fun xs e => ?_⟩
    subst e
    obtain ⟨i, e, h1, h2⟩ := vb_tup h
    subst e
    exact ⟨by omega, shps_of fun x hx => shp_mono x i 63 (by omega) (vb_shp i x n (h2 x hx)), fun x hx => vb_sv j x n i hn (by omega) (h2 x hx)⟩
theorem cut_take {xs : List D} {k : Nat} : cutD xs none (some (k : Int)) = xs.take k := by
  unfold cutD
  rw [HT.sIx_nat, HT.sIx_none, List.drop_zero, Nat.sub_zero]
  by_cases h : k ≤ xs.length
  · rw [Nat.min_eq_left h]
  · rw [Nat.min_eq_right (by omega), List.take_of_length_le (Nat.le_refl _), List.take_of_length_le (by omega)]
theorem cut_drop {xs : List D} {k : Nat} : cutD xs (some (k : Int)) none = xs.drop k := by
  unfold cutD
  rw [HT.sIx_nat, HT.sIx_none]
  by_cases h : k ≤ xs.length
  · rw [Nat.min_eq_left h]
    exact List.take_of_length_le (by rw [List.length_drop]; omega)
  · rw [Nat.min_eq_right (by omega), List.drop_eq_nil_of_le (Nat.le_refl _), List.drop_eq_nil_of_le (by omega)]
    simp
section
variable {st : Sto} {i : Nat}
theorem s7 : PyData.canLay0 (.str (PySem.Str.ofString "7")) = true := by decide +kernel
theorem sMade : PyData.canLay0 (.str (PySem.Str.ofString "made")) = true := by decide +kernel
theorem sPaper : PyData.canLay0 (.str (PySem.Str.ofString "paper")) = true := by decide +kernel
theorem part_non : partD .non = some none := rfl
theorem part_int (k : Int) : partD (.int k) = some (some k) := rfl
theorem sl_lo (xs : List D) (k : Nat) : slD (.tup xs) .non (.int (k : Nat)) = some (.tup (xs.take k)) := by
  show some (D.tup (cutD xs none (some (k : Int)))) = _
  rw [cut_take]
theorem sl_hi (xs : List D) (k : Nat) : slD (.tup xs) (.int (k : Nat)) .non = some (.tup (xs.drop k)) := by
  show some (D.tup (cutD xs (some (k : Int)) none)) = _
  rw [cut_drop]
theorem nat_succ (k : Nat) : ((k : Nat) : Int) + 1 = ((k + 1 : Nat) : Int) := by omega
theorem vb_isT {n k : Nat} {xs : List D} (hk : k ≤ 60) (h : vb n (.tup xs) k = true) : D.shps xs 63 = true := by
  obtain ⟨j, e, h1, h2⟩ := vb_tup h
  exact shps_of fun x hx => shp_mono x j 63 (by omega) (vb_shp j x n (h2 x hx))
theorem vb_tru {n k : Nat} {xs : List D} (h : vb n (.tup xs) k = true) : xs.length ≤ n := let ⟨_, _, h1, _⟩ := vb_tup h; h1
def vbP (n k : Nat) (v : D) (s st : Sto) : Prop := s = st ∧ vb n v k = true
theorem mul_two (x : Int) : binD .Mult (.int 2) (.int x) = some (.int (2 * x)) := bin_mul (okMul_l (by decide))
theorem bent_step {r : List D → M D} {d : D} {n k : Nat} (hs : st[i]? = some .hat) (hk : k ≤ 60) (hn1 : 1 ≤ n) (hn : n ≤ 1000) (h : vb n d k = true)
    (hr : ∀ xs x j, d = .tup xs → x ∈ xs → k = j + 1 → OkM (r [.ref i, x]) st (fun v s => s = st ∧ vb (n + 1) v (j + 2) = true) NoE) :
    OkM (fnM 4 2 (c__law_jg_bent r) [.ref i, d]) st (fun v s => s = st ∧ vb (n + 1) v (k + 2) = true) NoE := by
  rw [fn2]
  unfold c__law_jg_bent
  have hp := vb_pl h
  have odd : OkM (andThen (mOut [.ref i, .lst [.tup [], .tup [.tup []], .tup [.int 0], .non, .int 0, .str (PySem.Str.ofString "made"), .lst [], .tup [.int 1, .tup []]]]) fun x => ret x) st (fun v s => s = st ∧ vb (n + 1) v (k + 2) = true) NoE := by
    refine out_all hs (by simp) (by simp) fun x hx => ⟨rfl, ?_⟩
    obtain ⟨m, rfl⟩ : ∃ m, n = m + 1 := ⟨n - 1, by omega⟩
    simp only [List.mem_cons, List.not_mem_nil, or_false] at hx
    rcases hx with rfl | rfl | rfl | rfl | rfl | rfl | rfl | rfl
    all_goals simp [vb, vbs, sMade]
  by_cases hI : isI d = true
  · cases d <;> first | (cases hI; done) | skip
    rename_i z
    have e1 : isiD [.int z, .ty "int"] = some (.bl true) := rfl
    have e2 : isiD [.int z, .ty "bool"] = some (.bl false) := rfl
    simp only [ex_seq, nxt_nx, nxt_rt, nxt_ct, nxt_bk, ex_ifs, brn_t, brn_f, ex_pass, ex_ret, ex_expr, ex_asg, bndM_so, ex_par, ex_aug, ex_for, endD_nx, endD_rt, bind_nm, bind_nil, bind_cons, bind_consl, ev_var, ev_c, ev_bin, ev_neg, ev_cmp, chn_t, chn_f, ev_chain, ev_and, ev_or, ev_ite, and_t, and_f, or_t, or_f, ite_t, ite_f, ev_not, ev_tup, ev_lst, ev_ix, ev_sl, intM_int, ev_int, ev_lc, ev_call, evs_nil, evs_cons, evs_star, evs_it1, evs_rng1, evs_rng2, evs_zip, evs_enum, andThen_ret, andThen_assoc, optM_so, List.getElem?_cons_succ, List.getElem?_cons_zero, slotM_so, Option.bind_some, Option.map_some, bi_eq, binM_eq, cmpM_eq, slM_eq, nr_non, nr_bl, nr_int, nr_str, nr_tup, nr_lst, nr_ty, nr_scr, nr_emp, nrs_nil, nrs_cons, Bool.and_self, Bool.and_true, ev_dnew, List.set_cons_succ, List.set_cons_zero, bin_add, bin_sub, neg_int, cmp_lt, cmp_le, cmp_gt, cmp_ge, cmp_isbl, cmp_notbl, cmp_eq_int, cmp_ne_int, cmp_eq_bl, cmp_ne_bl, truthM_bl, Bool.not_true, Bool.not_false, lenOk0, lenOk1, lenOk2, lenOk3, intD_int, absD_int, lenD_tup, lenD_lst, lenD_scr, tupD_lst, tupD_tup, startE, List.map_cons, List.map_nil, List.length_cons, List.length_nil, Nat.zero_add, Nat.reduceAdd, Nat.reduceSub, List.replicate_succ, List.replicate_zero, List.cons_append, List.nil_append, lenOk_small, Nat.reduceLeDiff, eq_self, items_tup, items_lst, ixM_tup, ixM_lst, decide_true, decide_false, wipeE, lcF_eq, lcB_so, lcC_t, lcC_f, noXM_ret, List.length_map, List.length_range, atI0, atI1, atI2, nc0, nc1, nc2, nc3, nc4, nc5, nc6, nc7, nc8, nc9, e1, e2, mul_two, eOut]
    refine out_all hs (by simp) (by simp) fun x hx => ⟨rfl, ?_⟩
    simp only [List.mem_cons, List.not_mem_nil, or_false] at hx
    rcases hx with rfl | rfl | rfl | rfl | rfl | rfl | rfl
    all_goals simp [vb, s7]
  have hI' : isI d = false := by simpa using hI
  have eint : ev (.and_ (.call (bi isiD) (.cons (.var 1) (.cons (.c (.ty "int")) .nil))) (.not_ (.call (bi isiD) (.cons (.var 1) (.cons (.c (.ty "bool")) .nil))))) [some (.ref i), some d, none, none] = ret (.bl false) := by
    cases hB : isB d <;> simp only [ex_seq, nxt_nx, nxt_rt, nxt_ct, nxt_bk, ex_ifs, brn_t, brn_f, ex_pass, ex_ret, ex_expr, ex_asg, bndM_so, ex_par, ex_aug, ex_for, endD_nx, endD_rt, bind_nm, bind_nil, bind_cons, bind_consl, ev_var, ev_c, ev_bin, ev_neg, ev_cmp, chn_t, chn_f, ev_chain, ev_and, ev_or, ev_ite, and_t, and_f, or_t, or_f, ite_t, ite_f, ev_not, ev_tup, ev_lst, ev_ix, ev_sl, intM_int, ev_int, ev_lc, ev_call, evs_nil, evs_cons, evs_star, evs_it1, evs_rng1, evs_rng2, evs_zip, evs_enum, andThen_ret, andThen_assoc, optM_so, List.getElem?_cons_succ, List.getElem?_cons_zero, slotM_so, Option.bind_some, Option.map_some, bi_eq, binM_eq, cmpM_eq, slM_eq, nr_non, nr_bl, nr_int, nr_str, nr_tup, nr_lst, nr_ty, nr_scr, nr_emp, nrs_nil, nrs_cons, Bool.and_self, Bool.and_true, ev_dnew, List.set_cons_succ, List.set_cons_zero, bin_add, bin_sub, neg_int, cmp_lt, cmp_le, cmp_gt, cmp_ge, cmp_isbl, cmp_notbl, cmp_eq_int, cmp_ne_int, cmp_eq_bl, cmp_ne_bl, truthM_bl, Bool.not_true, Bool.not_false, lenOk0, lenOk1, lenOk2, lenOk3, intD_int, absD_int, lenD_tup, lenD_lst, lenD_scr, tupD_lst, tupD_tup, startE, List.map_cons, List.map_nil, List.length_cons, List.length_nil, Nat.zero_add, Nat.reduceAdd, Nat.reduceSub, List.replicate_succ, List.replicate_zero, List.cons_append, List.nil_append, lenOk_small, Nat.reduceLeDiff, eq_self, items_tup, items_lst, ixM_tup, ixM_lst, decide_true, decide_false, wipeE, lcF_eq, lcB_so, lcC_t, lcC_f, noXM_ret, List.length_map, List.length_range, atI0, atI1, atI2, nc0, nc1, nc2, nc3, nc4, nc5, nc6, nc7, nc8, nc9, pl_nr hp, isi_i hp, isi_b hp, hI', hB, Bool.or_false, Bool.or_true, Bool.or_self]
  by_cases hT : isT d = true
  case neg =>
    have hT' : isT d = false := by simpa using hT
    simp only [ex_seq, ex_ifs, startE, List.map_cons, List.map_nil, List.length_cons, List.length_nil, Nat.zero_add, Nat.reduceAdd, Nat.reduceSub, List.replicate_succ, List.replicate_zero, List.cons_append, List.nil_append, eint, andThen_ret, brn_f]
    simp only [ex_seq, nxt_nx, nxt_rt, nxt_ct, nxt_bk, ex_ifs, brn_t, brn_f, ex_pass, ex_ret, ex_expr, ex_asg, bndM_so, ex_par, ex_aug, ex_for, endD_nx, endD_rt, bind_nm, bind_nil, bind_cons, bind_consl, ev_var, ev_c, ev_bin, ev_neg, ev_cmp, chn_t, chn_f, ev_chain, ev_and, ev_or, ev_ite, and_t, and_f, or_t, or_f, ite_t, ite_f, ev_not, ev_tup, ev_lst, ev_ix, ev_sl, intM_int, ev_int, ev_lc, ev_call, evs_nil, evs_cons, evs_star, evs_it1, evs_rng1, evs_rng2, evs_zip, evs_enum, andThen_ret, andThen_assoc, optM_so, List.getElem?_cons_succ, List.getElem?_cons_zero, slotM_so, Option.bind_some, Option.map_some, bi_eq, binM_eq, cmpM_eq, slM_eq, nr_non, nr_bl, nr_int, nr_str, nr_tup, nr_lst, nr_ty, nr_scr, nr_emp, nrs_nil, nrs_cons, Bool.and_self, Bool.and_true, ev_dnew, List.set_cons_succ, List.set_cons_zero, bin_add, bin_sub, neg_int, cmp_lt, cmp_le, cmp_gt, cmp_ge, cmp_isbl, cmp_notbl, cmp_eq_int, cmp_ne_int, cmp_eq_bl, cmp_ne_bl, truthM_bl, Bool.not_true, Bool.not_false, lenOk0, lenOk1, lenOk2, lenOk3, intD_int, absD_int, lenD_tup, lenD_lst, lenD_scr, tupD_lst, tupD_tup, startE, List.map_cons, List.map_nil, List.length_cons, List.length_nil, Nat.zero_add, Nat.reduceAdd, Nat.reduceSub, List.replicate_succ, List.replicate_zero, List.cons_append, List.nil_append, lenOk_small, Nat.reduceLeDiff, eq_self, items_tup, items_lst, ixM_tup, ixM_lst, decide_true, decide_false, wipeE, lcF_eq, lcB_so, lcC_t, lcC_f, noXM_ret, List.length_map, List.length_range, atI0, atI1, atI2, nc0, nc1, nc2, nc3, nc4, nc5, nc6, nc7, nc8, nc9, pl_nr hp, isi_t hp, hT', eOut]
    exact odd
  cases d <;> first | (cases hT; done) | skip
  rename_i xs
  by_cases hxs : xs = []
  · subst hxs
    simp only [ex_seq, ex_ifs, startE, List.map_cons, List.map_nil, List.length_cons, List.length_nil, Nat.zero_add, Nat.reduceAdd, Nat.reduceSub, List.replicate_succ, List.replicate_zero, List.cons_append, List.nil_append, eint, andThen_ret, brn_f]
    simp only [ex_seq, nxt_nx, nxt_rt, nxt_ct, nxt_bk, ex_ifs, brn_t, brn_f, ex_pass, ex_ret, ex_expr, ex_asg, bndM_so, ex_par, ex_aug, ex_for, endD_nx, endD_rt, bind_nm, bind_nil, bind_cons, bind_consl, ev_var, ev_c, ev_bin, ev_neg, ev_cmp, chn_t, chn_f, ev_chain, ev_and, ev_or, ev_ite, and_t, and_f, or_t, or_f, ite_t, ite_f, ev_not, ev_tup, ev_lst, ev_ix, ev_sl, intM_int, ev_int, ev_lc, ev_call, evs_nil, evs_cons, evs_star, evs_it1, evs_rng1, evs_rng2, evs_zip, evs_enum, andThen_ret, andThen_assoc, optM_so, List.getElem?_cons_succ, List.getElem?_cons_zero, slotM_so, Option.bind_some, Option.map_some, bi_eq, binM_eq, cmpM_eq, slM_eq, nr_non, nr_bl, nr_int, nr_str, nr_tup, nr_lst, nr_ty, nr_scr, nr_emp, nrs_nil, nrs_cons, Bool.and_self, Bool.and_true, ev_dnew, List.set_cons_succ, List.set_cons_zero, bin_add, bin_sub, neg_int, cmp_lt, cmp_le, cmp_gt, cmp_ge, cmp_isbl, cmp_notbl, cmp_eq_int, cmp_ne_int, cmp_eq_bl, cmp_ne_bl, truthM_bl, Bool.not_true, Bool.not_false, lenOk0, lenOk1, lenOk2, lenOk3, intD_int, absD_int, lenD_tup, lenD_lst, lenD_scr, tupD_lst, tupD_tup, startE, List.map_cons, List.map_nil, List.length_cons, List.length_nil, Nat.zero_add, Nat.reduceAdd, Nat.reduceSub, List.replicate_succ, List.replicate_zero, List.cons_append, List.nil_append, lenOk_small, Nat.reduceLeDiff, eq_self, items_tup, items_lst, ixM_tup, ixM_lst, decide_true, decide_false, wipeE, lcF_eq, lcB_so, lcC_t, lcC_f, noXM_ret, List.length_map, List.length_range, atI0, atI1, atI2, nc0, nc1, nc2, nc3, nc4, nc5, nc6, nc7, nc8, nc9, isi_tup, eq_nil_tup (vb_isT hk h), List.isEmpty_nil, eOut]
    exact odd
  have hemp : xs.isEmpty = false := by simpa using hxs
  obtain ⟨j, ej, hl, hx⟩ := vb_tup h
  subst ej
  have hl0 : 0 < xs.length := List.length_pos_iff.mpr hxs
  simp only [ex_seq, ex_ifs, startE, List.map_cons, List.map_nil, List.length_cons, List.length_nil, Nat.zero_add, Nat.reduceAdd, Nat.reduceSub, List.replicate_succ, List.replicate_zero, List.cons_append, List.nil_append, eint, andThen_ret, brn_f]
  simp only [ex_seq, nxt_nx, nxt_rt, nxt_ct, nxt_bk, ex_ifs, brn_t, brn_f, ex_pass, ex_ret, ex_expr, ex_asg, bndM_so, ex_par, ex_aug, ex_for, endD_nx, endD_rt, bind_nm, bind_nil, bind_cons, bind_consl, ev_var, ev_c, ev_bin, ev_neg, ev_cmp, chn_t, chn_f, ev_chain, ev_and, ev_or, ev_ite, and_t, and_f, or_t, or_f, ite_t, ite_f, ev_not, ev_tup, ev_lst, ev_ix, ev_sl, intM_int, ev_int, ev_lc, ev_call, evs_nil, evs_cons, evs_star, evs_it1, evs_rng1, evs_rng2, evs_zip, evs_enum, andThen_ret, andThen_assoc, optM_so, List.getElem?_cons_succ, List.getElem?_cons_zero, slotM_so, Option.bind_some, Option.map_some, bi_eq, binM_eq, cmpM_eq, slM_eq, nr_non, nr_bl, nr_int, nr_str, nr_tup, nr_lst, nr_ty, nr_scr, nr_emp, nrs_nil, nrs_cons, Bool.and_self, Bool.and_true, ev_dnew, List.set_cons_succ, List.set_cons_zero, bin_add, bin_sub, neg_int, cmp_lt, cmp_le, cmp_gt, cmp_ge, cmp_isbl, cmp_notbl, cmp_eq_int, cmp_ne_int, cmp_eq_bl, cmp_ne_bl, truthM_bl, Bool.not_true, Bool.not_false, lenOk0, lenOk1, lenOk2, lenOk3, intD_int, absD_int, lenD_tup, lenD_lst, lenD_scr, tupD_lst, tupD_tup, startE, List.map_cons, List.map_nil, List.length_cons, List.length_nil, Nat.zero_add, Nat.reduceAdd, Nat.reduceSub, List.replicate_succ, List.replicate_zero, List.cons_append, List.nil_append, lenOk_small, Nat.reduceLeDiff, eq_self, items_tup, items_lst, ixM_tup, ixM_lst, decide_true, decide_false, wipeE, lcF_eq, lcB_so, lcC_t, lcC_f, noXM_ret, List.length_map, List.length_range, atI0, atI1, atI2, nc0, nc1, nc2, nc3, nc4, nc5, nc6, nc7, nc8, nc9, isi_tup, eq_nil_tup (vb_isT hk h), hemp, eUp]
  refine draw_all hs (by omega) (by omega) fun a ha => ?_
  try simp only [ex_seq, nxt_nx, nxt_rt, nxt_ct, nxt_bk, ex_ifs, brn_t, brn_f, ex_pass, ex_ret, ex_expr, ex_asg, bndM_so, ex_par, ex_aug, ex_for, endD_nx, endD_rt, bind_nm, bind_nil, bind_cons, bind_consl, ev_var, ev_c, ev_bin, ev_neg, ev_cmp, chn_t, chn_f, ev_chain, ev_and, ev_or, ev_ite, and_t, and_f, or_t, or_f, ite_t, ite_f, ev_not, ev_tup, ev_lst, ev_ix, ev_sl, intM_int, ev_int, ev_lc, ev_call, evs_nil, evs_cons, evs_star, evs_it1, evs_rng1, evs_rng2, evs_zip, evs_enum, andThen_ret, andThen_assoc, optM_so, List.getElem?_cons_succ, List.getElem?_cons_zero, slotM_so, Option.bind_some, Option.map_some, bi_eq, binM_eq, cmpM_eq, slM_eq, nr_non, nr_bl, nr_int, nr_str, nr_tup, nr_lst, nr_ty, nr_scr, nr_emp, nrs_nil, nrs_cons, Bool.and_self, Bool.and_true, ev_dnew, List.set_cons_succ, List.set_cons_zero, bin_add, bin_sub, neg_int, cmp_lt, cmp_le, cmp_gt, cmp_ge, cmp_isbl, cmp_notbl, cmp_eq_int, cmp_ne_int, cmp_eq_bl, cmp_ne_bl, truthM_bl, Bool.not_true, Bool.not_false, lenOk0, lenOk1, lenOk2, lenOk3, intD_int, absD_int, lenD_tup, lenD_lst, lenD_scr, tupD_lst, tupD_tup, startE, List.map_cons, List.map_nil, List.length_cons, List.length_nil, Nat.zero_add, Nat.reduceAdd, Nat.reduceSub, List.replicate_succ, List.replicate_zero, List.cons_append, List.nil_append, lenOk_small, Nat.reduceLeDiff, eq_self, items_tup, items_lst, ixM_tup, ixM_lst, decide_true, decide_false, wipeE, lcF_eq, lcB_so, lcC_t, lcC_f, noXM_ret, List.length_map, List.length_range, atI0, atI1, atI2, nc0, nc1, nc2, nc3, nc4, nc5, nc6, nc7, nc8, nc9, eUp]
  refine draw_all hs (by decide) (by decide) fun b hb => ?_
  have ha' : a < xs.length := by omega
  have hmem : ∀ {ys : List D}, (∀ y ∈ ys, y ∈ xs) → ys.length ≤ n + 1 → vb (n + 1) (.tup ys) (j + 1 + 2) = true := fun {ys} hy hly => vb_mkT hly fun y hy' => vb_mono j y n (n + 1) (j + 2) (by omega) (by omega) (hx y (hy y hy'))
  have big : ∀ m : Nat, m ≤ 1002 → m ≤ sizeLine := fun m hm => Nat.le_trans (Nat.le_trans hm (by decide)) line_big
  by_cases b0 : (b : Int) = 0
  · simp only [ex_seq, nxt_nx, nxt_rt, nxt_ct, nxt_bk, ex_ifs, brn_t, brn_f, ex_pass, ex_ret, ex_expr, ex_asg, bndM_so, ex_par, ex_aug, ex_for, endD_nx, endD_rt, bind_nm, bind_nil, bind_cons, bind_consl, ev_var, ev_c, ev_bin, ev_neg, ev_cmp, chn_t, chn_f, ev_chain, ev_and, ev_or, ev_ite, and_t, and_f, or_t, or_f, ite_t, ite_f, ev_not, ev_tup, ev_lst, ev_ix, ev_sl, intM_int, ev_int, ev_lc, ev_call, evs_nil, evs_cons, evs_star, evs_it1, evs_rng1, evs_rng2, evs_zip, evs_enum, andThen_ret, andThen_assoc, optM_so, List.getElem?_cons_succ, List.getElem?_cons_zero, slotM_so, Option.bind_some, Option.map_some, bi_eq, binM_eq, cmpM_eq, slM_eq, nr_non, nr_bl, nr_int, nr_str, nr_tup, nr_lst, nr_ty, nr_scr, nr_emp, nrs_nil, nrs_cons, Bool.and_self, Bool.and_true, ev_dnew, List.set_cons_succ, List.set_cons_zero, bin_add, bin_sub, neg_int, cmp_lt, cmp_le, cmp_gt, cmp_ge, cmp_isbl, cmp_notbl, cmp_eq_int, cmp_ne_int, cmp_eq_bl, cmp_ne_bl, truthM_bl, Bool.not_true, Bool.not_false, lenOk0, lenOk1, lenOk2, lenOk3, intD_int, absD_int, lenD_tup, lenD_lst, lenD_scr, tupD_lst, tupD_tup, startE, List.map_cons, List.map_nil, List.length_cons, List.length_nil, Nat.zero_add, Nat.reduceAdd, Nat.reduceSub, List.replicate_succ, List.replicate_zero, List.cons_append, List.nil_append, lenOk_small, Nat.reduceLeDiff, eq_self, items_tup, items_lst, ixM_tup, ixM_lst, decide_true, decide_false, wipeE, lcF_eq, lcB_so, lcC_t, lcC_f, noXM_ret, List.length_map, List.length_range, atI0, atI1, atI2, nc0, nc1, nc2, nc3, nc4, nc5, nc6, nc7, nc8, nc9, decide_eq_true b0, nat_succ, sl_lo, sl_hi, bin_tup (xs := xs.take a) (ys := xs.drop (a + 1)) (big _ (by rw [List.length_take, List.length_drop]; omega))]
    refine ⟨rfl, hmem (fun y hy => ?_) (by rw [List.length_append, List.length_take, List.length_drop]; omega)⟩
    rcases List.mem_append.mp hy with z | z
    · exact List.mem_of_mem_take z
    · exact List.mem_of_mem_drop z
  by_cases b1 : (b : Int) = 1
  · simp only [ex_seq, nxt_nx, nxt_rt, nxt_ct, nxt_bk, ex_ifs, brn_t, brn_f, ex_pass, ex_ret, ex_expr, ex_asg, bndM_so, ex_par, ex_aug, ex_for, endD_nx, endD_rt, bind_nm, bind_nil, bind_cons, bind_consl, ev_var, ev_c, ev_bin, ev_neg, ev_cmp, chn_t, chn_f, ev_chain, ev_and, ev_or, ev_ite, and_t, and_f, or_t, or_f, ite_t, ite_f, ev_not, ev_tup, ev_lst, ev_ix, ev_sl, intM_int, ev_int, ev_lc, ev_call, evs_nil, evs_cons, evs_star, evs_it1, evs_rng1, evs_rng2, evs_zip, evs_enum, andThen_ret, andThen_assoc, optM_so, List.getElem?_cons_succ, List.getElem?_cons_zero, slotM_so, Option.bind_some, Option.map_some, bi_eq, binM_eq, cmpM_eq, slM_eq, nr_non, nr_bl, nr_int, nr_str, nr_tup, nr_lst, nr_ty, nr_scr, nr_emp, nrs_nil, nrs_cons, Bool.and_self, Bool.and_true, ev_dnew, List.set_cons_succ, List.set_cons_zero, bin_add, bin_sub, neg_int, cmp_lt, cmp_le, cmp_gt, cmp_ge, cmp_isbl, cmp_notbl, cmp_eq_int, cmp_ne_int, cmp_eq_bl, cmp_ne_bl, truthM_bl, Bool.not_true, Bool.not_false, lenOk0, lenOk1, lenOk2, lenOk3, intD_int, absD_int, lenD_tup, lenD_lst, lenD_scr, tupD_lst, tupD_tup, startE, List.map_cons, List.map_nil, List.length_cons, List.length_nil, Nat.zero_add, Nat.reduceAdd, Nat.reduceSub, List.replicate_succ, List.replicate_zero, List.cons_append, List.nil_append, lenOk_small, Nat.reduceLeDiff, eq_self, items_tup, items_lst, ixM_tup, ixM_lst, decide_true, decide_false, wipeE, lcF_eq, lcB_so, lcC_t, lcC_f, noXM_ret, List.length_map, List.length_range, atI0, atI1, atI2, nc0, nc1, nc2, nc3, nc4, nc5, nc6, nc7, nc8, nc9, decide_eq_false b0, decide_eq_true b1, nat_succ, sl_lo, sl_hi, bin_tup (xs := xs.take (a + 1)) (ys := xs.drop a) (big _ (by rw [List.length_take, List.length_drop]; omega))]
    refine ⟨rfl, hmem (fun y hy => ?_) (by rw [List.length_append, List.length_take, List.length_drop]; omega)⟩
    rcases List.mem_append.mp hy with z | z
    · exact List.mem_of_mem_take z
    · exact List.mem_of_mem_drop z
  by_cases b2 : (b : Int) = 2
  · have eL : listD [.tup xs] = some (.lst xs) := rfl
    simp only [ex_seq, nxt_nx, nxt_rt, nxt_ct, nxt_bk, ex_ifs, brn_t, brn_f, ex_pass, ex_ret, ex_expr, ex_asg, bndM_so, ex_par, ex_aug, ex_for, endD_nx, endD_rt, bind_nm, bind_nil, bind_cons, bind_consl, ev_var, ev_c, ev_bin, ev_neg, ev_cmp, chn_t, chn_f, ev_chain, ev_and, ev_or, ev_ite, and_t, and_f, or_t, or_f, ite_t, ite_f, ev_not, ev_tup, ev_lst, ev_ix, ev_sl, intM_int, ev_int, ev_lc, ev_call, evs_nil, evs_cons, evs_star, evs_it1, evs_rng1, evs_rng2, evs_zip, evs_enum, andThen_ret, andThen_assoc, optM_so, List.getElem?_cons_succ, List.getElem?_cons_zero, slotM_so, Option.bind_some, Option.map_some, bi_eq, binM_eq, cmpM_eq, slM_eq, nr_non, nr_bl, nr_int, nr_str, nr_tup, nr_lst, nr_ty, nr_scr, nr_emp, nrs_nil, nrs_cons, Bool.and_self, Bool.and_true, ev_dnew, List.set_cons_succ, List.set_cons_zero, bin_add, bin_sub, neg_int, cmp_lt, cmp_le, cmp_gt, cmp_ge, cmp_isbl, cmp_notbl, cmp_eq_int, cmp_ne_int, cmp_eq_bl, cmp_ne_bl, truthM_bl, Bool.not_true, Bool.not_false, lenOk0, lenOk1, lenOk2, lenOk3, intD_int, absD_int, lenD_tup, lenD_lst, lenD_scr, tupD_lst, tupD_tup, startE, List.map_cons, List.map_nil, List.length_cons, List.length_nil, Nat.zero_add, Nat.reduceAdd, Nat.reduceSub, List.replicate_succ, List.replicate_zero, List.cons_append, List.nil_append, lenOk_small, Nat.reduceLeDiff, eq_self, items_tup, items_lst, ixM_tup, ixM_lst, decide_true, decide_false, wipeE, lcF_eq, lcB_so, lcC_t, lcC_f, noXM_ret, List.length_map, List.length_range, atI0, atI1, atI2, nc0, nc1, nc2, nc3, nc4, nc5, nc6, nc7, nc8, nc9, decide_eq_false b0, decide_eq_false b1, decide_eq_true b2, eL]
    exact ⟨rfl, vb_mkL (by omega) fun y hy => vb_mono j y n (n + 1) (j + 2) (by omega) (by omega) (hx y hy)⟩
  have e4 : atI xs ((a : Nat) : Int) = some xs[a] := atI_nat (List.getElem?_eq_getElem ha')
  simp only [ex_seq, nxt_nx, nxt_rt, nxt_ct, nxt_bk, ex_ifs, brn_t, brn_f, ex_pass, ex_ret, ex_expr, ex_asg, bndM_so, ex_par, ex_aug, ex_for, endD_nx, endD_rt, bind_nm, bind_nil, bind_cons, bind_consl, ev_var, ev_c, ev_bin, ev_neg, ev_cmp, chn_t, chn_f, ev_chain, ev_and, ev_or, ev_ite, and_t, and_f, or_t, or_f, ite_t, ite_f, ev_not, ev_tup, ev_lst, ev_ix, ev_sl, intM_int, ev_int, ev_lc, ev_call, evs_nil, evs_cons, evs_star, evs_it1, evs_rng1, evs_rng2, evs_zip, evs_enum, andThen_ret, andThen_assoc, optM_so, List.getElem?_cons_succ, List.getElem?_cons_zero, slotM_so, Option.bind_some, Option.map_some, bi_eq, binM_eq, cmpM_eq, slM_eq, nr_non, nr_bl, nr_int, nr_str, nr_tup, nr_lst, nr_ty, nr_scr, nr_emp, nrs_nil, nrs_cons, Bool.and_self, Bool.and_true, ev_dnew, List.set_cons_succ, List.set_cons_zero, bin_add, bin_sub, neg_int, cmp_lt, cmp_le, cmp_gt, cmp_ge, cmp_isbl, cmp_notbl, cmp_eq_int, cmp_ne_int, cmp_eq_bl, cmp_ne_bl, truthM_bl, Bool.not_true, Bool.not_false, lenOk0, lenOk1, lenOk2, lenOk3, intD_int, absD_int, lenD_tup, lenD_lst, lenD_scr, tupD_lst, tupD_tup, startE, List.map_cons, List.map_nil, List.length_cons, List.length_nil, Nat.zero_add, Nat.reduceAdd, Nat.reduceSub, List.replicate_succ, List.replicate_zero, List.cons_append, List.nil_append, lenOk_small, Nat.reduceLeDiff, eq_self, items_tup, items_lst, ixM_tup, ixM_lst, decide_true, decide_false, wipeE, lcF_eq, lcB_so, lcC_t, lcC_f, noXM_ret, List.length_map, List.length_range, atI0, atI1, atI2, nc0, nc1, nc2, nc3, nc4, nc5, nc6, nc7, nc8, nc9, decide_eq_false b0, decide_eq_false b1, decide_eq_false b2, nat_succ, sl_lo, sl_hi, e4]
  refine OkM.use (hr xs xs[a] j rfl (List.getElem_mem ha') rfl) fun v hv => ?_
  simp only [ex_seq, nxt_nx, nxt_rt, nxt_ct, nxt_bk, ex_ifs, brn_t, brn_f, ex_pass, ex_ret, ex_expr, ex_asg, bndM_so, ex_par, ex_aug, ex_for, endD_nx, endD_rt, bind_nm, bind_nil, bind_cons, bind_consl, ev_var, ev_c, ev_bin, ev_neg, ev_cmp, chn_t, chn_f, ev_chain, ev_and, ev_or, ev_ite, and_t, and_f, or_t, or_f, ite_t, ite_f, ev_not, ev_tup, ev_lst, ev_ix, ev_sl, intM_int, ev_int, ev_lc, ev_call, evs_nil, evs_cons, evs_star, evs_it1, evs_rng1, evs_rng2, evs_zip, evs_enum, andThen_ret, andThen_assoc, optM_so, List.getElem?_cons_succ, List.getElem?_cons_zero, slotM_so, Option.bind_some, Option.map_some, bi_eq, binM_eq, cmpM_eq, slM_eq, nr_non, nr_bl, nr_int, nr_str, nr_tup, nr_lst, nr_ty, nr_scr, nr_emp, nrs_nil, nrs_cons, Bool.and_self, Bool.and_true, ev_dnew, List.set_cons_succ, List.set_cons_zero, bin_add, bin_sub, neg_int, cmp_lt, cmp_le, cmp_gt, cmp_ge, cmp_isbl, cmp_notbl, cmp_eq_int, cmp_ne_int, cmp_eq_bl, cmp_ne_bl, truthM_bl, Bool.not_true, Bool.not_false, lenOk0, lenOk1, lenOk2, lenOk3, intD_int, absD_int, lenD_tup, lenD_lst, lenD_scr, tupD_lst, tupD_tup, startE, List.map_cons, List.map_nil, List.length_cons, List.length_nil, Nat.zero_add, Nat.reduceAdd, Nat.reduceSub, List.replicate_succ, List.replicate_zero, List.cons_append, List.nil_append, lenOk_small, Nat.reduceLeDiff, eq_self, items_tup, items_lst, ixM_tup, ixM_lst, decide_true, decide_false, wipeE, lcF_eq, lcB_so, lcC_t, lcC_f, noXM_ret, List.length_map, List.length_range, atI0, atI1, atI2, nc0, nc1, nc2, nc3, nc4, nc5, nc6, nc7, nc8, nc9, nat_succ, sl_lo, sl_hi, bin_tup (xs := xs.take a) (ys := [v]) (big _ (by rw [List.length_take, List.length_cons, List.length_nil]; omega)), bin_tup (xs := xs.take a ++ [v]) (ys := xs.drop (a + 1)) (big _ (by rw [List.length_append, List.length_take, List.length_drop, List.length_cons, List.length_nil]; omega))]
  refine ⟨rfl, vb_mkT (by rw [List.length_append, List.length_append, List.length_take, List.length_drop, List.length_cons, List.length_nil]; omega) fun y hy => ?_⟩
  rcases List.mem_append.mp hy with z | z
  · rcases List.mem_append.mp z with z | z
    · exact vb_mono j y n (n + 1) (j + 2) (by omega) (by omega) (hx y (List.mem_of_mem_take z))
    · rw [List.mem_singleton.mp z]; exact hv
  · exact vb_mono j y n (n + 1) (j + 2) (by omega) (by omega) (hx y (List.mem_of_mem_drop z))
theorem bent : ∀ (k fuel n : Nat) (d : D), k < fuel → k ≤ 60 → 1 ≤ n → n ≤ 1000 → vb n d k = true → st[i]? = some .hat → OkM (m__law_jg_bent fuel [.ref i, d]) st (fun v s => s = st ∧ vb (n + 1) v (k + 2) = true) NoE := by
  intro k
  induction k with
  | zero =>
    intro fuel n d hf hk hn1 hn h hs
    obtain ⟨f, rfl⟩ : ∃ f, fuel = f + 1 := ⟨fuel - 1, by omega⟩
    exact bent_step (r := m__law_jg_bent f) hs hk hn1 hn h fun xs x j e hx ej => by omega
  | succ k ih =>
    intro fuel n d hf hk hn1 hn h hs
    obtain ⟨f, rfl⟩ : ∃ f, fuel = f + 1 := ⟨fuel - 1, by omega⟩
    refine bent_step (r := m__law_jg_bent f) hs hk hn1 hn h fun xs x j e hx ej => ?_
    subst e
    obtain ⟨j', e', _, hx'⟩ := vb_tup h
    obtain rfl : j' = k := by omega
    obtain rfl : j = j' := by omega
    exact ih f n x (by omega) (by omega) hn1 hn (hx' x hx) hs
end
end K03

set_option Elab.async false
set_option linter.all false
set_option maxRecDepth 100000
set_option maxHeartbeats 4000000
/-! K03g: lists of values near others. -/
namespace K03
open PySem L2 Gw
def appK (a : E) (e : Ev) (x : D) : M D := match x with
  | .ref r => andThen (ev a e) fun d => appM r d
  | _ => badM
theorem ev_app (o a : E) (e : Ev) : ev (.app o a) e = andThen (ev o e) (appK a e) := (rfl)
theorem appK_ref (a : E) (e : Ev) (r : Nat) : appK a e (.ref r) = andThen (ev a e) (appM r) := (rfl)
def mkL (xs : List D) : M D := fun s => .ok (.ref s.length) (s ++ [.lst xs])
theorem ev_lstM (es : E) (e : Ev) : ev (.lstM es) e = andThen (evs es e) fun xs => andThen (lenOk xs) mkL := (rfl)
section
variable {α : Type} {P : α → Sto → Prop} {E : Str → D → Sto → Prop} {st : Sto}
theorem mkL_all {xs : List D} {f : D → M α} (h : OkM (f (.ref st.length)) (st ++ [.lst xs]) P E) : OkM (andThen (mkL xs) f) st P E := ⟨h.all⟩
theorem app_all {r : Nat} {xs : List D} {d : D} {f : D → M α} (hr : st[r]? = some (.lst xs)) (hl : xs.length ≤ 100000) (h : OkM (f .non) (st.set r (.lst (xs ++ [d]))) P E) : OkM (andThen (appM r d) f) st P E := by
  have e : appM r d st = .ok .non (st.set r (.lst (xs ++ [d]))) := by
    unfold appM
    rw [hr]
    exact if_pos (Nat.lt_of_le_of_lt hl (Nat.lt_of_lt_of_le (by decide) line_big))
  refine ⟨?_⟩
  rw [andThen_at, e]
  exact h.all
theorem forGo_num {g : T} {b : Ev → M (Fl × Ev)} {I : Nat → Ev → Sto → Prop} {E : Str → D → Sto → Prop} : ∀ (xs : List D) (j : Nat) (e : Ev) (st : Sto), (∀ x ∈ xs, ∀ i e st, i < j + xs.length → I i e st → ∃ e', g.bind x e = some e' ∧ OkM (b e') st (fun r s => r.1 = .nx ∧ I (i + 1) r.2 s) E) → I j e st →
    OkM (forGo g b xs e) st (fun r s => r.1 = .nx ∧ I (j + xs.length) r.2 s) E
  | [], j, e, st, _, hI => ⟨⟨rfl, hI⟩⟩
  | x :: xs, j, e, st, h, hI => by
    obtain ⟨e', h1, h2⟩ := h x List.mem_cons_self j e st (by rw [List.length_cons]; omega) hI
    rw [forGo_cons h1]
    refine OkM.then (OkM.mono h2 (fun r s hr => ?_) (fun _ _ _ z => z))
    obtain ⟨fl, e2⟩ := r
    obtain ⟨hf, hI2⟩ := hr
    have hf' : fl = .nx := hf
    subst hf'
    have := forGo_num xs (j + 1) e2 s (fun y hy i e st hi => h y (List.mem_cons_of_mem _ hy) i e st (by rw [List.length_cons]; omega)) hI2
    rw [show j + 1 + xs.length = j + (x :: xs).length by rw [List.length_cons]; omega] at this
    exact this
end
theorem trim_ok {n : Nat} {P : D → Sto → Prop} {E : Str → D → Sto → Prop} : ∀ t : Tr D, t.All (fun v s => ((frzT n v s).rf && (s.take n).all MO.rf) = true ∧ P (frzT n v s) (s.take n)) (fun _ _ _ => False) → (trimT n t).All P E
  | .ok v s, h => by
    have e : trimT n (.ok v s) = .ok (frzT n v s) (s.take n) := if_pos h.1
    rw [e]
    exact h.2
  | .ex x v s, h => h.elim
  | .pick m k, h => fun i hi => trim_ok (k i) (h i hi)
  | .bad, h => h.elim
theorem trim_okM {f : List D → M D} {ds : List D} {st : Sto} {P : D → Sto → Prop} {E : Str → D → Sto → Prop} (h : OkM (f ds) st (fun v s => ((frzT st.length v s).rf && (s.take st.length).all MO.rf) = true ∧ P (frzT st.length v s) (s.take st.length)) (fun _ _ _ => False)) : OkM (trimM f ds) st P E := ⟨trim_ok _ h.all⟩
theorem rfs_of : ∀ {xs : List D}, (∀ x ∈ xs, x.rf = true) → D.rfs xs = true
  | [], _ => rfl
  | x :: xs, h => Bool.and_eq_true_iff.mpr ⟨h x List.mem_cons_self, rfs_of fun y hy => h y (List.mem_cons_of_mem _ hy)⟩
theorem vb_rf : ∀ (k : Nat) (d : D) (n : Nat), vb n d k = true → d.rf = true := by
  intro k
  induction k with
  | zero =>
    intro d n h
    cases d <;> first | rfl | (simp [vb] at h; done)
  | succ k ih =>
    intro d n h
    cases d <;> first | rfl | (simp [vb] at h; done) | skip
    · obtain ⟨i, e, h1, h2⟩ := vb_tup h
      cases e
      exact rfs_of fun x hx => ih x n (h2 x hx)
    · obtain ⟨i, e, h1, h2⟩ := vb_lst h
      cases e
      exact rfs_of fun x hx => ih x n (h2 x hx)
/-- a value near another one -/
def NV (n k : Nat) (x : D) : Prop := x = .emp ∨ vb n x k = true
theorem NV.rf {n k : Nat} {x : D} (h : NV n k x) : x.rf = true := by
  rcases h with rfl | h
  · rfl
  · exact vb_rf k x n h
theorem NV.sv {n k : Nat} {x : D} (h : NV n k x) (hn : n ≤ 1000000) (hk : k ≤ 63) (j : Nat) : SV j x := by
  rcases h with rfl | h
  · cases j with
    | zero => rfl
    | succ j => exact ⟨rfl, fun xs e => by cases e⟩
  · exact vb_sv j x n k hn hk h
section
variable {st : Sto} {i : Nat}
def sTurn : S := (.seq (.asg (.nm 5) (.call (m__law_jg_bent 10) (.cons (.var 0) (.cons (.var 1) .nil)))) (.seq (.expr (.app (.var 3) (.ite (.cmp .Eq (.call m__law_up_to (.cons (.var 0) (.cons (.c (.int 4)) .nil))) (.c (.int 0))) (.call (m__law_jg_bent 10) (.cons (.var 0) (.cons (.var 5) .nil))) (.var 5)))) .pass))
theorem lset {st : Sto} {xs ys : List D} : (st ++ [MO.lst xs]).set st.length (.lst ys) = st ++ [.lst ys] := by
  rw [List.set_append_right _ _ (Nat.le_refl _), Nat.sub_self]
  rfl
theorem lget {st : Sto} {xs : List D} : (st ++ [MO.lst xs])[st.length]? = some (.lst xs) := by
  rw [List.getElem?_append_right (Nat.le_refl _), Nat.sub_self]
  rfl
theorem hget {st : Sto} {xs : List D} (h : st[i]? = some .hat) : (st ++ [MO.lst xs])[i]? = some .hat := by
  rw [List.getElem?_append_left (List.getElem?_eq_some_iff.mp h).1]
  exact h
def nI (st : Sto) (i n k : Nat) (d : D) (m : Int) (j : Nat) (e : Ev) (s : Sto) : Prop := ∃ xs u v, e = [some (.ref i), some d, some (.int m), some (.ref st.length), u, v] ∧ s = st ++ [.lst xs] ∧ xs.length = j + 2 ∧ ∀ x ∈ xs, NV (n + 2) (k + 4) x
theorem turn {n k : Nat} {d : D} {m : Int} {xs : List D} {u v : Option D} {j : Nat} (hs : st[i]? = some .hat) (hk : k ≤ 6) (hn1 : 1 ≤ n) (hn : n ≤ 900) (h : vb n d k = true) (hj : j ≤ 20) (hl : xs.length = j + 2) (hx : ∀ x ∈ xs, NV (n + 2) (k + 4) x) :
    OkM (ex sTurn [some (.ref i), some d, some (.int m), some (.ref st.length), u, v]) (st ++ [.lst xs]) (fun r s => r.1 = .nx ∧ nI st i n k d m (j + 1) r.2 s) NoE := by
  have hs2 : ∀ {ys : List D}, (st ++ [MO.lst ys])[i]? = some .hat := fun {ys} => hget hs
  unfold sTurn
  simp only [ex_seq, nxt_nx, nxt_rt, nxt_ct, nxt_bk, ex_ifs, brn_t, brn_f, ex_pass, ex_ret, ex_expr, ex_asg, bndM_so, ex_par, ex_aug, ex_for, endD_nx, endD_rt, bind_nm, bind_nil, bind_cons, bind_consl, ev_var, ev_c, ev_bin, ev_neg, ev_cmp, chn_t, chn_f, ev_chain, ev_and, ev_or, ev_ite, and_t, and_f, or_t, or_f, ite_t, ite_f, ev_not, ev_tup, ev_lst, ev_ix, ev_sl, intM_int, ev_int, ev_lc, ev_call, evs_nil, evs_cons, evs_star, evs_it1, evs_rng1, evs_rng2, evs_zip, evs_enum, andThen_ret, andThen_assoc, optM_so, List.getElem?_cons_succ, List.getElem?_cons_zero, slotM_so, Option.bind_some, Option.map_some, bi_eq, binM_eq, cmpM_eq, slM_eq, nr_non, nr_bl, nr_int, nr_str, nr_tup, nr_lst, nr_ty, nr_scr, nr_emp, nrs_nil, nrs_cons, Bool.and_self, Bool.and_true, ev_dnew, List.set_cons_succ, List.set_cons_zero, bin_add, bin_sub, neg_int, cmp_lt, cmp_le, cmp_gt, cmp_ge, cmp_isbl, cmp_notbl, cmp_eq_int, cmp_ne_int, cmp_eq_bl, cmp_ne_bl, truthM_bl, Bool.not_true, Bool.not_false, lenOk0, lenOk1, lenOk2, lenOk3, intD_int, absD_int, lenD_tup, lenD_lst, lenD_scr, tupD_lst, tupD_tup, startE, List.map_cons, List.map_nil, List.length_cons, List.length_nil, Nat.zero_add, Nat.reduceAdd, Nat.reduceSub, List.replicate_succ, List.replicate_zero, List.cons_append, List.nil_append, lenOk_small, Nat.reduceLeDiff, eq_self, items_tup, items_lst, ixM_tup, ixM_lst, decide_true, decide_false, wipeE, lcF_eq, lcB_so, lcC_t, lcC_f, noXM_ret, List.length_map, List.length_range, atI0, atI1, atI2, nc0, nc1, nc2, nc3, nc4, nc5, nc6, nc7, nc8, nc9, ev_app, appK_ref]
  refine OkM.use (bent k 10 n d (by omega) (by omega) hn1 (by omega) h hs2) fun w hw => ?_
  simp only [ex_seq, nxt_nx, nxt_rt, nxt_ct, nxt_bk, ex_ifs, brn_t, brn_f, ex_pass, ex_ret, ex_expr, ex_asg, bndM_so, ex_par, ex_aug, ex_for, endD_nx, endD_rt, bind_nm, bind_nil, bind_cons, bind_consl, ev_var, ev_c, ev_bin, ev_neg, ev_cmp, chn_t, chn_f, ev_chain, ev_and, ev_or, ev_ite, and_t, and_f, or_t, or_f, ite_t, ite_f, ev_not, ev_tup, ev_lst, ev_ix, ev_sl, intM_int, ev_int, ev_lc, ev_call, evs_nil, evs_cons, evs_star, evs_it1, evs_rng1, evs_rng2, evs_zip, evs_enum, andThen_ret, andThen_assoc, optM_so, List.getElem?_cons_succ, List.getElem?_cons_zero, slotM_so, Option.bind_some, Option.map_some, bi_eq, binM_eq, cmpM_eq, slM_eq, nr_non, nr_bl, nr_int, nr_str, nr_tup, nr_lst, nr_ty, nr_scr, nr_emp, nrs_nil, nrs_cons, Bool.and_self, Bool.and_true, ev_dnew, List.set_cons_succ, List.set_cons_zero, bin_add, bin_sub, neg_int, cmp_lt, cmp_le, cmp_gt, cmp_ge, cmp_isbl, cmp_notbl, cmp_eq_int, cmp_ne_int, cmp_eq_bl, cmp_ne_bl, truthM_bl, Bool.not_true, Bool.not_false, lenOk0, lenOk1, lenOk2, lenOk3, intD_int, absD_int, lenD_tup, lenD_lst, lenD_scr, tupD_lst, tupD_tup, startE, List.map_cons, List.map_nil, List.length_cons, List.length_nil, Nat.zero_add, Nat.reduceAdd, Nat.reduceSub, List.replicate_succ, List.replicate_zero, List.cons_append, List.nil_append, lenOk_small, Nat.reduceLeDiff, eq_self, items_tup, items_lst, ixM_tup, ixM_lst, decide_true, decide_false, wipeE, lcF_eq, lcB_so, lcC_t, lcC_f, noXM_ret, List.length_map, List.length_range, atI0, atI1, atI2, nc0, nc1, nc2, nc3, nc4, nc5, nc6, nc7, nc8, nc9, ev_app, appK_ref, eUp]
  refine draw_all hs2 (by decide) (by decide) fun q hq => ?_
  have fin : ∀ y, vb (n + 2) y (k + 4) = true → OkM (andThen (appM st.length y) fun x => Gw.ret (Fl.nx, [some (.ref i), some d, some (.int m), some (.ref st.length), u, some w])) (st ++ [.lst xs]) (fun r s => r.1 = .nx ∧ nI st i n k d m (j + 1) r.2 s) NoE := fun y hy => by
    refine app_all lget (by omega) ⟨⟨rfl, xs ++ [y], u, some w, rfl, lset, by rw [List.length_append, List.length_cons, List.length_nil]; omega, fun x hx' => ?_⟩⟩
    rcases List.mem_append.mp hx' with z | z
    · exact hx x z
    · rw [List.mem_singleton.mp z]; exact .inr hy
  by_cases q0 : (q : Int) = 0
  · simp only [ex_seq, nxt_nx, nxt_rt, nxt_ct, nxt_bk, ex_ifs, brn_t, brn_f, ex_pass, ex_ret, ex_expr, ex_asg, bndM_so, ex_par, ex_aug, ex_for, endD_nx, endD_rt, bind_nm, bind_nil, bind_cons, bind_consl, ev_var, ev_c, ev_bin, ev_neg, ev_cmp, chn_t, chn_f, ev_chain, ev_and, ev_or, ev_ite, and_t, and_f, or_t, or_f, ite_t, ite_f, ev_not, ev_tup, ev_lst, ev_ix, ev_sl, intM_int, ev_int, ev_lc, ev_call, evs_nil, evs_cons, evs_star, evs_it1, evs_rng1, evs_rng2, evs_zip, evs_enum, andThen_ret, andThen_assoc, optM_so, List.getElem?_cons_succ, List.getElem?_cons_zero, slotM_so, Option.bind_some, Option.map_some, bi_eq, binM_eq, cmpM_eq, slM_eq, nr_non, nr_bl, nr_int, nr_str, nr_tup, nr_lst, nr_ty, nr_scr, nr_emp, nrs_nil, nrs_cons, Bool.and_self, Bool.and_true, ev_dnew, List.set_cons_succ, List.set_cons_zero, bin_add, bin_sub, neg_int, cmp_lt, cmp_le, cmp_gt, cmp_ge, cmp_isbl, cmp_notbl, cmp_eq_int, cmp_ne_int, cmp_eq_bl, cmp_ne_bl, truthM_bl, Bool.not_true, Bool.not_false, lenOk0, lenOk1, lenOk2, lenOk3, intD_int, absD_int, lenD_tup, lenD_lst, lenD_scr, tupD_lst, tupD_tup, startE, List.map_cons, List.map_nil, List.length_cons, List.length_nil, Nat.zero_add, Nat.reduceAdd, Nat.reduceSub, List.replicate_succ, List.replicate_zero, List.cons_append, List.nil_append, lenOk_small, Nat.reduceLeDiff, eq_self, items_tup, items_lst, ixM_tup, ixM_lst, decide_true, decide_false, wipeE, lcF_eq, lcB_so, lcC_t, lcC_f, noXM_ret, List.length_map, List.length_range, atI0, atI1, atI2, nc0, nc1, nc2, nc3, nc4, nc5, nc6, nc7, nc8, nc9, decide_eq_true q0]
    refine OkM.use (bent (k + 2) 10 (n + 1) w (by omega) (by omega) (by omega) (by omega) hw hs2) fun y hy => ?_
    exact fin y hy
  · simp only [ex_seq, nxt_nx, nxt_rt, nxt_ct, nxt_bk, ex_ifs, brn_t, brn_f, ex_pass, ex_ret, ex_expr, ex_asg, bndM_so, ex_par, ex_aug, ex_for, endD_nx, endD_rt, bind_nm, bind_nil, bind_cons, bind_consl, ev_var, ev_c, ev_bin, ev_neg, ev_cmp, chn_t, chn_f, ev_chain, ev_and, ev_or, ev_ite, and_t, and_f, or_t, or_f, ite_t, ite_f, ev_not, ev_tup, ev_lst, ev_ix, ev_sl, intM_int, ev_int, ev_lc, ev_call, evs_nil, evs_cons, evs_star, evs_it1, evs_rng1, evs_rng2, evs_zip, evs_enum, andThen_ret, andThen_assoc, optM_so, List.getElem?_cons_succ, List.getElem?_cons_zero, slotM_so, Option.bind_some, Option.map_some, bi_eq, binM_eq, cmpM_eq, slM_eq, nr_non, nr_bl, nr_int, nr_str, nr_tup, nr_lst, nr_ty, nr_scr, nr_emp, nrs_nil, nrs_cons, Bool.and_self, Bool.and_true, ev_dnew, List.set_cons_succ, List.set_cons_zero, bin_add, bin_sub, neg_int, cmp_lt, cmp_le, cmp_gt, cmp_ge, cmp_isbl, cmp_notbl, cmp_eq_int, cmp_ne_int, cmp_eq_bl, cmp_ne_bl, truthM_bl, Bool.not_true, Bool.not_false, lenOk0, lenOk1, lenOk2, lenOk3, intD_int, absD_int, lenD_tup, lenD_lst, lenD_scr, tupD_lst, tupD_tup, startE, List.map_cons, List.map_nil, List.length_cons, List.length_nil, Nat.zero_add, Nat.reduceAdd, Nat.reduceSub, List.replicate_succ, List.replicate_zero, List.cons_append, List.nil_append, lenOk_small, Nat.reduceLeDiff, eq_self, items_tup, items_lst, ixM_tup, ixM_lst, decide_true, decide_false, wipeE, lcF_eq, lcB_so, lcC_t, lcC_f, noXM_ret, List.length_map, List.length_range, atI0, atI1, atI2, nc0, nc1, nc2, nc3, nc4, nc5, nc6, nc7, nc8, nc9, decide_eq_false q0]
    exact fin w (vb_mono (k + 2) w (n + 1) (n + 2) (k + 4) (by omega) (by omega) hw)
theorem near {n k m : Nat} {d : D} (hs : st[i]? = some .hat) (hst : st.all MO.rf = true) (hk : k ≤ 6) (hn1 : 1 ≤ n) (hn : n ≤ 900) (hm : m ≤ 20) (h : vb n d k = true) :
    OkM (m__law_jg_near [.ref i, d, .int (m : Nat)]) st (fun v s => s = st ∧ ∃ xs, v = .lst xs ∧ xs.length ≤ 30 ∧ ∀ x ∈ xs, NV (n + 2) (k + 4) x) NoE := by
  unfold m__law_jg_near
  refine trim_okM ?_
  rw [fn3]
  have hc : c__law_jg_near = (.seq (.asg (.nm 3) (.lstM (.cons (.var 1) (.cons (.call m__law_out_of (.cons (.var 0) (.cons (.lst (.cons (.c .non) (.cons (.tup .nil) (.cons (.c (.int 0)) (.cons (.c (.bl true)) (.cons (.tup (.cons (.var 1) .nil)) (.cons (.tup (.cons (.var 1) (.cons (.var 1) .nil))) (.cons (.c (.str (PySem.Str.ofString "paper"))) (.cons .dnew (.cons (.lst (.cons (.var 1) .nil)) .nil)))))))))) .nil))) .nil)))) (.seq (.for_ (.nm 4) (.rng1 (.var 2)) sTurn) (.seq (.ret (.var 3)) .pass))) := rfl
  rw [hc]
  simp only [ex_seq, nxt_nx, nxt_rt, nxt_ct, nxt_bk, ex_ifs, brn_t, brn_f, ex_pass, ex_ret, ex_expr, ex_asg, bndM_so, ex_par, ex_aug, ex_for, endD_nx, endD_rt, bind_nm, bind_nil, bind_cons, bind_consl, ev_var, ev_c, ev_bin, ev_neg, ev_cmp, chn_t, chn_f, ev_chain, ev_and, ev_or, ev_ite, and_t, and_f, or_t, or_f, ite_t, ite_f, ev_not, ev_tup, ev_lst, ev_ix, ev_sl, intM_int, ev_int, ev_lc, ev_call, evs_nil, evs_cons, evs_star, evs_it1, evs_rng1, evs_rng2, evs_zip, evs_enum, andThen_ret, andThen_assoc, optM_so, List.getElem?_cons_succ, List.getElem?_cons_zero, slotM_so, Option.bind_some, Option.map_some, bi_eq, binM_eq, cmpM_eq, slM_eq, nr_non, nr_bl, nr_int, nr_str, nr_tup, nr_lst, nr_ty, nr_scr, nr_emp, nrs_nil, nrs_cons, Bool.and_self, Bool.and_true, ev_dnew, List.set_cons_succ, List.set_cons_zero, bin_add, bin_sub, neg_int, cmp_lt, cmp_le, cmp_gt, cmp_ge, cmp_isbl, cmp_notbl, cmp_eq_int, cmp_ne_int, cmp_eq_bl, cmp_ne_bl, truthM_bl, Bool.not_true, Bool.not_false, lenOk0, lenOk1, lenOk2, lenOk3, intD_int, absD_int, lenD_tup, lenD_lst, lenD_scr, tupD_lst, tupD_tup, startE, List.map_cons, List.map_nil, List.length_cons, List.length_nil, Nat.zero_add, Nat.reduceAdd, Nat.reduceSub, List.replicate_succ, List.replicate_zero, List.cons_append, List.nil_append, lenOk_small, Nat.reduceLeDiff, eq_self, items_tup, items_lst, ixM_tup, ixM_lst, decide_true, decide_false, wipeE, lcF_eq, lcB_so, lcC_t, lcC_f, noXM_ret, List.length_map, List.length_range, atI0, atI1, atI2, nc0, nc1, nc2, nc3, nc4, nc5, nc6, nc7, nc8, nc9, ev_lstM, eOut]
  refine out_all hs (by simp) (by simp) fun z hz => ?_
  have hz' : NV (n + 2) (k + 4) z := by
    have up : vb (n + 2) d (k + 2) = true := vb_mono k d n (n + 2) (k + 2) (by omega) (by omega) h
    simp only [List.mem_cons, List.not_mem_nil, or_false] at hz
    rcases hz with rfl | rfl | rfl | rfl | rfl | rfl | rfl | rfl | rfl
    · exact .inr (by simp [vb])
    · exact .inr (by simp [vb, vbs])
    · exact .inr (by simp [vb])
    · exact .inr (by simp [vb])
    · exact .inr (vb_mkT (j := k + 3) (by show 1 ≤ n + 2; omega) fun x hx => by rw [List.mem_singleton.mp hx]; exact vb_mono _ _ _ _ _ (Nat.le_refl _) (by omega) up)
    · refine .inr (vb_mkT (j := k + 3) (by show 2 ≤ n + 2; omega) fun x hx => ?_)
      simp only [List.mem_cons, List.not_mem_nil, or_false, or_self] at hx
      rw [hx]; exact vb_mono _ _ _ _ _ (Nat.le_refl _) (by omega) up
    · exact .inr (by simp [vb, sPaper])
    · exact .inl rfl
    · exact .inr (vb_mkL (j := k + 3) (by show 1 ≤ n + 2; omega) fun x hx => by rw [List.mem_singleton.mp hx]; exact vb_mono _ _ _ _ _ (Nat.le_refl _) (by omega) up)
  refine mkL_all ?_
  simp only [ex_seq, nxt_nx, nxt_rt, nxt_ct, nxt_bk, ex_ifs, brn_t, brn_f, ex_pass, ex_ret, ex_expr, ex_asg, bndM_so, ex_par, ex_aug, ex_for, endD_nx, endD_rt, bind_nm, bind_nil, bind_cons, bind_consl, ev_var, ev_c, ev_bin, ev_neg, ev_cmp, chn_t, chn_f, ev_chain, ev_and, ev_or, ev_ite, and_t, and_f, or_t, or_f, ite_t, ite_f, ev_not, ev_tup, ev_lst, ev_ix, ev_sl, intM_int, ev_int, ev_lc, ev_call, evs_nil, evs_cons, evs_star, evs_it1, evs_rng1, evs_rng2, evs_zip, evs_enum, andThen_ret, andThen_assoc, optM_so, List.getElem?_cons_succ, List.getElem?_cons_zero, slotM_so, Option.bind_some, Option.map_some, bi_eq, binM_eq, cmpM_eq, slM_eq, nr_non, nr_bl, nr_int, nr_str, nr_tup, nr_lst, nr_ty, nr_scr, nr_emp, nrs_nil, nrs_cons, Bool.and_self, Bool.and_true, ev_dnew, List.set_cons_succ, List.set_cons_zero, bin_add, bin_sub, neg_int, cmp_lt, cmp_le, cmp_gt, cmp_ge, cmp_isbl, cmp_notbl, cmp_eq_int, cmp_ne_int, cmp_eq_bl, cmp_ne_bl, truthM_bl, Bool.not_true, Bool.not_false, lenOk0, lenOk1, lenOk2, lenOk3, intD_int, absD_int, lenD_tup, lenD_lst, lenD_scr, tupD_lst, tupD_tup, startE, List.map_cons, List.map_nil, List.length_cons, List.length_nil, Nat.zero_add, Nat.reduceAdd, Nat.reduceSub, List.replicate_succ, List.replicate_zero, List.cons_append, List.nil_append, lenOk_small, Nat.reduceLeDiff, eq_self, items_tup, items_lst, ixM_tup, ixM_lst, decide_true, decide_false, wipeE, lcF_eq, lcB_so, lcC_t, lcC_f, noXM_ret, List.length_map, List.length_range, atI0, atI1, atI2, nc0, nc1, nc2, nc3, nc4, nc5, nc6, nc7, nc8, nc9, rng_nat (show m < 1000000 by omega)]
  refine OkM.then (OkM.mono (forGo_num (I := nI st i n k d (m : Nat)) _ 0 _ _ (fun x hx j e s hj he => ?_) ⟨_, _, _, rfl, rfl, rfl, fun x hx => ?_⟩) (fun r s hr => ?_) (fun _ _ _ z => z))
  · obtain ⟨xs, u, v, rfl, rfl, hl, hx'⟩ := he
    rw [List.length_map, List.length_range] at hj
    exact ⟨_, rfl, turn hs hk hn1 hn h (by omega) hl hx'⟩
  · simp only [List.mem_cons, List.not_mem_nil, or_false] at hx
    rcases hx with rfl | rfl
    · exact .inr (vb_mono k _ n (n + 2) (k + 4) (by omega) (by omega) h)
    · exact hz'
  · obtain ⟨fl, e⟩ := r
    obtain ⟨hf, xs, u, v, he, rfl, hl, hx'⟩ := hr
    have hf' : fl = .nx := hf
    have he' : e = _ := he
    subst hf' he'
    simp only [ex_seq, nxt_nx, nxt_rt, nxt_ct, nxt_bk, ex_ifs, brn_t, brn_f, ex_pass, ex_ret, ex_expr, ex_asg, bndM_so, ex_par, ex_aug, ex_for, endD_nx, endD_rt, bind_nm, bind_nil, bind_cons, bind_consl, ev_var, ev_c, ev_bin, ev_neg, ev_cmp, chn_t, chn_f, ev_chain, ev_and, ev_or, ev_ite, and_t, and_f, or_t, or_f, ite_t, ite_f, ev_not, ev_tup, ev_lst, ev_ix, ev_sl, intM_int, ev_int, ev_lc, ev_call, evs_nil, evs_cons, evs_star, evs_it1, evs_rng1, evs_rng2, evs_zip, evs_enum, andThen_ret, andThen_assoc, optM_so, List.getElem?_cons_succ, List.getElem?_cons_zero, slotM_so, Option.bind_some, Option.map_some, bi_eq, binM_eq, cmpM_eq, slM_eq, nr_non, nr_bl, nr_int, nr_str, nr_tup, nr_lst, nr_ty, nr_scr, nr_emp, nrs_nil, nrs_cons, Bool.and_self, Bool.and_true, ev_dnew, List.set_cons_succ, List.set_cons_zero, bin_add, bin_sub, neg_int, cmp_lt, cmp_le, cmp_gt, cmp_ge, cmp_isbl, cmp_notbl, cmp_eq_int, cmp_ne_int, cmp_eq_bl, cmp_ne_bl, truthM_bl, Bool.not_true, Bool.not_false, lenOk0, lenOk1, lenOk2, lenOk3, intD_int, absD_int, lenD_tup, lenD_lst, lenD_scr, tupD_lst, tupD_tup, startE, List.map_cons, List.map_nil, List.length_cons, List.length_nil, Nat.zero_add, Nat.reduceAdd, Nat.reduceSub, List.replicate_succ, List.replicate_zero, List.cons_append, List.nil_append, lenOk_small, Nat.reduceLeDiff, eq_self, items_tup, items_lst, ixM_tup, ixM_lst, decide_true, decide_false, wipeE, lcF_eq, lcB_so, lcC_t, lcC_f, noXM_ret, List.length_map, List.length_range, atI0, atI1, atI2, nc0, nc1, nc2, nc3, nc4, nc5, nc6, nc7, nc8, nc9]
    have e1 : frzT st.length (.ref st.length) (st ++ [.lst xs]) = .lst xs := by
      show (if st.length ≤ st.length then (match (st ++ [MO.lst xs])[st.length]? with
        | some (.lst xs) => .lst xs
        | _ => .ref st.length) else .ref st.length) = D.lst xs
      rw [if_pos (Nat.le_refl _), lget]
    have e2 : (st ++ [MO.lst xs]).take st.length = st := List.take_left
    refine ⟨⟨?_, e2, xs, e1, ?_, hx'⟩⟩
    · rw [e1, e2, hst, Bool.and_true]
      exact rfs_of fun x hx => (hx' x hx).rf
    · rw [List.length_map, List.length_range] at hl
      omega
end
end K03

set_option Elab.async false
set_option linter.all false
set_option maxRecDepth 100000
set_option maxHeartbeats 4000000
/-! K03h: the law of k03. -/
namespace K03
open PySem L2 Gw
theorem pow60 : binD .Pow (.int 10) (.int 60) = some (.int (10 ^ 60)) := bin_pow (by decide +kernel)
section
variable {st : Sto} {i : Nat}
theorem small_vb {z : Int} : True := trivial
theorem vb_row {w n k : Nat} {f : Nat → Int} (h : w ≤ n) : vb n (rowR w f) (k + 1) = true := vb_mkT (by rw [List.length_map, List.length_range]; exact h) fun x hx => by
  obtain ⟨j, _, rfl⟩ := List.mem_map.mp hx
  simp [vb]
theorem vb_grid {h w n k : Nat} {f : Nat → Nat → Int} (hh : h ≤ n) (hw : w ≤ n) (h2 : 2 ≤ n) : vb n (gridR h w f) (k + 3) = true := vb_mkT h2 fun x hx => by
  simp only [List.mem_cons, List.not_mem_nil, or_false] at hx
  rcases hx with rfl | rfl
  · simp [vb]
  · refine vb_mkT (by rw [List.length_map, List.length_range]; exact hh) fun x hx => ?_
    obtain ⟨j, _, rfl⟩ := List.mem_map.mp hx
    exact vb_row hw
def sJudge : S := (.seq (.ifs (.or_ (.cmp .NotEq (.call m_is_grid (.cons (.var 6) .nil)) (.call m__law_sized (.cons (.var 6) .nil))) (.cmp .NotEq (.call m_is_row (.cons (.var 6) .nil)) (.call m__law_short (.cons (.var 6) .nil)))) (.seq (.ret (.c (.bl false))) .pass) .pass) .pass)
theorem judge {x : D} {a b c d f g : Option D} {r : List (Option D)} (hx : SV 3 x) : ex sJudge (a :: b :: c :: d :: f :: g :: some x :: r) = ret (.nx, a :: b :: c :: d :: f :: g :: some x :: r) := by
  have e1 := grid_any hx.pv
  have e2 := l_sized hx
  have e3 := row hx.pl (fun xs e y hy => ((hx.2 xs e).2.2 y hy).pl)
  have e4 := l_short hx.pl (fun xs e => ⟨(hx.2 xs e).1, (hx.2 xs e).2.1, fun y hy => ((hx.2 xs e).2.2 y hy).pl⟩)
  unfold sJudge
  simp only [ex_seq, nxt_nx, nxt_rt, nxt_ct, nxt_bk, ex_ifs, brn_t, brn_f, ex_pass, ex_ret, ex_expr, ex_asg, bndM_so, ex_par, ex_aug, ex_for, endD_nx, endD_rt, bind_nm, bind_nil, bind_cons, bind_consl, ev_var, ev_c, ev_bin, ev_neg, ev_cmp, chn_t, chn_f, ev_chain, ev_and, ev_or, ev_ite, and_t, and_f, or_t, or_f, ite_t, ite_f, ev_not, ev_tup, ev_lst, ev_ix, ev_sl, intM_int, ev_int, ev_lc, ev_call, evs_nil, evs_cons, evs_star, evs_it1, evs_rng1, evs_rng2, evs_zip, evs_enum, andThen_ret, andThen_assoc, optM_so, List.getElem?_cons_succ, List.getElem?_cons_zero, slotM_so, Option.bind_some, Option.map_some, bi_eq, binM_eq, cmpM_eq, slM_eq, nr_non, nr_bl, nr_int, nr_str, nr_tup, nr_lst, nr_ty, nr_scr, nr_emp, nrs_nil, nrs_cons, Bool.and_self, Bool.and_true, ev_dnew, List.set_cons_succ, List.set_cons_zero, bin_add, bin_sub, neg_int, cmp_lt, cmp_le, cmp_gt, cmp_ge, cmp_isbl, cmp_notbl, cmp_eq_int, cmp_ne_int, cmp_eq_bl, cmp_ne_bl, truthM_bl, Bool.not_true, Bool.not_false, lenOk0, lenOk1, lenOk2, lenOk3, intD_int, absD_int, lenD_tup, lenD_lst, lenD_scr, tupD_lst, tupD_tup, startE, List.map_cons, List.map_nil, List.length_cons, List.length_nil, Nat.zero_add, Nat.reduceAdd, Nat.reduceSub, List.replicate_succ, List.replicate_zero, List.cons_append, List.nil_append, lenOk_small, Nat.reduceLeDiff, eq_self, items_tup, items_lst, ixM_tup, ixM_lst, decide_true, decide_false, wipeE, lcF_eq, lcB_so, lcC_t, lcC_f, noXM_ret, List.length_map, List.length_range, atI0, atI1, atI2, nc0, nc1, nc2, nc3, nc4, nc5, nc6, nc7, nc8, nc9, e1, e2, e3, e4]
theorem jn_small {n m : Nat} {a b : Nat → Int} (ha : ∀ j, j < n → small (a j)) (hb : ∀ j, j < m → small (b j)) : ∀ j, j < n + m → small (jn n a b j) := fun j hj => by
  unfold jn
  split
  · exact ha j (by omega)
  · exact hb _ (by omega)
theorem jn_asc (b c : Nat) (u v : Nat → Int) (j : Nat) : jn (b + c) (jn b u v) u j = jn b u (jn c v u) j := by
  unfold jn
  by_cases h1 : j < b
  · rw [if_pos h1, if_pos (by omega), if_pos h1]
  · by_cases h2 : j < b + c
    · rw [if_pos h2, if_neg h1, if_neg h1, if_pos (by omega)]
    · rw [if_neg h2, if_neg h1, if_neg (by omega), show j - (b + c) = j - b - c by omega]
theorem right (hs : st[i]? = some .hat) (hst : st.all MO.rf = true) : OkM (m__law_right [.ref i]) st (fun v s => s = st ∧ v = .bl true) NoE := by
  unfold m__law_right c__law_right
  rw [fn1]
  simp only [ex_seq, nxt_nx, nxt_rt, nxt_ct, nxt_bk, ex_ifs, brn_t, brn_f, ex_pass, ex_ret, ex_expr, ex_asg, bndM_so, ex_par, ex_aug, ex_for, endD_nx, endD_rt, bind_nm, bind_nil, bind_cons, bind_consl, ev_var, ev_c, ev_bin, ev_neg, ev_cmp, chn_t, chn_f, ev_chain, ev_and, ev_or, ev_ite, and_t, and_f, or_t, or_f, ite_t, ite_f, ev_not, ev_tup, ev_lst, ev_ix, ev_sl, intM_int, ev_int, ev_lc, ev_call, evs_nil, evs_cons, evs_star, evs_it1, evs_rng1, evs_rng2, evs_zip, evs_enum, andThen_ret, andThen_assoc, optM_so, List.getElem?_cons_succ, List.getElem?_cons_zero, slotM_so, Option.bind_some, Option.map_some, bi_eq, binM_eq, cmpM_eq, slM_eq, nr_non, nr_bl, nr_int, nr_str, nr_tup, nr_lst, nr_ty, nr_scr, nr_emp, nrs_nil, nrs_cons, Bool.and_self, Bool.and_true, ev_dnew, List.set_cons_succ, List.set_cons_zero, bin_add, bin_sub, neg_int, cmp_lt, cmp_le, cmp_gt, cmp_ge, cmp_isbl, cmp_notbl, cmp_eq_int, cmp_ne_int, cmp_eq_bl, cmp_ne_bl, truthM_bl, Bool.not_true, Bool.not_false, lenOk0, lenOk1, lenOk2, lenOk3, intD_int, absD_int, lenD_tup, lenD_lst, lenD_scr, tupD_lst, tupD_tup, startE, List.map_cons, List.map_nil, List.length_cons, List.length_nil, Nat.zero_add, Nat.reduceAdd, Nat.reduceSub, List.replicate_succ, List.replicate_zero, List.cons_append, List.nil_append, lenOk_small, Nat.reduceLeDiff, eq_self, items_tup, items_lst, ixM_tup, ixM_lst, decide_true, decide_false, wipeE, lcF_eq, lcB_so, lcC_t, lcC_f, noXM_ret, List.length_map, List.length_range, atI0, atI1, atI2, nc0, nc1, nc2, nc3, nc4, nc5, nc6, nc7, nc8, nc9, eUp]
  refine draw_all hs (by decide) (by decide) fun a ha => ?_
  try simp only [ex_seq, nxt_nx, nxt_rt, nxt_ct, nxt_bk, ex_ifs, brn_t, brn_f, ex_pass, ex_ret, ex_expr, ex_asg, bndM_so, ex_par, ex_aug, ex_for, endD_nx, endD_rt, bind_nm, bind_nil, bind_cons, bind_consl, ev_var, ev_c, ev_bin, ev_neg, ev_cmp, chn_t, chn_f, ev_chain, ev_and, ev_or, ev_ite, and_t, and_f, or_t, or_f, ite_t, ite_f, ev_not, ev_tup, ev_lst, ev_ix, ev_sl, intM_int, ev_int, ev_lc, ev_call, evs_nil, evs_cons, evs_star, evs_it1, evs_rng1, evs_rng2, evs_zip, evs_enum, andThen_ret, andThen_assoc, optM_so, List.getElem?_cons_succ, List.getElem?_cons_zero, slotM_so, Option.bind_some, Option.map_some, bi_eq, binM_eq, cmpM_eq, slM_eq, nr_non, nr_bl, nr_int, nr_str, nr_tup, nr_lst, nr_ty, nr_scr, nr_emp, nrs_nil, nrs_cons, Bool.and_self, Bool.and_true, ev_dnew, List.set_cons_succ, List.set_cons_zero, bin_add, bin_sub, neg_int, cmp_lt, cmp_le, cmp_gt, cmp_ge, cmp_isbl, cmp_notbl, cmp_eq_int, cmp_ne_int, cmp_eq_bl, cmp_ne_bl, truthM_bl, Bool.not_true, Bool.not_false, lenOk0, lenOk1, lenOk2, lenOk3, intD_int, absD_int, lenD_tup, lenD_lst, lenD_scr, tupD_lst, tupD_tup, startE, List.map_cons, List.map_nil, List.length_cons, List.length_nil, Nat.zero_add, Nat.reduceAdd, Nat.reduceSub, List.replicate_succ, List.replicate_zero, List.cons_append, List.nil_append, lenOk_small, Nat.reduceLeDiff, eq_self, items_tup, items_lst, ixM_tup, ixM_lst, decide_true, decide_false, wipeE, lcF_eq, lcB_so, lcC_t, lcC_f, noXM_ret, List.length_map, List.length_range, atI0, atI1, atI2, nc0, nc1, nc2, nc3, nc4, nc5, nc6, nc7, nc8, nc9, eUp]
  refine draw_all hs (by decide) (by decide) fun b hb => ?_
  try simp only [ex_seq, nxt_nx, nxt_rt, nxt_ct, nxt_bk, ex_ifs, brn_t, brn_f, ex_pass, ex_ret, ex_expr, ex_asg, bndM_so, ex_par, ex_aug, ex_for, endD_nx, endD_rt, bind_nm, bind_nil, bind_cons, bind_consl, ev_var, ev_c, ev_bin, ev_neg, ev_cmp, chn_t, chn_f, ev_chain, ev_and, ev_or, ev_ite, and_t, and_f, or_t, or_f, ite_t, ite_f, ev_not, ev_tup, ev_lst, ev_ix, ev_sl, intM_int, ev_int, ev_lc, ev_call, evs_nil, evs_cons, evs_star, evs_it1, evs_rng1, evs_rng2, evs_zip, evs_enum, andThen_ret, andThen_assoc, optM_so, List.getElem?_cons_succ, List.getElem?_cons_zero, slotM_so, Option.bind_some, Option.map_some, bi_eq, binM_eq, cmpM_eq, slM_eq, nr_non, nr_bl, nr_int, nr_str, nr_tup, nr_lst, nr_ty, nr_scr, nr_emp, nrs_nil, nrs_cons, Bool.and_self, Bool.and_true, ev_dnew, List.set_cons_succ, List.set_cons_zero, bin_add, bin_sub, neg_int, cmp_lt, cmp_le, cmp_gt, cmp_ge, cmp_isbl, cmp_notbl, cmp_eq_int, cmp_ne_int, cmp_eq_bl, cmp_ne_bl, truthM_bl, Bool.not_true, Bool.not_false, lenOk0, lenOk1, lenOk2, lenOk3, intD_int, absD_int, lenD_tup, lenD_lst, lenD_scr, tupD_lst, tupD_tup, startE, List.map_cons, List.map_nil, List.length_cons, List.length_nil, Nat.zero_add, Nat.reduceAdd, Nat.reduceSub, List.replicate_succ, List.replicate_zero, List.cons_append, List.nil_append, lenOk_small, Nat.reduceLeDiff, eq_self, items_tup, items_lst, ixM_tup, ixM_lst, decide_true, decide_false, wipeE, lcF_eq, lcB_so, lcC_t, lcC_f, noXM_ret, List.length_map, List.length_range, atI0, atI1, atI2, nc0, nc1, nc2, nc3, nc4, nc5, nc6, nc7, nc8, nc9, eUp]
  refine OkM.use (wide_ok hs (by omega) (by omega)) fun g hg => ?_
  obtain ⟨f, rfl, hf⟩ := hg
  simp only [ex_seq, nxt_nx, nxt_rt, nxt_ct, nxt_bk, ex_ifs, brn_t, brn_f, ex_pass, ex_ret, ex_expr, ex_asg, bndM_so, ex_par, ex_aug, ex_for, endD_nx, endD_rt, bind_nm, bind_nil, bind_cons, bind_consl, ev_var, ev_c, ev_bin, ev_neg, ev_cmp, chn_t, chn_f, ev_chain, ev_and, ev_or, ev_ite, and_t, and_f, or_t, or_f, ite_t, ite_f, ev_not, ev_tup, ev_lst, ev_ix, ev_sl, intM_int, ev_int, ev_lc, ev_call, evs_nil, evs_cons, evs_star, evs_it1, evs_rng1, evs_rng2, evs_zip, evs_enum, andThen_ret, andThen_assoc, optM_so, List.getElem?_cons_succ, List.getElem?_cons_zero, slotM_so, Option.bind_some, Option.map_some, bi_eq, binM_eq, cmpM_eq, slM_eq, nr_non, nr_bl, nr_int, nr_str, nr_tup, nr_lst, nr_ty, nr_scr, nr_emp, nrs_nil, nrs_cons, Bool.and_self, Bool.and_true, ev_dnew, List.set_cons_succ, List.set_cons_zero, bin_add, bin_sub, neg_int, cmp_lt, cmp_le, cmp_gt, cmp_ge, cmp_isbl, cmp_notbl, cmp_eq_int, cmp_ne_int, cmp_eq_bl, cmp_ne_bl, truthM_bl, Bool.not_true, Bool.not_false, lenOk0, lenOk1, lenOk2, lenOk3, intD_int, absD_int, lenD_tup, lenD_lst, lenD_scr, tupD_lst, tupD_tup, startE, List.map_cons, List.map_nil, List.length_cons, List.length_nil, Nat.zero_add, Nat.reduceAdd, Nat.reduceSub, List.replicate_succ, List.replicate_zero, List.cons_append, List.nil_append, lenOk_small, Nat.reduceLeDiff, eq_self, items_tup, items_lst, ixM_tup, ixM_lst, decide_true, decide_false, wipeE, lcF_eq, lcB_so, lcC_t, lcC_f, noXM_ret, List.length_map, List.length_range, atI0, atI1, atI2, nc0, nc1, nc2, nc3, nc4, nc5, nc6, nc7, nc8, nc9, rng_nat (show b < 1000000 by omega)]
  refine OkM.use (lc_draw D.int 0 (p := small) (by omega) fun j hj => ?_) fun ys hy => ?_
  · simp only [ex_seq, nxt_nx, nxt_rt, nxt_ct, nxt_bk, ex_ifs, brn_t, brn_f, ex_pass, ex_ret, ex_expr, ex_asg, bndM_so, ex_par, ex_aug, ex_for, endD_nx, endD_rt, bind_nm, bind_nil, bind_cons, bind_consl, ev_var, ev_c, ev_bin, ev_neg, ev_cmp, chn_t, chn_f, ev_chain, ev_and, ev_or, ev_ite, and_t, and_f, or_t, or_f, ite_t, ite_f, ev_not, ev_tup, ev_lst, ev_ix, ev_sl, intM_int, ev_int, ev_lc, ev_call, evs_nil, evs_cons, evs_star, evs_it1, evs_rng1, evs_rng2, evs_zip, evs_enum, andThen_ret, andThen_assoc, optM_so, List.getElem?_cons_succ, List.getElem?_cons_zero, slotM_so, Option.bind_some, Option.map_some, bi_eq, binM_eq, cmpM_eq, slM_eq, nr_non, nr_bl, nr_int, nr_str, nr_tup, nr_lst, nr_ty, nr_scr, nr_emp, nrs_nil, nrs_cons, Bool.and_self, Bool.and_true, ev_dnew, List.set_cons_succ, List.set_cons_zero, bin_add, bin_sub, neg_int, cmp_lt, cmp_le, cmp_gt, cmp_ge, cmp_isbl, cmp_notbl, cmp_eq_int, cmp_ne_int, cmp_eq_bl, cmp_ne_bl, truthM_bl, Bool.not_true, Bool.not_false, lenOk0, lenOk1, lenOk2, lenOk3, intD_int, absD_int, lenD_tup, lenD_lst, lenD_scr, tupD_lst, tupD_tup, startE, List.map_cons, List.map_nil, List.length_cons, List.length_nil, Nat.zero_add, Nat.reduceAdd, Nat.reduceSub, List.replicate_succ, List.replicate_zero, List.cons_append, List.nil_append, lenOk_small, Nat.reduceLeDiff, eq_self, items_tup, items_lst, ixM_tup, ixM_lst, decide_true, decide_false, wipeE, lcF_eq, lcB_so, lcC_t, lcC_f, noXM_ret, List.length_map, List.length_range, atI0, atI1, atI2, nc0, nc1, nc2, nc3, nc4, nc5, nc6, nc7, nc8, nc9]
    exact mem_ok (jg_ok hs)
  obtain ⟨r, rfl, hr⟩ := hy
  have n1 := near (st := st) (i := i) (n := 5) (k := 3) (m := 6) (d := gridR a b f) hs hst (by decide) (by decide) (by decide) (by decide) (vb_grid (by omega) (by omega) (by decide))
  have n2 := near (st := st) (i := i) (n := 5) (k := 3) (m := 4) (d := rowR b r) hs hst (by decide) (by decide) (by decide) (by decide) (vb_row (by omega))
  simp only [nc6] at n1
  simp only [nc4] at n2
  simp only [ex_seq, nxt_nx, nxt_rt, nxt_ct, nxt_bk, ex_ifs, brn_t, brn_f, ex_pass, ex_ret, ex_expr, ex_asg, bndM_so, ex_par, ex_aug, ex_for, endD_nx, endD_rt, bind_nm, bind_nil, bind_cons, bind_consl, ev_var, ev_c, ev_bin, ev_neg, ev_cmp, chn_t, chn_f, ev_chain, ev_and, ev_or, ev_ite, and_t, and_f, or_t, or_f, ite_t, ite_f, ev_not, ev_tup, ev_lst, ev_ix, ev_sl, intM_int, ev_int, ev_lc, ev_call, evs_nil, evs_cons, evs_star, evs_it1, evs_rng1, evs_rng2, evs_zip, evs_enum, andThen_ret, andThen_assoc, optM_so, List.getElem?_cons_succ, List.getElem?_cons_zero, slotM_so, Option.bind_some, Option.map_some, bi_eq, binM_eq, cmpM_eq, slM_eq, nr_non, nr_bl, nr_int, nr_str, nr_tup, nr_lst, nr_ty, nr_scr, nr_emp, nrs_nil, nrs_cons, Bool.and_self, Bool.and_true, ev_dnew, List.set_cons_succ, List.set_cons_zero, bin_add, bin_sub, neg_int, cmp_lt, cmp_le, cmp_gt, cmp_ge, cmp_isbl, cmp_notbl, cmp_eq_int, cmp_ne_int, cmp_eq_bl, cmp_ne_bl, truthM_bl, Bool.not_true, Bool.not_false, lenOk0, lenOk1, lenOk2, lenOk3, intD_int, absD_int, lenD_tup, lenD_lst, lenD_scr, tupD_lst, tupD_tup, startE, List.map_cons, List.map_nil, List.length_cons, List.length_nil, Nat.zero_add, Nat.reduceAdd, Nat.reduceSub, List.replicate_succ, List.replicate_zero, List.cons_append, List.nil_append, lenOk_small, Nat.reduceLeDiff, eq_self, items_tup, items_lst, ixM_tup, ixM_lst, decide_true, decide_false, wipeE, lcF_eq, lcB_so, lcC_t, lcC_f, noXM_ret, List.length_map, List.length_range, atI0, atI1, atI2, nc0, nc1, nc2, nc3, nc4, nc5, nc6, nc7, nc8, nc9, grid_yes (show a ≤ 60 by omega) (show b ≤ 60 by omega) hf, row_yes (show b ≤ 60 by omega) hr]
  refine OkM.use n1 fun v1 hv1 => ?_
  obtain ⟨xs, rfl, hxl, hx⟩ := hv1
  try simp only [ex_seq, nxt_nx, nxt_rt, nxt_ct, nxt_bk, ex_ifs, brn_t, brn_f, ex_pass, ex_ret, ex_expr, ex_asg, bndM_so, ex_par, ex_aug, ex_for, endD_nx, endD_rt, bind_nm, bind_nil, bind_cons, bind_consl, ev_var, ev_c, ev_bin, ev_neg, ev_cmp, chn_t, chn_f, ev_chain, ev_and, ev_or, ev_ite, and_t, and_f, or_t, or_f, ite_t, ite_f, ev_not, ev_tup, ev_lst, ev_ix, ev_sl, intM_int, ev_int, ev_lc, ev_call, evs_nil, evs_cons, evs_star, evs_it1, evs_rng1, evs_rng2, evs_zip, evs_enum, andThen_ret, andThen_assoc, optM_so, List.getElem?_cons_succ, List.getElem?_cons_zero, slotM_so, Option.bind_some, Option.map_some, bi_eq, binM_eq, cmpM_eq, slM_eq, nr_non, nr_bl, nr_int, nr_str, nr_tup, nr_lst, nr_ty, nr_scr, nr_emp, nrs_nil, nrs_cons, Bool.and_self, Bool.and_true, ev_dnew, List.set_cons_succ, List.set_cons_zero, bin_add, bin_sub, neg_int, cmp_lt, cmp_le, cmp_gt, cmp_ge, cmp_isbl, cmp_notbl, cmp_eq_int, cmp_ne_int, cmp_eq_bl, cmp_ne_bl, truthM_bl, Bool.not_true, Bool.not_false, lenOk0, lenOk1, lenOk2, lenOk3, intD_int, absD_int, lenD_tup, lenD_lst, lenD_scr, tupD_lst, tupD_tup, startE, List.map_cons, List.map_nil, List.length_cons, List.length_nil, Nat.zero_add, Nat.reduceAdd, Nat.reduceSub, List.replicate_succ, List.replicate_zero, List.cons_append, List.nil_append, lenOk_small, Nat.reduceLeDiff, eq_self, items_tup, items_lst, ixM_tup, ixM_lst, decide_true, decide_false, wipeE, lcF_eq, lcB_so, lcC_t, lcC_f, noXM_ret, List.length_map, List.length_range, atI0, atI1, atI2, nc0, nc1, nc2, nc3, nc4, nc5, nc6, nc7, nc8, nc9]
  refine OkM.use n2 fun v2 hv2 => ?_
  obtain ⟨ys, rfl, hyl, hy⟩ := hv2
  simp only [ex_seq, nxt_nx, nxt_rt, nxt_ct, nxt_bk, ex_ifs, brn_t, brn_f, ex_pass, ex_ret, ex_expr, ex_asg, bndM_so, ex_par, ex_aug, ex_for, endD_nx, endD_rt, bind_nm, bind_nil, bind_cons, bind_consl, ev_var, ev_c, ev_bin, ev_neg, ev_cmp, chn_t, chn_f, ev_chain, ev_and, ev_or, ev_ite, and_t, and_f, or_t, or_f, ite_t, ite_f, ev_not, ev_tup, ev_lst, ev_ix, ev_sl, intM_int, ev_int, ev_lc, ev_call, evs_nil, evs_cons, evs_star, evs_it1, evs_rng1, evs_rng2, evs_zip, evs_enum, andThen_ret, andThen_assoc, optM_so, List.getElem?_cons_succ, List.getElem?_cons_zero, slotM_so, Option.bind_some, Option.map_some, bi_eq, binM_eq, cmpM_eq, slM_eq, nr_non, nr_bl, nr_int, nr_str, nr_tup, nr_lst, nr_ty, nr_scr, nr_emp, nrs_nil, nrs_cons, Bool.and_self, Bool.and_true, ev_dnew, List.set_cons_succ, List.set_cons_zero, bin_add, bin_sub, neg_int, cmp_lt, cmp_le, cmp_gt, cmp_ge, cmp_isbl, cmp_notbl, cmp_eq_int, cmp_ne_int, cmp_eq_bl, cmp_ne_bl, truthM_bl, Bool.not_true, Bool.not_false, lenOk0, lenOk1, lenOk2, lenOk3, intD_int, absD_int, lenD_tup, lenD_lst, lenD_scr, tupD_lst, tupD_tup, startE, List.map_cons, List.map_nil, List.length_cons, List.length_nil, Nat.zero_add, Nat.reduceAdd, Nat.reduceSub, List.replicate_succ, List.replicate_zero, List.cons_append, List.nil_append, lenOk_small, Nat.reduceLeDiff, eq_self, items_tup, items_lst, ixM_tup, ixM_lst, decide_true, decide_false, wipeE, lcF_eq, lcB_so, lcC_t, lcC_f, noXM_ret, List.length_map, List.length_range, atI0, atI1, atI2, nc0, nc1, nc2, nc3, nc4, nc5, nc6, nc7, nc8, nc9, bin_lst (xs := xs) (ys := ys) (Nat.le_trans (show xs.length + ys.length ≤ 1000000 by omega) line_big)]
  refine OkM.then (OkM.mono (forGo_all (P := fun q s => s = st ∧ ∃ w, q = (.nx, [some (.ref i), some (.int (a : Nat)), some (.int (b : Nat)), some (gridR a b f), some (rowR b r), none, w, none, none, none])) (I := fun e s => s = st ∧ ∃ w, e = [some (.ref i), some (.int (a : Nat)), some (.int (b : Nat)), some (gridR a b f), some (rowR b r), none, w, none, none, none]) _ _ _ (fun x hx' e s he => ?_) (fun e s he => ?_) ⟨rfl, _, rfl⟩) (fun q s hq => ?_) (fun _ _ _ z => z))
  · obtain ⟨rfl, w, rfl⟩ := he
    refine ⟨_, rfl, ?_⟩
    have hz : SV 3 x := by
      rcases List.mem_append.mp hx' with z | z
      · exact (hx x z).sv (by decide) (by decide) 3
      · exact (hy x z).sv (by decide) (by decide) 3
    have := judge (a := some (.ref i)) (b := some (.int (a : Nat))) (c := some (.int (b : Nat))) (d := some (gridR a b f)) (f := some (rowR b r)) (g := none) (r := [none, none, none]) hz
    unfold sJudge at this
    simp only [List.set_cons_succ, List.set_cons_zero]
    rw [this]
    exact ⟨⟨rfl, _, rfl⟩⟩
  · obtain ⟨rfl, w, rfl⟩ := he
    exact ⟨rfl, w, rfl⟩
  obtain ⟨rfl, w, rfl⟩ := hq
  simp only [ex_seq, nxt_nx, nxt_rt, nxt_ct, nxt_bk, ex_ifs, brn_t, brn_f, ex_pass, ex_ret, ex_expr, ex_asg, bndM_so, ex_par, ex_aug, ex_for, endD_nx, endD_rt, bind_nm, bind_nil, bind_cons, bind_consl, ev_var, ev_c, ev_bin, ev_neg, ev_cmp, chn_t, chn_f, ev_chain, ev_and, ev_or, ev_ite, and_t, and_f, or_t, or_f, ite_t, ite_f, ev_not, ev_tup, ev_lst, ev_ix, ev_sl, intM_int, ev_int, ev_lc, ev_call, evs_nil, evs_cons, evs_star, evs_it1, evs_rng1, evs_rng2, evs_zip, evs_enum, andThen_ret, andThen_assoc, optM_so, List.getElem?_cons_succ, List.getElem?_cons_zero, slotM_so, Option.bind_some, Option.map_some, bi_eq, binM_eq, cmpM_eq, slM_eq, nr_non, nr_bl, nr_int, nr_str, nr_tup, nr_lst, nr_ty, nr_scr, nr_emp, nrs_nil, nrs_cons, Bool.and_self, Bool.and_true, ev_dnew, List.set_cons_succ, List.set_cons_zero, bin_add, bin_sub, neg_int, cmp_lt, cmp_le, cmp_gt, cmp_ge, cmp_isbl, cmp_notbl, cmp_eq_int, cmp_ne_int, cmp_eq_bl, cmp_ne_bl, truthM_bl, Bool.not_true, Bool.not_false, lenOk0, lenOk1, lenOk2, lenOk3, intD_int, absD_int, lenD_tup, lenD_lst, lenD_scr, tupD_lst, tupD_tup, startE, List.map_cons, List.map_nil, List.length_cons, List.length_nil, Nat.zero_add, Nat.reduceAdd, Nat.reduceSub, List.replicate_succ, List.replicate_zero, List.cons_append, List.nil_append, lenOk_small, Nat.reduceLeDiff, eq_self, items_tup, items_lst, ixM_tup, ixM_lst, decide_true, decide_false, wipeE, lcF_eq, lcB_so, lcC_t, lcC_f, noXM_ret, List.length_map, List.length_range, atI0, atI1, atI2, nc0, nc1, nc2, nc3, nc4, nc5, nc6, nc7, nc8, nc9, pow12]
  refine OkM.use (jg_ok hs) fun z hz => ?_
  obtain ⟨z, rfl, hz⟩ := hz
  simp only [ex_seq, nxt_nx, nxt_rt, nxt_ct, nxt_bk, ex_ifs, brn_t, brn_f, ex_pass, ex_ret, ex_expr, ex_asg, bndM_so, ex_par, ex_aug, ex_for, endD_nx, endD_rt, bind_nm, bind_nil, bind_cons, bind_consl, ev_var, ev_c, ev_bin, ev_neg, ev_cmp, chn_t, chn_f, ev_chain, ev_and, ev_or, ev_ite, and_t, and_f, or_t, or_f, ite_t, ite_f, ev_not, ev_tup, ev_lst, ev_ix, ev_sl, intM_int, ev_int, ev_lc, ev_call, evs_nil, evs_cons, evs_star, evs_it1, evs_rng1, evs_rng2, evs_zip, evs_enum, andThen_ret, andThen_assoc, optM_so, List.getElem?_cons_succ, List.getElem?_cons_zero, slotM_so, Option.bind_some, Option.map_some, bi_eq, binM_eq, cmpM_eq, slM_eq, nr_non, nr_bl, nr_int, nr_str, nr_tup, nr_lst, nr_ty, nr_scr, nr_emp, nrs_nil, nrs_cons, Bool.and_self, Bool.and_true, ev_dnew, List.set_cons_succ, List.set_cons_zero, bin_add, bin_sub, neg_int, cmp_lt, cmp_le, cmp_gt, cmp_ge, cmp_isbl, cmp_notbl, cmp_eq_int, cmp_ne_int, cmp_eq_bl, cmp_ne_bl, truthM_bl, Bool.not_true, Bool.not_false, lenOk0, lenOk1, lenOk2, lenOk3, intD_int, absD_int, lenD_tup, lenD_lst, lenD_scr, tupD_lst, tupD_tup, startE, List.map_cons, List.map_nil, List.length_cons, List.length_nil, Nat.zero_add, Nat.reduceAdd, Nat.reduceSub, List.replicate_succ, List.replicate_zero, List.cons_append, List.nil_append, lenOk_small, Nat.reduceLeDiff, eq_self, items_tup, items_lst, ixM_tup, ixM_lst, decide_true, decide_false, wipeE, lcF_eq, lcB_so, lcC_t, lcC_f, noXM_ret, List.length_map, List.length_range, atI0, atI1, atI2, nc0, nc1, nc2, nc3, nc4, nc5, nc6, nc7, nc8, nc9, pow12, pow60, eOut]
  refine out_all hs (by simp) (by simp) fun x hx => ?_
  have hv : vb 5 x 1 = true := by
    simp only [List.mem_cons, List.not_mem_nil, or_false] at hx
    rcases hx with rfl | rfl | rfl | rfl | rfl | rfl | rfl | rfl
    all_goals simp [vb, vbs, s7]
  have hv2 : vb 5 (.tup [x]) 2 = true := vb_mkT (by show 1 ≤ 5; decide) fun y hy => by rw [List.mem_singleton.mp hy]; exact hv
  have q1 := integer (vb_pl hv)
  have q2 := l_short (d := .tup [x]) rfl (fun xs e => by cases e; exact ⟨by show 1 ≤ 1000000; decide, vb_isT (by decide) hv2, fun y hy => by rw [List.mem_singleton.mp hy]; exact vb_pl hv⟩)
  have q3 : rowB (.tup [x]) = intB x := by
    show (decide (1 ≤ 60) && ([x] : List D).all intB) = intB x
    simp
  rw [q3] at q2
  simp only [ex_seq, nxt_nx, nxt_rt, nxt_ct, nxt_bk, ex_ifs, brn_t, brn_f, ex_pass, ex_ret, ex_expr, ex_asg, bndM_so, ex_par, ex_aug, ex_for, endD_nx, endD_rt, bind_nm, bind_nil, bind_cons, bind_consl, ev_var, ev_c, ev_bin, ev_neg, ev_cmp, chn_t, chn_f, ev_chain, ev_and, ev_or, ev_ite, and_t, and_f, or_t, or_f, ite_t, ite_f, ev_not, ev_tup, ev_lst, ev_ix, ev_sl, intM_int, ev_int, ev_lc, ev_call, evs_nil, evs_cons, evs_star, evs_it1, evs_rng1, evs_rng2, evs_zip, evs_enum, andThen_ret, andThen_assoc, optM_so, List.getElem?_cons_succ, List.getElem?_cons_zero, slotM_so, Option.bind_some, Option.map_some, bi_eq, binM_eq, cmpM_eq, slM_eq, nr_non, nr_bl, nr_int, nr_str, nr_tup, nr_lst, nr_ty, nr_scr, nr_emp, nrs_nil, nrs_cons, Bool.and_self, Bool.and_true, ev_dnew, List.set_cons_succ, List.set_cons_zero, bin_add, bin_sub, neg_int, cmp_lt, cmp_le, cmp_gt, cmp_ge, cmp_isbl, cmp_notbl, cmp_eq_int, cmp_ne_int, cmp_eq_bl, cmp_ne_bl, truthM_bl, Bool.not_true, Bool.not_false, lenOk0, lenOk1, lenOk2, lenOk3, intD_int, absD_int, lenD_tup, lenD_lst, lenD_scr, tupD_lst, tupD_tup, startE, List.map_cons, List.map_nil, List.length_cons, List.length_nil, Nat.zero_add, Nat.reduceAdd, Nat.reduceSub, List.replicate_succ, List.replicate_zero, List.cons_append, List.nil_append, lenOk_small, Nat.reduceLeDiff, eq_self, items_tup, items_lst, ixM_tup, ixM_lst, decide_true, decide_false, wipeE, lcF_eq, lcB_so, lcC_t, lcC_f, noXM_ret, List.length_map, List.length_range, atI0, atI1, atI2, nc0, nc1, nc2, nc3, nc4, nc5, nc6, nc7, nc8, nc9, q1, q2, eUp]
  refine draw_all hs (by decide) (by decide) fun c hc => ?_
  try simp only [ex_seq, nxt_nx, nxt_rt, nxt_ct, nxt_bk, ex_ifs, brn_t, brn_f, ex_pass, ex_ret, ex_expr, ex_asg, bndM_so, ex_par, ex_aug, ex_for, endD_nx, endD_rt, bind_nm, bind_nil, bind_cons, bind_consl, ev_var, ev_c, ev_bin, ev_neg, ev_cmp, chn_t, chn_f, ev_chain, ev_and, ev_or, ev_ite, and_t, and_f, or_t, or_f, ite_t, ite_f, ev_not, ev_tup, ev_lst, ev_ix, ev_sl, intM_int, ev_int, ev_lc, ev_call, evs_nil, evs_cons, evs_star, evs_it1, evs_rng1, evs_rng2, evs_zip, evs_enum, andThen_ret, andThen_assoc, optM_so, List.getElem?_cons_succ, List.getElem?_cons_zero, slotM_so, Option.bind_some, Option.map_some, bi_eq, binM_eq, cmpM_eq, slM_eq, nr_non, nr_bl, nr_int, nr_str, nr_tup, nr_lst, nr_ty, nr_scr, nr_emp, nrs_nil, nrs_cons, Bool.and_self, Bool.and_true, ev_dnew, List.set_cons_succ, List.set_cons_zero, bin_add, bin_sub, neg_int, cmp_lt, cmp_le, cmp_gt, cmp_ge, cmp_isbl, cmp_notbl, cmp_eq_int, cmp_ne_int, cmp_eq_bl, cmp_ne_bl, truthM_bl, Bool.not_true, Bool.not_false, lenOk0, lenOk1, lenOk2, lenOk3, intD_int, absD_int, lenD_tup, lenD_lst, lenD_scr, tupD_lst, tupD_tup, startE, List.map_cons, List.map_nil, List.length_cons, List.length_nil, Nat.zero_add, Nat.reduceAdd, Nat.reduceSub, List.replicate_succ, List.replicate_zero, List.cons_append, List.nil_append, lenOk_small, Nat.reduceLeDiff, eq_self, items_tup, items_lst, ixM_tup, ixM_lst, decide_true, decide_false, wipeE, lcF_eq, lcB_so, lcC_t, lcC_f, noXM_ret, List.length_map, List.length_range, atI0, atI1, atI2, nc0, nc1, nc2, nc3, nc4, nc5, nc6, nc7, nc8, nc9]
  refine OkM.use (wide_ok hs (by omega) (by omega)) fun g hg => ?_
  obtain ⟨g, rfl, hg⟩ := hg
  have B1 := beside (h := a) (w := b) (v := c) (f := f) (g := g) (by omega) (by omega) hf hg
  have hfg : GS a (b + c) fun i j => jn b (f i) (g i) j := fun i j hi hj => jn_small (fun j hj => hf i j hi hj) (fun j hj => hg i j hi hj) j hj
  have hgf : GS a (c + b) fun i j => jn c (g i) (f i) j := fun i j hi hj => jn_small (fun j hj => hg i j hi hj) (fun j hj => hf i j hi hj) j hj
  have B2 := beside (h := a) (w := b + c) (v := b) (g := f) (by omega) (by omega) hfg hf
  have B3 := beside (h := a) (w := c) (v := b) (f := g) (g := f) (by omega) (by omega) hg hf
  have B4 := beside (h := a) (w := b) (v := c + b) (f := f) (by omega) (by omega) hf hgf
  have T1 := turned (h := a) (w := b) (by omega) (by omega) hf
  have T2 := turned (h := a) (w := c) (by omega) (by omega) hg
  have T3 := turned (h := a) (w := b + c) (by omega) (by omega) hfg
  have O1 := over (h := b) (k := c) (w := a) (f := fun j i => f i j) (g := fun j i => g i j) (by omega) (by omega) (fun i j hi hj => hf j i hj hi) (fun i j hi hj => hg j i hj hi)
  have E1 : gridR (b + c) a (fun i j => jn b (fun j i => f i j) (fun j i => g i j) i j) = gridR (b + c) a fun j i => jn b (f i) (g i) j := grid_congr fun i j _ _ => by
    unfold jn
    split <;> rfl
  rw [E1] at O1
  have E2 : gridR a (b + c + b) (fun i j => jn (b + c) ((fun i j => jn b (f i) (g i) j) i) (f i) j) = gridR a (b + (c + b)) fun i j => jn b (f i) ((fun i j => jn c (g i) (f i) j) i) j := by
    rw [Nat.add_assoc]
    exact grid_congr fun i j _ _ => jn_asc b c (f i) (g i) j
  rw [E2] at B2
  have U := unit_grid (n := a) (by omega)
  have N1 := nought_grid (h := b) (w := 3) (by omega) (by decide)
  have N2 := nought_grid (h := a) (w := 3) (by omega) (by decide)
  simp only [nc3] at N1 N2
  have sU : GS a a fun i j => if i = j then (1 : Int) else 0 := fun i j _ _ => by
    show small (if i = j then (1 : Int) else 0)
    split <;> decide
  have s0 : GS b 3 fun _ _ => (0 : Int) := fun _ _ _ _ => (by decide : small 0)
  have P1 := grid_product (h := a) (k := a) (w := b) (by omega) (by omega) (by omega) sU hf
  have P2 := grid_product (h := a) (k := b) (w := 3) (by omega) (by omega) (by decide) hf s0
  have E3 : gridR a b (fun i j => sm a fun l => (if i = l then (1 : Int) else 0) * f l j) = gridR a b f := grid_congr fun i j hi _ => sm_pick hi fun l => f l j
  have E4 : gridR a 3 (fun i j => sm b fun l => f i l * (0 : Int)) = gridR a 3 fun _ _ => 0 := grid_congr fun i j _ _ => by
    rw [sm_congr (g := fun _ => 0) fun l _ => Int.mul_zero _, sm_nil]
  rw [E3] at P1
  rw [E4] at P2
  have ea : ((b : Nat) : Int) + ((c : Nat) : Int) = ((b + c : Nat) : Int) := by omega
  simp only [ex_seq, nxt_nx, nxt_rt, nxt_ct, nxt_bk, ex_ifs, brn_t, brn_f, ex_pass, ex_ret, ex_expr, ex_asg, bndM_so, ex_par, ex_aug, ex_for, endD_nx, endD_rt, bind_nm, bind_nil, bind_cons, bind_consl, ev_var, ev_c, ev_bin, ev_neg, ev_cmp, chn_t, chn_f, ev_chain, ev_and, ev_or, ev_ite, and_t, and_f, or_t, or_f, ite_t, ite_f, ev_not, ev_tup, ev_lst, ev_ix, ev_sl, intM_int, ev_int, ev_lc, ev_call, evs_nil, evs_cons, evs_star, evs_it1, evs_rng1, evs_rng2, evs_zip, evs_enum, andThen_ret, andThen_assoc, optM_so, List.getElem?_cons_succ, List.getElem?_cons_zero, slotM_so, Option.bind_some, Option.map_some, bi_eq, binM_eq, cmpM_eq, slM_eq, nr_non, nr_bl, nr_int, nr_str, nr_tup, nr_lst, nr_ty, nr_scr, nr_emp, nrs_nil, nrs_cons, Bool.and_self, Bool.and_true, ev_dnew, List.set_cons_succ, List.set_cons_zero, bin_add, bin_sub, neg_int, cmp_lt, cmp_le, cmp_gt, cmp_ge, cmp_isbl, cmp_notbl, cmp_eq_int, cmp_ne_int, cmp_eq_bl, cmp_ne_bl, truthM_bl, Bool.not_true, Bool.not_false, lenOk0, lenOk1, lenOk2, lenOk3, intD_int, absD_int, lenD_tup, lenD_lst, lenD_scr, tupD_lst, tupD_tup, startE, List.map_cons, List.map_nil, List.length_cons, List.length_nil, Nat.zero_add, Nat.reduceAdd, Nat.reduceSub, List.replicate_succ, List.replicate_zero, List.cons_append, List.nil_append, lenOk_small, Nat.reduceLeDiff, eq_self, items_tup, items_lst, ixM_tup, ixM_lst, decide_true, decide_false, wipeE, lcF_eq, lcB_so, lcC_t, lcC_f, noXM_ret, List.length_map, List.length_range, atI0, atI1, atI2, nc0, nc1, nc2, nc3, nc4, nc5, nc6, nc7, nc8, nc9, B1, T1, T2, T3, O1, ea, cmp_ne_self (grid_shp (b + c) a fun j i => jn b (f i) (g i) j)]
  simp only [ex_seq, nxt_nx, nxt_rt, nxt_ct, nxt_bk, ex_ifs, brn_t, brn_f, ex_pass, ex_ret, ex_expr, ex_asg, bndM_so, ex_par, ex_aug, ex_for, endD_nx, endD_rt, bind_nm, bind_nil, bind_cons, bind_consl, ev_var, ev_c, ev_bin, ev_neg, ev_cmp, chn_t, chn_f, ev_chain, ev_and, ev_or, ev_ite, and_t, and_f, or_t, or_f, ite_t, ite_f, ev_not, ev_tup, ev_lst, ev_ix, ev_sl, intM_int, ev_int, ev_lc, ev_call, evs_nil, evs_cons, evs_star, evs_it1, evs_rng1, evs_rng2, evs_zip, evs_enum, andThen_ret, andThen_assoc, optM_so, List.getElem?_cons_succ, List.getElem?_cons_zero, slotM_so, Option.bind_some, Option.map_some, bi_eq, binM_eq, cmpM_eq, slM_eq, nr_non, nr_bl, nr_int, nr_str, nr_tup, nr_lst, nr_ty, nr_scr, nr_emp, nrs_nil, nrs_cons, Bool.and_self, Bool.and_true, ev_dnew, List.set_cons_succ, List.set_cons_zero, bin_add, bin_sub, neg_int, cmp_lt, cmp_le, cmp_gt, cmp_ge, cmp_isbl, cmp_notbl, cmp_eq_int, cmp_ne_int, cmp_eq_bl, cmp_ne_bl, truthM_bl, Bool.not_true, Bool.not_false, lenOk0, lenOk1, lenOk2, lenOk3, intD_int, absD_int, lenD_tup, lenD_lst, lenD_scr, tupD_lst, tupD_tup, startE, List.map_cons, List.map_nil, List.length_cons, List.length_nil, Nat.zero_add, Nat.reduceAdd, Nat.reduceSub, List.replicate_succ, List.replicate_zero, List.cons_append, List.nil_append, lenOk_small, Nat.reduceLeDiff, eq_self, items_tup, items_lst, ixM_tup, ixM_lst, decide_true, decide_false, wipeE, lcF_eq, lcB_so, lcC_t, lcC_f, noXM_ret, List.length_map, List.length_range, atI0, atI1, atI2, nc0, nc1, nc2, nc3, nc4, nc5, nc6, nc7, nc8, nc9, B1, B2, B3, B4, U, P1, P2, N1, N2, cmp_eq_self (grid_shp _ _ _)]
  exact ⟨rfl, rfl⟩
end
def sIn : S := (.seq (.ifs (.not_ (.call m__law_right (.cons (.var 2) .nil))) (.seq (.ret (.c (.bl false))) .pass) .pass) .pass)
def sOut : S := (.seq (.asg (.nm 2) (.call m__law_hat (.cons (.var 0) (.cons (.var 1) .nil)))) (.seq (.for_ (.nm 3) (.rng1 (.c (.int 3))) sIn) .pass))
abbrev en (ns : List Int) (s1 s2 s3 : Option D) : Ev := [some (.scr ns), s1, s2, s3, none]
theorem in_ok {ns : List Int} {st : Sto} {i : Nat} {s1 s3 : Option D} (hs : st[i]? = some .hat) (hst : st.all MO.rf = true) : OkM (ex sIn (en ns s1 (some (.ref i)) s3)) st (fun r s' => r = (.nx, en ns s1 (some (.ref i)) s3) ∧ s' = st) NoE := by
  unfold sIn
  simp only [ex_seq, nxt_nx, nxt_rt, nxt_ct, nxt_bk, ex_ifs, brn_t, brn_f, ex_pass, ex_ret, ex_expr, ex_asg, bndM_so, ex_par, ex_aug, ex_for, endD_nx, endD_rt, bind_nm, bind_nil, bind_cons, bind_consl, ev_var, ev_c, ev_bin, ev_neg, ev_cmp, chn_t, chn_f, ev_chain, ev_and, ev_or, ev_ite, and_t, and_f, or_t, or_f, ite_t, ite_f, ev_not, ev_tup, ev_lst, ev_ix, ev_sl, intM_int, ev_int, ev_lc, ev_call, evs_nil, evs_cons, evs_star, evs_it1, evs_rng1, evs_rng2, evs_zip, evs_enum, andThen_ret, andThen_assoc, optM_so, List.getElem?_cons_succ, List.getElem?_cons_zero, slotM_so, Option.bind_some, Option.map_some, bi_eq, binM_eq, cmpM_eq, slM_eq, nr_non, nr_bl, nr_int, nr_str, nr_tup, nr_lst, nr_ty, nr_scr, nr_emp, nrs_nil, nrs_cons, Bool.and_self, Bool.and_true, ev_dnew, List.set_cons_succ, List.set_cons_zero, bin_add, bin_sub, neg_int, cmp_lt, cmp_le, cmp_gt, cmp_ge, cmp_isbl, cmp_notbl, cmp_eq_int, cmp_ne_int, cmp_eq_bl, cmp_ne_bl, truthM_bl, Bool.not_true, Bool.not_false, lenOk0, lenOk1, lenOk2, lenOk3, intD_int, absD_int, lenD_tup, lenD_lst, lenD_scr, tupD_lst, tupD_tup, startE, List.map_cons, List.map_nil, List.length_cons, List.length_nil, Nat.zero_add, Nat.reduceAdd, Nat.reduceSub, List.replicate_succ, List.replicate_zero, List.cons_append, List.nil_append, lenOk_small, Nat.reduceLeDiff, eq_self, items_tup, items_lst, ixM_tup, ixM_lst, decide_true, decide_false, wipeE, lcF_eq, lcB_so, lcC_t, lcC_f, noXM_ret, List.length_map, List.length_range, atI0, atI1, atI2, nc0, nc1, nc2, nc3, nc4, nc5, nc6, nc7, nc8, nc9]
  refine OkM.use (right hs hst) fun v hv => ?_
  subst hv
  simp only [ex_seq, nxt_nx, nxt_rt, nxt_ct, nxt_bk, ex_ifs, brn_t, brn_f, ex_pass, ex_ret, ex_expr, ex_asg, bndM_so, ex_par, ex_aug, ex_for, endD_nx, endD_rt, bind_nm, bind_nil, bind_cons, bind_consl, ev_var, ev_c, ev_bin, ev_neg, ev_cmp, chn_t, chn_f, ev_chain, ev_and, ev_or, ev_ite, and_t, and_f, or_t, or_f, ite_t, ite_f, ev_not, ev_tup, ev_lst, ev_ix, ev_sl, intM_int, ev_int, ev_lc, ev_call, evs_nil, evs_cons, evs_star, evs_it1, evs_rng1, evs_rng2, evs_zip, evs_enum, andThen_ret, andThen_assoc, optM_so, List.getElem?_cons_succ, List.getElem?_cons_zero, slotM_so, Option.bind_some, Option.map_some, bi_eq, binM_eq, cmpM_eq, slM_eq, nr_non, nr_bl, nr_int, nr_str, nr_tup, nr_lst, nr_ty, nr_scr, nr_emp, nrs_nil, nrs_cons, Bool.and_self, Bool.and_true, ev_dnew, List.set_cons_succ, List.set_cons_zero, bin_add, bin_sub, neg_int, cmp_lt, cmp_le, cmp_gt, cmp_ge, cmp_isbl, cmp_notbl, cmp_eq_int, cmp_ne_int, cmp_eq_bl, cmp_ne_bl, truthM_bl, Bool.not_true, Bool.not_false, lenOk0, lenOk1, lenOk2, lenOk3, intD_int, absD_int, lenD_tup, lenD_lst, lenD_scr, tupD_lst, tupD_tup, startE, List.map_cons, List.map_nil, List.length_cons, List.length_nil, Nat.zero_add, Nat.reduceAdd, Nat.reduceSub, List.replicate_succ, List.replicate_zero, List.cons_append, List.nil_append, lenOk_small, Nat.reduceLeDiff, eq_self, items_tup, items_lst, ixM_tup, ixM_lst, decide_true, decide_false, wipeE, lcF_eq, lcB_so, lcC_t, lcC_f, noXM_ret, List.length_map, List.length_range, atI0, atI1, atI2, nc0, nc1, nc2, nc3, nc4, nc5, nc6, nc7, nc8, nc9]
  exact ⟨rfl, rfl⟩
theorem out_ok {ns : List Int} {st : Sto} {k : Int} {s2 s3 : Option D} (h0 : 0 ≤ k) (h1 : k < 4) (hst : st.all MO.rf = true) : OkM (ex sOut (en ns (some (.int k)) s2 s3)) st (fun r s' => s'.all MO.rf = true ∧ ∃ u v w, r = (.nx, en ns u v w)) NoE := by
  unfold sOut
  simp only [ex_seq, nxt_nx, nxt_rt, nxt_ct, nxt_bk, ex_ifs, brn_t, brn_f, ex_pass, ex_ret, ex_expr, ex_asg, bndM_so, ex_par, ex_aug, ex_for, endD_nx, endD_rt, bind_nm, bind_nil, bind_cons, bind_consl, ev_var, ev_c, ev_bin, ev_neg, ev_cmp, chn_t, chn_f, ev_chain, ev_and, ev_or, ev_ite, and_t, and_f, or_t, or_f, ite_t, ite_f, ev_not, ev_tup, ev_lst, ev_ix, ev_sl, intM_int, ev_int, ev_lc, ev_call, evs_nil, evs_cons, evs_star, evs_it1, evs_rng1, evs_rng2, evs_zip, evs_enum, andThen_ret, andThen_assoc, optM_so, List.getElem?_cons_succ, List.getElem?_cons_zero, slotM_so, Option.bind_some, Option.map_some, bi_eq, binM_eq, cmpM_eq, slM_eq, nr_non, nr_bl, nr_int, nr_str, nr_tup, nr_lst, nr_ty, nr_scr, nr_emp, nrs_nil, nrs_cons, Bool.and_self, Bool.and_true, ev_dnew, List.set_cons_succ, List.set_cons_zero, bin_add, bin_sub, neg_int, cmp_lt, cmp_le, cmp_gt, cmp_ge, cmp_isbl, cmp_notbl, cmp_eq_int, cmp_ne_int, cmp_eq_bl, cmp_ne_bl, truthM_bl, Bool.not_true, Bool.not_false, lenOk0, lenOk1, lenOk2, lenOk3, intD_int, absD_int, lenD_tup, lenD_lst, lenD_scr, tupD_lst, tupD_tup, startE, List.map_cons, List.map_nil, List.length_cons, List.length_nil, Nat.zero_add, Nat.reduceAdd, Nat.reduceSub, List.replicate_succ, List.replicate_zero, List.cons_append, List.nil_append, lenOk_small, Nat.reduceLeDiff, eq_self, items_tup, items_lst, ixM_tup, ixM_lst, decide_true, decide_false, wipeE, lcF_eq, lcB_so, lcC_t, lcC_f, noXM_ret, List.length_map, List.length_range, atI0, atI1, atI2, nc0, nc1, nc2, nc3, nc4, nc5, nc6, nc7, nc8, nc9, rng1_ok (show (0 : Int) ≤ 3 by decide) (by decide)]
  refine hat_all h0 (by omega) ?_
  have hst' : (st ++ [MO.hat]).all MO.rf = true := by
    rw [List.all_append, hst]
    rfl
  refine OkM.then (forGo_all (I := fun e s => s.all MO.rf = true ∧ ∃ w, e = en ns (some (.int k)) (some (.ref st.length)) w ∧ s[st.length]? = some .hat) _ _ _ (fun x hx e s he => ?_) (fun e s he => ?_) ⟨hst', s3, rfl, by simp⟩)
  · obtain ⟨ha, w, rfl, hs⟩ := he
    refine ⟨_, rfl, OkM.mono (in_ok hs ha) (fun r s' hr => ?_) (fun _ _ _ z => z)⟩
    obtain ⟨rfl, rfl⟩ := hr
    exact ⟨ha, _, rfl, hs⟩
  · obtain ⟨ha, w, rfl, hs⟩ := he
    simp only [ex_seq, nxt_nx, nxt_rt, nxt_ct, nxt_bk, ex_ifs, brn_t, brn_f, ex_pass, ex_ret, ex_expr, ex_asg, bndM_so, ex_par, ex_aug, ex_for, endD_nx, endD_rt, bind_nm, bind_nil, bind_cons, bind_consl, ev_var, ev_c, ev_bin, ev_neg, ev_cmp, chn_t, chn_f, ev_chain, ev_and, ev_or, ev_ite, and_t, and_f, or_t, or_f, ite_t, ite_f, ev_not, ev_tup, ev_lst, ev_ix, ev_sl, intM_int, ev_int, ev_lc, ev_call, evs_nil, evs_cons, evs_star, evs_it1, evs_rng1, evs_rng2, evs_zip, evs_enum, andThen_ret, andThen_assoc, optM_so, List.getElem?_cons_succ, List.getElem?_cons_zero, slotM_so, Option.bind_some, Option.map_some, bi_eq, binM_eq, cmpM_eq, slM_eq, nr_non, nr_bl, nr_int, nr_str, nr_tup, nr_lst, nr_ty, nr_scr, nr_emp, nrs_nil, nrs_cons, Bool.and_self, Bool.and_true, ev_dnew, List.set_cons_succ, List.set_cons_zero, bin_add, bin_sub, neg_int, cmp_lt, cmp_le, cmp_gt, cmp_ge, cmp_isbl, cmp_notbl, cmp_eq_int, cmp_ne_int, cmp_eq_bl, cmp_ne_bl, truthM_bl, Bool.not_true, Bool.not_false, lenOk0, lenOk1, lenOk2, lenOk3, intD_int, absD_int, lenD_tup, lenD_lst, lenD_scr, tupD_lst, tupD_tup, startE, List.map_cons, List.map_nil, List.length_cons, List.length_nil, Nat.zero_add, Nat.reduceAdd, Nat.reduceSub, List.replicate_succ, List.replicate_zero, List.cons_append, List.nil_append, lenOk_small, Nat.reduceLeDiff, eq_self, items_tup, items_lst, ixM_tup, ixM_lst, decide_true, decide_false, wipeE, lcF_eq, lcB_so, lcC_t, lcC_f, noXM_ret, List.length_map, List.length_range, atI0, atI1, atI2, nc0, nc1, nc2, nc3, nc4, nc5, nc6, nc7, nc8, nc9]
    exact ⟨ha, _, _, _, rfl⟩
theorem nc60 : ((60 : Nat) : Int) = 60 := rfl
theorem nc61 : ((61 : Nat) : Int) = 61 := rfl
theorem m60 (d : D) : binD .Mult (.tup [d]) (.int 60) = some (.tup ((List.range 60).map fun _ => d)) := mul_rep (n := 60) (by decide)
theorem m61 (d : D) : binD .Mult (.tup [d]) (.int 61) = some (.tup ((List.range 61).map fun _ => d)) := mul_rep (n := 61) (by decide)
theorem u60 : m_unit_grid [.int 60] = ret (gridR 60 60 fun i j => if i = j then 1 else 0) := unit_grid (n := 60) (by decide)
theorem lu60 : m__law_unit [.int 60] = ret (gridR 60 60 fun i j => if i = j then 1 else 0) := l_unit (n := 60) (by decide)
theorem n60 : m_nought_grid [.int 60, .int 0] = ret (.tup [.int 0, .tup ((List.range 60).map fun _ => .tup [])]) := nought_grid (h := 60) (w := 0) (by decide) (by decide)
theorem n06 : m_nought_grid [.int 0, .int 60] = ret (.tup [.int 60, .tup []]) := nought_grid (h := 0) (w := 60) (by decide) (by decide)
theorem u0 : m_unit_grid [.int 0] = ret (.tup [.int 0, .tup []]) := unit_grid (n := 0) (by decide)
theorem shp60 : D.shp (.tup [.int 0, .tup ((List.range 60).map fun _ => .tup [])]) 64 = true := grid_shp 60 0 fun _ _ => 0
theorem r60 : m_is_row [.tup ((List.range 60).map fun _ => .int 1)] = ret (.bl true) := row_yes (n := 60) (f := fun _ => 1) (by decide) (fun _ _ => by decide)
theorem r61 : m_is_row [.tup ((List.range 61).map fun _ => .int 1)] = ret (.bl false) := row rfl (fun xs e x hx => by
  cases e
  obtain ⟨_, _, rfl⟩ := List.mem_map.mp hx
  rfl)
theorem g60 : m_is_grid [.tup [.int 60, .tup ((List.range 60).map fun _ => .tup ((List.range 60).map fun _ => .int 0))]] = ret (.bl true) := grid_yes (h := 60) (w := 60) (f := fun _ _ => 0) (by decide) (by decide) (fun _ _ _ _ => (by decide : small 0))
theorem pvOf {n : Nat} {d : D} (h : vb 100 d n = true) (hn : n ≤ 60) : PV 3 d := (vb_sv 3 d 100 n (by decide) (by omega) h).pv
theorem g61 : m_is_grid [.tup [.int 61, .tup []]] = ret (.bl false) := grid_any (pvOf (n := 5) (by simp [vb, vbs]) (by decide))
theorem gT : m_is_grid [.tup [.bl true, .tup []]] = ret (.bl false) := grid_any (pvOf (n := 5) (by simp [vb, vbs]) (by decide))
theorem pvE (m : Nat) (h : m ≤ 100) : PV 3 (.tup [.int 0, .tup ((List.range m).map fun _ => .tup [])]) := pvOf (n := 3) (vb_grid (h := m) (w := 0) (n := 100) (k := 0) (f := fun _ _ => 0) h (by decide) (by decide)) (by decide)
theorem gE61 : m_is_grid [.tup [.int 0, .tup ((List.range 61).map fun _ => .tup [])]] = ret (.bl false) := grid_any (pvE 61 (by decide))
theorem gE60 : m_is_grid [.tup [.int 0, .tup ((List.range 60).map fun _ => .tup [])]] = ret (.bl true) := grid_any (pvE 60 (by decide))
theorem iN : m_is_integer [.int (1000000000000 - 1)] = ret (.bl true) := integer rfl
theorem iN2 : m_is_integer [.int 1000000000000] = ret (.bl false) := integer rfl
theorem iF : m_is_integer [.bl false] = ret (.bl false) := integer rfl
theorem main (ns : List Int) (h : ns.length ≤ 63) : (m_law [.scr ns] []).All (fun v _ => v = .bl true) (fun _ _ _ => False) := by
  refine OkM.all (m := m_law [.scr ns]) ?_
  unfold m_law
  rw [fn1]
  have hb : ∃ n : Int, maxD [.int 1, .int (if ((ns.length : Nat) : Int) < 4 then ((ns.length : Nat) : Int) else 4)] = some (.int n) ∧ 1 ≤ n ∧ n ≤ 4 := by
    refine ⟨_, rfl, ?_, ?_⟩
    · split <;> omega
    · split <;> split <;> omega
  obtain ⟨n, hn, n1, n2⟩ := hb
  have hm : ∀ k : Int, minD [.int 4, .int k] = some (.int (if k < 4 then k else 4)) := fun _ => rfl
  unfold c_law
  simp only [ex_seq, nxt_nx, nxt_rt, nxt_ct, nxt_bk, ex_ifs, brn_t, brn_f, ex_pass, ex_ret, ex_expr, ex_asg, bndM_so, ex_par, ex_aug, ex_for, endD_nx, endD_rt, bind_nm, bind_nil, bind_cons, bind_consl, ev_var, ev_c, ev_bin, ev_neg, ev_cmp, chn_t, chn_f, ev_chain, ev_and, ev_or, ev_ite, and_t, and_f, or_t, or_f, ite_t, ite_f, ev_not, ev_tup, ev_lst, ev_ix, ev_sl, intM_int, ev_int, ev_lc, ev_call, evs_nil, evs_cons, evs_star, evs_it1, evs_rng1, evs_rng2, evs_zip, evs_enum, andThen_ret, andThen_assoc, optM_so, List.getElem?_cons_succ, List.getElem?_cons_zero, slotM_so, Option.bind_some, Option.map_some, bi_eq, binM_eq, cmpM_eq, slM_eq, nr_non, nr_bl, nr_int, nr_str, nr_tup, nr_lst, nr_ty, nr_scr, nr_emp, nrs_nil, nrs_cons, Bool.and_self, Bool.and_true, ev_dnew, List.set_cons_succ, List.set_cons_zero, bin_add, bin_sub, neg_int, cmp_lt, cmp_le, cmp_gt, cmp_ge, cmp_isbl, cmp_notbl, cmp_eq_int, cmp_ne_int, cmp_eq_bl, cmp_ne_bl, truthM_bl, Bool.not_true, Bool.not_false, lenOk0, lenOk1, lenOk2, lenOk3, intD_int, absD_int, lenD_tup, lenD_lst, lenD_scr, tupD_lst, tupD_tup, startE, List.map_cons, List.map_nil, List.length_cons, List.length_nil, Nat.zero_add, Nat.reduceAdd, Nat.reduceSub, List.replicate_succ, List.replicate_zero, List.cons_append, List.nil_append, lenOk_small, Nat.reduceLeDiff, eq_self, items_tup, items_lst, ixM_tup, ixM_lst, decide_true, decide_false, wipeE, lcF_eq, lcB_so, lcC_t, lcC_f, noXM_ret, List.length_map, List.length_range, atI0, atI1, atI2, nc0, nc1, nc2, nc3, nc4, nc5, nc6, nc7, nc8, nc9, hm, hn, rng1_ok (show 0 ≤ n by omega) (by omega)]
  refine OkM.then (forGo_all (I := fun e s => s.all MO.rf = true ∧ ∃ u v w, e = en ns u v w) _ _ _ (fun x hx e s he => ?_) (fun e s he => ?_) ⟨rfl, _, _, _, rfl⟩)
  · obtain ⟨ha, u, v, w, rfl⟩ := he
    obtain ⟨k, rfl, k0, k1⟩ := range_mem hx
    refine ⟨_, rfl, OkM.mono (out_ok (ns := ns) (k := k) (s2 := v) (s3 := w) k0 (by omega) ha) (fun r s' hr => ?_) (fun _ _ _ z => z)⟩
    obtain ⟨ha, u, v, w, rfl⟩ := hr
    exact ⟨ha, u, v, w, rfl⟩
  · obtain ⟨ha, u, v, w, rfl⟩ := he
    simp only [ex_seq, nxt_nx, nxt_rt, nxt_ct, nxt_bk, ex_ifs, brn_t, brn_f, ex_pass, ex_ret, ex_expr, ex_asg, bndM_so, ex_par, ex_aug, ex_for, endD_nx, endD_rt, bind_nm, bind_nil, bind_cons, bind_consl, ev_var, ev_c, ev_bin, ev_neg, ev_cmp, chn_t, chn_f, ev_chain, ev_and, ev_or, ev_ite, and_t, and_f, or_t, or_f, ite_t, ite_f, ev_not, ev_tup, ev_lst, ev_ix, ev_sl, intM_int, ev_int, ev_lc, ev_call, evs_nil, evs_cons, evs_star, evs_it1, evs_rng1, evs_rng2, evs_zip, evs_enum, andThen_ret, andThen_assoc, optM_so, List.getElem?_cons_succ, List.getElem?_cons_zero, slotM_so, Option.bind_some, Option.map_some, bi_eq, binM_eq, cmpM_eq, slM_eq, nr_non, nr_bl, nr_int, nr_str, nr_tup, nr_lst, nr_ty, nr_scr, nr_emp, nrs_nil, nrs_cons, Bool.and_self, Bool.and_true, ev_dnew, List.set_cons_succ, List.set_cons_zero, bin_add, bin_sub, neg_int, cmp_lt, cmp_le, cmp_gt, cmp_ge, cmp_isbl, cmp_notbl, cmp_eq_int, cmp_ne_int, cmp_eq_bl, cmp_ne_bl, truthM_bl, Bool.not_true, Bool.not_false, lenOk0, lenOk1, lenOk2, lenOk3, intD_int, absD_int, lenD_tup, lenD_lst, lenD_scr, tupD_lst, tupD_tup, startE, List.map_cons, List.map_nil, List.length_cons, List.length_nil, Nat.zero_add, Nat.reduceAdd, Nat.reduceSub, List.replicate_succ, List.replicate_zero, List.cons_append, List.nil_append, lenOk_small, Nat.reduceLeDiff, eq_self, items_tup, items_lst, ixM_tup, ixM_lst, decide_true, decide_false, wipeE, lcF_eq, lcB_so, lcC_t, lcC_f, noXM_ret, List.length_map, List.length_range, atI0, atI1, atI2, nc0, nc1, nc2, nc3, nc4, nc5, nc6, nc7, nc8, nc9, m60, m61, u60, lu60, n60, n06, u0, pow12, cmp_ne_self (grid_shp _ _ _), cmp_ne_self shp60, cmp_ne_self (show D.shp (.tup [.int 60, .tup []]) 64 = true from rfl), cmp_ne_self (show D.shp (.tup [.int 0, .tup []]) 64 = true from rfl), r60, r61, g60, g61, gT, gE61, gE60,
      cmp_ne_self (show D.shp (.lst [.bl true, .bl false, .bl true, .bl false, .bl false, .bl true, .bl false]) 64 = true from rfl), iN, iN2, iF, cmp_eq_self (show D.shp (.lst [.bl true, .bl false, .bl false, .int 12, .int 60]) 64 = true from rfl)]
    exact ⟨rfl⟩
end K03

set_option Elab.async false
set_option linter.all false
set_option maxRecDepth 100000
set_option maxHeartbeats 4000000
namespace K03
open PySem PySem.Spec PyProof.Rows L2 Gw
abbrev RR : PySem.W.OpenRow := PySem.W.OpenLaw.row PySem.Challenge.rw_gluewhole_k03_whole_rows_and_grids_judge
abbrev hk : PySem.W.Hook := He.hookD 4 faL fnL
def ob (s : PySem.W.SharedT) : He.AlD := He.obsDG 4 faL fnL (HandSHeadRun.getT s)
theorem ob_eq (s : PySem.W.SharedT) : ob s = hk.obs s.abs := He.obsDG_eq (HandSHeadRun.getT_eq s)
def loose : List PySem.Str := ((["GlueError", "InvalidGrid", "InvalidOperation", "InvalidNumber", "TooMany", "MAX_DIGITS", "MAX_SIZE", "PAIR", "BOUND", "is_whole", "is_integer", "is_within", "is_row_of", "is_row", "is_grid_in"] : List PySem.Str) ++ (["is_grid", "require_within", "require_grid", "dot_in", "unit_in", "nought_in", "turned_in", "times_in", "beside_in", "over_in", "require_two_grids", "need_size", "unit_grid", "nought_grid", "turned"] : List PySem.Str) ++ (["grid_product", "beside", "over", "_law_hat", "_law_up_to", "_law_out_of", "_law_unit", "_law_is_row", "_law_jg_entry", "_law_jg_wide", "_law_jg_bent", "_law_jg_near", "_law_short", "_law_sized", "_law_right"] : List PySem.Str))
theorem run (w : World) : HandSHeadRun.RunEq RR (PySem.W.view RR.prog [48]) hk ob 3000 loose w := by
  intro os
  kernel_rfl
theorem law_all {w : World} {K : PySem.W.Frag} {mg : Str → Option Value} {h : Heap} {f : Addr} (X : K.In h) (N : h.Ns mainGlobals mg) (hfa : mg ("law" : Str) = some (.ref f)) (c : He.SaysD faL fnL K) :
    ∃ fd : FuncData, (∀ (s : Shared) (v : Value), BindsTo s fd ⟨[v], []⟩ [("_law_script", v)]) ∧ ∀ base : Heap, FnOk PP w K mg base CX0 16 f fd ["_law_script"] (spEnd (GG K mg) m_law) := by
  obtain ⟨fd, F⟩ := c.def_ 36 (d := d_law) rfl
  have e := hfa.symm.trans (He.glo_ok X N (c.fact 36 (f := .glo "law") rfl))
  cases e
  have b := FunD.bindsA (ps := ["_law_script"]) F fun _ _ _ _ _ _ us hl => match us, hl with | [_], _ => rfl
  refine ⟨fd, fun s v => b s [v] rfl, fun base => ?_⟩
  have Z : Wd w K mg base h := ⟨X, N, c⟩
  exact law_end (fn_core F s_law (Γ := G_law) rfl rfl k_law rfl rfl (TabOk.cons (f_is_integer Z) (TabOk.cons (f_is_grid Z) (TabOk.cons (f_is_row Z) (TabOk.cons (f_unit_grid Z) (TabOk.cons (f__law_unit Z) (TabOk.cons (f_nought_grid Z) (TabOk.cons (f__law_right Z) (TabOk.cons (f__law_hat Z) TabOk.nil)))))))) (CstOk.cons (cst_int (He.int_ok Z.X Z.N (Z.c.fact 51 rfl))) (CstOk.cons (cst_int (He.int_ok Z.X Z.N (Z.c.fact 53 rfl))) CstOk.nil)) (FreeOk.cons (He.free_ok Z.X Z.N (Z.c.fact 46 rfl)) (FreeOk.cons (He.free_ok Z.X Z.N (Z.c.fact 43 rfl)) (FreeOk.cons (He.free_ok Z.X Z.N (Z.c.fact 49 rfl)) (FreeOk.cons (He.free_ok Z.X Z.N (Z.c.fact 41 rfl)) FreeOk.nil)))))
end K03
open PySem PySem.W PySem.Calls PyProof.Rows
theorem PySem.Challenge.cw_gluewhole_k03_whole_rows_and_grids_judge_holds : PySem.Challenge.rw_gluewhole_k03_whole_rows_and_grids_judge.Holds := by
  w_on; o_law
  refine HandSHeadRun.head_any (r := OpenLaw.row PySem.Challenge.rw_gluewhole_k03_whole_rows_and_grids_judge) (q := view (OpenLaw.row PySem.Challenge.rw_gluewhole_k03_whole_rows_and_grids_judge).prog [48]) (H := K03.hk) (ob := K03.ob) (M := 3000) (loose := K03.loose) (d := HandSHeadRun.topDef (OpenLaw.row PySem.Challenge.rw_gluewhole_k03_whole_rows_and_grids_judge).prog 48) (kwd := []) K03.ob_eq
    (by kernel_rfl) (fun s => by kernel_rfl) K03.run (by kernel_rfl) (by kernel_rfl) (by kernel_rfl) (by rfl) (by first | assumption | decide +kernel) (by decide +kernel) ⟨rfl, rfl, rfl, rfl, rfl, by decide +kernel⟩ ?hw ?hc
  case hw => w_witness2
  case hc =>
    refine L2.walk_ofE (l := PySem.Challenge.rw_gluewhole_k03_whole_rows_and_grids_judge) (n := 63) (k := 16) (x := "_law_script") (CX := L2.CX0) rfl (by decide) (by kernel_rfl) ⟨rfl, by decide, by decide⟩ ?F (fun _ _ _ _ z => z)
    intro w mg fa h Y G hmg0
    obtain ⟨K, KX, c⟩ := Y
    have hmg : mg ("law" : PySem.Str) = some (.ref fa) := by
      have e : (HandSHeadRun.topDef (OpenLaw.row PySem.Challenge.rw_gluewhole_k03_whole_rows_and_grids_judge).prog 48).name = ("law" : PySem.Str) := by kernel_rfl
      rw [← e]
      exact hmg0
    obtain ⟨fd, hb, hF⟩ := K03.law_all (w := w) KX G hmg c
    exact ⟨K, fd, Gw.spEnd (K03.GG K mg) K03.m_law, KX, hb, fun H a ns hl _ hS => Gw.law_start (G := K03.GG K mg) rfl K03.main H a ns hl hS, fun base _ _ => hF base⟩
