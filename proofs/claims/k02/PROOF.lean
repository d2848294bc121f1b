import PyProof.Rows.All
import Wide.All
import OpenK.AllK
import Wide.FinOn
import HandS.ForMost
import HandS.ForExc
import HandS.Flow
import HandS.Walk
import HandS.Wide
import HandS.IsInst
import HandS.Zip
import HandS.TupAny
import HandS.TupMul
import HandS.TupLe
import HandS.Star
import HandS.Conv
import HandS.Style
import HandS.TryMany
import HandS.HeadEnd
import HandS.HeadHook1
import HandS.HeadHook2
import HandS.Head0
import HandS.Head1
import HandS.Head2
import HandS.WordsExc
import PySem.Challenge.RW_gluewhole_k02_whole_moduli_and_shared_di
set_option Elab.async false
set_option linter.all false
set_option maxRecDepth 100000
/-! Gw1: a small core language with values without a heap, its meaning as trees of choices. -/
namespace Gw
open PySem

inductive D where
  | non | bl (b : Bool) | int (i : Int) | str (s : Str)
  | tup (xs : List D) | lst (xs : List D)
  | ref (i : Nat) | fn (x : Str) | ty (n : String)
  | scr (ns : List Int)

/-- a changing object -/
inductive MO where
  | lst (xs : List D) | hat

abbrev Sto := List MO
/-- what comes of a run: a value, an error, a choice of one of n ways, nothing told -/
inductive Tr (α : Type) where
  | ok (a : α) (s : Sto)
  | ex (x : Str) (v : D) (s : Sto)
  | pick (n : Nat) (k : Nat → Tr α)
  | bad
abbrev M (α : Type) := Sto → Tr α
def Tr.bind {α β : Type} : Tr α → (α → Sto → Tr β) → Tr β
  | .ok a s, f => f a s
  | .ex x v s, _ => .ex x v s
  | .pick n k, f => .pick n fun i => (k i).bind f
  | .bad, _ => .bad
def ret {α : Type} (a : α) : M α := fun s => .ok a s
def badM {α : Type} : M α := fun _ => .bad
def andThen {α β : Type} (m : M α) (f : α → M β) : M β := fun s => (m s).bind f
def optM {α : Type} : Option α → M α
  | some a => ret a
  | none => badM

/-- an error within is not told -/
def Tr.noX {α : Type} : Tr α → Tr α
  | .ok a s => .ok a s
  | .ex _ _ _ => .bad
  | .pick n k => .pick n fun i => (k i).noX
  | .bad => .bad
def noXM {α : Type} (m : M α) : M α := fun s => (m s).noX
def Tr.All {α : Type} : Tr α → (α → Sto → Prop) → (Str → D → Sto → Prop) → Prop
  | .ok a s, P, _ => P a s
  | .ex x v s, _, E => E x v s
  | .pick n k, P, E => ∀ i, i < n → (k i).All P E
  | .bad, _, _ => False
theorem Tr.All_mono {α : Type} {P P' : α → Sto → Prop} {E E' : Str → D → Sto → Prop} (hP : ∀ a s, P a s → P' a s) (hE : ∀ x v s, E x v s → E' x v s) : ∀ t : Tr α, t.All P E → t.All P' E'
  | .ok a s, h => hP a s h
  | .ex x v s, h => hE x v s h
  | .pick n k, h => fun i hi => Tr.All_mono hP hE (k i) (h i hi)
  | .bad, h => h
theorem Tr.All_noX {α : Type} {P : α → Sto → Prop} {E E' : Str → D → Sto → Prop} : ∀ t : Tr α, t.noX.All P E → t.All P E'
  | .ok a s, h => h
  | .ex x v s, h => h.elim
  | .pick n k, h => fun i hi => Tr.All_noX (k i) (h i hi)
  | .bad, h => h
theorem Tr.All_bind {α β : Type} {f : α → Sto → Tr β} {P : β → Sto → Prop} {E : Str → D → Sto → Prop} : ∀ t : Tr α, (t.bind f).All P E ↔ t.All (fun a s => (f a s).All P E) E
  | .ok a s => Iff.rfl
  | .ex x v s => Iff.rfl
  | .pick n k => ⟨fun h i hi => (Tr.All_bind (k i)).mp (h i hi), fun h i hi => (Tr.All_bind (k i)).mpr (h i hi)⟩
  | .bad => Iff.rfl

/-! ### values -/
mutual
/-- no changing object within -/
def D.rf : D → Bool
  | .ref _ => false
  | .tup xs => D.rfs xs
  | .lst xs => D.rfs xs
  | _ => true
def D.rfs : List D → Bool
  | [] => true
  | x :: xs => D.rf x && D.rfs xs
end
def MO.rf : MO → Bool
  | .lst xs => D.rfs xs
  | .hat => true
mutual
/-- as plain data -/
def D.data : D → Option PyData
  | .non => some .none
  | .bl b => some (.bool b)
  | .int i => some (.int i)
  | .str s => some (.str s)
  | .tup xs => (D.datas xs).map .tuple
  | .lst xs => (D.datas xs).map .list
  | _ => none
def D.datas : List D → Option (List PyData)
  | [] => some []
  | x :: xs => (D.data x).bind fun d => (D.datas xs).map fun ds => d :: ds
end
/-- Python's == on plain data -/
def D.eq? (x y : D) : Option Bool := match x.data, y.data with
  | some a, some b => if SeqAt.shaped a && SeqAt.shaped b then some (PyData.eqv a b) else none
  | _, _ => none
def D.truth : D → Option Bool
  | .non => some false
  | .bl b => some b
  | .int i => some (i != 0)
  | .str y => if y.length ≤ sizeLine then some ((y.length : Int) != 0) else none
  | .tup xs => some (!xs.isEmpty)
  | .lst xs => some (!xs.isEmpty)
  | _ => none
def lexLtI : List D → List D → Option Bool
  | [], [] => some false
  | [], .int _ :: r => (lexLtI [] r).map fun _ => true
  | .int _ :: r, [] => (lexLtI r []).map fun _ => false
  | .int a :: r, .int b :: r' => (lexLtI r r').map fun z => if a = b then z else decide (a < b)
  | _, _ => none
def D.isNon : D → Bool
  | .non => true
  | _ => false
def cmpD (o : CmpOp) (x y : D) : Option D :=
  match o, x, y with
  | .Eq, x, y => (x.eq? y).map .bl
  | .NotEq, x, y => (x.eq? y).map fun b => .bl (!b)
  | .Lt, .int a, .int b => some (.bl (decide (a < b)))
  | .LtE, .int a, .int b => some (.bl (decide (a ≤ b)))
  | .Gt, .int a, .int b => some (.bl (decide (b < a)))
  | .GtE, .int a, .int b => some (.bl (decide (b ≤ a)))
  | .Is, .bl a, .bl b => some (.bl (decide (a = b)))
  | .IsNot, .bl a, .bl b => some (.bl (!decide (a = b)))
  | .Is, x, .non => some (.bl x.isNon)
  | .IsNot, x, .non => some (.bl (!x.isNon))
  | _, _, _ => none
def okMul (i j : Int) : Bool := decide (i.natAbs < 2 ^ 64) || decide (j.natAbs < 2 ^ 64) || decide (i.natAbs.log2 + j.natAbs.log2 < 1000000)
def okDiv (j : Int) : Bool := decide (j ≠ 0) && decide (j.natAbs.log2 < 9000)
def okPow (i j : Int) : Bool := decide (0 ≤ j) && decide ((Builtin.Int.intBits i : Int) * j ≤ 2 ^ 27)
def binD (o : Operator) (x y : D) : Option D :=
  match o, x, y with
  | .Add, .int a, .int b => some (.int (a + b))
  | .Sub, .int a, .int b => some (.int (a - b))
  | .Mult, .int a, .int b => if okMul a b then some (.int (a * b)) else none
  | .FloorDiv, .int a, .int b => if okDiv b then some (.int (a.fdiv b)) else none
  | .Mod, .int a, .int b => if decide (b ≠ 0) then some (.int (a.fmod b)) else none
  | .Pow, .int a, .int b => if okPow a b then some (.int (a ^ b.toNat)) else none
  | .Add, .tup xs, .tup ys => if decide (xs.length + ys.length ≤ sizeLine) then some (.tup (xs ++ ys)) else none
  | .Add, .lst xs, .lst ys => if decide (xs.length + ys.length ≤ sizeLine) then some (.lst (xs ++ ys)) else none
  | .Add, .str a, .str b => if decide (a.length + b.length ≤ sizeLine) then some (.str (a ++ b)) else none
  | _, _, _ => none
def augD (o : Operator) (x y : D) : Option D :=
  match o, x, y with
  | .Add, .int a, .int b => some (.int (a + b))
  | .Sub, .int a, .int b => some (.int (a - b))
  | .Mult, .int a, .int b => if okMul a b then some (.int (a * b)) else none
  | .Add, .str a, .str b => if decide (a.length + b.length ≤ sizeLine) then some (.str (a ++ b)) else none
  | _, _, _ => none
def negD : D → Option D
  | .int a => some (.int (-a))
  | _ => none
def ixD (x i : D) : Option D :=
  match x, i with
  | .tup xs, .int k => L2.atI xs k
  | .lst xs, .int k => L2.atI xs k
  | .scr ns, .int k => (L2.atI ns k).map .int
  | _, _ => none
def ixS (s : Sto) (x i : D) : Option D :=
  match x, i with
  | .ref r, .int k => match s[r]? with
    | some (.lst xs) => L2.atI xs k
    | _ => none
  | _, _ => ixD x i
def ixM (x i : D) : M D := fun s => optM (ixS s x i) s
def cutD (xs : List D) (lo hi : Option Int) : List D := (xs.drop (HT.sIx xs.length 0 lo)).take (HT.sIx xs.length xs.length hi - HT.sIx xs.length 0 lo)
def partD : D → Option (Option Int)
  | .non => some none
  | .int i => some (some i)
  | _ => none
def slD (x lo hi : D) : Option D :=
  match x, partD lo, partD hi with
  | .tup xs, some a, some b => some (.tup (cutD xs a b))
  | .lst xs, some a, some b => some (.lst (cutD xs a b))
  | _, _, _ => none
def itemsD : D → Option (List D)
  | .tup xs => some xs
  | .lst xs => some xs
  | _ => none
def rangeD (a b : Int) : List D := (List.range (b - a).toNat).map fun (i : Nat) => D.int (a + (i : Int))
def okRng (a b : Int) : Bool := decide (-(2 ^ 62) ≤ a) && decide (a < 2 ^ 62) && decide (-(2 ^ 62) ≤ b) && decide (b < 2 ^ 62)
def rngD : List D → Option (List D)
  | [.int b] => if okRng 0 b then some (rangeD 0 b) else none
  | [.int a, .int b] => if okRng a b then some (rangeD a b) else none
  | _ => none
def zipD : List D → Option (List D)
  | [.tup xs, .tup ys] => some ((xs.zip ys).map fun p => .tup [p.1, p.2])
  | [.lst xs, .lst ys] => some ((xs.zip ys).map fun p => .tup [p.1, p.2])
  | _ => none
def enumD : List D → Option (List D)
  | [.lst xs] => some ((List.range xs.length).zip xs |>.map fun p => .tup [.int (p.1 : Int), p.2])
  | _ => none

/-! ### the core language -/
inductive T where
  | nm (i : Nat) | nil | cons (t : T) (ts : T)
abbrev Ev := List (Option D)
/-- a target takes a value -/
def T.bind : T → D → Ev → Option Ev
  | .nm i, d, e => some (e.set i (some d))
  | .nil, .tup [], e => some e
  | .cons t ts, .tup (x :: xs), e => (t.bind x e).bind fun e' => ts.bind (.tup xs) e'
  | _, _, _ => none

inductive E where
  | var (i : Nat)
  | c (d : D)
  | bin (o : Operator) (a b : E)
  | neg (a : E)
  | cmp (o : CmpOp) (a b : E)
  | chain (o p : CmpOp) (a b c : E)
  | and_ (a b : E) | or_ (a b : E) | not_ (a : E)
  | ite (c a b : E)
  | tup (es : E) | lst (es : E) | lstM (es : E)
  | nil | cons (e es : E) | star (e es : E)
  | ix (a i : E) | sl (a lo hi : E) | int_ (a : E)
  | it1 (a : E) | rng1 (a : E) | rng2 (a b : E) | zip (a b : E) | enum (a : E)
  | lc (own : List Nat) (g : T) (it : E) (cnd : E) (elt : E)
  | call (f : List D → M D) (es : E)

def truthM (d : D) : M Bool := optM d.truth
def wipeE (e : Ev) : List Nat → Ev
  | [] => e
  | v :: vs => (wipeE e vs).set v none
/-- a comprehension's turns -/
def lcGo (f : D → M (Option D)) : List D → List D → M (List D)
  | acc, [] => ret acc
  | acc, x :: xs => andThen (f x) fun o => match o with
    | some y => if acc.length < sizeLine then lcGo f (acc ++ [y]) xs else badM
    | none => lcGo f acc xs
def lenOk (xs : List D) : M (List D) := if xs.length ≤ sizeLine then ret xs else badM
mutual
def ev : E → Ev → M D
  | .var i, e => optM ((e[i]?).bind id)
  | .c d, _ => ret d
  | .bin o a b, e => andThen (ev a e) fun x => andThen (ev b e) fun y => optM (binD o x y)
  | .neg a, e => andThen (ev a e) fun x => optM (negD x)
  | .cmp o a b, e => andThen (ev a e) fun x => andThen (ev b e) fun y => optM (cmpD o x y)
  | .chain o p a b c, e => andThen (ev a e) fun x => andThen (ev b e) fun y => andThen (optM (cmpD o x y)) fun z => match z with
    | .bl true => andThen (ev c e) fun w => optM (cmpD p y w)
    | .bl false => ret (.bl false)
    | _ => badM
  | .and_ a b, e => andThen (ev a e) fun x => andThen (truthM x) fun t => if t = true then ev b e else ret x
  | .or_ a b, e => andThen (ev a e) fun x => andThen (truthM x) fun t => if t = true then ret x else ev b e
  | .not_ a, e => andThen (ev a e) fun x => andThen (truthM x) fun t => ret (.bl (!t))
  | .ite c a b, e => andThen (ev c e) fun x => andThen (truthM x) fun t => if t = true then ev a e else ev b e
  | .tup es, e => andThen (evs es e) fun xs => andThen (lenOk xs) fun xs => ret (.tup xs)
  | .lst es, e => andThen (evs es e) fun xs => andThen (lenOk xs) fun xs => ret (.lst xs)
  | .lstM es, e => andThen (evs es e) fun xs => andThen (lenOk xs) fun xs => fun s => .ok (.ref s.length) (s ++ [.lst xs])
  | .int_ a, e => andThen (ev a e) fun x => match x with
    | .int i => ret (.int i)
    | _ => badM
  | .ix a i, e => andThen (ev a e) fun x => andThen (ev i e) fun k => ixM x k
  | .sl a lo hi, e => andThen (ev a e) fun x => andThen (ev lo e) fun l => andThen (ev hi e) fun h => optM (slD x l h)
  | .lc own g it cnd elt, e => andThen (evs it e) fun xs => andThen (lcGo (fun x => match g.bind x (wipeE e own) with
      | none => badM
      | some e' => andThen (noXM (andThen (ev cnd e') truthM)) fun t => if t = true then andThen (noXM (ev elt e')) fun y => ret (some y) else ret none) [] xs) fun ys => ret (.lst ys)
  | .call f es, e => andThen (evs es e) fun xs => f xs
  | _, _ => badM
def evs : E → Ev → M (List D)
  | .nil, _ => ret []
  | .cons a es, e => andThen (ev a e) fun x => andThen (evs es e) fun xs => ret (x :: xs)
  | .star a es, e => andThen (ev a e) fun x => andThen (optM (itemsD x)) fun ys => andThen (evs es e) fun xs => ret (ys ++ xs)
  | .it1 a, e => andThen (ev a e) fun x => optM (itemsD x)
  | .rng1 a, e => andThen (ev a e) fun x => optM (rngD [x])
  | .rng2 a b, e => andThen (ev a e) fun x => andThen (ev b e) fun y => optM (rngD [x, y])
  | .zip a b, e => andThen (ev a e) fun x => andThen (ev b e) fun y => optM (zipD [x, y])
  | .enum a, e => andThen (ev a e) fun x => optM (enumD [x])
  | _, _ => badM
end

/-! ### statements -/
inductive Fl where
  | nx | rt (d : D) | bk | ct
inductive S where
  | pass | brk | cnt
  | asg (g : T) (a : E)
  | par (i j : Nat) (a b : E)
  | setix (o i a : E)
  | expr (a : E)
  | ret (a : E)
  | ifs (c : E) (t u : S)
  | whl (n : Nat) (c : E) (b : S)
  | for_ (g : T) (it : E) (b : S)
  | seq (a b : S)
  | raise (x : Str) (a : E)
  | never
  | aug (i : Nat) (o : Operator) (a : E)
def setStore (s : Sto) (x i d : D) : Option Sto := match x, i with
  | .ref r, .int k => match s[r]? with
    | some (.lst xs) => (L2.ixN xs.length k).map fun j => s.set r (.lst (xs.set j d))
    | _ => none
  | _, _ => none
def whlGo (c : Ev → M Bool) (b : Ev → M (Fl × Ev)) : Nat → Ev → M (Fl × Ev)
  | 0, _ => badM
  | n + 1, e => andThen (c e) fun t => if t = true then andThen (b e) fun r => match r.1 with
      | .nx => whlGo c b n r.2
      | .ct => whlGo c b n r.2
      | .bk => Gw.ret (.nx, r.2)
      | .rt d => Gw.ret (.rt d, r.2)
    else Gw.ret (.nx, e)
def forGo (g : T) (b : Ev → M (Fl × Ev)) : List D → Ev → M (Fl × Ev)
  | [], e => Gw.ret (.nx, e)
  | x :: xs, e => match g.bind x e with
    | none => badM
    | some e' => andThen (b e') fun r => match r.1 with
      | .nx => forGo g b xs r.2
      | .ct => forGo g b xs r.2
      | .bk => Gw.ret (.nx, r.2)
      | .rt d => Gw.ret (.rt d, r.2)
def ex : S → Ev → M (Fl × Ev)
  | .pass, e => Gw.ret (.nx, e)
  | .brk, e => Gw.ret (.bk, e)
  | .cnt, e => Gw.ret (.ct, e)
  | .asg g a, e => andThen (ev a e) fun x => match g.bind x e with
    | some e' => Gw.ret (.nx, e')
    | none => badM
  | .par i j a b, e => andThen (ev a e) fun x => andThen (ev b e) fun y => Gw.ret (.nx, (e.set i (some x)).set j (some y))
  | .setix o i a, e => andThen (ev a e) fun x => andThen (ev o e) fun y => andThen (ev i e) fun k => fun s => match setStore s y k x with
    | some s' => .ok (.nx, e) s'
    | none => .bad
  | .expr a, e => andThen (ev a e) fun _ => Gw.ret (.nx, e)
  | .ret a, e => andThen (ev a e) fun x => Gw.ret (.rt x, e)
  | .ifs c t u, e => andThen (ev c e) fun x => andThen (truthM x) fun k => if k = true then ex t e else ex u e
  | .whl n c b, e => whlGo (fun e => andThen (ev c e) truthM) (ex b) n e
  | .for_ g it b, e => andThen (evs it e) fun xs => forGo g (ex b) xs e
  | .seq a b, e => andThen (ex a e) fun r => match r.1 with
    | .nx => ex b r.2
    | f => Gw.ret (f, r.2)
  | .raise x a, e => andThen (ev a e) fun v => fun s => .ex x v s
  | .never, _ => badM
  | .aug i o a, e => andThen (optM ((e[i]?).bind id)) fun x => andThen (ev a e) fun y => andThen (optM (augD o x y)) fun z => Gw.ret (.nx, e.set i (some z))
def startE (n : Nat) (ds : List D) : Ev := ds.map some ++ List.replicate (n - ds.length) none
def endD : Fl → M D
  | .nx => Gw.ret .non
  | .rt d => Gw.ret d
  | _ => badM
/-- a def: n slots, p parameters -/
def fnM (n p : Nat) (b : S) : List D → M D := fun ds => if ds.length = p then andThen (ex b (startE n ds)) fun r => endD r.1 else badM
/-- what a def made for itself is forgotten at its end -/
def trimT (n : Nat) : Tr D → Tr D
  | .ok v s => if v.rf && (s.take n).all MO.rf then .ok v (s.take n) else .ok v s
  | .ex x v s => if v.rf && (s.take n).all MO.rf then .ex x v (s.take n) else .ex x v s
  | .pick m k => .pick m fun i => trimT n (k i)
  | .bad => .bad
def trimM (f : List D → M D) : List D → M D := fun ds s => trimT s.length (f ds s)
end Gw

set_option Elab.async false
set_option linter.all false
set_option maxRecDepth 100000
/-! Gw2: how plain values lie in the heap; readings by trees. -/
namespace Gw
open PySem PySem.Spec PyProof.Rows L2

structure Glo where
  K : PySem.W.Frag
  mg : Str → Option Value
  fld : Str → Option Str
/-- which addresses may change (all of them, and those at hand by number) -/
structure Mp where
  M : List Addr
  m : List Addr
def LsM (_G : Glo) (μ : Mp) (H : Hp) (a : Addr) (vs : List V) : Prop := a ∉ μ.M ∧ H a = some (.lst vs)
def ScM (G : Glo) (μ : Mp) (H : Hp) (a : Addr) (vs : List V) : Prop :=
  (a ∉ μ.M ∧ Rd H a (.lst vs)) ∨ ∃ (o : Obj) (its : Array Value) (n : Nat), G.K.lookup a = some o ∧ o.cls = .type "list" ∧ o.dict = none ∧ o.data = .seq its n ∧ its.size ≤ sizeLine ∧ Vals vs its.toList
def TpM (G : Glo) (μ : Mp) (H : Hp) (a : Addr) (vs : List V) : Prop :=
  (a ∉ μ.M ∧ Rd H a (.tup vs)) ∨ ∃ (o : Obj) (its : Array Value) (n : Nat), G.K.lookup a = some o ∧ o.cls = .type "tuple" ∧ o.data = .seq its n ∧ its.size ≤ sizeLine ∧ Vals vs its.toList
theorem LsM.sq {G : Glo} {μ : Mp} {H : Hp} {a : Addr} {vs : List V} (h : LsM G μ H a vs) : SqL G.K H a vs := .inl (.inl h.2)
theorem ScM.sq {G : Glo} {μ : Mp} {H : Hp} {a : Addr} {vs : List V} (h : ScM G μ H a vs) : SqL G.K H a vs := h.elim (fun z => .inl z.2) .inr
theorem TpM.sq {G : Glo} {μ : Mp} {H : Hp} {a : Addr} {vs : List V} (h : TpM G μ H a vs) : SqT G.K H a vs := h.elim (fun z => .inl z.2) .inr
mutual
inductive Rep (G : Glo) (μ : Mp) (H : Hp) : D → V → Prop
  | non : Rep G μ H .non .non
  | bl (b : Bool) : Rep G μ H (.bl b) (.bl b)
  | int (i : Int) : Rep G μ H (.int i) (.int i)
  | str (x : Str) : Rep G μ H (.str x) (.str x)
  | ty (n : String) : Rep G μ H (.ty n) (.ty n)
  | fn {x : Str} {f : Addr} : G.mg x = some (.ref f) → Rep G μ H (.fn x) (.ref f)
  | ref {i : Nat} {a : Addr} : μ.m[i]? = some a → Rep G μ H (.ref i) (.ref a)
  | tup {a : Addr} {vs : List V} {xs : List D} : TpM G μ H a vs → Reps G μ H xs vs → Rep G μ H (.tup xs) (.ref a)
  | scr {a : Addr} {ns : List Int} : ScM G μ H a (ns.map V.int) → Rep G μ H (.scr ns) (.ref a)
  | lst {a : Addr} {vs : List V} {xs : List D} : LsM G μ H a vs → Reps G μ H xs vs → Rep G μ H (.lst xs) (.ref a)
inductive Reps (G : Glo) (μ : Mp) (H : Hp) : List D → List V → Prop
  | nil : Reps G μ H [] []
  | cons {d : D} {v : V} {ds : List D} {vs : List V} : Rep G μ H d v → Reps G μ H ds vs → Reps G μ H (d :: ds) (v :: vs)
end
structure Gr (μ : Mp) (H : Hp) (μ' : Mp) (H' : Hp) : Prop where
  keep : ∀ a o, H a = some o → a ∉ μ.m → H' a = some o
  there : ∀ a, H' a = none → H a = none
  pre : ∃ r, μ'.m = μ.m ++ r ∧ ∀ a ∈ r, H a = none
  sub : ∀ a ∈ μ.M, a ∈ μ'.M
  new : ∀ a ∈ μ'.M, a ∈ μ.M ∨ H a = none
  ms : ∀ a ∈ μ.m, a ∈ μ.M
theorem Gr.refl {μ : Mp} {H : Hp} (s : ∀ a ∈ μ.m, a ∈ μ.M) : Gr μ H μ H := ⟨fun _ _ e _ => e, fun _ e => e, ⟨[], by simp, by simp⟩, fun _ h => h, fun _ h => .inl h, s⟩
theorem Gr.trans {μ μ1 μ2 : Mp} {H H1 H2 : Hp} (a : Gr μ H μ1 H1) (b : Gr μ1 H1 μ2 H2) : Gr μ H μ2 H2 := by
  obtain ⟨r, e, hr⟩ := a.pre
  obtain ⟨r', e', hr'⟩ := b.pre
  refine ⟨fun x o h n => b.keep x o (a.keep x o h n) fun z => ?_, fun x h => a.there x (b.there x h), ⟨r ++ r', by rw [e', e, List.append_assoc], fun x hx => ?_⟩, fun x h => b.sub x (a.sub x h), fun x h => ?_, a.ms⟩
  · rw [e] at z
    rcases List.mem_append.mp z with z | z
    · exact n z
    · rw [hr x z] at h; cases h
  · rcases List.mem_append.mp hx with z | z
    · exact hr x z
    · exact a.there x (hr' x z)
  · rcases b.new x h with z | z
    · exact a.new x z
    · exact .inr (a.there x z)
theorem Rd.gr {μ μ' : Mp} {H H' : Hp} {a : Addr} {u : HO} (g : Gr μ H μ' H') (n : a ∉ μ.M) (h : Rd H a u) : a ∉ μ'.M ∧ Rd H' a u := by
  have hm : a ∉ μ.m := fun z => n (g.ms a z)
  have ht : H a ≠ none := by rcases h with h | ⟨o, h⟩ <;> rw [h] <;> simp
  refine ⟨fun z => (g.new a z).elim n ht, ?_⟩
  rcases h with h | ⟨o, h⟩
  · exact .inl (g.keep a _ h hm)
  · exact .inr ⟨o, g.keep a _ h hm⟩
theorem LsM.gr {G : Glo} {μ μ' : Mp} {H H' : Hp} {a : Addr} {vs : List V} (g : Gr μ H μ' H') (h : LsM G μ H a vs) : LsM G μ' H' a vs :=
  ⟨(Rd.gr g h.1 (.inl h.2)).1, g.keep a _ h.2 fun z => h.1 (g.ms a z)⟩
theorem ScM.gr {G : Glo} {μ μ' : Mp} {H H' : Hp} {a : Addr} {vs : List V} (g : Gr μ H μ' H') (h : ScM G μ H a vs) : ScM G μ' H' a vs := h.elim (fun z => .inl (Rd.gr g z.1 z.2)) .inr
theorem TpM.gr {G : Glo} {μ μ' : Mp} {H H' : Hp} {a : Addr} {vs : List V} (g : Gr μ H μ' H') (h : TpM G μ H a vs) : TpM G μ' H' a vs := h.elim (fun z => .inl (Rd.gr g z.1 z.2)) .inr
mutual
theorem Rep.gr {G : Glo} {μ μ' : Mp} {H H' : Hp} (g : Gr μ H μ' H') : ∀ (d : D) (v : V), Rep G μ H d v → Rep G μ' H' d v
  | .non, _, h => by cases h; exact .non
  | .bl b, _, h => by cases h; exact .bl b
  | .int i, _, h => by cases h; exact .int i
  | .str x, _, h => by cases h; exact .str x
  | .ty n, _, h => by cases h; exact .ty n
  | .fn x, _, h => by cases h with | fn e => exact .fn e
  | .ref i, _, h => by
    cases h with
    | ref e =>
      obtain ⟨r, q, _⟩ := g.pre
      refine .ref ?_
      rw [q, List.getElem?_append_left (List.getElem?_eq_some_iff.mp e).1]
      exact e
  | .tup xs, _, h => by cases h with | tup a b => exact .tup (a.gr g) (Reps.gr g xs _ b)
  | .lst xs, _, h => by cases h with | lst a b => exact .lst (a.gr g) (Reps.gr g xs _ b)
  | .scr ns, _, h => by cases h with | scr a => exact .scr (a.gr g)
theorem Reps.gr {G : Glo} {μ μ' : Mp} {H H' : Hp} (g : Gr μ H μ' H') : ∀ (ds : List D) (vs : List V), Reps G μ H ds vs → Reps G μ' H' ds vs
  | [], _, h => by cases h; exact .nil
  | d :: ds, _, h => by cases h with | cons a b => exact .cons (Rep.gr g d _ a) (Reps.gr g ds _ b)
end
section
variable {G : Glo} {μ μ' : Mp} {H H' : Hp}
theorem Reps.length : ∀ {ds : List D} {vs : List V}, Reps G μ H ds vs → ds.length = vs.length
  | [], _, h => by cases h; rfl
  | d :: ds, _, h => by cases h with | cons a b => rw [List.length_cons, List.length_cons, Reps.length b]
theorem Reps.get : ∀ {ds : List D} {vs : List V} {i : Nat} {d : D}, Reps G μ H ds vs → ds[i]? = some d → ∃ v, vs[i]? = some v ∧ Rep G μ H d v
  | [], _, _, _, _, e => by simp at e
  | d :: ds, _, 0, _, h, e => by
    cases h with
    | cons a b => simp at e; subst e; exact ⟨_, rfl, a⟩
  | d :: ds, _, i + 1, _, h, e => by
    cases h with
    | cons a b =>
      obtain ⟨v, h1, h2⟩ := Reps.get (i := i) b (by simpa using e)
      exact ⟨v, by simpa using h1, h2⟩
theorem Reps.getV : ∀ {ds : List D} {vs : List V} {i : Nat} {v : V}, Reps G μ H ds vs → vs[i]? = some v → ∃ d, ds[i]? = some d ∧ Rep G μ H d v
  | [], _, _, _, h, e => by cases h; simp at e
  | d :: ds, _, 0, _, h, e => by
    cases h with
    | cons a b => simp at e; subst e; exact ⟨_, rfl, a⟩
  | d :: ds, _, i + 1, _, h, e => by
    cases h with
    | cons a b =>
      obtain ⟨v, h1, h2⟩ := Reps.getV (i := i) b (by simpa using e)
      exact ⟨v, by simpa using h1, h2⟩
theorem Reps.append : ∀ {ds ds' : List D} {vs vs' : List V}, Reps G μ H ds vs → Reps G μ H ds' vs' → Reps G μ H (ds ++ ds') (vs ++ vs')
  | [], _, _, _, h, k => by cases h; exact k
  | d :: ds, _, _, _, h, k => by cases h with | cons a b => exact .cons a (Reps.append b k)
theorem Reps.take : ∀ {ds : List D} {vs : List V} (n : Nat), Reps G μ H ds vs → Reps G μ H (ds.take n) (vs.take n)
  | _, _, 0, _ => by simp; exact .nil
  | [], _, _, h => by cases h; simp; exact .nil
  | d :: ds, _, n + 1, h => by cases h with | cons a b => simp; exact .cons a (Reps.take n b)
theorem Reps.drop : ∀ {ds : List D} {vs : List V} (n : Nat), Reps G μ H ds vs → Reps G μ H (ds.drop n) (vs.drop n)
  | _, _, 0, h => by simpa using h
  | [], _, _, h => by cases h; simp; exact .nil
  | d :: ds, _, n + 1, h => by cases h with | cons a b => simp; exact Reps.drop n b
theorem Reps.set {d : D} {v : V} (r : Rep G μ H d v) : ∀ {ds : List D} {vs : List V} (i : Nat), Reps G μ H ds vs → Reps G μ H (ds.set i d) (vs.set i v)
  | [], _, _, h => by cases h; simp; exact .nil
  | x :: ds, _, 0, h => by cases h with | cons a b => simp; exact .cons r b
  | x :: ds, _, i + 1, h => by cases h with | cons a b => simp; exact .cons a (Reps.set r i b)
theorem Reps.isEmpty {ds : List D} {vs : List V} (h : Reps G μ H ds vs) : ds.isEmpty = vs.isEmpty := by
  have := h.length
  cases ds <;> cases vs <;> simp at * 
theorem Reps.cut {ds : List D} {vs : List V} (h : Reps G μ H ds vs) (lo hi : Option Int) : Reps G μ H (cutD ds lo hi) (cutV vs lo hi) := by
  unfold cutD cutV
  rw [h.length]
  exact (h.drop _).take _
theorem Reps.at {ds : List D} {vs : List V} {k : Int} {d : D} (h : Reps G μ H ds vs) (e : atI ds k = some d) : ∃ v, atI vs k = some v ∧ Rep G μ H d v := by
  unfold atI at e ⊢
  rw [h.length] at e
  cases q : ixN vs.length k with
  | none => rw [q] at e; cases e
  | some j =>
    rw [q] at e
    exact h.get e
mutual
theorem Rep.data : ∀ (d : D) (v : V) (p : PyData), Rep G μ H d v → d.data = some p → Dp G.K H v p
  | .non, _, _, h, e => by cases h; cases e; exact .non
  | .bl b, _, _, h, e => by cases h; cases e; exact .bl b
  | .int i, _, _, h, e => by cases h; cases e; exact .int i
  | .str x, _, _, h, e => by cases h; cases e; exact .str x
  | .ty n, _, _, h, e => by cases e
  | .fn x, _, _, h, e => by cases e
  | .ref i, _, _, h, e => by cases e
  | .scr ns, _, _, h, e => by cases e
  | .tup xs, _, p, h, e => by
    cases h with
    | tup a b =>
      unfold D.data at e
      cases q : D.datas xs with
      | none => rw [q] at e; cases e
      | some ps => rw [q] at e; cases e; exact .tup a.sq (Reps.datas xs _ ps b q)
  | .lst xs, _, p, h, e => by
    cases h with
    | lst a b =>
      unfold D.data at e
      cases q : D.datas xs with
      | none => rw [q] at e; cases e
      | some ps => rw [q] at e; cases e; exact .lst a.sq (Reps.datas xs _ ps b q)
theorem Reps.datas : ∀ (ds : List D) (vs : List V) (ps : List PyData), Reps G μ H ds vs → D.datas ds = some ps → DpAll G.K H vs ps
  | [], _, _, h, e => by cases h; cases e; exact .nil
  | d :: ds, _, _, h, e => by
    cases h with
    | cons a b =>
      unfold D.datas at e
      cases q : d.data with
      | none => rw [q] at e; cases e
      | some p =>
        cases q2 : D.datas ds with
        | none => rw [q, q2] at e; cases e
        | some ps => rw [q, q2] at e; cases e; exact .cons (Rep.data d _ p a q) (Reps.datas ds _ ps b q2)
end
end
/-! ### the changing objects, the slots -/
def HatOk (g s c : Int) : Prop := 0 ≤ g ∧ g < 2 ^ 1400 ∧ 0 ≤ s ∧ s < 2 ^ 62
def ORep (G : Glo) (μ : Mp) (H : Hp) (a : Addr) : MO → Prop
  | .lst xs => ∃ vs, H a = some (.lst vs) ∧ Reps G μ H xs vs
  | .hat => ∃ g s c, H a = some (.lst [.int g, .int s, .int c]) ∧ HatOk g s c
structure STR (G : Glo) (μ : Mp) (st : Sto) (H : Hp) : Prop where
  len : μ.m.length = st.length
  at_ : ∀ (i : Nat) (o : MO), st[i]? = some o → ∃ a, μ.m[i]? = some a ∧ ORep G μ H a o
  sub : ∀ a ∈ μ.m, a ∈ μ.M
  nd : μ.m.Nodup
  tr : ∀ a ∈ μ.M, H a ≠ none
structure SR (G : Glo) (μ : Mp) (e : Ev) (σ : L2.St) (H : Hp) : Prop where
  len : e.length = σ.length
  slot : ∀ (i : Nat) (d : D), e[i]? = some (some d) → ∃ v, σ[i]? = some (some v) ∧ Rep G μ H d v
theorem SR.gr {G : Glo} {μ μ' : Mp} {H H' : Hp} {e : Ev} {σ : L2.St} (s : SR G μ e σ H) (g : Gr μ H μ' H') : SR G μ' e σ H' :=
  ⟨s.len, fun i d h => let ⟨v, h1, h2⟩ := s.slot i d h; ⟨v, h1, h2.gr g⟩⟩
theorem SR.set {G : Glo} {μ : Mp} {H : Hp} {e : Ev} {σ : L2.St} {d : D} {v : V} (s : SR G μ e σ H) (i : Nat) (r : Rep G μ H d v) : SR G μ (e.set i (some d)) (σ.set i (some v)) H := by
  refine ⟨by simp [s.len], fun j x h => ?_⟩
  by_cases hj : i = j
  · subst hj
    have hl : i < e.length := by
      have := (List.getElem?_eq_some_iff.mp h).1
      simpa using this
    rw [List.getElem?_set_self hl] at h
    cases h
    exact ⟨v, by rw [List.getElem?_set_self (by rw [← s.len]; exact hl)], r⟩
  · rw [List.getElem?_set_ne hj] at h ⊢
    exact s.slot j x h
theorem ORep.same {G : Glo} {μ μ' : Mp} {H H' : Hp} {a : Addr} {o : MO} (h : ORep G μ H a o) (g : Gr μ H μ' H') (e : H' a = H a) : ORep G μ' H' a o := by
  cases o with
  | lst xs => obtain ⟨vs, h1, h2⟩ := h; exact ⟨vs, e.trans h1, h2.gr g⟩
  | hat => obtain ⟨x, y, z, h1, h2⟩ := h; exact ⟨x, y, z, e.trans h1, h2⟩
theorem STR.same {G : Glo} {μ : Mp} {H H' : Hp} {st : Sto} (s : STR G μ st H) (g : Gr μ H μ H') (e : ∀ a ∈ μ.m, H' a = H a) : STR G μ st H' := by
  refine ⟨s.len, fun i o h => ?_, s.sub, s.nd, fun a h z => s.tr a h (g.there a z)⟩
  obtain ⟨a, h1, h2⟩ := s.at_ i o h
  exact ⟨a, h1, h2.same g (e a (List.mem_of_getElem? h1))⟩
theorem Gr.new_ {μ : Mp} {H : Hp} {p : Addr} {o : HO} (s : ∀ a ∈ μ.m, a ∈ μ.M) (h : H p = none) : Gr μ H μ (upd H p o) := by
  refine ⟨fun a u e _ => by rw [upd_ne (ne_of_none e h)]; exact e, fun a e => ?_, ⟨[], by simp, by simp⟩, fun _ h => h, fun _ h => .inl h, s⟩
  by_cases z : a = p
  · subst z; exact h
  · rw [upd_ne z] at e; exact e
theorem STR.new_ {G : Glo} {μ : Mp} {H : Hp} {st : Sto} {p : Addr} {o : HO} (s : STR G μ st H) (h : H p = none) : STR G μ st (upd H p o) :=
  s.same (Gr.new_ s.sub h) fun a ha => upd_ne fun z => by subst z; exact s.tr _ (s.sub _ ha) h
/-- a new tuple, a new list -/
theorem Rep.tup_new {G : Glo} {μ : Mp} {H : Hp} {st : Sto} {p : Addr} {xs : List D} {vs : List V} (s : STR G μ st H) (h : H p = none) (r : Reps G μ H xs vs) : Rep G μ (upd H p (.tup vs)) (.tup xs) (.ref p) :=
  .tup (.inl ⟨fun z => s.tr _ z h, .inl upd_same⟩) (r.gr (Gr.new_ s.sub h))
theorem Rep.lst_new {G : Glo} {μ : Mp} {H : Hp} {st : Sto} {p : Addr} {xs : List D} {vs : List V} (s : STR G μ st H) (h : H p = none) (r : Reps G μ H xs vs) : Rep G μ (upd H p (.lst vs)) (.lst xs) (.ref p) :=
  .lst ⟨fun z => s.tr _ z h, upd_same⟩ (r.gr (Gr.new_ s.sub h))

/-! ### readings by trees -/
def RepX (G : Glo) (μ : Mp) (H : Hp) (x : Str) (d : D) (cls : Value) (dd : Option Addr) : Prop :=
  ∃ C, G.mg x = some (.ref C) ∧ cls = .ref C ∧ match G.fld x with
    | none => dd = none
    | some f => ∃ dx v, dd = some dx ∧ H dx = some (.xd [(f, v)]) ∧ Rep G μ H d v
def KE {α β : Type} (G : Glo) (R : Mp → Hp → α → β → Prop) (μ : Mp) (H : Hp) (Q : β → Hp → Prop) : α → Sto → Prop :=
  fun d st' => ∀ μ' H' x, Gr μ H μ' H' → STR G μ' st' H' → R μ' H' d x → Q x H'
def KX (G : Glo) (W : WX) (σ : L2.St) (μ : Mp) (H : Hp) : Str → D → Sto → Prop :=
  fun e d st' => ∀ μ' H' cls dd, Gr μ H μ' H' → STR G μ' st' H' → RepX G μ' H' e d cls dd → W cls dd σ H'
/-- the reading of a tree of α, told as β -/
def tG {α β : Type} (G : Glo) (R : Mp → Hp → α → β → Prop) (W : WX) (den : Ev → M α) : L2.St → Hp → (β → Hp → Prop) → Prop :=
  fun σ H Q => ∃ μ e st, SR G μ e σ H ∧ STR G μ st H ∧ (den e st).All (KE G R μ H Q) (KX G W σ μ H)
abbrev tE (G : Glo) (W : WX) (den : Ev → M D) : TE := tG G (Rep G) W den
abbrev tL (G : Glo) (W : WX) (den : Ev → M (List D)) : TA := tG G (Reps G) W den
abbrev tB (G : Glo) (W : WX) (den : Ev → M Bool) : TT := tG G (fun _ _ a b => a = b) W den
theorem KE.gr {α β : Type} {G : Glo} {R : Mp → Hp → α → β → Prop} {μ μ1 : Mp} {H H1 : Hp} {Q : β → Hp → Prop} {a : α} {st : Sto} (g : Gr μ H μ1 H1) (h : KE G R μ H Q a st) : KE G R μ1 H1 Q a st :=
  fun μ' H' x g' s r => h μ' H' x (g.trans g') s r
theorem KX.gr {G : Glo} {W : WX} {σ : L2.St} {μ μ1 : Mp} {H H1 : Hp} {x : Str} {d : D} {st : Sto} (g : Gr μ H μ1 H1) (h : KX G W σ μ H x d st) : KX G W σ μ1 H1 x d st :=
  fun μ' H' c dd g' s r => h μ' H' c dd (g.trans g') s r
/-- one part, then the rest -/
theorem tG_then {α β γ δ : Type} {G : Glo} {R : Mp → Hp → α → β → Prop} {R' : Mp → Hp → γ → δ → Prop} {W : WX} {da : Ev → M α} {f : α → Sto → Tr γ} {μ : Mp} {e : Ev} {st : Sto} {σ : L2.St} {H : Hp} {Q : δ → Hp → Prop} {P : β → Hp → Prop}
    (s : SR G μ e σ H) (t : STR G μ st H) (h : ((da e st).bind f).All (KE G R' μ H Q) (KX G W σ μ H))
    (k : ∀ μ1 H1 d st1 x, Gr μ H μ1 H1 → SR G μ1 e σ H1 → STR G μ1 st1 H1 → R μ1 H1 d x → (f d st1).All (KE G R' μ1 H1 Q) (KX G W σ μ1 H1) → P x H1) : tG G R W da σ H P := by
  refine ⟨μ, e, st, s, t, Tr.All_mono (fun d st1 hq μ1 H1 x g t1 r => ?_) (fun _ _ _ z => z) _ ((Tr.All_bind _).mp h)⟩
  exact k μ1 H1 d st1 x g (s.gr g) t1 r (Tr.All_mono (fun _ _ z => KE.gr g z) (fun _ _ _ z => KX.gr g z) _ hq)
theorem KE.here {α β : Type} {G : Glo} {R : Mp → Hp → α → β → Prop} {μ : Mp} {H : Hp} {Q : β → Hp → Prop} {a : α} {st : Sto} {x : β} (h : KE G R μ H Q a st) (t : STR G μ st H) (r : R μ H a x) : Q x H :=
  h μ H x (Gr.refl t.sub) t r
theorem optM_some {α : Type} {o : Option α} {st : Sto} {P : α → Sto → Prop} {E : Str → D → Sto → Prop} (h : (optM o st).All P E) : ∃ a, o = some a ∧ P a st := by
  cases o with
  | none => exact h.elim
  | some a => exact ⟨a, rfl, h⟩
theorem PE.conv {X : Cx} {e : Expr} {t t' : TE} (h : PE X e t) (k : ∀ σ H Q, t' σ H Q → t σ H Q) : PE X e t' := ⟨fun pins s σ H Q I q => h.run pins s σ H Q I (k σ H Q q)⟩
theorem PT.conv {X : Cx} {e : Expr} {t t' : TT} (h : PT X e t) (k : ∀ σ H Q, t' σ H Q → t σ H Q) : PT X e t' := ⟨fun pins s σ H Q I q => h.run pins s σ H Q I (k σ H Q q)⟩
theorem PA.conv {X : Cx} {e : List Expr} {t t' : TA} (h : PA X e t) (k : ∀ σ H Q, t' σ H Q → t σ H Q) : PA X e t' := ⟨fun pos pins s σ H Q I q => h.run pos pins s σ H Q I (k σ H Q q)⟩
theorem PS.conv {X : Cx} {e : Stmt} {t t' : TS} (h : PS X e t) (k : ∀ D σ H, t' D σ H → t D σ H) : PS X e t' := ⟨fun pins s σ H D I q => h.run pins s σ H D I (k D σ H q)⟩
theorem PSs.conv {X : Cx} {e : List Stmt} {t t' : TS} (h : PSs X e t) (k : ∀ D σ H, t' D σ H → t D σ H) : PSs X e t' := ⟨fun pins s σ H D I q => h.run pins s σ H D I (k D σ H q)⟩
end Gw

set_option Elab.async false
set_option linter.all false
set_option maxRecDepth 100000
set_option maxHeartbeats 1000000
/-! Gw3: operators and built-ins by values. -/
namespace Gw
open PySem PySem.Spec PyProof.Rows L2
section
variable {G : Glo} {X : Cx} {W : WX}
/-- what an operator over plain values asks -/
def rD (G : Glo) (f : D → D → Option D) : R2 := fun v w H Q => ∃ μ st x y z, STR G μ st H ∧ Rep G μ H x v ∧ Rep G μ H y w ∧ f x y = some z ∧ KE G (Rep G) μ H Q z st
theorem KE.tup {μ : Mp} {H : Hp} {Q : VK} {st : Sto} {xs : List D} {vs : List V} {p : Addr} (k : KE G (Rep G) μ H Q (.tup xs) st) (t : STR G μ st H) (r : Reps G μ H xs vs) (h : H p = none) : Q (.ref p) (upd H p (.tup vs)) :=
  k μ _ _ (Gr.new_ t.sub h) (t.new_ h) (Rep.tup_new t h r)
theorem KE.lst {μ : Mp} {H : Hp} {Q : VK} {st : Sto} {xs : List D} {vs : List V} {p : Addr} (k : KE G (Rep G) μ H Q (.lst xs) st) (t : STR G μ st H) (r : Reps G μ H xs vs) (h : H p = none) : Q (.ref p) (upd H p (.lst vs)) :=
  k μ _ _ (Gr.new_ t.sub h) (t.new_ h) (Rep.lst_new t h r)
theorem if_some {α : Type} {c : Prop} [Decidable c] {a z : α} (h : (if c then some a else none) = some z) : c ∧ a = z := by
  split at h
  · rename_i hc; exact ⟨hc, Option.some.inj h⟩
  · cases h
theorem okMul_ok {i j : Int} (h : okMul i j = true) : IntMulOk i j := by
  unfold okMul at h
  simp only [Bool.or_eq_true, decide_eq_true_eq] at h
  rcases h with (h | h) | h
  · exact CMul.ok (.inl (by omega))
  · exact CMul.ok (.inr (by omega))
  · exact CMulW.ok h
theorem op_mulO : OpR X (binaryOp .Mult) (rI (fun i j => okMul i j = true) fun i j => .int (i * j)) := opI fun i j _ _ _ _ _ hc q => by
  exact mul_int q (okMul_ok hc)
theorem op_fdivO : OpR X (binaryOp .FloorDiv) (rI (fun _ j => okDiv j = true) fun i j => .int (i.fdiv j)) := opI fun _ j _ _ _ _ _ hc q => by
  obtain ⟨h1, h2⟩ := Bool.and_eq_true_iff.mp (show (decide (j ≠ 0) && decide (j.natAbs.log2 < 9000)) = true from hc)
  exact floordiv_int (of_decide_eq_true h1) q (.inl (PyProof.noPylong_of_log2 (of_decide_eq_true h2)))
theorem op_powO : OpR X (binaryOp .Pow) (rI (fun i j => okPow i j = true) fun i j => .int (i ^ j.toNat)) := opI fun i j _ _ _ _ _ hc q => by
  obtain ⟨h1, h2⟩ := Bool.and_eq_true_iff.mp (show (decide (0 ≤ j) && decide ((Builtin.Int.intBits i : Int) * j ≤ 2 ^ 27)) = true from hc)
  exact pow_int (of_decide_eq_true h1) (of_decide_eq_true h2) q
theorem bin_ok (hK : G.K = X.K) : ∀ (o : Operator), OpR X (binaryOp o) (rD G (binD o)) := by
  intro o pins s σ H v w u1 u2 Q I q1 q2 ⟨μ, st, x, y, z, t, rx, ry, e, k⟩
  cases o with
  | Add =>
    cases x <;> cases y <;> first | (cases e; done) | skip
    · cases e; cases rx; cases ry
      exact op_add pins s σ H _ _ u1 u2 Q I q1 q2 ⟨_, _, rfl, rfl, k.here t (.int _)⟩
    · obtain ⟨hc, rfl⟩ := if_some e
      cases rx; cases ry
      exact op_add_str pins s σ H _ _ u1 u2 Q I q1 q2 ⟨_, _, rfl, rfl, of_decide_eq_true hc, k.here t (.str _)⟩
    · obtain ⟨hc, rfl⟩ := if_some e
      cases rx with
      | @tup a vs xs a1 r1 =>
        cases ry with
        | @tup b ws ys a2 r2 =>
          refine op_catA pins s σ H _ _ u1 u2 Q I q1 q2 ⟨a, b, vs, ws, rfl, rfl, hK ▸ a1.sq, hK ▸ a2.sq, by rw [← r1.length, ← r2.length]; exact of_decide_eq_true hc, fun z => ?_, fun _ z => ?_, fun _ _ p hp => k.tup t (r1.append r2) hp⟩
          · subst z
            cases r1
            exact k.here t (.tup a2 r2)
          · subst z
            cases r2
            rw [List.append_nil] at k
            exact k.here t (.tup a1 r1)
    · obtain ⟨hc, rfl⟩ := if_some e
      cases rx with
      | @lst a vs xs a1 r1 =>
        cases ry with
        | @lst b ws ys a2 r2 =>
          exact op_cat pins s σ H _ _ u1 u2 Q I q1 q2 ⟨a, b, vs, ws, rfl, rfl, a1.2, a2.2, by rw [← r1.length, ← r2.length]; exact of_decide_eq_true hc, fun p hp => k.lst t (r1.append r2) hp⟩
  | Sub =>
    cases x <;> cases y <;> first | (cases e; done) | skip
    cases e; cases rx; cases ry
    exact op_sub pins s σ H _ _ u1 u2 Q I q1 q2 ⟨_, _, rfl, rfl, k.here t (.int _)⟩
  | Mult =>
    cases x <;> cases y <;> first | (cases e; done) | skip
    obtain ⟨hc, rfl⟩ := if_some e
    cases rx; cases ry
    exact op_mulO pins s σ H _ _ u1 u2 Q I q1 q2 ⟨_, _, rfl, rfl, hc, k.here t (.int _)⟩
  | FloorDiv =>
    cases x <;> cases y <;> first | (cases e; done) | skip
    obtain ⟨hc, rfl⟩ := if_some e
    cases rx; cases ry
    exact op_fdivO pins s σ H _ _ u1 u2 Q I q1 q2 ⟨_, _, rfl, rfl, hc, k.here t (.int _)⟩
  | Mod =>
    cases x <;> cases y <;> first | (cases e; done) | skip
    obtain ⟨hc, rfl⟩ := if_some e
    cases rx; cases ry
    exact op_modN pins s σ H _ _ u1 u2 Q I q1 q2 ⟨_, _, rfl, rfl, of_decide_eq_true hc, k.here t (.int _)⟩
  | Pow =>
    cases x <;> cases y <;> first | (cases e; done) | skip
    obtain ⟨hc, rfl⟩ := if_some e
    cases rx; cases ry
    exact op_powO pins s σ H _ _ u1 u2 Q I q1 q2 ⟨_, _, rfl, rfl, hc, k.here t (.int _)⟩
  | _ => cases x <;> cases y <;> cases e
theorem rep_not_none {μ : Mp} {H : Hp} {x : D} {v : V} (r : Rep G μ H x v) : decide (v = .non) = x.isNon := by
  cases r <;> rfl
theorem cmp_ok (hK : G.K = X.K) (hu : X.A.units + 64 < cLine) : ∀ (o : CmpOp), OpR X (compareOp o) (rD G (cmpD o)) := by
  intro o pins s σ H v w u1 u2 Q I q1 q2 ⟨μ, st, x, y, z, t, rx, ry, e, k⟩
  have eqs : ∀ b, x.eq? y = some b → ∃ p q, Dp X.K H v p ∧ Dp X.K H w q ∧ SeqAt.shaped p = true ∧ SeqAt.shaped q = true ∧ PyData.eqv p q = b := by
    intro b hb
    unfold D.eq? at hb
    cases hx : x.data with
    | none => rw [hx] at hb; cases hb
    | some p =>
      cases hy : y.data with
      | none => rw [hx, hy] at hb; cases hb
      | some q =>
        rw [hx, hy] at hb
        obtain ⟨hc, e⟩ := if_some hb
        obtain ⟨h1, h2⟩ := Bool.and_eq_true_iff.mp hc
        exact ⟨p, q, hK ▸ rx.data _ _ _ hx, hK ▸ ry.data _ _ _ hy, h1, h2, e⟩
  cases o with
  | Eq =>
    obtain ⟨b, hb, rfl⟩ := Option.map_eq_some_iff.mp e
    obtain ⟨p, q, h1, h2, h3, h4, rfl⟩ := eqs b hb
    exact op_eqD hu pins s σ H _ _ u1 u2 Q I q1 q2 ⟨p, q, h1, h2, h3, h4, k.here t (.bl _)⟩
  | NotEq =>
    obtain ⟨b, hb, rfl⟩ := Option.map_eq_some_iff.mp e
    obtain ⟨p, q, h1, h2, h3, h4, rfl⟩ := eqs b hb
    exact op_neD hu pins s σ H _ _ u1 u2 Q I q1 q2 ⟨p, q, h1, h2, h3, h4, k.here t (.bl _)⟩
  | Lt =>
    cases x <;> cases y <;> first | (cases e; done) | skip
    cases e; cases rx; cases ry
    exact op_lt pins s σ H _ _ u1 u2 Q I q1 q2 ⟨_, _, rfl, rfl, k.here t (.bl _)⟩
  | LtE =>
    cases x <;> cases y <;> first | (cases e; done) | skip
    cases e; cases rx; cases ry
    exact op_le pins s σ H _ _ u1 u2 Q I q1 q2 ⟨_, _, rfl, rfl, k.here t (.bl _)⟩
  | Gt =>
    cases x <;> cases y <;> first | (cases e; done) | skip
    cases e; cases rx; cases ry
    exact op_gt pins s σ H _ _ u1 u2 Q I q1 q2 ⟨_, _, rfl, rfl, k.here t (.bl _)⟩
  | GtE =>
    cases x <;> cases y <;> first | (cases e; done) | skip
    cases e; cases rx; cases ry
    exact op_ge pins s σ H _ _ u1 u2 Q I q1 q2 ⟨_, _, rfl, rfl, k.here t (.bl _)⟩
  | Is =>
    cases y <;> first | (cases x <;> cases e; done) | skip
    · have e' : z = .bl x.isNon := by cases x <;> cases e <;> rfl
      subst e'
      cases ry
      refine op_isN pins s σ H _ _ u1 u2 Q I q1 q2 ⟨rfl, ?_⟩
      rw [rep_not_none rx]
      exact k.here t (.bl _)
    · cases x <;> first | (cases e; done) | skip
      cases e; cases rx; cases ry
      exact op_is_bl pins s σ H _ _ u1 u2 Q I q1 q2 ⟨_, _, rfl, rfl, k.here t (.bl _)⟩
  | IsNot =>
    cases y <;> first | (cases x <;> cases e; done) | skip
    · have e' : z = .bl (!x.isNon) := by cases x <;> cases e <;> rfl
      subst e'
      cases ry
      refine op_notN pins s σ H _ _ u1 u2 Q I q1 q2 ⟨rfl, ?_⟩
      rw [rep_not_none rx]
      exact k.here t (.bl _)
    · cases x <;> first | (cases e; done) | skip
      cases e; cases rx; cases ry
      exact op_isnot_bl pins s σ H _ _ u1 u2 Q I q1 q2 ⟨_, _, rfl, rfl, k.here t (.bl _)⟩
  | _ => cases x <;> cases y <;> cases e
/-- one argument -/
def rD1 (G : Glo) (f : D → Option D) : V → Hp → VK → Prop := fun v H Q => ∃ μ st x z, STR G μ st H ∧ Rep G μ H x v ∧ f x = some z ∧ KE G (Rep G) μ H Q z st
theorem neg_ok : UnR X (unaryOp .USub) (rD1 G negD) := by
  intro pins s σ H v u Q I q hh
  obtain ⟨μ, st, x, z, t, rx, e, k⟩ := hh
  cases x <;> first | (cases e; done) | skip
  cases e; cases rx
  exact un_neg pins s σ H _ u Q I q ⟨_, rfl, k.here t (.int _)⟩
theorem atI_map {α β : Type} (f : α → β) (xs : List α) (k : Int) : atI (xs.map f) k = (atI xs k).map f := by
  unfold atI
  rw [List.length_map]
  cases ixN xs.length k with
  | none => rfl
  | some j => exact List.getElem?_map
/-- what an operator that looks at the changing objects asks -/
def rDS (G : Glo) (f : Sto → D → D → Option D) : R2 := fun v w H Q => ∃ μ st x y z, STR G μ st H ∧ Rep G μ H x v ∧ Rep G μ H y w ∧ f st x y = some z ∧ KE G (Rep G) μ H Q z st
theorem ix_ok (hK : G.K = X.K) : IxR X (rDS G ixS) := by
  intro value slice pins s σ H v w u1 u2 Q I q1 q2 hh hp
  obtain ⟨μ, st, x, y, z, t, rx, ry, e, k⟩ := hh
  cases x <;> cases y <;> first | (cases e; done) | skip
  · cases ry
    cases rx with
    | @tup a vs xs a1 r1 =>
      obtain ⟨v, h1, h2⟩ := r1.at e
      exact ix_tup value slice pins s σ H _ _ u1 u2 Q I q1 q2 ⟨a, vs, _, v, rfl, rfl, hK ▸ a1.sq, h1, k.here t h2⟩ hp
  · cases ry
    cases rx with
    | @lst a vs xs a1 r1 =>
      obtain ⟨v, h1, h2⟩ := r1.at e
      exact ix_list value slice pins s σ H _ _ u1 u2 Q I q1 q2 ⟨a, vs, _, v, rfl, rfl, hK ▸ a1.sq, h1, k.here t h2⟩ hp
  · rename_i i kk
    cases ry
    cases rx with
    | @ref _ a hi =>
      have e' : (match st[i]? with
        | some (.lst xs) => L2.atI xs kk
        | _ => none) = some z := e
      cases hs : st[i]? with
      | none => rw [hs] at e'; cases e'
      | some o =>
        cases o with
        | hat => rw [hs] at e'; cases e'
        | lst xs =>
          rw [hs] at e'
          obtain ⟨a', h1, vs, h2, h3⟩ := t.at_ i _ hs
          rw [hi] at h1
          cases h1
          obtain ⟨v, h4, h5⟩ := h3.at e'
          exact ix_list value slice pins s σ H _ _ u1 u2 Q I q1 q2 ⟨a, vs, _, v, rfl, rfl, .inl (.inl h2), h4, k.here t h5⟩ hp
  · cases ry
    cases rx with
    | @scr a ns a1 =>
      obtain ⟨n, h1, rfl⟩ := Option.map_eq_some_iff.mp e
      refine ix_list value slice pins s σ H _ _ u1 u2 Q I q1 q2 ⟨a, _, _, .int n, rfl, rfl, hK ▸ a1.sq, ?_, k.here t (.int _)⟩ hp
      rw [atI_map, h1]
      rfl
theorem truth_ok (hK : G.K = X.K) {μ : Mp} {H : Hp} {x : D} {v : V} {b : Bool} (r : Rep G μ H x v) (e : x.truth = some b) : TruV X.K v H b := by
  cases r with
  | non => cases e; rfl
  | bl b => cases e; rfl
  | int i => cases e; rfl
  | str y =>
    obtain ⟨hc, rfl⟩ := if_some e
    exact ⟨hc, rfl⟩
  | @tup a vs xs a1 r1 => cases e; exact .inr (.inl ⟨vs, hK ▸ a1.sq, by rw [r1.isEmpty]⟩)
  | @lst a vs xs a1 r1 => cases e; exact .inl ⟨vs, hK ▸ a1.sq, by rw [r1.isEmpty]⟩
  | _ => cases e
theorem sl_lstT : SlR X (fun x lo hi H Q => rSlA X.K x lo hi H Q ∨ rSlL X.K x lo hi H Q) := sl_tupA.or sl_list
theorem cut_whole {α : Type} (xs : List α) : (xs.drop 0).take xs.length = xs := by rw [List.drop_zero, List.take_length]
/-- slices by values -/
theorem sl_of (hK : G.K = X.K) {μ : Mp} {H : Hp} {st : Sto} {x l h z : D} {v : V} {lo hi : Option Int} {Q : VK} (t : STR G μ st H) (r : Rep G μ H x v) (el : partD l = some lo) (eh : partD h = some hi) (e : slD x l h = some z) (k : KE G (Rep G) μ H Q z st) :
    rSlA X.K v lo hi H Q ∨ rSlL X.K v lo hi H Q := by
  unfold slD at e
  rw [el, eh] at e
  cases r with
  | @tup a vs xs a1 r1 =>
    cases e
    refine .inl ⟨a, vs, rfl, hK ▸ a1.sq, fun hw => ?_, fun _ p hp => k.tup t (r1.cut lo hi) hp⟩
    have ec : cutD xs lo hi = xs := by
      unfold cutD
      rw [r1.length, hw.1, hw.2, Nat.sub_zero, ← r1.length]
      exact cut_whole xs
    rw [ec] at k
    exact k.here t (.tup a1 r1)
  | @lst a vs xs a1 r1 =>
    cases e
    exact .inr ⟨a, vs, rfl, hK ▸ a1.sq, fun p hp => k.lst t (r1.cut lo hi) hp⟩
  | _ => cases e
end
end Gw

set_option Elab.async false
set_option linter.all false
set_option maxRecDepth 100000
set_option maxHeartbeats 1000000
/-! Gw4: built-ins by values. -/
namespace Gw
open PySem PySem.Spec PyProof.Rows L2
def D.ints : List D → Option (List Int)
  | [] => some []
  | .int i :: r => (D.ints r).map fun l => i :: l
  | _ => none
def D.bools : List D → Option (List Bool)
  | [] => some []
  | .bl i :: r => (D.bools r).map fun l => i :: l
  | _ => none
def D.tyName : D → Option String
  | .non => some "NoneType"
  | .bl _ => some "bool"
  | .int _ => some "int"
  | .str _ => some "str"
  | .tup _ => some "tuple"
  | .lst _ => some "list"
  | .scr _ => some "list"
  | _ => none
def tyIs : String → String → Option Bool
  | "int", "int" => some true | "bool", "int" => some true | "str", "int" => some false | "tuple", "int" => some false | "list", "int" => some false | "NoneType", "int" => some false
  | "bool", "bool" => some true | "int", "bool" => some false | "str", "bool" => some false | "tuple", "bool" => some false | "list", "bool" => some false | "NoneType", "bool" => some false
  | "tuple", "tuple" => some true | "int", "tuple" => some false | "bool", "tuple" => some false | "str", "tuple" => some false | "list", "tuple" => some false | "NoneType", "tuple" => some false
  | "str", "str" => some true | "int", "str" => some false | "bool", "str" => some false | "tuple", "str" => some false | "list", "str" => some false | "NoneType", "str" => some false
  | "list", "list" => some true | "int", "list" => some false | "bool", "list" => some false | "tuple", "list" => some false | "str", "list" => some false | "NoneType", "list" => some false
  | _, _ => none
def lenD : List D → Option D
  | [.tup xs] => some (.int xs.length)
  | [.lst xs] => some (.int xs.length)
  | [.scr ns] => some (.int ns.length)
  | [.str s] => if decide (s.length ≤ sizeLine) then some (.int s.length) else none
  | _ => none
def absD : List D → Option D
  | [.int i] => some (.int (if i < 0 then -i else i))
  | _ => none
def maxD : List D → Option D
  | [.int i, .int j] => some (.int (if j > i then j else i))
  | _ => none
def minD : List D → Option D
  | [.int i, .int j] => some (.int (if j < i then j else i))
  | _ => none
def intD : List D → Option D
  | [.int i] => some (.int i)
  | [.bl k] => some (.int (if k then 1 else 0))
  | _ => none
def tupleD : List D → Option D
  | [.tup xs] => some (.tup xs)
  | [.lst xs] => some (.tup xs)
  | _ => none
def listD : List D → Option D
  | [.tup xs] => some (.lst xs)
  | [.lst xs] => some (.lst xs)
  | _ => none
def sumD : List D → Option D
  | [.lst xs] => (D.ints xs).map fun ns => .int ns.sum
  | _ => none
def allD : List D → Option D
  | [.lst xs] => (D.bools xs).map fun bs => .bl (bs.all id)
  | _ => none
def anyD : List D → Option D
  | [.lst xs] => (D.bools xs).map fun bs => .bl (bs.any id)
  | _ => none
def isiD : List D → Option D
  | [x, .ty n] => (x.tyName.bind fun t => tyIs t n).map .bl
  | _ => none
section
variable {G : Glo} {X : Cx} {μ : Mp} {H : Hp}
theorem ints_eq : ∀ {xs : List D} {ns : List Int}, D.ints xs = some ns → xs = ns.map .int
  | [], _, h => by cases h; rfl
  | .int i :: r, _, h => by
    obtain ⟨l, h1, rfl⟩ := Option.map_eq_some_iff.mp h
    rw [ints_eq h1]
    rfl
  | .non :: _, _, h | .bl _ :: _, _, h | .str _ :: _, _, h | .tup _ :: _, _, h | .lst _ :: _, _, h | .ref _ :: _, _, h | .fn _ :: _, _, h | .ty _ :: _, _, h | .scr _ :: _, _, h => by cases h
theorem bools_eq : ∀ {xs : List D} {ns : List Bool}, D.bools xs = some ns → xs = ns.map .bl
  | [], _, h => by cases h; rfl
  | .bl i :: r, _, h => by
    obtain ⟨l, h1, rfl⟩ := Option.map_eq_some_iff.mp h
    rw [bools_eq h1]
    rfl
  | .non :: _, _, h | .int _ :: _, _, h | .str _ :: _, _, h | .tup _ :: _, _, h | .lst _ :: _, _, h | .ref _ :: _, _, h | .fn _ :: _, _, h | .ty _ :: _, _, h | .scr _ :: _, _, h => by cases h
theorem ints_map : ∀ ns : List Int, D.ints (ns.map .int) = some ns
  | [] => rfl
  | i :: r => by
    show (D.ints (r.map .int)).map _ = _
    rw [ints_map r]
    rfl
theorem bools_map : ∀ ns : List Bool, D.bools (ns.map .bl) = some ns
  | [] => rfl
  | i :: r => by
    show (D.bools (r.map .bl)).map _ = _
    rw [bools_map r]
    rfl
theorem Reps.ints : ∀ {ns : List Int} {vs : List V}, Reps G μ H (ns.map .int) vs → vs = ns.map V.int
  | [], _, h => by cases h; rfl
  | n :: ns, _, h => by
    cases h with
    | cons a b => cases a; rw [Reps.ints b]; rfl
theorem Reps.bools : ∀ {ns : List Bool} {vs : List V}, Reps G μ H (ns.map .bl) vs → vs = ns.map V.bl
  | [], _, h => by cases h; rfl
  | n :: ns, _, h => by
    cases h with
    | cons a b => cases a; rw [Reps.bools b]; rfl
theorem Reps.one {x : D} {vs : List V} (h : Reps G μ H [x] vs) : ∃ v, vs = [v] ∧ Rep G μ H x v := by
  cases h with
  | cons a b => cases b; exact ⟨_, rfl, a⟩
theorem Reps.two {x y : D} {vs : List V} (h : Reps G μ H [x, y] vs) : ∃ v w, vs = [v, w] ∧ Rep G μ H x v ∧ Rep G μ H y w := by
  cases h with
  | cons a b =>
    obtain ⟨w, rfl, c⟩ := b.one
    exact ⟨_, _, rfl, a, c⟩
/-- what a built-in over plain values asks -/
def rL (G : Glo) (f : List D → Option D) : List V → Hp → VK → Prop := fun vs H Q => ∃ μ st ds z, STR G μ st H ∧ Reps G μ H ds vs ∧ f ds = some z ∧ KE G (Rep G) μ H Q z st
theorem one_of {f : List D → Option D} {ds : List D} {z : D} (h : f ds = some z) (h0 : f [] = none) (h2 : ∀ x y r, f (x :: y :: r) = none) : ∃ x, ds = [x] := by
  match ds with
  | [] => rw [h0] at h; cases h
  | [x] => exact ⟨x, rfl⟩
  | x :: y :: r => rw [h2] at h; cases h
theorem two_of {f : List D → Option D} {ds : List D} {z : D} (h : f ds = some z) (h0 : f [] = none) (h1 : ∀ x, f [x] = none) (h2 : ∀ x y w r, f (x :: y :: w :: r) = none) : ∃ x y, ds = [x, y] := by
  match ds with
  | [] => rw [h0] at h; cases h
  | [x] => rw [h1] at h; cases h
  | [x, y] => exact ⟨x, y, rfl⟩
  | x :: y :: w :: r => rw [h2] at h; cases h
theorem len_ok (hK : G.K = X.K) : CallR X (.builtin "len") (rL G lenD) := by
  intro pins s σ H xs us Q I r hh
  obtain ⟨μ, st, ds, z, t, rs, e, k⟩ := hh
  obtain ⟨x, rfl⟩ := one_of e rfl (fun x y r => by cases x <;> rfl)
  obtain ⟨v, rfl, rx⟩ := rs.one
  cases rx with
  | str y =>
    obtain ⟨hc, rfl⟩ := if_some e
    exact call_len pins s σ H _ us Q I r ⟨_, _, rfl, ⟨of_decide_eq_true hc, rfl⟩, k.here t (.int _)⟩
  | @tup a vs xs a1 r1 => cases e; exact call_len pins s σ H _ us Q I r ⟨_, xs.length, rfl, .inr ⟨vs, hK ▸ a1.sq, r1.length⟩, k.here t (.int _)⟩
  | @lst a vs xs a1 r1 => cases e; exact call_len pins s σ H _ us Q I r ⟨_, xs.length, rfl, .inl ⟨vs, hK ▸ a1.sq, r1.length⟩, k.here t (.int _)⟩
  | @scr a ns a1 => cases e; exact call_len pins s σ H _ us Q I r ⟨_, ns.length, rfl, .inl ⟨_, hK ▸ a1.sq, by rw [List.length_map]⟩, k.here t (.int _)⟩
  | _ => cases e
theorem abs_ok : CallR X (.builtin "abs") (rL G absD) := by
  intro pins s σ H xs us Q I r hh
  obtain ⟨μ, st, ds, z, t, rs, e, k⟩ := hh
  obtain ⟨x, rfl⟩ := one_of e rfl (fun x y r => by cases x <;> rfl)
  obtain ⟨v, rfl, rx⟩ := rs.one
  cases rx with
  | int i => cases e; exact call_abs pins s σ H _ us Q I r ⟨_, rfl, k.here t (.int _)⟩
  | _ => cases e
theorem max_ok (hc : X.calm = true) : CallR X (.builtin "max") (rL G maxD) := by
  intro pins s σ H xs us Q I r hh
  obtain ⟨μ, st, ds, z, t, rs, e, k⟩ := hh
  obtain ⟨x, y, rfl⟩ := two_of e rfl (fun x => by cases x <;> rfl) (fun x y w r => by cases x <;> cases y <;> rfl)
  obtain ⟨v, w, rfl, rx, ry⟩ := rs.two
  cases x <;> cases y <;> first | (cases e; done) | skip
  cases e; cases rx; cases ry
  exact call_max2 hc pins s σ H _ us Q I r ⟨_, _, rfl, k.here t (.int _)⟩
theorem min_ok (hc : X.calm = true) : CallR X (.builtin "min") (rL G minD) := by
  intro pins s σ H xs us Q I r hh
  obtain ⟨μ, st, ds, z, t, rs, e, k⟩ := hh
  obtain ⟨x, y, rfl⟩ := two_of e rfl (fun x => by cases x <;> rfl) (fun x y w r => by cases x <;> cases y <;> rfl)
  obtain ⟨v, w, rfl, rx, ry⟩ := rs.two
  cases x <;> cases y <;> first | (cases e; done) | skip
  cases e; cases rx; cases ry
  exact call_min2 hc pins s σ H _ us Q I r ⟨_, _, rfl, k.here t (.int _)⟩
theorem int_ok : CallR X (.type "int") (rL G intD) := by
  intro pins s σ H xs us Q I r hh
  obtain ⟨μ, st, ds, z, t, rs, e, k⟩ := hh
  obtain ⟨x, rfl⟩ := one_of e rfl (fun x y r => by cases x <;> rfl)
  obtain ⟨v, rfl, rx⟩ := rs.one
  cases rx with
  | int i => cases e; exact call_int1 pins s σ H _ us Q I r (.inl ⟨_, rfl, k.here t (.int _)⟩)
  | bl i => cases e; exact call_int1 pins s σ H _ us Q I r (.inr ⟨_, rfl, k.here t (.int _)⟩)
  | _ => cases e
theorem tuple_ok (hK : G.K = X.K) : CallR X (.type "tuple") (rL G tupleD) := by
  intro pins s σ H xs us Q I r hh
  obtain ⟨μ, st, ds, z, t, rs, e, k⟩ := hh
  obtain ⟨x, rfl⟩ := one_of e rfl (fun x y r => by cases x <;> rfl)
  obtain ⟨v, rfl, rx⟩ := rs.one
  cases rx with
  | @tup a vs xs a1 r1 => cases e; exact call_tuple_of pins s σ H _ us Q I r ⟨a, vs, rfl, .inr ⟨hK ▸ a1.sq, k.here t (.tup a1 r1)⟩⟩
  | @lst a vs xs a1 r1 => cases e; exact call_tuple_of pins s σ H _ us Q I r ⟨a, vs, rfl, .inl ⟨hK ▸ a1.sq, fun p hp => k.tup t r1 hp⟩⟩
  | _ => cases e
theorem list_ok (hK : G.K = X.K) : CallR X (.type "list") (rL G listD) := by
  intro pins s σ H xs us Q I r hh
  obtain ⟨μ, st, ds, z, t, rs, e, k⟩ := hh
  obtain ⟨x, rfl⟩ := one_of e rfl (fun x y r => by cases x <;> rfl)
  obtain ⟨v, rfl, rx⟩ := rs.one
  cases rx with
  | @tup a vs xs a1 r1 => cases e; exact call_list_of pins s σ H _ us Q I r ⟨a, vs, rfl, .inr (hK ▸ a1.sq), fun p hp => k.lst t r1 hp⟩
  | @lst a vs xs a1 r1 => cases e; exact call_list_of pins s σ H _ us Q I r ⟨a, vs, rfl, .inl (hK ▸ a1.sq), fun p hp => k.lst t r1 hp⟩
  | _ => cases e
theorem sum_ok (hK : G.K = X.K) (hc : X.calm = true) : CallR X (.builtin "sum") (rL G sumD) := by
  intro pins s σ H xs us Q I r hh
  obtain ⟨μ, st, ds, z, t, rs, e, k⟩ := hh
  obtain ⟨x, rfl⟩ := one_of e rfl (fun x y r => by cases x <;> rfl)
  obtain ⟨v, rfl, rx⟩ := rs.one
  cases rx with
  | @lst a vs xs a1 r1 =>
    obtain ⟨ns, h1, rfl⟩ := Option.map_eq_some_iff.mp e
    rw [ints_eq h1] at r1
    refine cr_sum hc pins s σ H _ us Q I r ⟨a, ns, rfl, ?_, k.here t (.int _)⟩
    rw [← r1.ints]
    exact hK ▸ a1.sq
  | _ => cases e
theorem all_ok (hK : G.K = X.K) (hc : X.calm = true) : CallR X (.builtin "all") (rL G allD) := by
  intro pins s σ H xs us Q I r hh
  obtain ⟨μ, st, ds, z, t, rs, e, k⟩ := hh
  obtain ⟨x, rfl⟩ := one_of e rfl (fun x y r => by cases x <;> rfl)
  obtain ⟨v, rfl, rx⟩ := rs.one
  cases rx with
  | @lst a vs xs a1 r1 =>
    obtain ⟨ns, h1, rfl⟩ := Option.map_eq_some_iff.mp e
    rw [bools_eq h1] at r1
    refine cr_all hc pins s σ H _ us Q I r ⟨a, ns, rfl, ?_, k.here t (.bl _)⟩
    rw [← r1.bools]
    exact hK ▸ a1.sq
  | _ => cases e
theorem any_ok (hK : G.K = X.K) (hc : X.calm = true) : CallR X (.builtin "any") (rL G anyD) := by
  intro pins s σ H xs us Q I r hh
  obtain ⟨μ, st, ds, z, t, rs, e, k⟩ := hh
  obtain ⟨x, rfl⟩ := one_of e rfl (fun x y r => by cases x <;> rfl)
  obtain ⟨v, rfl, rx⟩ := rs.one
  cases rx with
  | @lst a vs xs a1 r1 =>
    obtain ⟨ns, h1, rfl⟩ := Option.map_eq_some_iff.mp e
    rw [bools_eq h1] at r1
    refine cr_any hc pins s σ H _ us Q I r ⟨a, ns, rfl, ?_, k.here t (.bl _)⟩
    rw [← r1.bools]
    exact hK ▸ a1.sq
  | _ => cases e
theorem tyIs_ok {t n : String} {b : Bool} (h : tyIs t n = some b) : kitB t n = some b := by
  unfold tyIs at h
  split at h <;> first | (cases h; decide +kernel) | cases h
theorem tyX_of (hK : G.K = X.K) {x : D} {v : V} {n : String} (r : Rep G μ H x v) (e : x.tyName = some n) : TyX X.K H v (.type n) := by
  cases r with
  | non => cases e; exact .base .non
  | bl b => cases e; exact .base (.bl b)
  | int i => cases e; exact .base (.int i)
  | str y => cases e; exact .base (.str y)
  | @tup a vs xs a1 r1 =>
    cases e
    rcases a1 with ⟨_, h | ⟨o, h⟩⟩ | ⟨o, its, n, h1, h2, _⟩
    · exact .base (.tup h)
    · exact .fTuple h
    · exact .kTuple (hK ▸ h1) h2
  | @lst a vs xs a1 r1 => cases e; exact .base (.lst a1.2)
  | @scr a ns a1 =>
    cases e
    rcases a1 with ⟨_, h | ⟨o, h⟩⟩ | ⟨o, its, n, h1, h2, _⟩
    · exact .base (.lst h)
    · exact .base (.frz h)
    · exact .kList (hK ▸ h1) h2
  | _ => cases e
theorem isi_ok (hK : G.K = X.K) : CallR X (.builtin "isinstance") (rL G isiD) := by
  intro pins s σ H xs us Q I r hh
  obtain ⟨μ, st, ds, z, t, rs, e, k⟩ := hh
  obtain ⟨x, y, rfl⟩ := two_of e rfl (fun x => by cases x <;> rfl) (fun x y w r => by cases y <;> rfl)
  obtain ⟨v, w, rfl, rx, ry⟩ := rs.two
  cases ry with
  | ty n =>
    obtain ⟨b, h1, rfl⟩ := Option.map_eq_some_iff.mp e
    obtain ⟨tn, h2, h3⟩ := Option.bind_eq_some_iff.mp h1
    exact call_isi pins s σ H _ us Q I r ⟨v, _, _, _, b, rfl, .ty n, tyX_of hK rx h2, kit_ty (tyIs_ok h3), k.here t (.bl _)⟩
  | _ => cases e
end
/-- the built-ins that may be called -/
def bis : List (Str × Value × (List D → Option D)) := [("len", .builtin "len", lenD), ("abs", .builtin "abs", absD), ("max", .builtin "max", maxD), ("min", .builtin "min", minD), ("int", .type "int", intD), ("tuple", .type "tuple", tupleD),
  ("list", .type "list", listD), ("sum", .builtin "sum", sumD), ("all", .builtin "all", allD), ("any", .builtin "any", anyD), ("isinstance", .builtin "isinstance", isiD)]
theorem bis_ok {G : Glo} {X : Cx} (hK : G.K = X.K) (hc : X.calm = true) {x : Str} {f : Value} {φ : List D → Option D} (h : (x, f, φ) ∈ bis) : bootBuiltins x = some f ∧ ((∃ id, f = .builtin id) ∨ ∃ T, f = .type T) ∧ x ≠ "__name__" ∧ (x == ("__debug__" : Str)) = false ∧ CallR X f (rL G φ) := by
  unfold bis at h
  simp only [List.mem_cons, List.not_mem_nil, or_false, Prod.mk.injEq] at h
  rcases h with ⟨rfl, rfl, rfl⟩ | ⟨rfl, rfl, rfl⟩ | ⟨rfl, rfl, rfl⟩ | ⟨rfl, rfl, rfl⟩ | ⟨rfl, rfl, rfl⟩ | ⟨rfl, rfl, rfl⟩ | ⟨rfl, rfl, rfl⟩ | ⟨rfl, rfl, rfl⟩ | ⟨rfl, rfl, rfl⟩ | ⟨rfl, rfl, rfl⟩ | ⟨rfl, rfl, rfl⟩
  · exact ⟨by decide +kernel, .inl ⟨_, rfl⟩, by decide, by decide, len_ok hK⟩
  · exact ⟨by decide +kernel, .inl ⟨_, rfl⟩, by decide, by decide, abs_ok⟩
  · exact ⟨by decide +kernel, .inl ⟨_, rfl⟩, by decide, by decide, max_ok hc⟩
  · exact ⟨by decide +kernel, .inl ⟨_, rfl⟩, by decide, by decide, min_ok hc⟩
  · exact ⟨by decide +kernel, .inr ⟨_, rfl⟩, by decide, by decide, int_ok⟩
  · exact ⟨by decide +kernel, .inr ⟨_, rfl⟩, by decide, by decide, tuple_ok hK⟩
  · exact ⟨by decide +kernel, .inr ⟨_, rfl⟩, by decide, by decide, list_ok hK⟩
  · exact ⟨by decide +kernel, .inl ⟨_, rfl⟩, by decide, by decide, sum_ok hK hc⟩
  · exact ⟨by decide +kernel, .inl ⟨_, rfl⟩, by decide, by decide, all_ok hK hc⟩
  · exact ⟨by decide +kernel, .inl ⟨_, rfl⟩, by decide, by decide, any_ok hK hc⟩
  · exact ⟨by decide +kernel, .inl ⟨_, rfl⟩, by decide, by decide, isi_ok hK⟩
end Gw

set_option Elab.async false
set_option linter.all false
set_option maxRecDepth 100000
set_option maxHeartbeats 1000000
/-! Gw5: targets, walks, comprehensions, loops by readings. -/
namespace Gw
open PySem PySem.Spec PyProof.Rows L2
/-! ### targets -/
def T.slots : T → List Nat
  | .nm i => [i]
  | .nil => []
  | .cons t ts => t.slots ++ ts.slots
def T.len : T → Nat
  | .cons _ ts => ts.len + 1
  | _ => 0
def gT (G : Glo) (t : T) : TG := fun v σ H Q => ∃ μ e st d e', SR G μ e σ H ∧ STR G μ st H ∧ Rep G μ H d v ∧ t.bind d e = some e' ∧
  ∀ σ', σ'.length = σ.length → (∀ j, j ∉ t.slots → σ'[j]? = σ[j]?) → SR G μ e' σ' H → Q σ' H
def gTs (G : Glo) (t : T) : TGs := fun vs σ H Q => ∃ μ e st ds e', SR G μ e σ H ∧ STR G μ st H ∧ Reps G μ H ds vs ∧ t.bind (.tup ds) e = some e' ∧
  ∀ σ', σ'.length = σ.length → (∀ j, j ∉ t.slots → σ'[j]? = σ[j]?) → SR G μ e' σ' H → Q σ' H
def T.isTup : T → Bool
  | .nm _ => false
  | .nil => true
  | .cons _ ts => ts.isTup
theorem T.bind_len : ∀ {t : T} {ds : List D} {e e' : Ev}, t.isTup = true → t.bind (.tup ds) e = some e' → ds.length = t.len
  | .nm _, _, _, _, h, _ => by cases h
  | .nil, [], _, _, _, _ => rfl
  | .nil, _ :: _, _, _, _, h => by cases h
  | .cons t ts, [], _, _, _, h => by cases h
  | .cons t ts, d :: ds, e, e', h, b => by
    have b' : ((t.bind d e).bind fun e1 => ts.bind (.tup ds) e1) = some e' := b
    obtain ⟨e1, h1, h2⟩ := Option.bind_eq_some_iff.mp b'
    show ds.length + 1 = ts.len + 1
    rw [T.bind_len (t := ts) h h2]
theorem PG.conv {X : Cx} {e : Expr} {t t' : TG} (h : PG X e t) (k : ∀ v σ H Q, t' v σ H Q → t v σ H Q) : PG X e t' := ⟨fun pins s σ H v u Q I r q => h.run pins s σ H v u Q I r (k _ _ _ _ q)⟩
theorem PGs.conv {X : Cx} {e : List Expr} {t t' : TGs} (h : PGs X e t) (k : ∀ v σ H Q, t' v σ H Q → t v σ H Q) : PGs X e t' := ⟨fun pins s σ H v u Q I r q => h.run pins s σ H v u Q I r (k _ _ _ _ q)⟩
section
variable {G : Glo} {X : Cx} {W : WX}
theorem nm_ok {i : Nat} {x : Str} {pos : Pos} (h : PG X (.Name x pos) (gName i)) : PG X (.Name x pos) (gT G (.nm i)) := by
  refine PG.conv h fun v σ H Q hh => ?_
  obtain ⟨μ, e, st, d, e', s, t, r, b, k⟩ := hh
  cases b
  refine k _ (by simp) (fun j hj => ?_) (s.set i r)
  rw [List.getElem?_set_ne]
  intro z
  exact hj (by simp [T.slots, z])
theorem tnil_ok : PGs X [] (gTs G .nil) := by
  refine PGs.conv pgs_nil fun vs σ H Q hh => ?_
  obtain ⟨μ, e, st, ds, e', s, t, r, b, k⟩ := hh
  cases ds with
  | nil =>
    cases b
    cases r
    exact ⟨rfl, k σ rfl (fun _ _ => rfl) s⟩
  | cons d ds => cases b
theorem tcons_ok {e0 : Expr} {es : List Expr} {t0 ts : T} (h1 : PG X e0 (gT G t0)) (h2 : PGs X es (gTs G ts)) (hs : (assignEach (e0 :: es) X.env).map (·.2) = assign e0 X.env :: (assignEach es X.env).map (·.2)) : PGs X (e0 :: es) (gTs G (.cons t0 ts)) := by
  refine PGs.conv (pgs_cons h1 h2 hs) fun vs σ H Q hh => ?_
  obtain ⟨μ, e, st, ds, e', s, t, r, b, k⟩ := hh
  cases ds with
  | nil => cases b
  | cons d ds =>
    have b' : ((t0.bind d e).bind fun e1 => ts.bind (.tup ds) e1) = some e' := b
    obtain ⟨e1, b1, b2⟩ := Option.bind_eq_some_iff.mp b'
    cases r with
    | cons r1 r2 =>
      refine ⟨_, _, rfl, μ, e, st, d, e1, s, t, r1, b1, fun σ1 hl1 hj1 s1 => ?_⟩
      refine ⟨μ, e1, st, ds, e', s1, t, r2, b2, fun σ2 hl2 hj2 s2 => k σ2 (hl2.trans hl1) (fun j hj => ?_) s2⟩
      have hj' : j ∉ t0.slots ++ ts.slots := hj
      rw [List.mem_append, not_or] at hj'
      rw [hj2 j hj'.2, hj1 j hj'.1]
theorem ttup_ok {es : List Expr} {ts : T} {k : Nat} {pos : Pos} (hK : G.K = X.K) (hc : X.calm = true) (ht : ts.isTup = true) (h : PGs X es (gTs G ts)) (hn : (assignEach es X.env).length = ts.len) (hst : (assignEach es X.env).findIdx? (·.1) = none) : PG X (.Tuple es k pos) (gT G ts) := by
  refine PG.conv (pg_tup hc h hn hst) fun v σ H Q hh => ?_
  obtain ⟨μ, e, st, d, e', s, t, r, b, kk⟩ := hh
  have hd : ∃ ds, d = .tup ds := by
    cases ts with
    | nm i => cases ht
    | nil => cases d <;> first | exact ⟨_, rfl⟩ | cases b
    | cons a c => cases d <;> first | exact ⟨_, rfl⟩ | cases b
  obtain ⟨ds, rfl⟩ := hd
  cases r with
  | @tup a vs _ a1 r1 =>
    exact ⟨a, vs, rfl, hK ▸ a1.sq, by rw [← r1.length]; exact T.bind_len ht b, μ, e, st, ds, e', s, t, r1, b, kk⟩

/-! ### what is walked -/
/-- J walks the items xs while the heap grows from (μ, H) -/
def ItOk (G : Glo) (μ : Mp) (H : Hp) (xs : List D) (J : It) : Prop := ∃ (Gd : Hp → Prop) (Y : Nat → Hp → V → Hp → Prop), Walk J xs.length Gd Y ∧ (∀ μ2 H2, Gr μ H μ2 H2 → Gd H2) ∧
  ∀ μ2 H2 st2 (i : Nat) v H3, Gr μ H μ2 H2 → STR G μ2 st2 H2 → i < xs.length → Y i H2 v H3 → Gr μ2 H2 μ2 H3 ∧ STR G μ2 st2 H3 ∧ (∀ a o, H2 a = some o → H3 a = some o) ∧ ∃ d, xs[i]? = some d ∧ Rep G μ2 H3 d v
def iG (G : Glo) (W : WX) (den : Ev → M (List D)) : TI := fun σ H R => ∃ μ e st, SR G μ e σ H ∧ STR G μ st H ∧
  (den e st).All (fun xs st' => ∀ μ' H' J, Gr μ H μ' H' → STR G μ' st' H' → ItOk G μ' H' xs J → R J H') (KX G W σ μ H)
theorem PI.conv {X : Cx} {tg e : Expr} {t t' : TI} (h : PI X tg e t) (k : ∀ σ H R, t' σ H R → t σ H R) : PI X tg e t' := ⟨fun pins s σ H R I q => h.run pins s σ H R I (k _ _ _ q)⟩
theorem itok_list {μ : Mp} {H : Hp} {a : Addr} {vs : List V} {xs : List D} (hK : G.K = X.K) (h : LsM G μ H a vs) (r : Reps G μ H xs vs) : ItOk G μ H xs (Itl X.K a) := by
  refine ⟨fun H => SqL X.K H a vs, YAt vs, by rw [r.length]; exact walk_list, fun μ2 H2 g => hK ▸ (h.gr g).sq, fun μ2 H2 st2 i v H3 g t hi y => ?_⟩
  obtain ⟨rfl, hv⟩ := y
  obtain ⟨d, h1, h2⟩ := (r.gr g).getV hv
  exact ⟨Gr.refl t.sub, t, fun _ _ z => z, d, h1, h2⟩
theorem itok_tup {μ : Mp} {H : Hp} {a : Addr} {vs : List V} {xs : List D} (hK : G.K = X.K) (h : TpM G μ H a vs) (r : Reps G μ H xs vs) : ItOk G μ H xs (Itt X.K a) := by
  refine ⟨fun H => SqT X.K H a vs, YAt vs, by rw [r.length]; exact walk_tup, fun μ2 H2 g => hK ▸ (h.gr g).sq, fun μ2 H2 st2 i v H3 g t hi y => ?_⟩
  obtain ⟨rfl, hv⟩ := y
  obtain ⟨d, h1, h2⟩ := (r.gr g).getV hv
  exact ⟨Gr.refl t.sub, t, fun _ _ z => z, d, h1, h2⟩
theorem itok_range {μ : Mp} {H : Hp} {lo hi : Int} : ItOk G μ H (rangeD lo hi) (Itr lo (hi - lo).toNat) := by
  have hl : (rangeD lo hi).length = (hi - lo).toNat := by simp [rangeD]
  refine ⟨fun _ => True, _, by rw [hl]; exact walk_range, fun _ _ _ => True.intro, fun μ2 H2 st2 i v H3 g t hi' y => ?_⟩
  obtain ⟨rfl, rfl⟩ := y
  refine ⟨Gr.refl t.sub, t, fun _ _ z => z, .int (lo + i), ?_, .int _⟩
  rw [hl] at hi'
  simp [rangeD, hi']
theorem pair_new {μ2 : Mp} {H2 : Hp} {st2 : Sto} {p : Addr} {x y : V} {a b : D} (t : STR G μ2 st2 H2) (hp : H2 p = none) (ra : Rep G μ2 H2 a x) (rb : Rep G μ2 H2 b y) :
    Gr μ2 H2 μ2 (upd H2 p (.tup [x, y])) ∧ STR G μ2 st2 (upd H2 p (.tup [x, y])) ∧ (∀ a o, H2 a = some o → (upd H2 p (.tup [x, y])) a = some o) ∧ Rep G μ2 (upd H2 p (.tup [x, y])) (.tup [a, b]) (.ref p) :=
  ⟨Gr.new_ t.sub hp, t.new_ hp, fun c o e => by rw [upd_ne (ne_of_none e hp)]; exact e, Rep.tup_new t hp (.cons ra (.cons rb .nil))⟩
theorem zip_get {xs ys : List D} {i : Nat} {a b : D} (h1 : xs[i]? = some a) (h2 : ys[i]? = some b) : ((xs.zip ys).map fun p => D.tup [p.1, p.2])[i]? = some (.tup [a, b]) := by
  rw [List.getElem?_map, List.getElem?_zip_eq_some (z := (a, b)) |>.mpr ⟨h1, h2⟩]
  rfl
theorem walk_zipTT {K : PySem.W.Frag} {a b : Addr} {xs ys : List V} {n : Nat} (hn : n = min xs.length ys.length) : Walk (RZ.ItzT K a b) n (fun H => SqT K H a xs ∧ SqT K H b ys) (YPair (fun i => xs[i]?) (fun i => ys[i]?)) := by
  subst hn
  refine ⟨fun i _ hi q => ?_, fun _ q => ⟨xs, ys, q.1, q.2, by omega⟩, fun i H v H' _ q y => ?_⟩
  · have h1 : i < xs.length := by omega
    have h2 : i < ys.length := by omega
    exact ⟨xs, ys, xs[i], ys[i], q.1, q.2, by simp [h1], by simp [h2]⟩
  · obtain ⟨T, x, z, h1, h2, h3, h4, h5⟩ := y
    exact ⟨T, x, z, h1, h2, h3, h4 xs q.1, h5 ys q.2⟩
theorem itok_zipL {μ : Mp} {H : Hp} {a b : Addr} {vs ws : List V} {xs ys : List D} (hK : G.K = X.K) (h : LsM G μ H a vs) (h' : LsM G μ H b ws) (r : Reps G μ H xs vs) (r' : Reps G μ H ys ws) :
    ItOk G μ H ((xs.zip ys).map fun p => .tup [p.1, p.2]) (Itz X.K a b) := by
  have hl : ((xs.zip ys).map fun p => D.tup [p.1, p.2]).length = min vs.length ws.length := by rw [List.length_map, List.length_zip, r.length, r'.length]
  refine ⟨fun H => SqL X.K H a vs ∧ SqL X.K H b ws, _, walk_zip hl, fun μ2 H2 g => ⟨hK ▸ (h.gr g).sq, hK ▸ (h'.gr g).sq⟩, fun μ2 H2 st2 i v H3 g t hi y => ?_⟩
  obtain ⟨p, x, y, rfl, hp, rfl, hx, hy⟩ := y
  obtain ⟨d1, e1, q1⟩ := (r.gr g).getV hx
  obtain ⟨d2, e2, q2⟩ := (r'.gr g).getV hy
  obtain ⟨g1, g2, g3, g4⟩ := pair_new t hp q1 q2
  exact ⟨g1, g2, g3, _, zip_get e1 e2, g4⟩
theorem itok_zipT {μ : Mp} {H : Hp} {a b : Addr} {vs ws : List V} {xs ys : List D} (hK : G.K = X.K) (h : TpM G μ H a vs) (h' : TpM G μ H b ws) (r : Reps G μ H xs vs) (r' : Reps G μ H ys ws) :
    ItOk G μ H ((xs.zip ys).map fun p => .tup [p.1, p.2]) (RZ.ItzT X.K a b) := by
  have hl : ((xs.zip ys).map fun p => D.tup [p.1, p.2]).length = min vs.length ws.length := by rw [List.length_map, List.length_zip, r.length, r'.length]
  refine ⟨fun H => SqT X.K H a vs ∧ SqT X.K H b ws, _, walk_zipTT hl, fun μ2 H2 g => ⟨hK ▸ (h.gr g).sq, hK ▸ (h'.gr g).sq⟩, fun μ2 H2 st2 i v H3 g t hi y => ?_⟩
  obtain ⟨p, x, y, rfl, hp, rfl, hx, hy⟩ := y
  obtain ⟨d1, e1, q1⟩ := (r.gr g).getV hx
  obtain ⟨d2, e2, q2⟩ := (r'.gr g).getV hy
  obtain ⟨g1, g2, g3, g4⟩ := pair_new t hp q1 q2
  exact ⟨g1, g2, g3, _, zip_get e1 e2, g4⟩
theorem itok_enum {μ : Mp} {H : Hp} {a : Addr} {vs : List V} {xs : List D} (hK : G.K = X.K) (h : LsM G μ H a vs) (r : Reps G μ H xs vs) :
    ItOk G μ H ((List.range xs.length).zip xs |>.map fun p => .tup [.int (p.1 : Int), p.2]) (Ite X.K a) := by
  have hl : ((List.range xs.length).zip xs |>.map fun p => D.tup [.int (p.1 : Int), p.2]).length = vs.length := by rw [List.length_map, List.length_zip, List.length_range, Nat.min_self, r.length]
  refine ⟨fun H => SqL X.K H a vs, _, by rw [hl]; exact walk_enum, fun μ2 H2 g => hK ▸ (h.gr g).sq, fun μ2 H2 st2 i v H3 g t hi y => ?_⟩
  obtain ⟨p, x, y, rfl, hp, rfl, hx, hy⟩ := y
  cases hx
  obtain ⟨d2, e2, q2⟩ := (r.gr g).getV hy
  obtain ⟨g1, g2, g3, g4⟩ := pair_new t hp (.int (i : Nat)) q2
  refine ⟨g1, g2, g3, _, ?_, g4⟩
  have hi' : i < xs.length := (List.getElem?_eq_some_iff.mp e2).1
  rw [List.getElem?_map, List.getElem?_zip_eq_some (z := (i, d2)) |>.mpr ⟨by rw [List.getElem?_range hi'], e2⟩]
  rfl

/-! ### less is forbidden; what is forbidden may change -/
theorem TpM.less {μ μ' : Mp} {H : Hp} {a : Addr} {vs : List V} (hs : ∀ a ∈ μ'.M, a ∈ μ.M) (h : TpM G μ H a vs) : TpM G μ' H a vs := h.elim (fun z => .inl ⟨fun q => z.1 (hs _ q), z.2⟩) .inr
theorem ScM.less {μ μ' : Mp} {H : Hp} {a : Addr} {vs : List V} (hs : ∀ a ∈ μ'.M, a ∈ μ.M) (h : ScM G μ H a vs) : ScM G μ' H a vs := h.elim (fun z => .inl ⟨fun q => z.1 (hs _ q), z.2⟩) .inr
mutual
theorem Rep.less {μ μ' : Mp} {H : Hp} (hs : ∀ a ∈ μ'.M, a ∈ μ.M) (hm : μ'.m = μ.m) : ∀ (d : D) (v : V), Rep G μ H d v → Rep G μ' H d v
  | .non, _, h => by cases h; exact .non
  | .bl b, _, h => by cases h; exact .bl b
  | .int i, _, h => by cases h; exact .int i
  | .str x, _, h => by cases h; exact .str x
  | .ty n, _, h => by cases h; exact .ty n
  | .fn x, _, h => by cases h with | fn e => exact .fn e
  | .ref i, _, h => by cases h with | ref e => exact .ref (by rw [hm]; exact e)
  | .tup xs, _, h => by cases h with | tup a b => exact .tup (a.less hs) (Reps.less hs hm xs _ b)
  | .lst xs, _, h => by cases h with | lst a b => exact .lst ⟨fun q => a.1 (hs _ q), a.2⟩ (Reps.less hs hm xs _ b)
  | .scr ns, _, h => by cases h with | scr a => exact .scr (a.less hs)
theorem Reps.less {μ μ' : Mp} {H : Hp} (hs : ∀ a ∈ μ'.M, a ∈ μ.M) (hm : μ'.m = μ.m) : ∀ (ds : List D) (vs : List V), Reps G μ H ds vs → Reps G μ' H ds vs
  | [], _, h => by cases h; exact .nil
  | d :: ds, _, h => by cases h with | cons a b => exact .cons (Rep.less hs hm d _ a) (Reps.less hs hm ds _ b)
end
theorem rd_upd {μ : Mp} {H : Hp} {a p : Addr} {o u : HO} (hp : p ∈ μ.M) (n : a ∉ μ.M) (h : Rd H a u) : Rd (upd H p o) a u := by
  have ne : a ≠ p := fun z => n (by rw [z]; exact hp)
  rcases h with h | ⟨q, h⟩
  · exact .inl (by rw [upd_ne ne]; exact h)
  · exact .inr ⟨q, by rw [upd_ne ne]; exact h⟩
mutual
theorem Rep.upd_ {μ : Mp} {H : Hp} {p : Addr} {o : HO} (hp : p ∈ μ.M) : ∀ (d : D) (v : V), Rep G μ H d v → Rep G μ (upd H p o) d v
  | .non, _, h => by cases h; exact .non
  | .bl b, _, h => by cases h; exact .bl b
  | .int i, _, h => by cases h; exact .int i
  | .str x, _, h => by cases h; exact .str x
  | .ty n, _, h => by cases h; exact .ty n
  | .fn x, _, h => by cases h with | fn e => exact .fn e
  | .ref i, _, h => by cases h with | ref e => exact .ref e
  | .tup xs, _, h => by cases h with | tup a b => exact .tup (a.elim (fun z => .inl ⟨z.1, rd_upd hp z.1 z.2⟩) .inr) (Reps.upd_ hp xs _ b)
  | .lst xs, _, h => by cases h with | lst a b => exact .lst ⟨a.1, by rw [upd_ne fun z => a.1 (by rw [z]; exact hp)]; exact a.2⟩ (Reps.upd_ hp xs _ b)
  | .scr ns, _, h => by cases h with | scr a => exact .scr (a.elim (fun z => .inl ⟨z.1, rd_upd hp z.1 z.2⟩) .inr)
theorem Reps.upd_ {μ : Mp} {H : Hp} {p : Addr} {o : HO} (hp : p ∈ μ.M) : ∀ (ds : List D) (vs : List V), Reps G μ H ds vs → Reps G μ (upd H p o) ds vs
  | [], _, h => by cases h; exact .nil
  | d :: ds, _, h => by cases h with | cons a b => exact .cons (Rep.upd_ hp d _ a) (Reps.upd_ hp ds _ b)
end
theorem ORep.less {μ μ' : Mp} {H : Hp} {a : Addr} {o : MO} (hs : ∀ a ∈ μ'.M, a ∈ μ.M) (hm : μ'.m = μ.m) (h : ORep G μ H a o) : ORep G μ' H a o := by
  cases o with
  | lst xs => obtain ⟨vs, h1, h2⟩ := h; exact ⟨vs, h1, h2.less hs hm⟩
  | hat => exact h
/-- an address that is forbidden, but not at hand, changes -/
theorem STR.upd_ {μ : Mp} {H : Hp} {st : Sto} {p : Addr} {o : HO} (t : STR G μ st H) (hp : p ∈ μ.M) (hn : p ∉ μ.m) : STR G μ st (upd H p o) := by
  refine ⟨t.len, fun i x h => ?_, t.sub, t.nd, fun a h => ?_⟩
  · obtain ⟨a, h1, h2⟩ := t.at_ i x h
    have ne : a ≠ p := fun z => hn (by rw [← z]; exact List.mem_of_getElem? h1)
    refine ⟨a, h1, ?_⟩
    cases x with
    | lst xs => obtain ⟨vs, q1, q2⟩ := h2; exact ⟨vs, by rw [upd_ne ne]; exact q1, q2.upd_ hp⟩
    | hat => obtain ⟨x, y, z, q1, q2⟩ := h2; exact ⟨x, y, z, by rw [upd_ne ne]; exact q1, q2⟩
  · by_cases z : a = p
    · rw [z, upd_same]; simp
    · rw [upd_ne z]; exact t.tr a h
theorem SR.wipe {μ : Mp} {e : Ev} {σ : L2.St} {H : Hp} (s : SR G μ e σ H) : ∀ vs : List Nat, SR G μ (wipeE e vs) (wipe σ vs) H
  | [] => s
  | v :: vs => by
    have ih := SR.wipe s vs
    refine ⟨by show ((wipeE e vs).set v none).length = ((L2.wipe σ vs).set v none).length; simp [ih.len], fun j d h => ?_⟩
    have h' : ((wipeE e vs).set v none)[j]? = some (some d) := h
    by_cases hj : v = j
    · subst hj
      by_cases hl : v < (wipeE e vs).length
      · rw [List.getElem?_set_self hl] at h'; cases h'
      · rw [List.getElem?_eq_none (by simpa using hl)] at h'; cases h'
    · rw [List.getElem?_set_ne hj] at h'
      obtain ⟨v', h1, h2⟩ := ih.slot j d h'
      exact ⟨v', by show ((L2.wipe σ vs).set v none)[j]? = _; rw [List.getElem?_set_ne hj]; exact h1, h2⟩
theorem wipe_get (σ : L2.St) : ∀ (vs : List Nat) (j : Nat), j < σ.length → (wipe σ vs)[j]? = if j ∈ vs then some none else σ[j]?
  | [], j, _ => by simp [wipe]
  | v :: vs, j, hl => by
    have ih := wipe_get σ vs j hl
    show ((wipe σ vs).set v none)[j]? = _
    by_cases hj : v = j
    · subst hj
      rw [List.getElem?_set_self (by rw [wipe_length]; exact hl)]
      simp
    · rw [List.getElem?_set_ne hj, ih]
      by_cases hm : j ∈ vs
      · simp [hm]
      · simp [hm, show j ≠ v from fun z => hj z.symm]
theorem wipe_same {σ σ' : L2.St} {vs : List Nat} (hl : σ'.length = σ.length) (h : ∀ j, j ∉ vs → σ'[j]? = (wipe σ vs)[j]?) : wipe σ' vs = wipe σ vs := by
  apply List.ext_getElem?
  intro j
  by_cases hj : j < σ.length
  · rw [wipe_get σ' vs j (by omega), wipe_get σ vs j hj]
    by_cases hm : j ∈ vs
    · simp [hm]
    · rw [if_neg hm, if_neg hm, h j hm, wipe_get σ vs j hj, if_neg hm]
  · rw [List.getElem?_eq_none (by rw [wipe_length]; omega), List.getElem?_eq_none (by rw [wipe_length]; omega)]
theorem Gr.upd_ {μ μ' : Mp} {H H' : Hp} {p : Addr} {o : HO} (g : Gr μ H μ' H') (h : H p = none) : Gr μ H μ' (upd H' p o) := by
  refine ⟨fun a u e n => ?_, fun a e => ?_, g.pre, g.sub, g.new, g.ms⟩
  · rw [upd_ne (ne_of_none e h)]; exact g.keep a u e n
  · by_cases z : a = p
    · rw [z]; exact h
    · rw [upd_ne z] at e; exact g.there a e
theorem Gr.nom {μ μ' : Mp} {H H' : Hp} {p : Addr} (g : Gr μ H μ' H') (h : H p ≠ none) (n : p ∉ μ.m) : p ∉ μ'.m := by
  obtain ⟨r, e, hr⟩ := g.pre
  rw [e, List.mem_append]
  rintro (z | z)
  · exact n z
  · exact h (hr p z)
/-- a comprehension's reading -/
theorem lc_ok {wi : TI} {g : TG} {tt : TT} {te : TE} {own : List Nat} {gt : T} {dit : Ev → M (List D)} {dc : Ev → M Bool} {de : Ev → M D} {σ : L2.St} {H : Hp} {Q : VK} (hsl : ∀ j ∈ gt.slots, j ∈ own)
    (hi : ∀ σ H R, iG G W dit σ H R → wi σ H R) (hg : ∀ v σ H Q, gT G gt v σ H Q → g v σ H Q) (hc : ∀ σ H Q, tB G (fun _ _ _ _ => False) dc σ H Q → tt σ H Q) (he : ∀ σ H Q, tE G (fun _ _ _ _ => False) de σ H Q → te σ H Q)
    (h : tE G W (fun e => andThen (dit e) fun xs => andThen (lcGo (fun x => match gt.bind x (wipeE e own) with
      | none => badM
      | some e' => andThen (noXM (dc e')) fun t => if t = true then andThen (noXM (de e')) fun y => ret (some y) else ret none) [] xs) fun ys => ret (.lst ys)) σ H Q) : tLc wi g tt te own σ H Q := by
  obtain ⟨μ, e, st, s, t, hA⟩ := h
  refine hi _ _ _ ⟨μ, e, st, s, t, Tr.All_mono (fun xs st1 hq μ1 H1 J g1 t1 hJ Dd hD => ?_) (fun _ _ _ z => z) _ ((Tr.All_bind _).mp hA)⟩
  obtain ⟨Gd, Y, w, hG, hY⟩ := hJ
  have s1 := s.gr g1
  have hq1 := Tr.All_mono (P' := KE G (Rep G) μ1 H1 Q) (E' := KX G W σ μ1 H1) (fun _ _ z => KE.gr g1 z) (fun _ _ _ z => KX.gr g1 z) _ hq
  clear hq
  generalize hf : (fun x => match gt.bind x (wipeE e own) with
      | none => badM
      | some e' => andThen (noXM (dc e')) fun t => if t = true then andThen (noXM (de e')) fun y => ret (some y) else ret none) = f at hq1
  let Pv : Nat → Hp → Prop := fun i H2 => ∃ μ2 st2 acc vs, Gr μ1 H1 μ2 H2 ∧ STR G μ2 st2 H2 ∧ H2 Dd = some (.lst vs) ∧ Dd ∈ μ2.M ∧ Dd ∉ μ2.m ∧ Reps G μ2 H2 acc vs ∧
    ((lcGo f acc (xs.drop i) st2).bind fun ys st3 => .ok (D.lst ys) st3).All (KE G (Rep G) μ1 H1 Q) (KX G W σ μ1 H1)
  refine lc_it w Pv ?_ (fun i H2 _ p => ?_) (fun i x H2 H3 hi' p y => ?_) (fun H2 p => ?_)
  · refine ⟨⟨Dd :: μ1.M, μ1.m⟩, st1, [], [], ?_, ?_, upd_same, List.mem_cons_self, fun z => t1.tr _ (t1.sub _ z) hD, .nil, hq1⟩
    · refine ⟨fun a u ha _ => by rw [upd_ne (ne_of_none ha hD)]; exact ha, fun a ha => ?_, ⟨[], by simp, by simp⟩, fun a ha => List.mem_cons_of_mem _ ha, fun a ha => ?_, t1.sub⟩
      · by_cases z : a = Dd
        · rw [z]; exact hD
        · rw [upd_ne z] at ha; exact ha
      · rcases List.mem_cons.mp ha with z | z
        · exact .inr (by rw [z]; exact hD)
        · exact .inl z
    · refine ⟨t1.len, fun i o ho => ?_, fun a ha => List.mem_cons_of_mem _ (t1.sub a ha), t1.nd, fun a ha => ?_⟩
      · obtain ⟨a, h1, h2⟩ := (t1.new_ hD (o := .lst [])).at_ i o ho
        refine ⟨a, h1, ?_⟩
        have gg : Gr μ1 (upd H1 Dd (.lst [])) ⟨Dd :: μ1.M, μ1.m⟩ (upd H1 Dd (.lst [])) → True := fun _ => True.intro
        obtain ⟨a', h1', h2'⟩ := t1.at_ i o ho
        have ea : a = a' := Option.some.inj (h1.symm.trans h1')
        subst ea
        refine h2'.same (μ' := ⟨Dd :: μ1.M, μ1.m⟩) ?_ (upd_ne fun z => t1.tr _ (t1.sub _ (List.mem_of_getElem? h1)) (by rw [z]; exact hD))
        refine ⟨fun b u hb _ => by rw [upd_ne (ne_of_none hb hD)]; exact hb, fun b hb => ?_, ⟨[], by simp, by simp⟩, fun b hb => List.mem_cons_of_mem _ hb, fun b hb => ?_, t1.sub⟩
        · by_cases z : b = Dd
          · rw [z]; exact hD
          · rw [upd_ne z] at hb; exact hb
        · rcases List.mem_cons.mp hb with z | z
          · exact .inr (by rw [z]; exact hD)
          · exact .inl z
      · rcases List.mem_cons.mp ha with z | z
        · rw [z, upd_same]; simp
        · rw [upd_ne fun q => t1.tr _ z (by rw [q]; exact hD)]
          exact t1.tr a z
  · obtain ⟨μ2, st2, acc, vs, gr, _⟩ := p
    exact hG μ2 H2 gr
  · obtain ⟨μ2, st2, acc, vs, gr, t2, hL, hM, hm, ra, hq⟩ := p
    obtain ⟨g3, t3, k3, d, hd, rd⟩ := hY μ2 H2 st2 i x H3 gr t2 hi' y
    have hL3 : H3 Dd = some (.lst vs) := k3 _ _ hL
    have hdr : xs.drop i = d :: xs.drop (i + 1) := by
      have hi2 : i < xs.length := hi'
      rw [List.getElem?_eq_getElem hi2] at hd
      cases hd
      exact List.drop_eq_getElem_cons hi2
    rw [hdr] at hq
    have hq2 : ((f d st2).bind fun o st3 => ((match o with
        | some y => if acc.length < sizeLine then lcGo f (acc ++ [y]) (xs.drop (i + 1)) else badM
        | none => lcGo f acc (xs.drop (i + 1))) st3).bind fun ys st3 => .ok (D.lst ys) st3).All (KE G (Rep G) μ1 H1 Q) (KX G W σ μ1 H1) := by
      have := (Tr.All_bind _).mp hq
      refine (Tr.All_bind _).mpr ?_
      have h2 : ((f d st2).bind fun o st3 => (match o with
        | some y => if acc.length < sizeLine then lcGo f (acc ++ [y]) (xs.drop (i + 1)) else badM
        | none => lcGo f acc (xs.drop (i + 1))) st3).All _ _ := this
      exact Tr.All_mono (fun o st3 z => (Tr.All_bind _).mpr z) (fun _ _ _ z => z) _ ((Tr.All_bind _).mp h2)
    rw [← hf] at hq2
    cases hb : gt.bind d (wipeE e own) with
    | none =>
      simp only [hb] at hq2
      exact hq2.elim
    | some e' =>
      simp only [hb] at hq2
      have sw : SR G μ2 (wipeE e own) (wipe σ own) H3 := ((s1.gr gr).gr g3).wipe own
      refine hg _ _ _ _ ⟨μ2, _, st2, d, e', sw, t3, rd, hb, fun σ2 hl hj s2 => ⟨wipe_same (by rw [hl, wipe_length]) fun j hjn => hj j fun z => hjn (hsl j z), ?_⟩⟩
      have hq3 := (Tr.All_bind _).mp hq2
      have hq4 := (Tr.All_bind _).mp (show ((noXM (dc e') st2).bind _).All _ _ from hq3)
      refine hc _ _ _ ⟨μ2, e', st2, s2, t3, Tr.All_mono (fun b st4 hb4 μ4 H4 b' g4 t4 eb => ?_) (fun _ _ _ z => z.elim) _ (Tr.All_noX (E' := fun _ _ _ => False) _ hq4)⟩
      subst eb
      have hL4 : H4 Dd = some (.lst vs) := g4.keep _ _ hL3 hm
      have hM4 : Dd ∈ μ4.M := g4.sub _ hM
      have hm4 : Dd ∉ μ4.m := g4.nom (by rw [hL3]; simp) hm
      have G4 : Gr μ1 H1 μ4 H4 := (gr.trans g3).trans g4
      cases b with
      | false =>
        rw [if_neg Bool.false_ne_true] at hb4 ⊢
        exact ⟨μ4, st4, acc, vs, G4, t4, hL4, hM4, hm4, (ra.gr g3).gr g4, by rw [← hf]; exact hb4⟩
      | true =>
        rw [if_pos rfl] at hb4 ⊢
        have hb5 := (Tr.All_bind _).mp (show ((noXM (de e') st4).bind _).All _ _ from hb4)
        refine he _ _ _ ⟨μ4, e', st4, s2.gr g4, t4, Tr.All_mono (fun dy st5 hb6 μ5 H5 vy g5 t5 ry => ?_) (fun _ _ _ z => z.elim) _ (Tr.All_noX (E' := fun _ _ _ => False) _ hb5)⟩
        have hL5 : H5 Dd = some (.lst vs) := g5.keep _ _ hL4 hm4
        have hM5 : Dd ∈ μ5.M := g5.sub _ hM4
        have hm5 : Dd ∉ μ5.m := g5.nom (by rw [hL4]; simp) hm4
        have G5 : Gr μ1 H1 μ5 H5 := G4.trans g5
        have ra5 : Reps G μ5 H5 acc vs := ((ra.gr g3).gr g4).gr g5
        have hb7 : (((if acc.length < sizeLine then lcGo f (acc ++ [dy]) (xs.drop (i + 1)) else badM) st5).bind fun ys st3 => .ok (D.lst ys) st3).All (KE G (Rep G) μ1 H1 Q) (KX G W σ μ1 H1) := by
          rw [← hf]; exact hb6
        by_cases hz : acc.length < sizeLine
        · rw [if_pos hz] at hb7
          refine ⟨vs, hL5, by rw [← ra5.length]; exact hz, μ5, st5, acc ++ [dy], vs ++ [vy], G5.upd_ hD, t5.upd_ hM5 hm5, upd_same, hM5, hm5, (ra5.append (.cons ry .nil)).upd_ hM5, hb7⟩
        · rw [if_neg hz] at hb7
          exact hb7.elim
  · obtain ⟨μ2, st2, acc, vs, gr, t2, hL, hM, hm, ra, hq⟩ := p
    rw [List.drop_length] at hq
    have hq' : KE G (Rep G) μ1 H1 Q (.lst acc) st2 := hq
    have hD1 : Dd ∉ μ1.M := fun z => t1.tr _ z hD
    have hs : ∀ a ∈ (⟨μ2.M.filter fun a => decide (a ≠ Dd), μ2.m⟩ : Mp).M, a ∈ μ2.M := fun a ha => (List.mem_filter.mp ha).1
    refine hq' ⟨μ2.M.filter fun a => decide (a ≠ Dd), μ2.m⟩ H2 (.ref Dd) ⟨gr.keep, gr.there, gr.pre, fun a ha => List.mem_filter.mpr ⟨gr.sub a ha, decide_eq_true fun z => hD1 (by rw [← z]; exact ha)⟩, fun a ha => gr.new a (hs a ha), gr.ms⟩
      ⟨t2.len, fun i o ho => ?_, fun a ha => List.mem_filter.mpr ⟨t2.sub a ha, decide_eq_true fun z => hm (by rw [← z]; exact ha)⟩, t2.nd, fun a ha => t2.tr a (hs a ha)⟩ (.lst ⟨fun z => ?_, hL⟩ (ra.less hs rfl))
    · obtain ⟨a, h1, h2⟩ := t2.at_ i o ho
      exact ⟨a, h1, h2.less hs rfl⟩
    · exact of_decide_eq_true (List.mem_filter.mp z).2 rfl

/-! ### statements -/
def KS (G : Glo) (μ : Mp) (H : Hp) (D : Ends) : Fl × Ev → Sto → Prop := fun r st' => ∀ μ' H' σ', Gr μ H μ' H' → STR G μ' st' H' → SR G μ' r.2 σ' H' → match r.1 with
  | .nx => D.nx σ' H'
  | .rt d => ∀ x, Rep G μ' H' d x → D.rt x H'
  | .bk => D.bk σ' H'
  | .ct => D.ct σ' H'
def wX (E : XK) : WX := fun c d _ H => E c d H
def tS (G : Glo) (E : XK) (den : Ev → M (Fl × Ev)) : TS := fun D σ H => ∃ μ e st, SR G μ e σ H ∧ STR G μ st H ∧ (den e st).All (KS G μ H D) (KX G (wX E) σ μ H)
theorem KS.gr {μ μ1 : Mp} {H H1 : Hp} {D : Ends} {r : Fl × Ev} {st : Sto} (g : Gr μ H μ1 H1) (h : KS G μ H D r st) : KS G μ1 H1 D r st := fun μ' H' σ' g' t s => h μ' H' σ' (g.trans g') t s
theorem KXw {E : XK} {σ σ' : L2.St} {μ : Mp} {H : Hp} {x : Str} {d : D} {st : Sto} (h : KX G (wX E) σ μ H x d st) : KX G (wX E) σ' μ H x d st := h
theorem KS.here {μ : Mp} {H : Hp} {D : Ends} {r : Fl × Ev} {st : Sto} {σ : L2.St} (h : KS G μ H D r st) (t : STR G μ st H) (s : SR G μ r.2 σ H) : match r.1 with
  | .nx => D.nx σ H
  | .rt d => ∀ x, Rep G μ H d x → D.rt x H
  | .bk => D.bk σ H
  | .ct => D.ct σ H := h μ H σ (Gr.refl t.sub) t s
theorem if_ok {E : XK} {tc : TT} {ta tb : TS} {dc : Ev → M Bool} {da db : Ev → M (Fl × Ev)} (hc : ∀ σ H Q, tB G (wX E) dc σ H Q → tc σ H Q) (ha : ∀ D σ H, tS G E da D σ H → ta D σ H) (hb : ∀ D σ H, tS G E db D σ H → tb D σ H) {D : Ends} {σ : L2.St} {H : Hp}
    (h : tS G E (fun e => andThen (dc e) fun t => if t = true then da e else db e) D σ H) : tIfS tc ta tb D σ H := by
  obtain ⟨μ, e, st, s, t, hA⟩ := h
  refine hc _ _ _ ⟨μ, e, st, s, t, Tr.All_mono (fun b st1 hq μ1 H1 b' g1 t1 eb => ?_) (fun _ _ _ z => z) _ ((Tr.All_bind _).mp hA)⟩
  subst eb
  have hq1 := Tr.All_mono (P' := KS G μ1 H1 D) (E' := KX G (wX E) σ μ1 H1) (fun _ _ z => KS.gr g1 z) (fun _ _ _ z => KX.gr g1 z) _ hq
  cases b with
  | true => rw [if_pos rfl] at hq1 ⊢; exact ha _ _ _ ⟨μ1, e, st1, s.gr g1, t1, hq1⟩
  | false => rw [if_neg Bool.false_ne_true] at hq1 ⊢; exact hb _ _ _ ⟨μ1, e, st1, s.gr g1, t1, hq1⟩
theorem seq_ok {E : XK} {ta tb : TS} {da db : Ev → M (Fl × Ev)} (ha : ∀ D σ H, tS G E da D σ H → ta D σ H) (hb : ∀ D σ H, tS G E db D σ H → tb D σ H) {D : Ends} {σ : L2.St} {H : Hp}
    (h : tS G E (fun e => andThen (da e) fun r => match r.1 with
      | .nx => db r.2
      | f => ret (f, r.2)) D σ H) : tSeq ta tb D σ H := by
  obtain ⟨μ, e, st, s, t, hA⟩ := h
  refine ha _ _ _ ⟨μ, e, st, s, t, Tr.All_mono (fun r st1 hq μ1 H1 σ1 g1 t1 s1 => ?_) (fun _ _ _ z => z) _ ((Tr.All_bind _).mp hA)⟩
  obtain ⟨f, e1⟩ := r
  have hq1 := Tr.All_mono (P' := KS G μ1 H1 D) (E' := KX G (wX E) σ1 μ1 H1) (fun _ _ z => KS.gr g1 z) (fun _ _ _ z => KX.gr g1 z) _ hq
  cases f with
  | nx => exact hb _ _ _ ⟨μ1, e1, st1, s1, t1, hq1⟩
  | rt d => exact (KS.here (show KS G μ1 H1 D (.rt d, e1) st1 from hq1) t1 s1)
  | bk => exact (KS.here (show KS G μ1 H1 D (.bk, e1) st1 from hq1) t1 s1)
  | ct => exact (KS.here (show KS G μ1 H1 D (.ct, e1) st1 from hq1) t1 s1)
theorem whl_ok {E : XK} {tc : TT} {tb : TS} {dc : Ev → M Bool} {db : Ev → M (Fl × Ev)} {n : Nat} (hc : ∀ σ H Q, tB G (wX E) dc σ H Q → tc σ H Q) (hb : ∀ D σ H, tS G E db D σ H → tb D σ H) {D : Ends} {σ : L2.St} {H : Hp}
    (h : tS G E (whlGo dc db n) D σ H) : tWhile tc tb D σ H := by
  obtain ⟨μ, e, st, s, t, hA⟩ := h
  refine ⟨fun n σ2 H2 => ∃ μ2 e2 st2, Gr μ H μ2 H2 ∧ SR G μ2 e2 σ2 H2 ∧ STR G μ2 st2 H2 ∧ (whlGo dc db n e2 st2).All (KS G μ H D) (KX G (wX E) σ μ H), ⟨n, μ, e, st, Gr.refl t.sub, s, t, hA⟩, fun m σ2 H2 hw => ?_⟩
  obtain ⟨μ2, e2, st2, g2, s2, t2, hq⟩ := hw
  cases m with
  | zero => exact hq.elim
  | succ m =>
    refine hc _ _ _ ⟨μ2, e2, st2, s2, t2, Tr.All_mono (fun b st3 hq3 μ3 H3 b' g3 t3 eb => ?_) (fun _ _ _ z => KX.gr g2 z) _ ((Tr.All_bind _).mp hq)⟩
    subst eb
    cases b with
    | false =>
      rw [if_neg Bool.false_ne_true] at hq3 ⊢
      exact KS.here (KS.gr (g2.trans g3) hq3) t3 (s2.gr g3)
    | true =>
      rw [if_pos rfl] at hq3 ⊢
      refine ⟨fun σ4 H4 => ∃ μ4 e4 st4, Gr μ H μ4 H4 ∧ SR G μ4 e4 σ4 H4 ∧ STR G μ4 st4 H4 ∧ (whlGo dc db m e4 st4).All (KS G μ H D) (KX G (wX E) σ μ H), fun σ4 H4 z => ⟨m, Nat.lt_succ_self m, z⟩, ?_⟩
      refine hb _ _ _ ⟨μ3, e2, st3, s2.gr g3, t3, Tr.All_mono (fun r st4 hq4 μ4 H4 σ4 g4 t4 s4 => ?_) (fun _ _ _ z => KX.gr (g2.trans g3) z) _ ((Tr.All_bind _).mp hq3)⟩
      obtain ⟨f, e4⟩ := r
      have g := (g2.trans g3).trans g4
      cases f with
      | nx => exact ⟨μ4, e4, st4, g, s4, t4, hq4⟩
      | ct => exact ⟨μ4, e4, st4, g, s4, t4, hq4⟩
      | bk => exact KS.here (KS.gr g (show KS G μ H D (.nx, e4) st4 from hq4)) t4 s4
      | rt d => exact KS.here (KS.gr g (show KS G μ H D (.rt d, e4) st4 from hq4)) t4 s4
theorem for_ok {E : XK} {wi : TI} {g : TG} {tb : TS} {gt : T} {dit : Ev → M (List D)} {db : Ev → M (Fl × Ev)} (hi : ∀ σ H R, iG G (wX E) dit σ H R → wi σ H R) (hg : ∀ v σ H Q, gT G gt v σ H Q → g v σ H Q) (hb : ∀ D σ H, tS G E db D σ H → tb D σ H)
    {D : Ends} {σ : L2.St} {H : Hp} (h : tS G E (fun e => andThen (dit e) fun xs => forGo gt db xs e) D σ H) : tFor wi g tb D σ H := by
  obtain ⟨μ, e, st, s, t, hA⟩ := h
  refine hi _ _ _ ⟨μ, e, st, s, t, Tr.All_mono (fun xs st1 hq μ1 H1 J g1 t1 hJ => ?_) (fun _ _ _ z => z) _ ((Tr.All_bind _).mp hA)⟩
  obtain ⟨Gd, Y, w, hG, hY⟩ := hJ
  let Pv : Nat → L2.St → Hp → Prop := fun i σ2 H2 => ∃ μ2 e2 st2, Gr μ1 H1 μ2 H2 ∧ SR G μ2 e2 σ2 H2 ∧ STR G μ2 st2 H2 ∧ (forGo gt db (xs.drop i) e2 st2).All (KS G μ H D) (KX G (wX E) σ μ H)
  refine for_it w Pv ⟨μ1, e, st1, Gr.refl t1.sub, s.gr g1, t1, hq⟩ (fun i σ2 H2 _ p => ?_) (fun i x σ2 H2 H3 hi' p y => ?_) (fun σ2 H2 p => ?_)
  · obtain ⟨μ2, e2, st2, gr, _⟩ := p
    exact hG μ2 H2 gr
  · obtain ⟨μ2, e2, st2, gr, s2, t2, hq2⟩ := p
    obtain ⟨g3, t3, _, d, hd, rd⟩ := hY μ2 H2 st2 i x H3 gr t2 hi' y
    have hdr : xs.drop i = d :: xs.drop (i + 1) := by
      have hi2 : i < xs.length := hi'
      rw [List.getElem?_eq_getElem hi2] at hd
      cases hd
      exact List.drop_eq_getElem_cons hi2
    rw [hdr] at hq2
    cases hbd : gt.bind d e2 with
    | none =>
      have : (badM st2 : Tr (Fl × Ev)).All (KS G μ H D) (KX G (wX E) σ μ H) := by
        have q := hq2
        unfold forGo at q
        rw [hbd] at q
        exact q
      exact this.elim
    | some e' =>
      have hq3 : ((db e' st2).bind fun r s => (match r.1 with
        | .nx => forGo gt db (xs.drop (i + 1)) r.2
        | .ct => forGo gt db (xs.drop (i + 1)) r.2
        | .bk => ret (.nx, r.2)
        | .rt d => ret (.rt d, r.2)) s).All (KS G μ H D) (KX G (wX E) σ μ H) := by
        have q := hq2
        unfold forGo at q
        rw [hbd] at q
        exact q
      refine hg _ _ _ _ ⟨μ2, e2, st2, d, e', s2.gr g3, t3, rd, hbd, fun σ4 _ _ s4 => ?_⟩
      refine hb _ _ _ ⟨μ2, e', st2, s4, t3, Tr.All_mono (fun r st5 hq5 μ5 H5 σ5 g5 t5 s5 => ?_) (fun _ _ _ z => KX.gr ((g1.trans gr).trans g3) z) _ ((Tr.All_bind _).mp hq3)⟩
      obtain ⟨f, e5⟩ := r
      have gg : Gr μ1 H1 μ5 H5 := (gr.trans g3).trans g5
      cases f with
      | nx => exact ⟨μ5, e5, st5, gg, s5, t5, hq5⟩
      | ct => exact ⟨μ5, e5, st5, gg, s5, t5, hq5⟩
      | bk => exact KS.here (KS.gr (g1.trans gg) (show KS G μ H D (.nx, e5) st5 from hq5)) t5 s5
      | rt d => exact KS.here (KS.gr (g1.trans gg) (show KS G μ H D (.rt d, e5) st5 from hq5)) t5 s5
  · obtain ⟨μ2, e2, st2, gr, s2, t2, hq2⟩ := p
    rw [List.drop_length] at hq2
    exact KS.here (KS.gr (g1.trans gr) (show KS G μ H D (.nx, e2) st2 from hq2)) t2 s2
end
end Gw

set_option Elab.async false
set_option linter.all false
set_option maxRecDepth 100000
set_option maxHeartbeats 1000000
/-! Gw6: from the text to the core language. -/
namespace Gw
open PySem PySem.Spec PyProof.Rows L2
structure FnI where
  lv : Nat
  np : Nat
  φ : List D → M D
structure Gam where
  N : List Str
  sc : Scope
  lv : Nat
  fns : List (Str × FnI)
  cst : List (Str × D)
  free : List Str
  mu : List (Nat × Nat)
  asg : List Str
def cellsOf (sc : Scope) : List Str := sc.names.filterMap fun y => match y.2 with
  | .cell => some y.1
  | _ => none
def Gam.inner (Γ : Gam) (sc : Scope) : Gam := { Γ with sc := relS sc Γ.sc, asg := cellsOf sc }
def envS (sc : Scope) : Env := { (default : Env) with scope := sc }
def semF : Sem Bool → Bool
  | .pure false => true
  | _ => false
def semN : Sem (Option (List Str)) → Bool
  | .pure none => true
  | _ => false
def semS (l : List Str) : Sem (Option (List Str)) → Bool
  | .pure (some k) => decide (k = l)
  | _ => false
def slotOf (N : List Str) (x : Str) : Option Nat := N.idxOf? x
def plainE : Expr → Bool
  | .Starred _ _ => false
  | _ => true
def visB (sc : Scope) (x : Str) : Bool := match sc.names.lookup x with
  | some .local => true
  | some .cell => true
  | some .free => true
  | _ => false
def locB (sc : Scope) (asg : List Str) (x : Str) : Bool := match sc.names.lookup x with
  | some .local => true
  | some .cell => asg.contains x
  | _ => false
def gloB (sc : Scope) (x : Str) : Bool := match sc.names.lookup x with
  | some .globalImplicit => true
  | _ => false
def nmOk (x : Str) : Bool := !(x == ("__debug__" : Str)) && !(x == ("__classdict__" : Str)) && !(x == ("__name__" : Str))
def tys : List (Str × String) := [("int", "int"), ("bool", "bool"), ("tuple", "tuple"), ("str", "str"), ("list", "list")]
def bi (φ : List D → Option D) : List D → M D := fun ds => optM (φ ds)
def ownOf (N : List Str) (sc : Scope) : List (Str × Nat) := sc.names.filterMap fun y => match y.2 with
  | .local => (slotOf N y.1).map fun i => (y.1, i)
  | .cell => (slotOf N y.1).map fun i => (y.1, i)
  | _ => none
def ownIx (N : List Str) (sc : Scope) : List Nat := (ownOf N sc).map fun p => p.2
def compG : Nat → Gam → Expr → Option T
  | 0, _, _ => none
  | n + 1, Γ, .Name x _ => if locB Γ.sc Γ.asg x then (slotOf Γ.N x).map .nm else none
  | n + 1, Γ, .Tuple [] _ _ => some .nil
  | n + 1, Γ, .Tuple (e :: es) k p => if plainE e then (compG n Γ e).bind fun a => (compG n Γ (.Tuple es k p)).map fun b => .cons a b else none
  | _, _, _ => none
def isTup : Expr → Bool
  | .Tuple .. => true
  | _ => false
def isComp : Expr → Bool
  | .ListComp .. => true
  | .SetComp .. => true
  | .DictComp .. => true
  | _ => false
mutual
def comp : Nat → Gam → Expr → Option E
  | 0, _, _ => none
  | n + 1, Γ, .Name x _ => if nmOk x then (if visB Γ.sc x then (slotOf Γ.N x).map .var else if gloB Γ.sc x then (match Γ.cst.lookup x with
      | some d => some (.c d)
      | none => match tys.lookup x with
        | some t => if Γ.free.contains x then some (.c (.ty t)) else none
        | none => none) else none) else none
  | n + 1, Γ, .Constant (.int i) _ _ => some (.c (.int i))
  | n + 1, Γ, .Constant (.str i) _ _ => some (.c (.str i))
  | n + 1, Γ, .Constant (.bool i) _ _ => some (.c (.bl i))
  | n + 1, Γ, .Constant .none _ _ => some (.c .non)
  | n + 1, Γ, .BinOp a o b _ => (comp n Γ a).bind fun x => (comp n Γ b).map fun y => .bin o x y
  | n + 1, Γ, .UnaryOp .USub a _ => (comp n Γ a).map .neg
  | n + 1, Γ, .UnaryOp .Not a _ => (comp n Γ a).map .not_
  | n + 1, Γ, .Compare a [o] [b] _ => if behindInMarks o b then none else (comp n Γ a).bind fun x => (comp n Γ b).map fun y => .cmp o x y
  | n + 1, Γ, .Compare a [o, p] [b, c] _ => if behindInMarks p c then none else (comp n Γ a).bind fun x => (comp n Γ b).bind fun y => (comp n Γ c).map fun z => .chain o p x y z
  | n + 1, Γ, .BoolOp o [a] _ => comp n Γ a
  | n + 1, Γ, .BoolOp .And (a :: b :: r) p => (comp n Γ a).bind fun x => (comp n Γ (.BoolOp .And (b :: r) p)).map fun y => .and_ x y
  | n + 1, Γ, .BoolOp .Or (a :: b :: r) p => (comp n Γ a).bind fun x => (comp n Γ (.BoolOp .Or (b :: r) p)).map fun y => .or_ x y
  | n + 1, Γ, .IfExp c a b _ => (compT n Γ c).bind fun x => (comp n Γ a).bind fun y => (comp n Γ b).map fun z => .ite x y z
  | n + 1, Γ, .Tuple es _ _ => (comps n Γ es).map .tup
  | n + 1, Γ, .List es p => (comps n Γ es).map fun c => if Γ.mu.contains (p.line, p.col) then .lstM c else .lst c
  | n + 1, Γ, .Subscript a (.Slice lo hi none _) _ => (comp n Γ a).bind fun x => (compO n Γ lo).bind fun l => (compO n Γ hi).map fun h => .sl x l h
  | n + 1, Γ, .Subscript a (.Slice lo hi (some _) _) _ => none
  | n + 1, Γ, .Subscript a i _ => (comp n Γ a).bind fun x => (comp n Γ i).map fun k => .ix x k
  | n + 1, Γ, .ListComp elt [⟨tg, it, ifs, 0⟩] sc _ =>
    if blkC Γ.N Γ.sc sc (ownOf Γ.N sc) then (compI n Γ tg it).bind fun ci =>
      (compG n (Γ.inner sc) tg).bind fun ct => if ct.slots.all fun j => decide (j ∈ ownIx Γ.N sc) then
        (match ifs with
          | [] => some (E.c (.bl true))
          | [c] => compT n (Γ.inner sc) c
          | _ => none).bind fun cc => (comp n (Γ.inner sc) elt).map fun ce => .lc (ownIx Γ.N sc) ct ci cc ce else none else none
  | n + 1, Γ, .Call (.Name f _) (a :: as) [] _ => if nmOk f && gloB Γ.sc f && (a :: as).all plainE then (match Γ.fns.lookup f with
      | some fi => if fi.lv ≤ Γ.lv then (comps n Γ (a :: as)).map (.call fi.φ) else none
      | none => match bis.lookup f with
        | some v => if Γ.free.contains f then (comps n Γ (a :: as)).map (.call (bi v.2)) else none
        | none => none) else none
  | _, _, _ => none
def compO : Nat → Gam → Option Expr → Option E
  | 0, _, _ => none
  | n + 1, Γ, none => some (.c .non)
  | n + 1, Γ, some e => (comp n Γ e).map .int_
def comps : Nat → Gam → List Expr → Option E
  | 0, _, _ => none
  | n + 1, Γ, [] => some .nil
  | n + 1, Γ, .Starred e _ :: es => (comp n Γ e).bind fun x => (comps n Γ es).map fun y => .star x y
  | n + 1, Γ, e :: es => (comp n Γ e).bind fun x => (comps n Γ es).map fun y => .cons x y
def compT : Nat → Gam → Expr → Option E
  | 0, _, _ => none
  | n + 1, Γ, .UnaryOp .Not a _ => (compT n Γ a).map .not_
  | n + 1, Γ, .BoolOp o [a] _ => compT n Γ a
  | n + 1, Γ, .BoolOp .And (a :: b :: r) p => (compT n Γ a).bind fun x => (compT n Γ (.BoolOp .And (b :: r) p)).map fun y => .and_ x y
  | n + 1, Γ, .BoolOp .Or (a :: b :: r) p => (compT n Γ a).bind fun x => (compT n Γ (.BoolOp .Or (b :: r) p)).map fun y => .or_ x y
  | n + 1, Γ, .Compare a [o] [b] _ => if behindInMarks o b then none else (comp n Γ a).bind fun x => (comp n Γ b).map fun y => .cmp o x y
  | n + 1, Γ, .Name x p => comp n Γ (.Name x p)
  | n + 1, Γ, .Call f as ks p => comp n Γ (.Call f as ks p)
  | n + 1, Γ, .Subscript a i p => comp n Γ (.Subscript a i p)
  | n + 1, Γ, .Constant c i p => comp n Γ (.Constant c i p)
  | _, _, _ => none
def compI : Nat → Gam → Expr → Expr → Option E
  | 0, _, _, _ => none
  | n + 1, Γ, tg, .Call (.Name f q) [a] [] p =>
    if f = "range" then (if gloB Γ.sc f && Γ.free.contains f && plainE a then (comp n Γ a).map .rng1 else none)
    else if f = "enumerate" then (if isTup tg && gloB Γ.sc f && Γ.free.contains f && plainE a then (comp n Γ a).map .enum else none)
    else (comp n Γ (.Call (.Name f q) [a] [] p)).map .it1
  | n + 1, Γ, tg, .Call (.Name f q) [a, b] [] p =>
    if f = "range" then (if gloB Γ.sc f && Γ.free.contains f && plainE a && plainE b then (comp n Γ a).bind fun x => (comp n Γ b).map fun y => .rng2 x y else none)
    else if f = "zip" then (if isTup tg && gloB Γ.sc f && Γ.free.contains f && plainE a && plainE b then (comp n Γ a).bind fun x => (comp n Γ b).map fun y => .zip x y else none)
    else (comp n Γ (.Call (.Name f q) [a, b] [] p)).map .it1
  | n + 1, Γ, tg, e => (comp n Γ e).map .it1
end

def spD (G : Glo) (φ : List D → M D) (np : Nat) : Sp := fun vs H Q E => vs.length = np ∧ ∃ μ ds st, Reps G μ H ds vs ∧ STR G μ st H ∧ (φ ds st).All (KE G (Rep G) μ H Q) (KX G (wX E) [] μ H)
structure Fits (Γ : Gam) (X : Cx) (G : Glo) (W : WX) : Prop where
  N : X.N = Γ.N
  nd : Γ.N.Nodup
  sc : X.env.scope = Γ.sc
  calm : X.calm = true
  K : G.K = X.K
  mg : G.mg = X.mg
  tk : Takes X W
  po : PassesOwn (model X.prog X.w) X.A X.env X.xe
  fn : ∀ x ∈ Γ.asg, X.fn x = true
  room : Room Γ.lv X.A
  fns : ∀ x fi, Γ.fns.lookup x = some fi → ∃ f fd ps, X.mg x = some (.ref f) ∧ PySem.W.keepIn X.K (.ref f) = true ∧ Binds X.K fd ps [] ∧ FnOk X.prog X.w X.K X.mg X.base (L2.CX X.prog X.w) fi.lv f fd ps (spD G fi.φ fi.np) ∧ ∀ ds st P E, (fi.φ ds st).All P E → ds.length = fi.np
  cst : ∀ x d, Γ.cst.lookup x = some d → ∃ u v, X.mg x = some u ∧ RelV v u ∧ ∀ μ H, Rep G μ H d v
  free : ∀ x ∈ Γ.free, X.mg x = none
theorem Fits.inner {Γ : Gam} {X : Cx} {G : Glo} {W : WX} (F : Fits Γ X G W) {sc : Scope} {own : List (Str × Nat)} (ok : BlkOk X.N X.env.scope sc own) (s : Shared) (H : Hp) (C : Addr) (cl : List (Str × Addr)) (fp : List Addr) :
    Fits (Γ.inner sc) (X.blk s H sc (compEnvC sc cl C X.env) fp) G (fun _ _ _ _ => False) := by
  refine ⟨F.N, F.nd, ?_, F.calm, F.K, F.mg, takes0, PassesOwn.never, fun x hx => ?_, F.room, F.fns, F.cst, F.free⟩
  · show relS sc X.env.scope = relS sc Γ.sc
    rw [F.sc]
  · obtain ⟨y, hy, e⟩ := List.mem_filterMap.mp (show x ∈ cellsOf sc from hx)
    obtain ⟨z, k⟩ := y
    cases k <;> first | (cases e; done) | skip
    cases e
    show (sc.names.lookup z == some .cell) = true
    rw [ok.uniq _ hy]
    rfl
section
variable {Γ : Gam} {X : Cx} {G : Glo} {W : WX}
theorem slot_get {N : List Str} {x : Str} {i : Nat} (h : slotOf N x = some i) : N[i]? = some x := by
  unfold slotOf at h
  obtain ⟨hl, he, _⟩ := List.idxOf?_eq_some_iff.mp h
  rw [List.getElem?_eq_getElem hl, he]
theorem loc_of {sc : Scope} {asg : List Str} {x : Str} (h : locB sc asg x = true) : Loc sc x ∧ (sc.names.lookup x = some .local ∨ x ∈ asg) := by
  unfold locB at h
  split at h
  · rename_i e; exact ⟨.inl e, .inl e⟩
  · rename_i e; exact ⟨.inr e, .inr (by simpa using h)⟩
  · cases h
theorem vis_of {sc : Scope} {x : Str} (h : visB sc x = true) : Vis sc x := by
  unfold visB at h
  split at h
  · rename_i e; exact .inl e
  · rename_i e; exact .inr (.inl e)
  · rename_i e; exact .inr (.inr e)
  · cases h
theorem glo_of (F : Fits Γ X G W) {x : Str} (h : gloB Γ.sc x = true) : Gl X x := by
  unfold gloB at h
  split at h
  · rename_i e
    show X.env.scope.names.lookup x = _
    rw [F.sc]; exact e
  · cases h
theorem nm_of {x : Str} (h : nmOk x = true) : (x == ("__debug__" : Str)) = false ∧ (x == ("__classdict__" : Str)) = false ∧ x ≠ "__name__" := by
  unfold nmOk at h
  simp only [Bool.and_eq_true, Bool.not_eq_true'] at h
  exact ⟨h.1.1, h.1.2, fun z => by rw [z] at h; exact absurd h.2 (by simp)⟩
theorem star_of {e : Expr} {es : List Expr} {env : Env} (h : plainE e = true) : starEach (e :: es) env = (false, eval e env) :: starEach es env := by
  cases e <;> first | rfl | cases h
theorem anyStar {es : List Expr} {pos : Pos} {env : Env} (h : es.all plainE = true) : (backTo pos (starEach es env)).any (·.1) = false := by
  induction es with
  | nil => rfl
  | cons e es ih =>
    simp only [List.all_cons, Bool.and_eq_true] at h
    rw [star_of h.1]
    show (false || (backTo pos (starEach es env)).any (·.1)) = false
    rw [ih h.2]
    rfl
theorem asg_of {e : Expr} {es : List Expr} {env : Env} (h : plainE e = true) : assignEach (e :: es) env = (false, assign e env) :: assignEach es env := by
  cases e <;> first | rfl | cases h
theorem tup_G : ∀ (n : Nat) (es : List Expr) (k : Nat) (p : Pos) (t : T), compG n Γ (.Tuple es k p) = some t → t.isTup = true ∧ ∀ env : Env, (assignEach es env).length = t.len ∧ (assignEach es env).findIdx? (·.1) = none
  | 0, _, _, _, _, h => by cases h
  | n + 1, [], k, p, t, h => by
    cases h
    exact ⟨rfl, fun _ => ⟨rfl, rfl⟩⟩
  | n + 1, e :: es, k, p, t, h => by
    unfold compG at h
    split at h
    · rename_i he
      obtain ⟨a, _, h2⟩ := Option.bind_eq_some_iff.mp h
      obtain ⟨b, h3, rfl⟩ := Option.map_eq_some_iff.mp h2
      obtain ⟨q1, q2⟩ := tup_G n es k p b h3
      refine ⟨q1, fun env => ?_⟩
      rw [asg_of he]
      obtain ⟨l1, l2⟩ := q2 env
      refine ⟨by show (assignEach es env).length + 1 = b.len + 1; rw [l1], ?_⟩
      rw [List.findIdx?_cons]
      simp [l2]
    · cases h
theorem G_ok (F : Fits Γ X G W) : ∀ (n : Nat), (∀ (e : Expr) (t : T), compG n Γ e = some t → PG X e (gT G t)) ∧ (∀ (es : List Expr) (k : Nat) (p : Pos) (t : T), compG n Γ (.Tuple es k p) = some t → PGs X es (gTs G t))
  | 0 => ⟨fun _ _ h => (by cases h), fun _ _ _ _ h => (by cases h)⟩
  | n + 1 => by
    have ih := G_ok F n
    have ts : ∀ (es : List Expr) (k : Nat) (p : Pos) (t : T), compG (n + 1) Γ (.Tuple es k p) = some t → PGs X es (gTs G t) := by
      intro es k p t h
      cases es with
      | nil => cases h; exact tnil_ok
      | cons e es =>
        unfold compG at h
        split at h
        · rename_i he
          obtain ⟨a, h1, h2⟩ := Option.bind_eq_some_iff.mp h
          obtain ⟨b, h3, rfl⟩ := Option.map_eq_some_iff.mp h2
          exact tcons_ok (ih.1 e a h1) (ih.2 es k p b h3) (by rw [asg_of he]; rfl)
        · cases h
    refine ⟨fun e t h => ?_, ts⟩
    cases e with
    | Name x p =>
      unfold compG at h
      split at h
      · rename_i hl
        obtain ⟨i, h1, rfl⟩ := Option.map_eq_some_iff.mp h
        obtain ⟨l1, l2⟩ := loc_of hl
        refine nm_ok (pg_name (by rw [F.N]; exact F.nd) (by rw [F.N]; exact slot_get h1) (by rw [F.sc]; exact l1) ?_)
        rcases l2 with z | z
        · exact .inr (by rw [F.sc]; exact z)
        · exact .inl (F.fn x z)
      · cases h
    | Tuple es k p =>
      obtain ⟨q1, q2⟩ := tup_G (n + 1) es k p t h
      exact ttup_ok F.K F.calm q1 (ts es k p t h) (q2 X.env).1 (q2 X.env).2
    | _ => cases h
end
/-- what compiles is right, to a depth -/
structure Snd (G : Glo) (n : Nat) : Prop where
  e : ∀ (Γ : Gam) (X : Cx) (W : WX) (e : Expr) (c : E), Fits Γ X G W → comp n Γ e = some c → PE X e (tE G W (ev c))
  o : ∀ (Γ : Gam) (X : Cx) (W : WX) (e : Option Expr) (c : E), Fits Γ X G W → compO n Γ e = some c → (e = none ∧ c = .c .non) ∨ ∃ e' c', e = some e' ∧ c = .int_ c' ∧ PE X e' (tE G W (ev c'))
  a : ∀ (Γ : Gam) (X : Cx) (W : WX) (es : List Expr) (c : E), Fits Γ X G W → comps n Γ es = some c → PA X es (tL G W (evs c))
  t : ∀ (Γ : Gam) (X : Cx) (W : WX) (e : Expr) (c : E), Fits Γ X G W → compT n Γ e = some c → PT X e (tB G W fun v => andThen (ev c v) truthM)
  i : ∀ (Γ : Gam) (X : Cx) (W : WX) (tg e : Expr) (c : E), Fits Γ X G W → compI n Γ tg e = some c → PI X tg e (iG G W (evs c)) ∧ ∀ env v, foldedSetIterable e env v = pure v
section
variable {Γ : Gam} {X : Cx} {G : Glo} {W : WX}
theorem bb {α β : Type} {o : Option α} {f : α → Option β} {b : β} (h : o.bind f = some b) : ∃ a, o = some a ∧ f a = some b := Option.bind_eq_some_iff.mp h
theorem mm {α β : Type} {o : Option α} {f : α → β} {b : β} (h : o.map f = some b) : ∃ a, o = some a ∧ f a = b := Option.map_eq_some_iff.mp h
theorem var_ok {i : Nat} {e : Expr} (h : PE X e (tVar i)) : PE X e (tE G W (ev (.var i))) := by
  refine PE.conv h fun σ H Q hh => ?_
  obtain ⟨μ, v, st, s, t, hA⟩ := hh
  obtain ⟨d, hd, k⟩ := optM_some hA
  obtain ⟨o, h1, h2⟩ := bb hd
  cases h2
  obtain ⟨x, q1, q2⟩ := s.slot i d h1
  exact ⟨x, q1, k.here t q2⟩
theorem con_ok {d : D} {v : V} {e : Expr} (h : PE X e (tC v)) (r : ∀ μ H, Rep G μ H d v) : PE X e (tE G W (ev (.c d))) := by
  refine PE.conv h fun σ H Q hh => ?_
  obtain ⟨μ, e, st, s, t, hA⟩ := hh
  exact KE.here hA t (r μ H)
theorem op2_ok {r : R2} {f : D → D → Option D} {ca cb : E} {σ : L2.St} {H : Hp} {Q : VK} (hr : ∀ v w H Q, rD G f v w H Q → r v w H Q)
    (h : tE G W (fun v => andThen (ev ca v) fun x => andThen (ev cb v) fun y => optM (f x y)) σ H Q) : tOp r (tE G W (ev ca)) (tE G W (ev cb)) σ H Q := by
  obtain ⟨μ, e, st, s, t, hA⟩ := h
  refine tG_then s t hA fun μ1 H1 d1 st1 x g1 s1 t1 r1 hA1 => ?_
  refine tG_then s1 t1 hA1 fun μ2 H2 d2 st2 y g2 s2 t2 r2 hA2 => ?_
  obtain ⟨z, hz, k⟩ := optM_some hA2
  exact hr _ _ _ _ ⟨μ2, st2, d1, d2, z, t2, r1.gr g2, r2, hz, k⟩
theorem op2S_ok {r : R2} {f : Sto → D → D → Option D} {ca cb : E} {σ : L2.St} {H : Hp} {Q : VK} (hr : ∀ v w H Q, rDS G f v w H Q → r v w H Q)
    (h : tE G W (fun v => andThen (ev ca v) fun x => andThen (ev cb v) fun y => fun s => optM (f s x y) s) σ H Q) : tOp r (tE G W (ev ca)) (tE G W (ev cb)) σ H Q := by
  obtain ⟨μ, e, st, s, t, hA⟩ := h
  refine tG_then s t hA fun μ1 H1 d1 st1 x g1 s1 t1 r1 hA1 => ?_
  refine tG_then s1 t1 hA1 fun μ2 H2 d2 st2 y g2 s2 t2 r2 hA2 => ?_
  obtain ⟨z, hz, k⟩ := optM_some hA2
  exact hr _ _ _ _ ⟨μ2, st2, d1, d2, z, t2, r1.gr g2, r2, hz, k⟩
theorem truth_then {c : E} {μ : Mp} {e : Ev} {st : Sto} {σ : L2.St} {H : Hp} {γ δ : Type} {R' : Mp → Hp → γ → δ → Prop} {Q : δ → Hp → Prop} {f : D → Bool → Sto → Tr γ} (hK : G.K = X.K)
    (s : SR G μ e σ H) (t : STR G μ st H) (h : ((ev c e st).bind fun x s1 => (truthM x s1).bind fun b s2 => f x b s2).All (KE G R' μ H Q) (KX G W σ μ H)) (P : V → Bool → Hp → Prop)
    (k : ∀ μ1 H1 d st1 x b, Gr μ H μ1 H1 → SR G μ1 e σ H1 → STR G μ1 st1 H1 → Rep G μ1 H1 d x → TruV X.K x H1 b → (f d b st1).All (KE G R' μ1 H1 Q) (KX G W σ μ1 H1) → P x b H1) : tE G W (ev c) σ H fun x H1 => ∃ b, TruV X.K x H1 b ∧ P x b H1 := by
  refine tG_then s t h fun μ1 H1 d st1 x g1 s1 t1 r1 hA => ?_
  cases ht : d.truth with
  | none =>
    have : ((truthM d st1).bind fun b s2 => f d b s2) = .bad := by unfold truthM; rw [ht]; rfl
    rw [this] at hA
    exact hA.elim
  | some b =>
    have : ((truthM d st1).bind fun b s2 => f d b s2) = f d b st1 := by unfold truthM; rw [ht]; rfl
    rw [this] at hA
    exact ⟨b, truth_ok hK r1 ht, k μ1 H1 d st1 x b g1 s1 t1 r1 (truth_ok hK r1 ht) hA⟩
end
end Gw

set_option Elab.async false
set_option linter.all false
set_option maxRecDepth 100000
set_option maxHeartbeats 1000000
/-! Gw7: what compiles is right: expressions. -/
namespace Gw
open PySem PySem.Spec PyProof.Rows L2
section
variable {G : Glo}
theorem un1 {W : WX} {r : V → Hp → VK → Prop} {f : D → Option D} {ca : E} {σ : L2.St} {H : Hp} {Q : VK} (hr : ∀ v H Q, rD1 G f v H Q → r v H Q)
    (h : tE G W (fun v => andThen (ev ca v) fun x => optM (f x)) σ H Q) : tUn r (tE G W (ev ca)) σ H Q := by
  obtain ⟨μ, e, st, s, t, hA⟩ := h
  refine tG_then s t hA fun μ1 H1 d1 st1 x g1 s1 t1 r1 hA1 => ?_
  obtain ⟨z, hz, k⟩ := optM_some hA1
  exact hr _ _ _ ⟨μ1, st1, d1, z, t1, r1, hz, k⟩
/-- from args to a call of a built-in -/
theorem bi_ok {W : WX} {φ : List D → Option D} {c : E} {σ : L2.St} {H : Hp} {Q : VK} (h : tE G W (ev (.call (bi φ) c)) σ H Q) : tCB (rL G φ) (tL G W (evs c)) σ H Q := by
  obtain ⟨μ, e, st, s, t, hA⟩ := h
  refine tG_then (da := evs c) s t hA fun μ1 H1 ds st1 vs g1 s1 t1 r1 hA1 => ?_
  obtain ⟨z, hz, k⟩ := optM_some hA1
  exact ⟨μ1, st1, ds, z, t1, r1, hz, k⟩
theorem call_ok {W : WX} {φ : List D → M D} {np : Nat} {c : E} {σ : L2.St} {H : Hp} {Q : VK} (hl : ∀ μ H ds vs, Reps G μ H ds vs → ∀ st P E, (φ ds st).All P E → ds.length = np) (h : tE G W (ev (.call φ c)) σ H Q) :
    tCallS (spD G φ np) (WE W) (tL G W (evs c)) σ H Q := by
  obtain ⟨μ, e, st, s, t, hA⟩ := h
  refine tG_then (da := evs c) s t hA fun μ1 H1 ds st1 vs g1 s1 t1 r1 hA1 => ?_
  exact ⟨by rw [← r1.length]; exact hl μ1 H1 ds vs r1 st1 _ _ hA1, μ1, ds, st1, r1, t1, hA1⟩
theorem call_ok' {W : WX} {φ : List D → M D} {np : Nat} {c : E} {σ : L2.St} {H : Hp} {Q : VK} (hl : ∀ ds st P E, (φ ds st).All P E → ds.length = np) (h : tE G W (ev (.call φ c)) σ H Q) :
    tCallS (spD G φ np) (WE W) (tL G W (evs c)) σ H Q := call_ok (fun _ _ ds _ _ st P E => hl ds st P E) h
theorem own_plain {e : Expr} {Γ : Gam} {n : Nat} {c : E} (h : comp n Γ e = some c) : plainE e = true := by
  cases n with
  | zero => cases h
  | succ n => cases e <;> first | rfl | cases h
theorem push_ok {μ : Mp} {H : Hp} {st : Sto} {p : Addr} {ds : List D} {vs : List V} (t : STR G μ st H) (hp : H p = none) (r : Reps G μ H ds vs) :
    STR G ⟨p :: μ.M, μ.m ++ [p]⟩ (st ++ [.lst ds]) (upd H p (.lst vs)) ∧ Gr μ H ⟨p :: μ.M, μ.m ++ [p]⟩ (upd H p (.lst vs)) := by
  have g : Gr μ H ⟨p :: μ.M, μ.m ++ [p]⟩ (upd H p (.lst vs)) := by
    refine ⟨fun a u e _ => by rw [upd_ne (ne_of_none e hp)]; exact e, fun a e => ?_, ⟨[p], rfl, fun a ha => by rw [List.mem_singleton.mp ha]; exact hp⟩, fun a ha => List.mem_cons_of_mem _ ha, fun a ha => ?_, t.sub⟩
    · by_cases z : a = p
      · rw [z]; exact hp
      · rw [upd_ne z] at e; exact e
    · rcases List.mem_cons.mp ha with z | z
      · exact .inr (by rw [z]; exact hp)
      · exact .inl z
  refine ⟨⟨by simp [t.len], fun i o h => ?_, fun a ha => ?_, ?_, fun a ha => ?_⟩, g⟩
  · by_cases hi : i < st.length
    · rw [List.getElem?_append_left hi] at h
      obtain ⟨a, h1, h2⟩ := t.at_ i o h
      refine ⟨a, by show (μ.m ++ [p])[i]? = _; rw [List.getElem?_append_left (by rw [t.len]; exact hi)]; exact h1, h2.same g (upd_ne fun z => ?_)⟩
      exact t.tr a (t.sub a (List.mem_of_getElem? h1)) (by rw [z]; exact hp)
    · have hi2 : i = st.length := by
        have := (List.getElem?_eq_some_iff.mp h).1
        rw [List.length_append] at this
        simp at this
        omega
      subst hi2
      rw [List.getElem?_append_right (Nat.le_refl _), Nat.sub_self] at h
      cases h
      refine ⟨p, by show (μ.m ++ [p])[st.length]? = _; rw [List.getElem?_append_right (by rw [t.len]; exact Nat.le_refl _), t.len, Nat.sub_self]; rfl, vs, upd_same, r.gr g⟩
  · rcases List.mem_append.mp ha with z | z
    · exact List.mem_cons_of_mem _ (t.sub a z)
    · rw [List.mem_singleton.mp z]; exact List.mem_cons_self
  · show (μ.m ++ [p]).Nodup
    rw [List.nodup_append]
    refine ⟨t.nd, by simp, fun a ha b hb z => ?_⟩
    rw [List.mem_singleton.mp hb] at z
    exact t.tr a (t.sub a ha) (by rw [z]; exact hp)
  · rcases List.mem_cons.mp ha with z | z
    · rw [z, upd_same]; simp
    · rw [upd_ne fun q => t.tr a z (by rw [q]; exact hp)]; exact t.tr a z
theorem idx_ok {n : Nat} (ih : Snd G n) {Γ : Gam} {X : Cx} {W : WX} (F : Fits Γ X G W) {a i : Expr} {p : Pos} {c : E} (hp : PlainIx i) (h' : ((comp n Γ a).bind fun x => (comp n Γ i).map fun k => E.ix x k) = some c) : PE X (.Subscript a i p) (tE G W (ev c)) := by
  obtain ⟨x, h1, h2⟩ := bb h'
  obtain ⟨y, h3, rfl⟩ := mm h2
  exact PE.conv (pe_ix (ix_ok F.K) (ih.e Γ X W a x F h1) (ih.e Γ X W i y F h3) hp) fun σ H Q q => op2S_ok (fun _ _ _ _ z => z) q
/-- a part of a slice: nothing, or an int -/
def PartC (c : E) (o : Option Int → D) : Prop := True
theorem part_then {n : Nat} (ih : Snd G n) {Γ : Gam} {X : Cx} {W : WX} (F : Fits Γ X G W) {o : Option Expr} {c : E} (h : compO n Γ o = some c) : ∃ t : TO, PO X o t ∧
    ∀ (μ : Mp) (e : Ev) (st : Sto) (σ : L2.St) (H : Hp) (γ δ : Type) (R' : Mp → Hp → γ → δ → Prop) (Q : δ → Hp → Prop) (f : D → Sto → Tr γ) (P : Option Int → Hp → Prop), SR G μ e σ H → STR G μ st H → ((ev c e st).bind f).All (KE G R' μ H Q) (KX G W σ μ H) →
      (∀ μ1 H1 d st1 k, Gr μ H μ1 H1 → SR G μ1 e σ H1 → STR G μ1 st1 H1 → partD d = some k → (f d st1).All (KE G R' μ1 H1 Q) (KX G W σ μ1 H1) → P k H1) → t σ H P := by
  cases n with
  | zero => cases h
  | succ n =>
    rcases ih.o Γ X W o c F h with ⟨rfl, rfl⟩ | ⟨e', c', rfl, rfl, pe⟩
    · exact ⟨_, po_none, fun μ e st σ H γ δ R' Q f P s t hA k => k μ H .non st none (Gr.refl t.sub) s t rfl hA⟩
    · refine ⟨_, po_some pe, fun μ e st σ H γ δ R' Q f P s t hA k => ?_⟩
      have hA' : ((ev c' e st).bind fun x s1 => ((match x with
          | .int i => ret (D.int i)
          | _ => badM) s1).bind f).All (KE G R' μ H Q) (KX G W σ μ H) := by
        refine (Tr.All_bind _).mpr ?_
        exact Tr.All_mono (fun d s2 hq => (Tr.All_bind _).mpr hq) (fun _ _ _ q => q) _ ((Tr.All_bind _).mp ((Tr.All_bind _).mp hA))
      refine tG_then s t hA' fun μ1 H1 d st1 x g1 s1 t1 r1 hA1 => ?_
      cases d <;> first | exact hA1.elim | skip
      cases r1
      exact ⟨_, rfl, k μ1 H1 _ st1 _ g1 s1 t1 rfl hA1⟩
theorem lc_parts {n : Nat} (ih : Snd G n) {Γ : Gam} {X : Cx} {W : WX} (F : Fits Γ X G W) {elt tg it : Expr} {ifs : List Expr} {sc : Scope} {p : Pos} {c : E} (h : comp (n + 1) Γ (.ListComp elt [⟨tg, it, ifs, 0⟩] sc p) = some c) :
    ∃ (wi : TI) (g : TG) (tt : TT) (te : TE), PI X tg it wi ∧ BlkOk X.N X.env.scope sc (ownOf Γ.N sc) ∧ (∀ (s : Shared) (H : Hp) (C : Addr) (cl : List (Str × Addr)) (fp : List Addr), PG (X.blk s H sc (compEnvC sc cl C X.env) fp) tg g) ∧
      (∀ (s : Shared) (H : Hp) (C : Addr) (cl : List (Str × Addr)) (fp : List Addr), PTs (X.blk s H sc (compEnvC sc cl C X.env) fp) ifs tt) ∧ (∀ (s : Shared) (H : Hp) (C : Addr) (cl : List (Str × Addr)) (fp : List Addr), PE (X.blk s H sc (compEnvC sc cl C X.env) fp) elt te) ∧
      (∀ v, foldedSetIterable it X.env v = pure v) ∧ ∀ σ H Q, tE G W (ev c) σ H Q → tLc wi g tt te (ownIx Γ.N sc) σ H Q := by
  have h' : (if blkC Γ.N Γ.sc sc (ownOf Γ.N sc) then (compI n Γ tg it).bind fun ci =>
    (compG n (Γ.inner sc) tg).bind fun ct => if ct.slots.all fun j => decide (j ∈ ownIx Γ.N sc) then
    (match ifs with
      | [] => some (E.c (.bl true))
      | [c] => compT n (Γ.inner sc) c
      | _ => none).bind fun cc => (comp n (Γ.inner sc) elt).map fun ce => E.lc (ownIx Γ.N sc) ct ci cc ce else none else none) = some c := h
  split at h'
  · rename_i hb
    obtain ⟨ci, h1, h2⟩ := bb h'
    obtain ⟨ct, h3, h4⟩ := bb h2
    split at h4
    · rename_i hs
      obtain ⟨cc, h5, h6⟩ := bb h4
      obtain ⟨ce, h7, rfl⟩ := mm h6
      obtain ⟨pi, hf⟩ := ih.i Γ X W tg it ci F h1
      have ok : BlkOk X.N X.env.scope sc (ownOf Γ.N sc) := by rw [F.N, F.sc]; exact blkOk_by hb
      have tt : ∃ tt : TT, (∀ (s : Shared) (H : Hp) (C : Addr) (cl : List (Str × Addr)) (fp : List Addr), PTs (X.blk s H sc (compEnvC sc cl C X.env) fp) ifs tt) ∧ ∀ σ H Q, tB G (fun _ _ _ _ => False) (fun v => andThen (ev cc v) truthM) σ H Q → tt σ H Q := by
        match ifs, h5 with
        | [], h5 =>
          cases h5
          refine ⟨tYes, fun _ _ _ _ _ => pts_nil, fun σ H Q q => ?_⟩
          obtain ⟨μ, e, st, s, t, hA⟩ := q
          exact KE.here (show KE G (fun _ _ a b => a = b) μ H Q true st from hA) t rfl
        | [k], h5 => exact ⟨_, fun s H C cl fp => pts_one (ih.t _ _ _ k cc (F.inner ok s H C cl fp) h5), fun _ _ _ q => q⟩
      obtain ⟨tt, ht1, ht2⟩ := tt
      refine ⟨_, _, tt, _, pi, ok, (fun s H C cl fp => (G_ok (F.inner ok s H C cl fp) n).1 tg ct h3), ht1, (fun s H C cl fp => ih.e _ _ _ elt ce (F.inner ok s H C cl fp) h7), (hf X.env), fun σ H Q q => ?_⟩
      exact lc_ok (fun j hj => of_decide_eq_true (List.all_eq_true.mp hs j hj)) (fun _ _ _ z => z) (fun _ _ _ _ z => z) ht2 (fun _ _ _ z => z) q
    · cases h4
  · cases h'
theorem snd_e {n : Nat} (ih : Snd G n) {Γ : Gam} {X : Cx} {W : WX} (F : Fits Γ X G W) {e : Expr} {c : E} (h : comp (n + 1) Γ e = some c) : PE X e (tE G W (ev c)) := by
  have hu : X.A.units + 64 < cLine := F.room.units
  cases e with
  | Name x p =>
    have h' : (if nmOk x then (if visB Γ.sc x then (slotOf Γ.N x).map .var else if gloB Γ.sc x then (match Γ.cst.lookup x with
      | some d => some (.c d)
      | none => match tys.lookup x with
        | some t => if Γ.free.contains x then some (.c (.ty t)) else none
        | none => none) else none) else none) = some c := h
    split at h'
    · rename_i hn
      obtain ⟨n1, n2, n3⟩ := nm_of hn
      split at h'
      · rename_i hv
        obtain ⟨i, h1, rfl⟩ := mm h'
        exact var_ok (pe_var (by rw [F.N]; exact slot_get h1) (by rw [F.sc]; exact vis_of hv) n1 n2)
      · split at h'
        · rename_i hg
          cases hc : Γ.cst.lookup x with
          | some d =>
            rw [hc] at h'
            cases h'
            obtain ⟨u, v, q1, q2, q3⟩ := F.cst x d hc
            exact con_ok (pe_glob (glo_of F hg) q1 q2 n1) q3
          | none =>
            rw [hc] at h'
            cases ht : tys.lookup x with
            | none => rw [ht] at h'; cases h'
            | some t =>
              rw [ht] at h'
              obtain ⟨q, rfl⟩ := if_some h'
              have hm := PySem.mem_of_lookup ht
              have hb : bootBuiltins x = some (.type t) := by
                unfold tys at hm
                simp only [List.mem_cons, List.not_mem_nil, or_false, Prod.mk.injEq] at hm
                rcases hm with ⟨rfl, rfl⟩ | ⟨rfl, rfl⟩ | ⟨rfl, rfl⟩ | ⟨rfl, rfl⟩ | ⟨rfl, rfl⟩ <;> decide +kernel
              exact con_ok (pe_bltn (v := .ty t) (glo_of F hg) (F.free x (by simpa using q)) hb rfl n3 n1) fun _ _ => .ty t
        · cases h'
    · cases h'
  | Constant k i p =>
    cases k <;> first | (cases h; done) | skip
    · cases h; exact con_ok pe_non fun _ _ => .non
    · cases h; exact con_ok pe_bl fun _ _ => .bl _
    · cases h; exact con_ok pe_int fun _ _ => .int _
    · cases h; exact con_ok pe_str fun _ _ => .str _
  | BinOp a o b p =>
    have h' : ((comp n Γ a).bind fun x => (comp n Γ b).map fun y => E.bin o x y) = some c := h
    obtain ⟨x, h1, h2⟩ := bb h'
    obtain ⟨y, h3, rfl⟩ := mm h2
    exact PE.conv (pe_op (bin_ok F.K o) (ih.e Γ X W a x F h1) (ih.e Γ X W b y F h3)) fun σ H Q q => op2_ok (fun _ _ _ _ z => z) q
  | UnaryOp o a p =>
    cases o <;> first | (cases h; done) | skip
    · have h' : (comp n Γ a).map E.not_ = some c := h
      obtain ⟨x, h1, rfl⟩ := mm h'
      refine PE.conv (pe_notT (ih.e Γ X W a x F h1)) fun σ H Q q => ?_
      obtain ⟨μ, e, st, s, t, hA⟩ := q
      exact truth_then F.K s t hA (fun x b H1 => Q (.bl (!b)) H1) fun μ1 H1 d st1 x b g1 s1 t1 r1 tv hA1 => KE.here hA1 t1 (.bl _)
    · have h' : (comp n Γ a).map E.neg = some c := h
      obtain ⟨x, h1, rfl⟩ := mm h'
      exact PE.conv (pe_un neg_ok (ih.e Γ X W a x F h1)) fun σ H Q q => un1 (fun _ _ _ z => z) q
  | Compare a os bs p =>
    match os, bs with
    | [o], [b] =>
      have h' : (if behindInMarks o b then none else (comp n Γ a).bind fun x => (comp n Γ b).map fun y => E.cmp o x y) = some c := h
      split at h'
      · cases h'
      · rename_i hm
        obtain ⟨x, h1, h2⟩ := bb h'
        obtain ⟨y, h3, rfl⟩ := mm h2
        exact PE.conv (pe_cmpR (cmp_ok F.K hu o) (ih.e Γ X W a x F h1) (ih.e Γ X W b y F h3) (by simpa using hm)) fun σ H Q q => op2_ok (fun _ _ _ _ z => z) q
    | [o, o'], [b, b'] =>
      have h' : (if behindInMarks o' b' then none else (comp n Γ a).bind fun x => (comp n Γ b).bind fun y => (comp n Γ b').map fun z => E.chain o o' x y z) = some c := h
      split at h'
      · cases h'
      · rename_i hm
        obtain ⟨x, h1, h2⟩ := bb h'
        obtain ⟨y, h3, h4⟩ := bb h2
        obtain ⟨z, h5, rfl⟩ := mm h4
        refine PE.conv (pe_chain (cmp_ok F.K hu o) (cmp_ok F.K hu o') (ih.e Γ X W a x F h1) (ih.e Γ X W b y F h3) (ih.e Γ X W b' z F h5) (by show behindInMarks o' b' = false; simpa using hm)) fun σ H Q q => ?_
        obtain ⟨μ, e, st, s, t, hA⟩ := q
        refine tG_then s t hA fun μ1 H1 d1 st1 v1 g1 s1 t1 r1 hA1 => ?_
        refine tG_then s1 t1 hA1 fun μ2 H2 d2 st2 v2 g2 s2 t2 r2 hA2 => ?_
        obtain ⟨d3, hz, k⟩ := optM_some ((Tr.All_bind _).mp hA2)
        refine ⟨μ2, st2, d1, d2, d3, t2, r1.gr g2, r2, hz, fun μ3 H3 v3 g3 t3 r3 => ?_⟩
        have k' := Tr.All_mono (P' := KE G (Rep G) μ3 H3 Q) (E' := KX G W σ μ3 H3) (fun _ _ z => KE.gr g3 z) (fun _ _ _ z => KX.gr g3 z) _ k
        cases d3 <;> first | exact k.elim | skip
        rename_i bv
        cases r3
        refine ⟨bv, rfl, ?_⟩
        cases bv with
        | false =>
          rw [if_neg Bool.false_ne_true]
          exact (show KE G (Rep G) μ2 H2 Q (.bl false) st2 from k) μ3 H3 _ g3 t3 (.bl _)
        | true =>
          rw [if_pos rfl]
          refine tG_then (s2.gr g3) t3 k' fun μ4 H4 d4 st4 v4 g4 s4 t4 r4 hA4 => ?_
          obtain ⟨zz, hz4, k4⟩ := optM_some hA4
          exact ⟨μ4, st4, d2, d4, zz, t4, (r2.gr g3).gr g4, r4, hz4, k4⟩
    | [], _ => cases h
    | [_], [] => cases h
    | [_], _ :: _ :: _ => cases h
    | [_, _], [] => cases h
    | [_, _], [_] => cases h
    | [_, _], _ :: _ :: _ :: _ => cases h
    | _ :: _ :: _ :: _, _ => cases h
  | BoolOp o as p =>
    match as with
    | [] => cases o <;> cases h
    | [a] =>
      have h' : comp n Γ a = some c := by cases o <;> exact h
      exact pe_one (ih.e Γ X W a c F h')
    | a :: b :: r =>
      cases o with
      | And =>
        have h' : ((comp n Γ a).bind fun x => (comp n Γ (.BoolOp .And (b :: r) p)).map fun y => E.and_ x y) = some c := h
        obtain ⟨x, h1, h2⟩ := bb h'
        obtain ⟨y, h3, rfl⟩ := mm h2
        refine PE.conv (pe_andT (ih.e Γ X W a x F h1) (ih.e Γ X W _ y F h3)) fun σ H Q q => ?_
        obtain ⟨μ, e, st, s, t, hA⟩ := q
        refine truth_then F.K s t hA (fun x b H1 => if b = true then tE G W (ev y) σ H1 Q else Q x H1) fun μ1 H1 d st1 x b g1 s1 t1 r1 tv hA1 => ?_
        cases b with
        | true => rw [if_pos rfl] at hA1 ⊢; exact ⟨μ1, e, st1, s1, t1, hA1⟩
        | false => rw [if_neg Bool.false_ne_true] at hA1 ⊢; exact KE.here hA1 t1 r1
      | Or =>
        have h' : ((comp n Γ a).bind fun x => (comp n Γ (.BoolOp .Or (b :: r) p)).map fun y => E.or_ x y) = some c := h
        obtain ⟨x, h1, h2⟩ := bb h'
        obtain ⟨y, h3, rfl⟩ := mm h2
        refine PE.conv (pe_orT (ih.e Γ X W a x F h1) (ih.e Γ X W _ y F h3)) fun σ H Q q => ?_
        obtain ⟨μ, e, st, s, t, hA⟩ := q
        refine truth_then F.K s t hA (fun x b H1 => if b = true then Q x H1 else tE G W (ev y) σ H1 Q) fun μ1 H1 d st1 x b g1 s1 t1 r1 tv hA1 => ?_
        cases b with
        | true => rw [if_pos rfl] at hA1 ⊢; exact KE.here hA1 t1 r1
        | false => rw [if_neg Bool.false_ne_true] at hA1 ⊢; exact ⟨μ1, e, st1, s1, t1, hA1⟩
  | IfExp t a b p =>
    have h' : ((compT n Γ t).bind fun x => (comp n Γ a).bind fun y => (comp n Γ b).map fun z => E.ite x y z) = some c := h
    obtain ⟨x, h1, h2⟩ := bb h'
    obtain ⟨y, h3, h4⟩ := bb h2
    obtain ⟨z, h5, rfl⟩ := mm h4
    refine PE.conv (pe_ifExp (ih.t Γ X W t x F h1) (ih.e Γ X W a y F h3) (ih.e Γ X W b z F h5)) fun σ H Q q => ?_
    obtain ⟨μ, e, st, s, tt, hA⟩ := q
    have hA' : ((andThen (ev x e) truthM st).bind fun b s2 => (if b = true then ev y e else ev z e) s2).All (KE G (Rep G) μ H Q) (KX G W σ μ H) := by
      refine (Tr.All_bind _).mpr ((Tr.All_bind (f := truthM) _).mpr ?_)
      exact Tr.All_mono (fun d s2 hq => (Tr.All_bind _).mp hq) (fun _ _ _ q => q) _ ((Tr.All_bind _).mp hA)
    refine tG_then (da := fun v => andThen (ev x v) truthM) s tt hA' fun μ1 H1 b st1 b' g1 s1 t1 eb hA1 => ?_
    subst eb
    cases b with
    | true => rw [if_pos rfl] at hA1 ⊢; exact ⟨μ1, e, st1, s1, t1, hA1⟩
    | false => rw [if_neg Bool.false_ne_true] at hA1 ⊢; exact ⟨μ1, e, st1, s1, t1, hA1⟩
  | Tuple es k p =>
    have h' : (comps n Γ es).map E.tup = some c := h
    obtain ⟨x, h1, rfl⟩ := mm h'
    refine PE.conv (pe_tup (ih.a Γ X W es x F h1)) fun σ H Q q => ?_
    obtain ⟨μ, e, st, s, t, hA⟩ := q
    refine tG_then (da := evs x) s t hA fun μ1 H1 ds st1 vs g1 s1 t1 r1 hA1 => ?_
    have hA2 : ((lenOk ds st1).bind fun xs s => .ok (D.tup xs) s).All (KE G (Rep G) μ1 H1 Q) (KX G W σ μ1 H1) := hA1
    unfold lenOk at hA2
    split at hA2
    · rename_i hz
      exact ⟨by rw [← r1.length]; exact hz, fun p hp => KE.tup (show KE G (Rep G) μ1 H1 Q (.tup ds) st1 from hA2) t1 r1 hp⟩
    · exact hA2.elim
  | List es p =>
    have h' : ((comps n Γ es).map fun c => if Γ.mu.contains (p.line, p.col) then E.lstM c else E.lst c) = some c := h
    obtain ⟨x, h1, h2⟩ := mm h'
    split at h2
    · subst h2
      refine PE.conv (pe_lst (ih.a Γ X W es x F h1)) fun σ H Q q => ?_
      obtain ⟨μ, e, st, s, t, hA⟩ := q
      refine tG_then (da := evs x) s t hA fun μ1 H1 ds st1 vs g1 s1 t1 r1 hA1 => ?_
      have hA2 : ((lenOk ds st1).bind fun xs s => .ok (D.ref s.length) (s ++ [.lst xs])).All (KE G (Rep G) μ1 H1 Q) (KX G W σ μ1 H1) := hA1
      unfold lenOk at hA2
      split at hA2
      · rename_i hz
        refine ⟨by rw [← r1.length]; exact hz, fun p hp => ?_⟩
        obtain ⟨q1, q2⟩ := push_ok t1 hp r1
        refine (show KE G (Rep G) μ1 H1 Q (.ref st1.length) (st1 ++ [.lst ds]) from hA2) _ _ _ q2 q1 (.ref ?_)
        show (μ1.m ++ [p])[st1.length]? = _
        rw [List.getElem?_append_right (by rw [t1.len]; exact Nat.le_refl _), t1.len, Nat.sub_self]
        rfl
      · exact hA2.elim
    · subst h2
      refine PE.conv (pe_lst (ih.a Γ X W es x F h1)) fun σ H Q q => ?_
      obtain ⟨μ, e, st, s, t, hA⟩ := q
      refine tG_then (da := evs x) s t hA fun μ1 H1 ds st1 vs g1 s1 t1 r1 hA1 => ?_
      have hA2 : ((lenOk ds st1).bind fun xs s => .ok (D.lst xs) s).All (KE G (Rep G) μ1 H1 Q) (KX G W σ μ1 H1) := hA1
      unfold lenOk at hA2
      split at hA2
      · rename_i hz
        exact ⟨by rw [← r1.length]; exact hz, fun p hp => KE.lst (show KE G (Rep G) μ1 H1 Q (.lst ds) st1 from hA2) t1 r1 hp⟩
      · exact hA2.elim
  | Subscript a i p =>
    cases i with
    | Slice lo hi stp p2 =>
      cases stp with
      | some z => cases h
      | none =>
        have h' : ((comp n Γ a).bind fun x => (compO n Γ lo).bind fun l => (compO n Γ hi).map fun h => E.sl x l h) = some c := h
        obtain ⟨x, h1, h2⟩ := bb h'
        obtain ⟨l, h3, h4⟩ := bb h2
        obtain ⟨r, h5, rfl⟩ := mm h4
        obtain ⟨tl, pl, kl⟩ := part_then ih F h3
        obtain ⟨tr, pr, kr⟩ := part_then ih F h5
        refine PE.conv (pe_slice sl_lstT (ih.e Γ X W a x F h1) pl pr) fun σ H Q q => ?_
        obtain ⟨μ, e, st, s, t, hA⟩ := q
        refine tG_then s t hA fun μ1 H1 d st1 v g1 s1 t1 r1 hA1 => ?_
        refine kl μ1 e st1 σ H1 _ _ _ _ _ _ s1 t1 hA1 fun μ2 H2 d2 st2 k2 g2 s2 t2 e2 hA2 => ?_
        refine kr μ2 e st2 σ H2 _ _ _ _ _ _ s2 t2 hA2 fun μ3 H3 d3 st3 k3 g3 s3 t3 e3 hA3 => ?_
        obtain ⟨z, hz, k⟩ := optM_some hA3
        exact sl_of F.K t3 ((r1.gr g2).gr g3) e2 e3 hz k
    | _ => exact idx_ok ih F (fun _ _ => rfl) h
  | ListComp elt gs sc p =>
    match gs with
    | [] => cases h
    | ⟨_, _, _, .negSucc _⟩ :: _ :: _ => cases h
    | ⟨_, _, _, .ofNat 0⟩ :: _ :: _ => cases h
    | ⟨_, _, _, .ofNat (_ + 1)⟩ :: _ :: _ => cases h
    | [⟨tg, it, ifs, .negSucc _⟩] => cases h
    | [⟨tg, it, ifs, .ofNat (_ + 1)⟩] => cases h
    | [⟨tg, it, ifs, .ofNat 0⟩] =>
      obtain ⟨wi, g, tt, te, q1, q2, q3, q4, q5, q6, q7⟩ := lc_parts ih F h
      exact PE.conv (pe_lc F.calm (by rw [F.N]; exact F.nd) q1 q2 q3 q4 q5 q6) q7
  | Call f as ks p =>
    cases f with
    | Name f fp =>
     match as, ks with
     | [], _ => cases h
     | _ :: _, _ :: _ => cases h
     | a :: as, [] =>
      have h' : (if nmOk f && gloB Γ.sc f && (a :: as).all plainE then (match Γ.fns.lookup f with
        | some fi => if fi.lv ≤ Γ.lv then (comps n Γ (a :: as)).map (E.call fi.φ) else none
        | none => match bis.lookup f with
          | some v => if Γ.free.contains f then (comps n Γ (a :: as)).map (E.call (bi v.2)) else none
          | none => none) else none) = some c := h
      split at h'
      · rename_i hc
        simp only [Bool.and_eq_true, List.all_cons] at hc
        obtain ⟨n1, n2, n3⟩ := nm_of hc.1.1
        have hg := glo_of F hc.1.2
        have st := star_of (es := as) (env := X.env) hc.2.1
        have an := anyStar (pos := p) (env := X.env) hc.2.2
        cases hq : Γ.fns.lookup f with
        | some fi =>
          rw [hq] at h'
          obtain ⟨hl, h2⟩ : fi.lv ≤ Γ.lv ∧ (comps n Γ (a :: as)).map (E.call fi.φ) = some c := by
            by_cases hl : fi.lv ≤ Γ.lv
            · exact ⟨hl, by have h3 : (if fi.lv ≤ Γ.lv then (comps n Γ (a :: as)).map (E.call fi.φ) else none) = some c := h'; rw [if_pos hl] at h3; exact h3⟩
            · have h3 : (if fi.lv ≤ Γ.lv then (comps n Γ (a :: as)).map (E.call fi.φ) else none) = some c := h'
              rw [if_neg hl] at h3
              cases h3
          obtain ⟨x, h4, rfl⟩ := mm h2
          obtain ⟨g, fd, ps, q1, q2, q3, q4, q5⟩ := F.fns f fi hq
          exact PE.conv (pe_callS q4 (F.room.mono hl) hg q1 q2 q3 (fun σ => passAt F.tk σ) (ih.a Γ X W (a :: as) x F h4) n1 st an) fun σ H Q q => call_ok' q5 q
        | none =>
          rw [hq] at h'
          cases hb : bis.lookup f with
          | none => rw [hb] at h'; cases h'
          | some v =>
            rw [hb] at h'
            obtain ⟨hm, h2⟩ : Γ.free.contains f = true ∧ (comps n Γ (a :: as)).map (E.call (bi v.2)) = some c := by
              have h3 : (if Γ.free.contains f then (comps n Γ (a :: as)).map (E.call (bi v.2)) else none) = some c := h'
              split at h3
              · rename_i hm; exact ⟨hm, h3⟩
              · cases h3
            obtain ⟨x, h4, rfl⟩ := mm h2
            obtain ⟨fv, φ⟩ := v
            obtain ⟨b1, b2, b3, b4, b5⟩ := bis_ok (G := G) F.K F.calm (PySem.mem_of_lookup hb)
            have hmg := F.free f (by simpa using hm)
            rcases b2 with ⟨id, rfl⟩ | ⟨T, rfl⟩
            · exact PE.conv (pe_callB b5 hg hmg b1 (ih.a Γ X W (a :: as) x F h4) b3 b4 st an) fun σ H Q q => bi_ok q
            · exact PE.conv (pe_callTy b5 hg hmg b1 (ih.a Γ X W (a :: as) x F h4) b3 b4 st an) fun σ H Q q => bi_ok q
      · cases h'
    | _ => first | cases h | (cases as <;> first | cases h | (cases ks <;> cases h))
  | _ => cases h
theorem snd_a {n : Nat} (ih : Snd G n) {Γ : Gam} {X : Cx} {W : WX} (F : Fits Γ X G W) {es : List Expr} {c : E} (h : comps (n + 1) Γ es = some c) : PA X es (tL G W (evs c)) := by
  have plain : ∀ (e : Expr) (es : List Expr), plainE e = true → ((comp n Γ e).bind fun x => (comps n Γ es).map fun y => E.cons x y) = some c → PA X (e :: es) (tL G W (evs c)) := by
    intro e es hp h'
    obtain ⟨x, h1, h2⟩ := bb h'
    obtain ⟨y, h3, rfl⟩ := mm h2
    refine PA.conv (pa_cons (ih.e Γ X W e x F h1) (ih.a Γ X W es y F h3) (star_of hp)) fun σ H Q q => ?_
    obtain ⟨μ, e, st, s, t, hA⟩ := q
    refine tG_then (da := ev x) s t hA fun μ1 H1 d st1 v g1 s1 t1 r1 hA1 => ?_
    refine tG_then (da := evs y) s1 t1 hA1 fun μ2 H2 ds st2 vs g2 s2 t2 r2 hA2 => ?_
    exact KE.here hA2 t2 (.cons (r1.gr g2) r2)
  cases es with
  | nil =>
    cases h
    refine PA.conv pa_nil fun σ H Q q => ?_
    obtain ⟨μ, e, st, s, t, hA⟩ := q
    exact KE.here (show KE G (Reps G) μ H Q [] st from hA) t .nil
  | cons e es =>
    cases e with
    | Starred e p =>
      have h' : ((comp n Γ e).bind fun x => (comps n Γ es).map fun y => E.star x y) = some c := h
      obtain ⟨x, h1, h2⟩ := bb h'
      obtain ⟨y, h3, rfl⟩ := mm h2
      refine PA.conv (StX.pa_star (ih.e Γ X W e x F h1) (ih.a Γ X W es y F h3) rfl) fun σ H Q q => ?_
      obtain ⟨μ, e, st, s, t, hA⟩ := q
      refine tG_then (da := ev x) s t hA fun μ1 H1 d st1 v g1 s1 t1 r1 hA1 => ?_
      obtain ⟨ys, hi, hA2⟩ := optM_some ((Tr.All_bind _).mp hA1)
      have fin : ∀ vs, Reps G μ1 H1 ys vs → tL G W (evs y) σ H1 fun zs H2 => Q (vs ++ zs) H2 := fun vs rv =>
        tG_then (da := evs y) s1 t1 hA2 fun μ2 H2 ds st2 ws g2 s2 t2 r2 hA3 => KE.here hA3 t2 ((rv.gr g2).append r2)
      cases r1 with
      | @tup a vs xs a1 r1 => cases hi; exact ⟨a, vs, rfl, .inl (F.K ▸ a1.sq), fin vs r1⟩
      | @lst a vs xs a1 r1 => cases hi; exact ⟨a, vs, rfl, .inr (F.K ▸ a1.sq), fin vs r1⟩
      | _ => cases hi
    | _ => exact plain _ es rfl h
theorem pt_of {X : Cx} {W : WX} {e : Expr} {c : E} (hK : G.K = X.K) (h : PE X e (tE G W (ev c))) (he : ∀ whole, isTrue e X.env whole = (do let v ← whole; standAt e.pos; holding [v] (truthy v))) : PT X e (tB G W fun v => andThen (ev c v) truthM) := by
  refine PT.conv (pt_truth h he) fun σ H Q q => ?_
  obtain ⟨μ, e, st, s, t, hA⟩ := q
  have hA' : ((ev c e st).bind fun x s1 => (truthM x s1).bind fun b s2 => .ok b s2).All (KE G (fun _ _ a b => a = b) μ H Q) (KX G W σ μ H) := by
    refine (Tr.All_bind _).mpr (Tr.All_mono (fun d s2 hq => (Tr.All_bind _).mpr ?_) (fun _ _ _ q => q) _ ((Tr.All_bind _).mp hA))
    exact Tr.All_mono (fun _ _ z => z) (fun _ _ _ z => z) _ hq
  exact truth_then hK s t hA' (fun x b H1 => Q b H1) fun μ1 H1 d st1 x b g1 s1 t1 r1 tv hA1 => KE.here (show KE G (fun _ _ a b => a = b) μ1 H1 Q b st1 from hA1) t1 rfl
theorem Reps_dummy : True := True.intro
/-- a test whose value is a bool -/
theorem pt_bool {X : Cx} {W : WX} {e : Expr} {ca cb : E} (f : D → D → Option D) (hb : ∀ x y z, f x y = some z → ∃ b, z = .bl b) (h : PT X e (tTest (tOp (rD G f) (tE G W (ev ca)) (tE G W (ev cb))))) :
    PT X e (tB G W fun v => andThen (andThen (ev ca v) fun x => andThen (ev cb v) fun y => optM (f x y)) truthM) := by
  refine PT.conv h fun σ H Q q => ?_
  obtain ⟨μ, e, st, s, t, hA⟩ := q
  have hA' : ((ev ca e st).bind fun x s1 => (ev cb e s1).bind fun y s2 => (optM (f x y) s2).bind truthM).All (KE G (fun _ _ a b => a = b) μ H Q) (KX G W σ μ H) := by
    refine (Tr.All_bind _).mpr (Tr.All_mono (fun d s2 hq => (Tr.All_bind _).mpr ?_) (fun _ _ _ q => q) _ ((Tr.All_bind _).mp ((Tr.All_bind _).mp hA)))
    refine Tr.All_mono (fun d2 s3 hq2 => (Tr.All_bind _).mpr hq2) (fun _ _ _ q => q) _ ((Tr.All_bind _).mp hq)
  refine tG_then s t hA' fun μ1 H1 d1 st1 x g1 s1 t1 r1 hA1 => ?_
  refine tG_then s1 t1 hA1 fun μ2 H2 d2 st2 y g2 s2 t2 r2 hA2 => ?_
  obtain ⟨z, hz, k⟩ := optM_some ((Tr.All_bind _).mp hA2)
  obtain ⟨b, rfl⟩ := hb _ _ _ hz
  refine ⟨μ2, st2, d1, d2, _, t2, r1.gr g2, r2, hz, fun μ3 H3 v g3 t3 r3 => ?_⟩
  cases r3
  exact ⟨b, rfl, (show KE G (fun _ _ a b => a = b) μ2 H2 Q b st2 from k) μ3 H3 b g3 t3 rfl⟩
theorem cmp_bl {o : CmpOp} {x y z : D} (h : cmpD o x y = some z) : ∃ b, z = .bl b := by
  cases o with
  | Eq => obtain ⟨b, _, rfl⟩ := mm h; exact ⟨_, rfl⟩
  | NotEq => obtain ⟨b, _, rfl⟩ := mm h; exact ⟨_, rfl⟩
  | _ => cases x <;> cases y <;> first | (cases h; done) | (cases h; exact ⟨_, rfl⟩)
theorem tru_cases {d : D} {st : Sto} {β : Type} {g : Bool → Sto → Tr β} {P : β → Sto → Prop} {E : Str → D → Sto → Prop} (h : ((truthM d st).bind g).All P E) : ∃ b, d.truth = some b ∧ truthM d = ret b ∧ (g b st).All P E := by
  cases ht : d.truth with
  | none =>
    have : (truthM d st).bind g = .bad := by unfold truthM; rw [ht]; rfl
    rw [this] at h
    exact h.elim
  | some b =>
    have e : truthM d = ret b := by unfold truthM; rw [ht]; rfl
    rw [e] at h
    exact ⟨b, rfl, e, h⟩
theorem bool_step {x y : E} (c : E) (k : Bool) {e : Ev} {st : Sto} {P : Bool → Sto → Prop} {E' : Str → D → Sto → Prop} {f : Bool → M Bool} (hA : (andThen (ev c e) truthM st).All P E')
    (hc : ev c e = andThen (ev x e) fun d => andThen (truthM d) fun t => if t = !k then ev y e else ret d) (hf : ∀ b, f b = if b = !k then andThen (ev y e) truthM else ret k) : ((andThen (ev x e) truthM st).bind fun b s2 => f b s2).All P E' := by
  have h1 := (Tr.All_bind _).mp hA
  rw [hc] at h1
  have h2 := (Tr.All_bind (f := fun d => andThen (truthM d) fun t => if t = !k then ev y e else ret d) (ev x e st)).mp h1
  refine (Tr.All_bind _).mpr ((Tr.All_bind (f := truthM) _).mpr (Tr.All_mono (fun d s hd => ?_) (fun _ _ _ z => z) _ h2))
  obtain ⟨b, e1, e2, h3⟩ := tru_cases hd
  rw [e2]
  show (f b s).All P E'
  rw [hf b]
  by_cases hb : b = !k
  · rw [if_pos hb] at h3 ⊢
    exact (Tr.All_bind _).mpr h3
  · rw [if_neg hb] at h3 ⊢
    have hk : b = k := by cases b <;> cases k <;> simp at hb ⊢
    have h4 : (truthM d s).All P E' := h3
    rw [e2, hk] at h4
    exact h4
theorem snd_t {n : Nat} (ih : Snd G n) {Γ : Gam} {X : Cx} {W : WX} (F : Fits Γ X G W) {e : Expr} {c : E} (h : compT (n + 1) Γ e = some c) : PT X e (tB G W fun v => andThen (ev c v) truthM) := by
  have hu : X.A.units + 64 < cLine := F.room.units
  cases e with
  | Name x p => exact pt_of F.K (ih.e Γ X W _ c F h) (fun _ => rfl)
  | Call f as ks p => exact pt_of F.K (ih.e Γ X W _ c F h) (fun _ => rfl)
  | Subscript a i p => exact pt_of F.K (ih.e Γ X W _ c F h) (fun _ => rfl)
  | Constant k i p => exact pt_of F.K (ih.e Γ X W _ c F h) (fun _ => rfl)
  | UnaryOp o a p =>
    cases o <;> first | (cases h; done) | skip
    have h' : (compT n Γ a).map E.not_ = some c := h
    obtain ⟨x, h1, rfl⟩ := mm h'
    refine PT.conv (pt_not (ih.t Γ X W a x F h1)) fun σ H Q q => ?_
    obtain ⟨μ, e, st, s, t, hA⟩ := q
    have hA' : ((andThen (ev x e) truthM st).bind fun b s2 => .ok (!b) s2).All (KE G (fun _ _ a b => a = b) μ H Q) (KX G W σ μ H) := by
      refine (Tr.All_bind _).mpr ((Tr.All_bind (f := truthM) _).mpr ?_)
      refine Tr.All_mono (fun d s2 hq => ?_) (fun _ _ _ q => q) _ ((Tr.All_bind _).mp ((Tr.All_bind _).mp hA))
      exact Tr.All_mono (fun b s3 hq3 => hq3) (fun _ _ _ q => q) _ ((Tr.All_bind (f := fun t s => .ok (D.bl !t) s) (truthM d s2)).mp hq)
    refine tG_then (da := fun v => andThen (ev x v) truthM) s t hA' fun μ1 H1 b st1 b' g1 s1 t1 eb hA1 => ?_
    subst eb
    exact KE.here (show KE G (fun _ _ a b => a = b) μ1 H1 Q (!b) st1 from hA1) t1 rfl
  | Compare a os bs p =>
    match os, bs with
    | [o], [b] =>
      have h' : (if behindInMarks o b then none else (comp n Γ a).bind fun x => (comp n Γ b).map fun y => E.cmp o x y) = some c := h
      split at h'
      · cases h'
      · rename_i hm
        obtain ⟨x, h1, h2⟩ := bb h'
        obtain ⟨y, h3, rfl⟩ := mm h2
        exact pt_bool (cmpD o) (fun _ _ _ z => cmp_bl z) (pt_cmpR (cmp_ok F.K hu o) (ih.e Γ X W a x F h1) (ih.e Γ X W b y F h3) (by simpa using hm))
    | [], _ => cases h
    | [_], [] => cases h
    | [_], _ :: _ :: _ => cases h
    | _ :: _ :: _, _ => cases h
  | BoolOp o as p =>
    match as with
    | [] => cases o <;> cases h
    | [a] =>
      have h' : compT n Γ a = some c := by cases o <;> exact h
      cases o with
      | And => exact PW.pt (pw_and1 (ih.t Γ X W a c F h'))
      | Or => exact PW.pt (pw_or1 (ih.t Γ X W a c F h'))
    | a :: b :: r =>
      cases o with
      | And =>
        have h' : ((compT n Γ a).bind fun x => (compT n Γ (.BoolOp .And (b :: r) p)).map fun y => E.and_ x y) = some c := h
        obtain ⟨x, h1, h2⟩ := bb h'
        obtain ⟨y, h3, rfl⟩ := mm h2
        have py := ih.t Γ X W _ y F h3
        refine PT.conv (PW.pt (pw_and (ih.t Γ X W a x F h1) ⟨fun whole pins s σ H Q I q => py.run pins s σ H Q I q⟩)) fun σ H Q q => ?_
        obtain ⟨μ, e, st, s, t, hA⟩ := q
        refine tG_then (da := fun v => andThen (ev x v) truthM) (f := fun b s2 => (if b = true then andThen (ev y e) truthM else ret false) s2) s t (bool_step (E.and_ x y) false hA rfl (fun _ => rfl)) fun μ1 H1 b st1 b' g1 s1 t1 eb hA1 => ?_
        subst eb
        cases b with
        | true => rw [if_pos rfl] at hA1 ⊢; exact ⟨μ1, e, st1, s1, t1, hA1⟩
        | false => rw [if_neg Bool.false_ne_true] at hA1 ⊢; exact KE.here (show KE G (fun _ _ a b => a = b) μ1 H1 Q false st1 from hA1) t1 rfl
      | Or =>
        have h' : ((compT n Γ a).bind fun x => (compT n Γ (.BoolOp .Or (b :: r) p)).map fun y => E.or_ x y) = some c := h
        obtain ⟨x, h1, h2⟩ := bb h'
        obtain ⟨y, h3, rfl⟩ := mm h2
        have py := ih.t Γ X W _ y F h3
        refine PT.conv (PW.pt (pw_or (ih.t Γ X W a x F h1) ⟨fun whole pins s σ H Q I q => py.run pins s σ H Q I q⟩)) fun σ H Q q => ?_
        obtain ⟨μ, e, st, s, t, hA⟩ := q
        refine tG_then (da := fun v => andThen (ev x v) truthM) (f := fun b s2 => (if b = true then ret true else andThen (ev y e) truthM) s2) s t (bool_step (x := x) (y := y) (E.or_ x y) true hA (by show andThen (ev x e) _ = _; congr 1; funext d; congr 1; funext t; cases t <;> rfl) (fun b => by cases b <;> rfl)) fun μ1 H1 b st1 b' g1 s1 t1 eb hA1 => ?_
        subst eb
        cases b with
        | true => rw [if_pos rfl] at hA1 ⊢; exact KE.here (show KE G (fun _ _ a b => a = b) μ1 H1 Q true st1 from hA1) t1 rfl
        | false => rw [if_neg Bool.false_ne_true] at hA1 ⊢; exact ⟨μ1, e, st1, s1, t1, hA1⟩
  | _ => cases h
/-- a list or a tuple that an expression gives, walked -/
def iAny (K : PySem.W.Frag) (tl : TE) : TI := fun σ H R => tl σ H fun x H1 => (∃ a, x = .ref a ∧ (∃ xs, SqL K H1 a xs) ∧ R (Itl K a) H1) ∨ ∃ a, x = .ref a ∧ (∃ xs, SqT K H1 a xs) ∧ R (Itt K a) H1
theorem pi_any {X : Cx} {tg l : Expr} {tl : TE} (hl : PE X l tl) : PI X tg l (iAny X.K tl) := by
  refine ⟨fun pins s σ H R I h => ?_⟩
  refine thn (hl.run pins s σ H _ I h) fun v s1 h1 => ?_
  obtain ⟨x, H1, I1, r1, q1⟩ := h1
  rcases q1 with ⟨a, rfl, ⟨xs, hq⟩, q⟩ | ⟨a, rfl, ⟨xs, hq⟩, q⟩
  · cases r1
    obtain ⟨its, rv, p, hz⟩ := I1.list hq
    refine wpAny_pyIter_list p.isList ?_
    refine ⟨s1.heap.objs.size, [s1.heap.objs.size], _, _, H1, rfl, I1.kept (t' := s1.toks) fun b o e => Heap.get?_push_of_some _ e, turn_list a _, ⟨_, Heap.get?_push_size _ rfl, rfl, rfl⟩, fun b hb => ?_, q⟩
    have e : b = s1.heap.objs.size := by simpa using hb
    subst e
    exact I1.fpOk (Nat.le_refl _) (I1.hok.fresh (Nat.le_refl _))
  · cases r1
    obtain ⟨its, rv, p, hz⟩ := I1.tuple hq
    refine wpAny_pyIter_tuple (show s1.heap.IsTuple a its.toArray from p) ?_
    refine ⟨s1.heap.objs.size, [s1.heap.objs.size], _, _, H1, rfl, I1.kept (t' := s1.toks) fun b o e => Heap.get?_push_of_some _ e, turn_tuple a _, ⟨_, Heap.get?_push_size _ rfl, rfl, rfl⟩, fun b hb => ?_, q⟩
    have e : b = s1.heap.objs.size := by simpa using hb
    subst e
    exact I1.fpOk (Nat.le_refl _) (I1.hok.fresh (Nat.le_refl _))
theorem snd_i {n : Nat} (ih : Snd G n) {Γ : Gam} {X : Cx} {W : WX} (F : Fits Γ X G W) {tg e : Expr} {c : E} (h : compI (n + 1) Γ tg e = some c) : PI X tg e (iG G W (evs c)) ∧ ∀ env v, foldedSetIterable e env v = pure v := by
  have plain : ∀ e : Expr, (comp n Γ e).map E.it1 = some c → PI X tg e (iG G W (evs c)) ∧ ∀ env v, foldedSetIterable e env v = pure v := by
    intro e h'
    obtain ⟨x, h1, rfl⟩ := mm h'
    refine ⟨?_, fun env v => ?_⟩
    · refine PI.conv (pi_any (ih.e Γ X W e x F h1)) fun σ H R q => ?_
      obtain ⟨μ, e, st, s, t, hA⟩ := q
      refine ⟨μ, e, st, s, t, Tr.All_mono (fun d st1 hq μ1 H1 v g1 t1 r1 => ?_) (fun _ _ _ z => z) _ ((Tr.All_bind _).mp hA)⟩
      obtain ⟨xs, hi, k⟩ := optM_some hq
      cases r1 with
      | @tup a vs xs a1 r1 => cases hi; exact .inr ⟨a, rfl, ⟨vs, F.K ▸ a1.sq⟩, k μ1 H1 _ g1 t1 (itok_tup F.K a1 r1)⟩
      | @lst a vs xs a1 r1 => cases hi; exact .inl ⟨a, rfl, ⟨vs, F.K ▸ a1.sq⟩, k μ1 H1 _ g1 t1 (itok_list F.K a1 r1)⟩
      | _ => cases hi
    · cases n with
      | zero => cases h1
      | succ n => cases e <;> first | rfl | cases h1
  have fr : ∀ {f : Str}, Γ.free.contains f = true → X.mg f = none := fun hf => F.free _ (by simpa using hf)
  have one : ∀ {a : Expr} {x : E}, plainE a = true → comp n Γ a = some x → PA X [a] (tCons (tE G W (ev x)) tNil) := fun hp h1 => pa_cons (ih.e Γ X W _ _ F h1) pa_nil (star_of hp)
  have two : ∀ {a b : Expr} {x y : E}, plainE a = true → plainE b = true → comp n Γ a = some x → comp n Γ b = some y → PA X [a, b] (tCons (tE G W (ev x)) (tCons (tE G W (ev y)) tNil)) :=
    fun hp hq h1 h2 => pa_cons (ih.e Γ X W _ _ F h1) (pa_cons (ih.e Γ X W _ _ F h2) pa_nil (star_of hq)) (star_of hp)
  have i1 : ∀ {x : E} {f : List D → Option (List D)} {σ : L2.St} {H : Hp} {R : It → Hp → Prop} {P : List V → Hp → Prop}, iG G W (fun e => andThen (ev x e) fun d => optM (f [d])) σ H R →
      (∀ μ1 H1 d st1 v xs, STR G μ1 st1 H1 → Rep G μ1 H1 d v → f [d] = some xs → (∀ J, ItOk G μ1 H1 xs J → R J H1) → P [v] H1) → tCons (tE G W (ev x)) tNil σ H P := by
    intro x f σ H R P q k
    obtain ⟨μ, e, st, s, t, hA⟩ := q
    refine ⟨μ, e, st, s, t, Tr.All_mono (fun d st1 hq μ1 H1 v g1 t1 r1 => ?_) (fun _ _ _ z => z) _ ((Tr.All_bind _).mp hA)⟩
    obtain ⟨xs, hi, kk⟩ := optM_some hq
    exact k μ1 H1 d st1 v xs t1 r1 hi fun J hJ => kk μ1 H1 J g1 t1 hJ
  have i2 : ∀ {x y : E} {f : List D → Option (List D)} {σ : L2.St} {H : Hp} {R : It → Hp → Prop} {P : List V → Hp → Prop}, iG G W (fun e => andThen (ev x e) fun d => andThen (ev y e) fun d' => optM (f [d, d'])) σ H R →
      (∀ μ1 H1 d d' st1 v v' xs, STR G μ1 st1 H1 → Rep G μ1 H1 d v → Rep G μ1 H1 d' v' → f [d, d'] = some xs → (∀ J, ItOk G μ1 H1 xs J → R J H1) → P [v, v'] H1) → tCons (tE G W (ev x)) (tCons (tE G W (ev y)) tNil) σ H P := by
    intro x y f σ H R P q k
    obtain ⟨μ, e, st, s, t, hA⟩ := q
    refine ⟨μ, e, st, s, t, Tr.All_mono (fun d st1 hq μ1 H1 v g1 t1 r1 => ?_) (fun _ _ _ z => z) _ ((Tr.All_bind _).mp hA)⟩
    refine ⟨μ1, e, st1, s.gr g1, t1, Tr.All_mono (fun d2 st2 hq2 μ2 H2 v2 g2 t2 r2 => ?_) (fun _ _ _ z => KX.gr g1 z) _ ((Tr.All_bind _).mp hq)⟩
    obtain ⟨xs, hi, kk⟩ := optM_some hq2
    exact k μ2 H2 d d2 st2 v v2 xs t2 (r1.gr g2) r2 hi fun J hJ => kk μ2 H2 J (g1.trans g2) t2 hJ
  have rng1 : ∀ {a : Expr} {fp p : Pos}, gloB Γ.sc "range" = true → Γ.free.contains "range" = true → plainE a = true → (comp n Γ a).map E.rng1 = some c → PI X tg (.Call (.Name "range" fp) [a] [] p) (iG G W (evs c)) := by
    intro a fp p h1 h2 h3 h'
    obtain ⟨x, h4, rfl⟩ := mm h'
    refine PI.conv (pi_range1 (glo_of F h1) (fr h2) (one h3 h4) (star_of h3)) fun σ H R q => i1 q fun μ1 H1 d st1 v xs t1 r1 hi k => ?_
    cases d <;> first | (cases hi; done) | skip
    obtain ⟨hc, rfl⟩ := if_some hi
    cases r1
    simp only [okRng, Bool.and_eq_true, decide_eq_true_eq] at hc
    rename_i b
    refine ⟨b, rfl, hc.1.2, hc.2, k _ ?_⟩
    have := itok_range (G := G) (μ := μ1) (H := H1) (lo := 0) (hi := b)
    rwa [Int.sub_zero] at this
  have rng2 : ∀ {a b : Expr} {fp p : Pos}, gloB Γ.sc "range" = true → Γ.free.contains "range" = true → plainE a = true → plainE b = true → ((comp n Γ a).bind fun x => (comp n Γ b).map fun y => E.rng2 x y) = some c → PI X tg (.Call (.Name "range" fp) [a, b] [] p) (iG G W (evs c)) := by
    intro a b fp p h1 h2 h3 h3' h'
    obtain ⟨x, h4, h5⟩ := bb h'
    obtain ⟨y, h6, rfl⟩ := mm h5
    refine PI.conv (pi_range2 (glo_of F h1) (fr h2) (two h3 h3' h4 h6) (by rw [star_of h3, star_of h3']; rfl) (star_of h3')) fun σ H R q => i2 q fun μ1 H1 d d' st1 v v' xs t1 r1 r2 hi k => ?_
    cases d <;> cases d' <;> first | (cases hi; done) | skip
    obtain ⟨hc, rfl⟩ := if_some hi
    cases r1
    cases r2
    simp only [okRng, Bool.and_eq_true, decide_eq_true_eq] at hc
    exact ⟨_, _, rfl, ⟨hc.1.1.1, hc.1.1.2, hc.1.2, hc.2⟩, k _ itok_range⟩
  have zip2 : ∀ {ts : List Expr} {kk : Nat} {tp : Pos} {a b : Expr} {fp p : Pos}, gloB Γ.sc "zip" = true → Γ.free.contains "zip" = true → plainE a = true → plainE b = true → ((comp n Γ a).bind fun x => (comp n Γ b).map fun y => E.zip x y) = some c →
      PI X (.Tuple ts kk tp) (.Call (.Name "zip" fp) [a, b] [] p) (iG G W (evs c)) := by
    intro ts kk tp a b fp p h1 h2 h3 h3' h'
    obtain ⟨x, h4, h5⟩ := bb h'
    obtain ⟨y, h6, rfl⟩ := mm h5
    refine PI.conv (RZ.pi_zipA (glo_of F h1) (fr h2) (two h3 h3' h4 h6) (star_of h3) (anyStar (es := [b]) (by simp [h3']))) fun σ H R q => i2 q fun μ1 H1 d d' st1 v v' xs t1 r1 r2 hi k => ?_
    cases d <;> cases d' <;> first | (cases hi; done) | skip
    · cases hi
      cases r1 with
      | tup a1 b1 =>
        cases r2 with
        | tup a2 b2 => exact ⟨_, _, _, _, rfl, .inr ⟨F.K ▸ a1.sq, F.K ▸ a2.sq, k _ (itok_zipT F.K a1 a2 b1 b2)⟩⟩
    · cases hi
      cases r1 with
      | lst a1 b1 =>
        cases r2 with
        | lst a2 b2 => exact ⟨_, _, _, _, rfl, .inl ⟨F.K ▸ a1.sq, F.K ▸ a2.sq, k _ (itok_zipL F.K a1 a2 b1 b2)⟩⟩
  have enum1 : ∀ {ts : List Expr} {kk : Nat} {tp : Pos} {a : Expr} {fp p : Pos}, gloB Γ.sc "enumerate" = true → Γ.free.contains "enumerate" = true → plainE a = true → (comp n Γ a).map E.enum = some c →
      PI X (.Tuple ts kk tp) (.Call (.Name "enumerate" fp) [a] [] p) (iG G W (evs c)) := by
    intro ts kk tp a fp p h1 h2 h3 h'
    obtain ⟨x, h4, rfl⟩ := mm h'
    refine PI.conv (pi_enum (glo_of F h1) (fr h2) (one h3 h4) (star_of h3)) fun σ H R q => i1 q fun μ1 H1 d st1 v xs t1 r1 hi k => ?_
    cases d <;> first | (cases hi; done) | skip
    cases hi
    cases r1 with
    | lst a1 b1 => exact ⟨_, _, rfl, F.K ▸ a1.sq, k _ (itok_enum F.K a1 b1)⟩
  have bad : ∀ {f : Expr} {as : List Expr} {ks : List Keyword} {p : Pos}, (comp n Γ (.Call f as ks p)).map E.it1 = some c → PI X tg (.Call f as ks p) (iG G W (evs c)) ∧ ∀ env v, foldedSetIterable (.Call f as ks p) env v = pure v := fun h => plain _ h
  cases e with
  | Call f as ks p =>
    cases f with
    | Name f fp =>
      match as, ks with
      | [a], [] =>
        have h' : (if f = "range" then (if gloB Γ.sc f && Γ.free.contains f && plainE a then (comp n Γ a).map E.rng1 else none)
          else if f = "enumerate" then (if isTup tg && gloB Γ.sc f && Γ.free.contains f && plainE a then (comp n Γ a).map E.enum else none)
          else (comp n Γ (.Call (.Name f fp) [a] [] p)).map E.it1) = some c := h
        split at h'
        · rename_i hf
          subst hf
          split at h'
          · rename_i hc
            simp only [Bool.and_eq_true] at hc
            exact ⟨rng1 hc.1.1 hc.1.2 hc.2 h', fun _ _ => rfl⟩
          · cases h'
        · split at h'
          · rename_i hf
            subst hf
            split at h'
            · rename_i hc
              simp only [Bool.and_eq_true] at hc
              have ht := hc.1.1.1
              cases tg <;> first | (cases ht; done) | skip
              exact ⟨enum1 hc.1.1.2 hc.1.2 hc.2 h', fun _ _ => rfl⟩
            · cases h'
          · exact bad h'
      | [a, b], [] =>
        have h' : (if f = "range" then (if gloB Γ.sc f && Γ.free.contains f && plainE a && plainE b then (comp n Γ a).bind fun x => (comp n Γ b).map fun y => E.rng2 x y else none)
          else if f = "zip" then (if isTup tg && gloB Γ.sc f && Γ.free.contains f && plainE a && plainE b then (comp n Γ a).bind fun x => (comp n Γ b).map fun y => E.zip x y else none)
          else (comp n Γ (.Call (.Name f fp) [a, b] [] p)).map E.it1) = some c := h
        split at h'
        · rename_i hf
          subst hf
          split at h'
          · rename_i hc
            simp only [Bool.and_eq_true] at hc
            exact ⟨rng2 hc.1.1.1 hc.1.1.2 hc.1.2 hc.2 h', fun _ _ => rfl⟩
          · cases h'
        · split at h'
          · rename_i hf
            subst hf
            split at h'
            · rename_i hc
              simp only [Bool.and_eq_true] at hc
              have ht := hc.1.1.1.1
              cases tg <;> first | (cases ht; done) | skip
              exact ⟨zip2 hc.1.1.1.2 hc.1.1.2 hc.1.2 hc.2 h', fun _ _ => rfl⟩
            · cases h'
          · exact bad h'
      | [], _ => exact bad h
      | [_], _ :: _ => exact bad h
      | [_, _], _ :: _ => exact bad h
      | _ :: _ :: _ :: _, _ => exact bad h
    | _ => exact bad h
  | _ => exact plain _ h
theorem snd : ∀ n, Snd G n
  | 0 => ⟨fun _ _ _ _ _ _ h => (by cases h), fun _ _ _ _ _ _ h => (by cases h), fun _ _ _ _ _ _ h => (by cases h), fun _ _ _ _ _ _ h => (by cases h), fun _ _ _ _ _ _ _ h => (by cases h)⟩
  | n + 1 => by
    have ih := snd n
    refine ⟨fun Γ X W e c F h => snd_e ih F h, fun Γ X W e c F h => ?_, fun Γ X W es c F h => snd_a ih F h, fun Γ X W e c F h => snd_t ih F h, fun Γ X W tg e c F h => snd_i ih F h⟩
    cases e with
    | none => cases h; exact .inl ⟨rfl, rfl⟩
    | some e =>
      obtain ⟨x, h1, rfl⟩ := mm (show (comp n Γ e).map E.int_ = some c from h)
      exact .inr ⟨e, x, rfl, rfl, ih.e Γ X W e x F h1⟩
end
end Gw

set_option Elab.async false
set_option linter.all false
set_option maxRecDepth 100000
set_option maxHeartbeats 1000000
/-! Gw8: what compiles is right: statements and defs. -/
namespace Gw
open PySem PySem.Spec PyProof.Rows L2
def fuelW : Nat := 10 ^ 100
def swLc (sc : Scope) (y : Str) (py pos : Pos) (csc : Scope) : Bool := (match sc.kind with | .function => true | _ => false) && decide (sc.names.lookup y = some .local) && (py.line == pos.line) && !(csc.names.any fun (n, k) => n == y && (k == .local || k == .cell))
def subOf : Expr → Option (Expr × Expr)
  | .Subscript _ (.Slice _ _ _ _) _ => none
  | .Subscript o i _ => some (o, i)
  | _ => none
def parOf : Expr → Expr → Option (Str × Str × Expr × Expr)
  | .Tuple [.Name x _, .Name y _] _ _, .Tuple [a, b] _ _ => some (x, y, a, b)
  | _, _ => none
def lcOf : Expr → Expr → Option (Str × Pos × Scope × Pos)
  | .Name y py, .ListComp _ _ csc pos => some (y, py, csc, pos)
  | _, _ => none
mutual
def compS : Nat → Gam → Stmt → Option S
  | 0, _, _ => none
  | n + 1, Γ, .Pass _ => some .pass
  | n + 1, Γ, .Break _ => some .brk
  | n + 1, Γ, .Continue _ => some .cnt
  | n + 1, Γ, .Expr (.Constant (.str _) _ _) _ => some .pass
  | n + 1, Γ, .Expr e _ => if isComp e then none else (comp n Γ e).map .expr
  | n + 1, Γ, .Return none _ => some (.ret (.c .non))
  | n + 1, Γ, .Return (some e) _ => (comp n Γ e).map .ret
  | n + 1, Γ, .If c a b _ => (compT n Γ c).bind fun x => (compSs n Γ a).bind fun y => (compSs n Γ b).map fun z => .ifs x y z
  | n + 1, Γ, .While c a [] _ => (compT n Γ c).bind fun x => (compSs n Γ a).map fun y => .whl fuelW x y
  | n + 1, Γ, .For tg it a [] _ => (compI n Γ tg it).bind fun x => (compG n Γ tg).bind fun g => (compSs n Γ a).map fun y => .for_ g x y
  | n + 1, Γ, .Raise _ _ _ => some .never
  | n + 1, Γ, .AugAssign (.Name x _) o e _ => if locB Γ.sc Γ.asg x then (slotOf Γ.N x).bind fun i => (comp n Γ e).map fun c => .aug i o c else none
  | n + 1, Γ, .Assign [tg] e p =>
    if semF (swapsWithSole [tg] e p.line (envS Γ.sc)) then
      (if semN (swappedStores [tg] e (envS Γ.sc)) then
        (match subOf tg with
          | some (o, i) => (comp n Γ e).bind fun x => (comp n Γ o).bind fun y => (comp n Γ i).map fun z => .setix y z x
          | none => (compG n Γ tg).bind fun g => (comp n Γ e).map fun c => .asg g c)
      else match parOf tg e with
        | some (x, y, a, b) => if semS [x, y] (swappedStores [tg] e (envS Γ.sc)) && decide (Γ.sc.names.lookup x = some .local) && decide (Γ.sc.names.lookup y = some .local) && plainE a && plainE b then
            (slotOf Γ.N x).bind fun i => (slotOf Γ.N y).bind fun j => if i = j then none else (comp n Γ a).bind fun u => (comp n Γ b).map fun v => .par i j u v else none
        | none => none)
    else match lcOf tg e with
      | some (y, py, csc, pos) => if swLc Γ.sc y py pos csc then (slotOf Γ.N y).bind fun i => (comp n Γ e).map fun c => .asg (.nm i) c else none
      | none => none
  | _, _, _ => none
def compSs : Nat → Gam → List Stmt → Option S
  | 0, _, _ => none
  | n + 1, Γ, [] => some .pass
  | n + 1, Γ, s :: r => (compS n Γ s).bind fun x => (compSs n Γ r).map fun y => .seq x y
end
structure SndS (G : Glo) (n : Nat) : Prop where
  s : ∀ (Γ : Gam) (X : Cx) (E : XK) (st : Stmt) (c : S), Fits Γ X G (wX E) → compS n Γ st = some c → PS X st (tS G E (ex c))
  ss : ∀ (Γ : Gam) (X : Cx) (E : XK) (st : List Stmt) (c : S), Fits Γ X G (wX E) → compSs n Γ st = some c → PSs X st (tS G E (ex c))
section
variable {G : Glo} {X : Cx} {Ew : XK}
theorem asg_ok {te : TE} {g : TG} {gt : T} {c : E} (he : ∀ σ H Q, tE G (wX Ew) (ev c) σ H Q → te σ H Q) (hg : ∀ v σ H Q, gT G gt v σ H Q → g v σ H Q) {D : Ends} {σ : L2.St} {H : Hp} (h : tS G Ew (ex (.asg gt c)) D σ H) : tAsg te g D σ H := by
  obtain ⟨μ, e, st, s, t, hA⟩ := h
  refine he _ _ _ ⟨μ, e, st, s, t, Tr.All_mono (fun d st1 hq μ1 H1 x g1 t1 r1 => ?_) (fun _ _ _ z => z) _ ((Tr.All_bind _).mp hA)⟩
  cases hb : gt.bind d e with
  | none => rw [hb] at hq; exact hq.elim
  | some e' =>
    rw [hb] at hq
    exact hg _ _ _ _ ⟨μ1, e, st1, d, e', s.gr g1, t1, r1, hb, fun σ' _ _ s' => KS.here (KS.gr g1 (show KS G μ H D (.nx, e') st1 from hq)) t1 s'⟩
theorem ret_ok {te : TE} {c : E} (he : ∀ σ H Q, tE G (wX Ew) (ev c) σ H Q → te σ H Q) {D : Ends} {σ : L2.St} {H : Hp} (h : tS G Ew (ex (.ret c)) D σ H) : tRet te D σ H := by
  obtain ⟨μ, e, st, s, t, hA⟩ := h
  refine he _ _ _ ⟨μ, e, st, s, t, Tr.All_mono (fun d st1 hq μ1 H1 x g1 t1 r1 => ?_) (fun _ _ _ z => z) _ ((Tr.All_bind _).mp hA)⟩
  exact (KS.here (KS.gr g1 (show KS G μ H D (.rt d, e) st1 from hq)) t1 (s.gr g1)) x r1
theorem expr_ok {te : TE} {c : E} (he : ∀ σ H Q, tE G (wX Ew) (ev c) σ H Q → te σ H Q) {D : Ends} {σ : L2.St} {H : Hp} (h : tS G Ew (ex (.expr c)) D σ H) : tDrop te D σ H := by
  obtain ⟨μ, e, st, s, t, hA⟩ := h
  refine he _ _ _ ⟨μ, e, st, s, t, Tr.All_mono (fun d st1 hq μ1 H1 x g1 t1 r1 => ?_) (fun _ _ _ z => z) _ ((Tr.All_bind _).mp hA)⟩
  exact KS.here (KS.gr g1 (show KS G μ H D (.nx, e) st1 from hq)) t1 (s.gr g1)
theorem swaps_plain {e : Expr} {t : Option Expr} {l : Nat} {env : Env} (h : isComp e = false) : swapsWith e t l env = pure false := by
  cases e <;> first | rfl | cases h
theorem swapped_env {ts : List Expr} {v : Expr} {env : Env} : swappedStores ts v env = swappedStores ts v (envS env.scope) := rfl
theorem swaps_env {t : Expr} {v : Expr} {l : Nat} {env : Env} : swapsWithSole [t] v l env = swapsWithSole [t] v l (envS env.scope) := by
  show swapsWith v (some t) l env = swapsWith v (some t) l (envS env.scope)
  cases v <;> first | rfl | (cases t <;> rfl)
theorem semF_ok {t : Sem Bool} (h : semF t = true) : t = pure false := by
  cases t <;> first | (cases h; done) | skip
  rename_i a
  cases a <;> first | rfl | cases h
theorem sub_of {tg o i : Expr} (h : subOf tg = some (o, i)) : ∃ p, tg = .Subscript o i p ∧ ∀ l u s q, i ≠ .Slice l u s q := by
  cases tg <;> first | (cases h; done) | skip
  rename_i o' i' p
  cases i' <;> first | (cases h; done) | (cases h; exact ⟨p, rfl, fun _ _ _ _ z => nomatch z⟩)
theorem par_of {tg e a b : Expr} {x y : Str} (h : parOf tg e = some (x, y, a, b)) : ∃ px py kt pt k2 p2, tg = .Tuple [.Name x px, .Name y py] kt pt ∧ e = .Tuple [a, b] k2 p2 := by
  unfold parOf at h
  split at h
  · cases h; exact ⟨_, _, _, _, _, _, rfl, rfl⟩
  · cases h
theorem lc_of {tg e : Expr} {y : Str} {py pos : Pos} {csc : Scope} (h : lcOf tg e = some (y, py, csc, pos)) : tg = .Name y py ∧ ∃ elt gs, e = .ListComp elt gs csc pos := by
  unfold lcOf at h
  split at h
  · cases h; exact ⟨rfl, _, _, rfl⟩
  · cases h
theorem semN_ok {t : Sem (Option (List Str))} (h : semN t = true) : t = pure none := by
  cases t <;> first | (cases h; done) | skip
  rename_i a
  cases a <;> first | rfl | cases h
theorem semS_ok {l : List Str} {t : Sem (Option (List Str))} (h : semS l t = true) : t = pure (some l) := by
  cases t <;> first | (cases h; done) | skip
  rename_i a
  cases a with
  | none => cases h
  | some k =>
    have e : k = l := of_decide_eq_true h
    rw [e]
    rfl
theorem nodup_inj {α : Type} {l : List α} (nd : l.Nodup) {i j : Nat} (hi : i < l.length) (hj : j < l.length) (e : l[i] = l[j]) : i = j := by
  have p := List.pairwise_iff_getElem.mp nd
  rcases Nat.lt_trichotomy i j with h | h | h
  · exact absurd e (p i j hi hj h)
  · exact h
  · exact absurd e.symm (p j i hj hi h)
/-- a list at hand is changed at a place -/
theorem set_ok {μ : Mp} {H : Hp} {st : Sto} {r j : Nat} {p : Addr} {xs : List D} {vs : List V} {d : D} {v : V} (t : STR G μ st H) (hp : μ.m[r]? = some p) (hx : st[r]? = some (.lst xs)) (hv : H p = some (.lst vs)) (rv : Reps G μ H xs vs) (rd : Rep G μ H d v) :
    STR G μ (st.set r (.lst (xs.set j d))) (upd H p (.lst (vs.set j v))) ∧ Gr μ H μ (upd H p (.lst (vs.set j v))) := by
  have hm : p ∈ μ.m := List.mem_of_getElem? hp
  have hM := t.sub p hm
  have g : Gr μ H μ (upd H p (.lst (vs.set j v))) := by
    refine ⟨fun a u e n => by rw [upd_ne fun z => n (by rw [z]; exact hm)]; exact e, fun a e => ?_, ⟨[], by simp, by simp⟩, fun _ h => h, fun _ h => .inl h, t.sub⟩
    by_cases z : a = p
    · rw [z, upd_same] at e; cases e
    · rw [upd_ne z] at e; exact e
  refine ⟨⟨by simp [t.len], fun i o h => ?_, t.sub, t.nd, fun a h => ?_⟩, g⟩
  · by_cases hi : r = i
    · subst hi
      have hl : r < st.length := (List.getElem?_eq_some_iff.mp hx).1
      rw [List.getElem?_set_self hl] at h
      cases h
      exact ⟨p, hp, _, upd_same, (rv.set rd j).upd_ hM⟩
    · rw [List.getElem?_set_ne hi] at h
      obtain ⟨a, h1, h2⟩ := t.at_ i o h
      have ne : a ≠ p := fun z => hi (by
        subst z
        obtain ⟨l1, e1⟩ := List.getElem?_eq_some_iff.mp hp
        obtain ⟨l2, e2⟩ := List.getElem?_eq_some_iff.mp h1
        exact nodup_inj t.nd l1 l2 (e1.trans e2.symm))
      exact ⟨a, h1, h2.same g (upd_ne ne)⟩
  · by_cases z : a = p
    · rw [z, upd_same]; simp
    · rw [upd_ne z]; exact t.tr a h
theorem aug_in {μ : Mp} : True := True.intro
def augR (G : Glo) (o : Operator) : R2 := rD G (augD o)
theorem aug_op : ∀ (o : Operator), OpR X (inplaceOp o) (rD G (augD o)) := by
  intro o pins s σ H v w u1 u2 Q I q1 q2 ⟨μ, st, x, y, z, t, rx, ry, e, k⟩
  cases o with
  | Add =>
    cases x <;> cases y <;> first | (cases e; done) | skip
    · cases e; cases rx; cases ry
      exact iop_add pins s σ H _ _ u1 u2 Q I q1 q2 ⟨_, _, rfl, rfl, k.here t (.int _)⟩
    · obtain ⟨hc, rfl⟩ := if_some e
      cases rx; cases ry
      exact iop_add_str pins s σ H _ _ u1 u2 Q I q1 q2 ⟨_, _, rfl, rfl, of_decide_eq_true hc, k.here t (.str _)⟩
  | Sub =>
    cases x <;> cases y <;> first | (cases e; done) | skip
    cases e; cases rx; cases ry
    exact iop_sub pins s σ H _ _ u1 u2 Q I q1 q2 ⟨_, _, rfl, rfl, k.here t (.int _)⟩
  | Mult =>
    cases x <;> cases y <;> first | (cases e; done) | skip
    obtain ⟨hc, rfl⟩ := if_some e
    cases rx; cases ry
    rename_i i j
    have ho : OpR X (inplaceOp .Mult) (rI (fun i j => okMul i j = true) fun i j => .int (i * j)) := opI fun i j _ _ _ _ _ hc q => imul_int q (okMul_ok hc)
    exact ho pins s σ H _ _ u1 u2 Q I q1 q2 ⟨_, _, rfl, rfl, hc, k.here t (.int _)⟩
  | _ => cases x <;> cases y <;> cases e
theorem sw_lcOk {sc : Scope} {y : Str} {py pos : Pos} {csc : Scope} (h : swLc sc y py pos csc = true) : sc.kind = .function ∧ sc.names.lookup y = some .local ∧ (py.line == pos.line) = true ∧ (csc.names.any fun (n, k) => n == y && (k == .local || k == .cell)) = false := by
  unfold swLc at h
  simp only [Bool.and_eq_true, decide_eq_true_eq, Bool.not_eq_true'] at h
  obtain ⟨⟨⟨h1, h2⟩, h3⟩, h4⟩ := h
  refine ⟨?_, h2, h3, h4⟩
  split at h1
  · assumption
  · cases h1
theorem whl_case {t : Expr} {a : List Stmt} {p : Pos} {x : E} {y : S} (po : PassesOwn (model X.prog X.w) X.A X.env X.xe) (m : Nat) (h1 : PT X t (tB G (wX Ew) fun v => andThen (ev x v) truthM)) (h2 : PSs X a (tS G Ew (ex y))) : PS X (.While t a [] p) (tS G Ew (ex (.whl m x y))) :=
  PS.conv (ps_while po h1 h2) fun D σ H q => whl_ok (fun _ _ _ z => z) (fun _ _ _ z => z) q
theorem asg_case {n : Nat} (iE : Snd G n) {Γ : Gam} (F : Fits Γ X G (wX Ew)) {tg e : Expr} {p : Pos} {c : S} (h' : (if semF (swapsWithSole [tg] e p.line (envS Γ.sc)) then
        (if semN (swappedStores [tg] e (envS Γ.sc)) then
          (match subOf tg with
            | some (o, i) => (comp n Γ e).bind fun x => (comp n Γ o).bind fun y => (comp n Γ i).map fun z => S.setix y z x
            | none => (compG n Γ tg).bind fun g => (comp n Γ e).map fun c => S.asg g c)
        else match parOf tg e with
          | some (x, y, a, b) => if semS [x, y] (swappedStores [tg] e (envS Γ.sc)) && decide (Γ.sc.names.lookup x = some .local) && decide (Γ.sc.names.lookup y = some .local) && plainE a && plainE b then
            (slotOf Γ.N x).bind fun i => (slotOf Γ.N y).bind fun j => if i = j then none else (comp n Γ a).bind fun u => (comp n Γ b).map fun v => S.par i j u v else none
          | none => none)
        else match lcOf tg e with
          | some (y, py, csc, pos) => if swLc Γ.sc y py pos csc then (slotOf Γ.N y).bind fun i => (comp n Γ e).map fun c => S.asg (.nm i) c else none
          | none => none) = some c) : PS X (.Assign [tg] e p) (tS G Ew (ex c)) := by
  have nd : X.N.Nodup := by rw [F.N]; exact F.nd
  split at h'
  · rename_i hsw
    have sw : swapsWithSole [tg] e p.line X.env = pure false := by rw [swaps_env, F.sc]; exact semF_ok hsw
    split at h'
    · rename_i hss
      have ss : swappedStores [tg] e X.env = pure none := by rw [swapped_env, F.sc]; exact semN_ok hss
      split at h'
      · rename_i o i hsub
        obtain ⟨q, rfl, hi⟩ := sub_of hsub
        obtain ⟨x, h1, h2⟩ := bb h'
        obtain ⟨y, h3, h4⟩ := bb h2
        obtain ⟨z, h5, rfl⟩ := mm h4
        refine PS.conv (ps_asg (iE.e Γ X _ e x F h1) (pg_sub (iE.e Γ X _ o y F h3) (iE.e Γ X _ i z F h5) set_list (fun v => by cases i <;> first | rfl | exact absurd rfl (hi _ _ _ _))) sw ss rfl) fun D σ H q => ?_
        obtain ⟨μ, e, st, s, t, hA⟩ := q
        refine ⟨μ, e, st, s, t, Tr.All_mono (fun d st1 hq μ1 H1 v g1 t1 r1 => ?_) (fun _ _ _ z => z) _ ((Tr.All_bind _).mp hA)⟩
        refine ⟨μ1, e, st1, s.gr g1, t1, Tr.All_mono (fun d2 st2 hq2 μ2 H2 v2 g2 t2 r2 => ?_) (fun _ _ _ z => KX.gr g1 z) _ ((Tr.All_bind _).mp hq)⟩
        refine ⟨μ2, e, st2, (s.gr g1).gr g2, t2, Tr.All_mono (fun d3 st3 hq3 μ3 H3 v3 g3 t3 r3 => ?_) (fun _ _ _ z => KX.gr (g1.trans g2) z) _ ((Tr.All_bind _).mp hq2)⟩
        have hq4 : ((match setStore st3 d2 d3 d with
          | some s' => .ok (Fl.nx, e) s'
          | none => .bad) : Tr (Fl × Ev)).All (KS G μ H D) (KX G (wX Ew) σ μ H) := hq3
        cases hset : setStore st3 d2 d3 d with
        | none => rw [hset] at hq4; exact hq4.elim
        | some s' =>
          rw [hset] at hq4
          unfold setStore at hset
          cases d2 <;> cases d3 <;> first | (cases hset; done) | skip
          rename_i r k
          dsimp only at hset
          cases hr : st3[r]? with
          | none => rw [hr] at hset; cases hset
          | some o3 =>
            rw [hr] at hset
            cases o3 with
            | hat => cases hset
            | lst xs =>
              obtain ⟨j, hj, rfl⟩ := mm hset
              cases r3
              have r2' := r2.gr g3
              cases r2' with
              | @ref _ a ha =>
                obtain ⟨a', ha', hO⟩ := t3.at_ r _ hr
                have ea : a' = a := Option.some.inj (ha'.symm.trans ha)
                subst ea
                obtain ⟨vs, hv, rv⟩ := hO
                have rd := (r1.gr g2).gr g3
                obtain ⟨q1, q2⟩ := set_ok (j := j) t3 ha hr hv rv rd
                refine ⟨a', vs, k, j, rfl, rfl, hv, by rw [← rv.length]; exact hj, ?_⟩
                exact KS.here (KS.gr (((g1.trans g2).trans g3).trans q2) (show KS G μ H D (.nx, e) _ from hq4)) q1 ((((s.gr g1).gr g2).gr g3).gr q2)
      · obtain ⟨g, h1, h2⟩ := bb h'
        obtain ⟨x, h3, rfl⟩ := mm h2
        have hp : (assignEach [tg] X.env).map (·.2) = [assign tg X.env] := by
          cases n with
          | zero => cases h1
          | succ n => cases tg <;> first | rfl | cases h1
        exact PS.conv (ps_asg (iE.e Γ X _ e x F h3) ((G_ok F n).1 tg g h1) sw ss hp) fun D σ H q => asg_ok (fun _ _ _ z => z) (fun _ _ _ _ z => z) q
    · split at h'
      · rename_i x y a b hpar
        obtain ⟨px, py, kt, pt, k2, p2, rfl, rfl⟩ := par_of hpar
        split at h'
        · rename_i hc
          simp only [Bool.and_eq_true, decide_eq_true_eq] at hc
          obtain ⟨⟨⟨⟨c1, c2⟩, c3⟩, c4⟩, c5⟩ := hc
          obtain ⟨i, h1, h2⟩ := bb h'
          obtain ⟨j, h3, h4⟩ := bb h2
          split at h4
          · cases h4
          · rename_i hij
            obtain ⟨u, h5, h6⟩ := bb h4
            obtain ⟨v, h7, rfl⟩ := mm h6
            refine PS.conv (ps_par F.calm nd (by rw [F.N]; exact slot_get h1) (by rw [F.N]; exact slot_get h3) hij (by rw [F.sc]; exact c2) (by rw [F.sc]; exact c3)
              (pa_cons (iE.e Γ X _ a u F h5) (pa_cons (iE.e Γ X _ b v F h7) pa_nil (star_of c5)) (star_of c4)) (by rw [swapped_env, F.sc]; exact semS_ok c1) sw) fun D σ H q => ?_
            obtain ⟨μ, e, st, s, t, hA⟩ := q
            refine ⟨μ, e, st, s, t, Tr.All_mono (fun d st1 hq μ1 H1 v1 g1 t1 r1 => ?_) (fun _ _ _ z => z) _ ((Tr.All_bind _).mp hA)⟩
            refine ⟨μ1, e, st1, s.gr g1, t1, Tr.All_mono (fun d2 st2 hq2 μ2 H2 v2 g2 t2 r2 => ?_) (fun _ _ _ z => KX.gr g1 z) _ ((Tr.All_bind _).mp hq)⟩
            exact ⟨v1, v2, rfl, KS.here (KS.gr (g1.trans g2) (show KS G μ H D (.nx, (e.set i (some d)).set j (some d2)) st2 from hq2)) t2 ((((s.gr g1).gr g2).set i (r1.gr g2)).set j r2)⟩
        · cases h'
      · cases h'
  · split at h'
    · rename_i y py csc pos hlc
      obtain ⟨rfl, elt, gs, rfl⟩ := lc_of hlc
      split at h'
      · rename_i hs
        obtain ⟨k1, k2, k3, k4⟩ := sw_lcOk hs
        obtain ⟨i, h1, h2⟩ := bb h'
        obtain ⟨x, h3, rfl⟩ := mm h2
        cases n with
        | zero => cases h3
        | succ n =>
          match gs, h3 with
          | [], h3 => cases h3
          | ⟨_, _, _, .negSucc _⟩ :: _ :: _, h3 => cases h3
          | ⟨_, _, _, .ofNat 0⟩ :: _ :: _, h3 => cases h3
          | ⟨_, _, _, .ofNat (_ + 1)⟩ :: _ :: _, h3 => cases h3
          | [⟨tg, it, ifs, .negSucc _⟩], h3 => cases h3
          | [⟨tg, it, ifs, .ofNat (_ + 1)⟩], h3 => cases h3
          | [⟨tg, it, ifs, .ofNat 0⟩], h3 =>
            obtain ⟨wi, g, tt, te, q1, q2, q3, q4, q5, q6, q7⟩ := lc_parts (snd n) F h3
            refine PS.conv (ps_setLc F.calm nd (by rw [F.N]; exact slot_get h1) (by rw [F.sc]; exact k2) (sw_true (by rw [F.sc]; exact k1) (by rw [F.sc]; exact k2) k3 k4) q1 q2 q3 q4 q5 q6) fun D σ H q => asg_ok (gt := .nm i) q7 (fun v σ H Q hh => ?_) q
            obtain ⟨μ, e, st, d, e', s, t, r, b, k⟩ := hh
            cases b
            refine k _ (by simp) (fun j hj => ?_) (s.set i r)
            rw [List.getElem?_set_ne]
            intro z
            exact hj (by simp [T.slots, z])
      · cases h'
    · cases h'
theorem snd_s {n : Nat} (ih : SndS G n) {Γ : Gam} (F : Fits Γ X G (wX Ew)) {st : Stmt} {c : S} (h : compS (n + 1) Γ st = some c) : PS X st (tS G Ew (ex c)) := by
  have iE : Snd G n := snd n
  have nd : X.N.Nodup := by rw [F.N]; exact F.nd
  cases st with
  | Pass p =>
    cases h
    refine PS.conv ps_pass fun D σ H q => ?_
    obtain ⟨μ, e, st, s, t, hA⟩ := q
    exact KS.here (show KS G μ H D (.nx, e) st from hA) t s
  | Break p =>
    cases h
    refine PS.conv ps_break fun D σ H q => ?_
    obtain ⟨μ, e, st, s, t, hA⟩ := q
    exact KS.here (show KS G μ H D (.bk, e) st from hA) t s
  | Continue p =>
    cases h
    refine PS.conv ps_continue fun D σ H q => ?_
    obtain ⟨μ, e, st, s, t, hA⟩ := q
    exact KS.here (show KS G μ H D (.ct, e) st from hA) t s
  | Expr e p =>
    have gen : (if isComp e then none else (comp n Γ e).map S.expr) = some c → PS X (.Expr e p) (tS G Ew (ex c)) := by
      intro h'
      split at h'
      · cases h'
      · rename_i hc
        obtain ⟨x, h1, rfl⟩ := mm h'
        exact PS.conv (ps_expr (iE.e Γ X _ e x F h1) (swaps_plain (by simpa using hc))) fun D σ H q => expr_ok (fun _ _ _ z => z) q
    cases e with
    | Constant k i q =>
      cases k with
      | str z =>
        cases h
        refine PS.conv ps_doc fun D σ H q => ?_
        obtain ⟨μ, e, st, s, t, hA⟩ := q
        exact KS.here (show KS G μ H D (.nx, e) st from hA) t s
      | _ => exact gen h
    | _ => exact gen h
  | Return o p =>
    cases o with
    | none =>
      cases h
      refine PS.conv ps_retN fun D σ H q => ?_
      obtain ⟨μ, e, st, s, t, hA⟩ := q
      exact (KS.here (show KS G μ H D (.rt .non, e) st from hA) t s) _ .non
    | some e =>
      obtain ⟨x, h1, rfl⟩ := mm (show (comp n Γ e).map S.ret = some c from h)
      exact PS.conv (ps_ret (iE.e Γ X _ e x F h1)) fun D σ H q => ret_ok (fun _ _ _ z => z) q
  | If t a b p =>
    have h' : ((compT n Γ t).bind fun x => (compSs n Γ a).bind fun y => (compSs n Γ b).map fun z => S.ifs x y z) = some c := h
    obtain ⟨x, h1, h2⟩ := bb h'
    obtain ⟨y, h3, h4⟩ := bb h2
    obtain ⟨z, h5, rfl⟩ := mm h4
    refine PS.conv (ps_if (iE.t Γ X _ t x F h1) (ih.ss Γ X _ a y F h3) (ih.ss Γ X _ b z F h5)) fun D σ H q => if_ok (dc := fun v => andThen (ev x v) truthM) (da := ex y) (db := ex z) (fun _ _ _ z => z) (fun _ _ _ z => z) (fun _ _ _ z => z) ?_
    obtain ⟨μ, e, st, s, t, hA⟩ := q
    refine ⟨μ, e, st, s, t, (Tr.All_bind _).mpr ((Tr.All_bind (f := truthM) _).mpr ?_)⟩
    exact Tr.All_mono (fun d s2 hq => (Tr.All_bind _).mp hq) (fun _ _ _ z => z) _ ((Tr.All_bind _).mp hA)
  | While t a o p =>
    cases o with
    | cons _ _ => cases h
    | nil =>
      have h' : ((compT n Γ t).bind fun x => (compSs n Γ a).map fun y => S.whl fuelW x y) = some c := h
      obtain ⟨x, h1, h2⟩ := bb h'
      obtain ⟨y, h3, rfl⟩ := mm h2
      exact whl_case F.po fuelW (iE.t Γ X _ t x F h1) (ih.ss Γ X _ a y F h3)
  | For tg it a o p =>
    cases o with
    | cons _ _ => cases h
    | nil =>
      have h' : ((compI n Γ tg it).bind fun x => (compG n Γ tg).bind fun g => (compSs n Γ a).map fun y => S.for_ g x y) = some c := h
      obtain ⟨x, h1, h2⟩ := bb h'
      obtain ⟨g, h3, h4⟩ := bb h2
      obtain ⟨y, h5, rfl⟩ := mm h4
      obtain ⟨pi, hf⟩ := iE.i Γ X _ tg it x F h1
      exact PS.conv (ps_for F.po F.calm pi ((G_ok F n).1 tg g h3) (ih.ss Γ X _ a y F h5) (hf X.env)) fun D σ H q => for_ok (fun _ _ _ z => z) (fun _ _ _ _ z => z) (fun _ _ _ z => z) q
  | Raise a b p =>
    cases h
    refine PS.conv ps_never fun D σ H q => ?_
    obtain ⟨μ, e, st, s, t, hA⟩ := q
    exact hA.elim
  | AugAssign tg o e p =>
    cases tg <;> first | (cases h; done) | skip
    rename_i x px
    have h' : (if locB Γ.sc Γ.asg x then (slotOf Γ.N x).bind fun i => (comp n Γ e).map fun c => S.aug i o c else none) = some c := h
    split at h'
    · rename_i hl
      obtain ⟨i, h1, h2⟩ := bb h'
      obtain ⟨y, h3, rfl⟩ := mm h2
      obtain ⟨l1, l2⟩ := loc_of hl
      refine PS.conv (ps_aug (ti := rD G (augD o)) nd (by rw [F.N]; exact slot_get h1) (by rw [F.sc]; exact l1) (iE.e Γ X _ e y F h3) (aug_op o) ?_) fun D σ H q => ?_
      · rcases l2 with z | z
        · exact .inr (by rw [F.sc]; exact z)
        · exact .inl (F.fn x z)
      · obtain ⟨μ, e, st, s, t, hA⟩ := q
        obtain ⟨d, hd, k⟩ := optM_some ((Tr.All_bind _).mp hA)
        obtain ⟨oo, e1, e2⟩ := bb hd
        cases e2
        obtain ⟨v, q1, q2⟩ := s.slot i d e1
        refine ⟨v, q1, ⟨μ, e, st, s, t, Tr.All_mono (fun d2 st1 hq μ1 H1 w g1 t1 r1 => ?_) (fun _ _ _ z => z) _ ((Tr.All_bind _).mp k)⟩⟩
        obtain ⟨z, hz, kk⟩ := optM_some ((Tr.All_bind _).mp hq)
        refine ⟨μ1, st1, d, d2, z, t1, q2.gr g1, r1, hz, fun μ2 H2 u g2 t2 r2 => ?_⟩
        exact KS.here (KS.gr (g1.trans g2) (show KS G μ H D (.nx, e.set i (some z)) st1 from kk)) t2 (((s.gr g1).gr g2).set i r2)
    · cases h'
  | Assign ts e p =>
    match ts with
    | [] => cases h
    | _ :: _ :: _ => cases h
    | [tg] =>
      have h' : (if semF (swapsWithSole [tg] e p.line (envS Γ.sc)) then
        (if semN (swappedStores [tg] e (envS Γ.sc)) then
          (match subOf tg with
            | some (o, i) => (comp n Γ e).bind fun x => (comp n Γ o).bind fun y => (comp n Γ i).map fun z => S.setix y z x
            | none => (compG n Γ tg).bind fun g => (comp n Γ e).map fun c => S.asg g c)
        else match parOf tg e with
          | some (x, y, a, b) => if semS [x, y] (swappedStores [tg] e (envS Γ.sc)) && decide (Γ.sc.names.lookup x = some .local) && decide (Γ.sc.names.lookup y = some .local) && plainE a && plainE b then
            (slotOf Γ.N x).bind fun i => (slotOf Γ.N y).bind fun j => if i = j then none else (comp n Γ a).bind fun u => (comp n Γ b).map fun v => S.par i j u v else none
          | none => none)
        else match lcOf tg e with
          | some (y, py, csc, pos) => if swLc Γ.sc y py pos csc then (slotOf Γ.N y).bind fun i => (comp n Γ e).map fun c => S.asg (.nm i) c else none
          | none => none) = some c := h
      exact asg_case iE F h'
  | _ => cases h
end
end Gw

set_option Elab.async false
set_option linter.all false
set_option maxRecDepth 100000
set_option maxHeartbeats 1000000
/-! Gw9: defs. -/
namespace Gw
open PySem PySem.Spec PyProof.Rows L2
theorem snds {G : Glo} : ∀ n, SndS G n
  | 0 => ⟨fun _ _ _ _ _ _ h => (by cases h), fun _ _ _ _ _ _ h => (by cases h)⟩
  | n + 1 => by
    have ih := snds (G := G) n
    refine ⟨fun Γ X E st c F h => snd_s ih F h, fun Γ X E st c F h => ?_⟩
    cases st with
    | nil =>
      cases h
      refine PSs.conv pss_nil fun D σ H q => ?_
      obtain ⟨μ, e, st, s, t, hA⟩ := q
      exact KS.here (show KS G μ H D (.nx, e) st from hA) t s
    | cons a r =>
      have h' : ((compS n Γ a).bind fun x => (compSs n Γ r).map fun y => S.seq x y) = some c := h
      obtain ⟨x, h1, h2⟩ := bb h'
      obtain ⟨y, h3, rfl⟩ := mm h2
      exact PSs.conv (pss_cons (ih.s Γ X E a x F h1) (ih.ss Γ X E r y F h3)) fun D σ H q => seq_ok (fun _ _ _ z => z) (fun _ _ _ z => z) q
theorem SR.start {G : Glo} {μ : Mp} {H : Hp} {N : List Str} {ds : List D} {vs : List V} (r : Reps G μ H ds vs) : SR G μ (startE N.length ds) (L2.start N vs) H := by
  have hl := r.length
  refine ⟨by unfold startE L2.start; simp [hl], fun i d h => ?_⟩
  unfold startE at h
  unfold L2.start
  by_cases hi : i < ds.length
  · rw [List.getElem?_append_left (by simpa using hi), List.getElem?_map] at h
    cases q : ds[i]? with
    | none => rw [q] at h; cases h
    | some x =>
      rw [q] at h
      cases h
      obtain ⟨v, h1, h2⟩ := r.get q
      refine ⟨v, ?_, h2⟩
      rw [List.getElem?_append_left (by rw [List.length_map, ← hl]; exact hi), List.getElem?_map, h1]
      rfl
  · rw [List.getElem?_append_right (by simpa using hi), List.getElem?_replicate] at h
    split at h <;> cases h
/-- what a caller knows of a def -/
def FnFact (P : Program) (w : World) (K : PySem.W.Frag) (mg : Str → Option Value) (base : Heap) (G : Glo) (x : Str) (fi : FnI) : Prop :=
  ∃ f fd ps, mg x = some (.ref f) ∧ PySem.W.keepIn K (.ref f) = true ∧ Binds K fd ps [] ∧ FnOk P w K mg base (L2.CX P w) fi.lv f fd ps (spD G fi.φ fi.np) ∧ ∀ ds st P E, (fi.φ ds st).All P E → ds.length = fi.np
structure TabOk (P : Program) (w : World) (K : PySem.W.Frag) (mg : Str → Option Value) (base : Heap) (G : Glo) (tab : List (Str × FnI)) : Prop where
  ok : ∀ x fi, tab.lookup x = some fi → FnFact P w K mg base G x fi
theorem TabOk.nil {P : Program} {w : World} {K : PySem.W.Frag} {mg : Str → Option Value} {base : Heap} {G : Glo} : TabOk P w K mg base G [] := ⟨fun _ _ h => (by cases h)⟩
theorem TabOk.cons {P : Program} {w : World} {K : PySem.W.Frag} {mg : Str → Option Value} {base : Heap} {G : Glo} {tab : List (Str × FnI)} {x : Str} {fi : FnI} (h : FnFact P w K mg base G x fi) (t : TabOk P w K mg base G tab) : TabOk P w K mg base G ((x, fi) :: tab) := by
  refine ⟨fun y gi hl => ?_⟩
  rw [List.lookup_cons] at hl
  cases e : (y == x) with
  | true =>
    rw [e] at hl
    cases hl
    rw [beq_iff_eq.mp e]
    exact h
  | false =>
    rw [e] at hl
    exact t.ok y gi hl
theorem fnM_len {n p : Nat} {b : S} {ds : List D} {st : Sto} {P : D → Sto → Prop} {E : Str → D → Sto → Prop} (h : (fnM n p b ds st).All P E) : ds.length = p := by
  unfold fnM at h
  by_cases hl : ds.length = p
  · exact hl
  · rw [if_neg hl] at h
    exact h.elim
section
variable {P : Program} {w : World} {K : PySem.W.Frag} {mg : Str → Option Value} {base : Heap} {G : Glo} {x qual : Str} {params : Arguments} {body : List Stmt} {scope : Scope} {f : Addr} {fd : FuncData}
/-- THE RULE: a def whose body compiles does what the core says -/
theorem fn_core (F : FunD K x qual params body scope [] [] f fd) {N ps : List Str} (S_ : FnScope N ps scope) {Γ : Gam} {b : S} {n : Nat} (hN : Γ.N = N) (hsc : Γ.sc = scope) (hb : compSs n Γ body = some b) (hK : G.K = K) (hmg : G.mg = mg)
    (hf : TabOk P w K mg base G Γ.fns) (hc : ∀ x d, Γ.cst.lookup x = some d → ∃ u v, mg x = some u ∧ RelV v u ∧ ∀ μ H, Rep G μ H d v) (hfr : ∀ x ∈ Γ.free, mg x = none) :
    FnOk P w K mg base (L2.CX P w) (Γ.lv + 1) f fd ps (spD G (fnM N.length ps.length b) ps.length) := by
  refine F.ok S_ (fun vs H Q E h => h.1) (fun cdv A outer s H vs Q E hr h => ⟨tS G E (ex b), ?_, ?_⟩)
  · refine (snds n).ss Γ _ E body b ⟨?_, ?_, ?_, rfl, hK, hmg, takes_of rfl rfl rfl rfl, passes_of rfl, fun _ _ => rfl, hr, hf.ok, hc, hfr⟩ hb
    · exact hN.symm
    · rw [hN]; exact S_.nd
    · exact hsc.symm
  · obtain ⟨hl, μ, ds, st, r, t, hA⟩ := h
    have hd := fnM_len hA
    unfold fnM at hA
    rw [if_pos hd] at hA
    refine ⟨μ, _, st, SR.start r, t, Tr.All_mono (fun q st1 hq μ1 H1 σ1 g1 t1 s1 => ?_) (fun _ _ _ z => z) _ ((Tr.All_bind _).mp hA)⟩
    obtain ⟨fl, e1⟩ := q
    cases fl with
    | nx => exact (show KE G (Rep G) μ H Q .non st1 from hq) μ1 H1 _ g1 t1 .non
    | rt d => exact fun x rx => (show KE G (Rep G) μ H Q d st1 from hq) μ1 H1 x g1 t1 rx
    | bk => exact hq.elim
    | ct => exact hq.elim
mutual
theorem Rep.rf_ {μ : Mp} {m' : List Addr} {H : Hp} : ∀ (d : D) (v : V), Rep G μ H d v → d.rf = true → Rep G ⟨μ.M, m'⟩ H d v
  | .non, _, h, _ => by cases h; exact .non
  | .bl b, _, h, _ => by cases h; exact .bl b
  | .int i, _, h, _ => by cases h; exact .int i
  | .str x, _, h, _ => by cases h; exact .str x
  | .ty n, _, h, _ => by cases h; exact .ty n
  | .fn x, _, h, _ => by cases h with | fn e => exact .fn e
  | .ref i, _, h, e => by cases e
  | .tup xs, _, h, e => by cases h with | tup a b => exact .tup a (Reps.rf_ xs _ b e)
  | .lst xs, _, h, e => by cases h with | lst a b => exact .lst a (Reps.rf_ xs _ b e)
  | .scr ns, _, h, _ => by cases h with | scr a => exact .scr a
theorem Reps.rf_ {μ : Mp} {m' : List Addr} {H : Hp} : ∀ (ds : List D) (vs : List V), Reps G μ H ds vs → D.rfs ds = true → Reps G ⟨μ.M, m'⟩ H ds vs
  | [], _, h, _ => by cases h; exact .nil
  | d :: ds, _, h, e => by
    unfold D.rfs at e
    obtain ⟨e1, e2⟩ := Bool.and_eq_true_iff.mp e
    cases h with | cons a b => exact .cons (Rep.rf_ d _ a e1) (Reps.rf_ ds _ b e2)
end
theorem trim_all {μ : Mp} {H : Hp} {Q : VK} {W : WX} {σ : L2.St} {n : Nat} (hn : μ.m.length = n) : ∀ t : Tr D, (trimT n t).All (KE G (Rep G) μ H Q) (KX G W σ μ H) → t.All (KE G (Rep G) μ H Q) (KX G W σ μ H)
  | .bad, h => h
  | .pick m k, h => fun i hi => trim_all hn (k i) (h i hi)
  | .ok v s, h => by
    unfold trimT at h
    split at h
    · rename_i hc
      obtain ⟨h1, h2⟩ := Bool.and_eq_true_iff.mp hc
      intro μ' H' x g t r
      obtain ⟨q1, q2⟩ := trim_str hn g t h2
      exact (show KE G (Rep G) μ H Q v (s.take n) from h) ⟨μ'.M, μ'.m.take n⟩ H' x q1 q2 (Rep.rf_ _ _ r h1)
    · exact h
  | .ex e v s, h => by
    unfold trimT at h
    split at h
    · rename_i hc
      obtain ⟨h1, h2⟩ := Bool.and_eq_true_iff.mp hc
      intro μ' H' cls dd g t r
      obtain ⟨q1, q2⟩ := trim_str hn g t h2
      refine (show KX G W σ μ H e v (s.take n) from h) ⟨μ'.M, μ'.m.take n⟩ H' cls dd q1 q2 ?_
      obtain ⟨C, r1, r2, r3⟩ := r
      refine ⟨C, r1, r2, ?_⟩
      cases hf : G.fld e with
      | none => rw [hf] at r3; exact r3
      | some f =>
        rw [hf] at r3
        obtain ⟨dx, v', a1, a2, a3⟩ := r3
        exact ⟨dx, v', a1, a2, Rep.rf_ _ _ a3 h1⟩
    · exact h
where
  trim_str {μ μ' : Mp} {H H' : Hp} {n : Nat} {s : Sto} (hn : μ.m.length = n) (g : Gr μ H μ' H') (t : STR G μ' s H') (hr : (s.take n).all MO.rf = true) : Gr μ H ⟨μ'.M, μ'.m.take n⟩ H' ∧ STR G ⟨μ'.M, μ'.m.take n⟩ (s.take n) H' := by
    obtain ⟨r, e, hr'⟩ := g.pre
    refine ⟨⟨g.keep, g.there, ⟨[], ?_, by simp⟩, g.sub, g.new, g.ms⟩, ⟨by simp [t.len], fun i o h => ?_, fun a ha => t.sub a (List.mem_of_mem_take ha), t.nd.sublist (List.take_sublist _ _), t.tr⟩⟩
    · show μ'.m.take n = μ.m ++ []
      rw [e, List.append_nil, ← hn, List.take_left']
      rfl
    · have hi : i < n := by
        have := (List.getElem?_eq_some_iff.mp h).1
        rw [List.length_take] at this
        omega
      have hro := List.all_eq_true.mp hr o (List.mem_of_getElem? h)
      rw [List.getElem?_take_of_lt hi] at h
      obtain ⟨a, h1, h2⟩ := t.at_ i o h
      refine ⟨a, by show (μ'.m.take n)[i]? = _; rw [List.getElem?_take_of_lt hi]; exact h1, ?_⟩
      cases o with
      | hat => exact h2
      | lst xs =>
        obtain ⟨vs, q1, q2⟩ := h2
        exact ⟨vs, q1, Reps.rf_ _ _ q2 hro⟩
theorem trim_fn {CX : CXT} {k np : Nat} {ps : List Str} {φ : List D → M D} (F : FnOk P w K mg base CX k f fd ps (spD G φ np)) : FnOk P w K mg base CX k f fd ps (spD G (trimM φ) np) := by
  refine F.imp fun vs H Q E h => ?_
  obtain ⟨hl, μ, ds, st, r, t, hA⟩ := h
  exact ⟨hl, μ, ds, st, r, t, trim_all t.len _ hA⟩
end
end Gw

set_option Elab.async false
set_option linter.all false
set_option maxRecDepth 100000
set_option maxHeartbeats 1000000
/-! Gw10: hats, a law's end. -/
namespace Gw
open PySem PySem.Spec PyProof.Rows L2
/-- the draw: any number below the total -/
def mUp : List D → M D
  | [.ref i, .int n] => fun st => match st[i]? with
    | some .hat => if 0 < n then .pick n.toNat fun k => .ok (.int (k : Nat)) st else .bad
    | _ => .bad
  | _ => badM
def mDraw : List D → M D := fun ds st => match ds with
  | [_, .int n] => if n.natAbs.log2 < 9000 then mUp ds st else .bad
  | _ => .bad
/-- a new hat -/
def mHat : List D → M D
  | [.scr _, .int k] => fun st => if 0 ≤ k ∧ k ≤ 1000 then .ok (.ref st.length) (st ++ [.hat]) else .bad
  | _ => badM
section
variable {G : Glo} {μ : Mp} {H : Hp} {st : Sto}
/-- a hat is a list of three numbers, and back -/
theorem hat_lst {i : Nat} (t : STR G μ st H) (h : st[i]? = some .hat) : ∃ g s c, HatOk g s c ∧ STR G μ (st.set i (.lst [.int g, .int s, .int c])) H := by
  obtain ⟨a, h1, g, s, c, h2, h3⟩ := t.at_ i _ h
  refine ⟨g, s, c, h3, by simp [t.len], fun j o hj => ?_, t.sub, t.nd, t.tr⟩
  by_cases e : i = j
  · subst e
    rw [List.getElem?_set_self (List.getElem?_eq_some_iff.mp h).1] at hj
    cases hj
    exact ⟨a, h1, _, h2, .cons (.int _) (.cons (.int _) (.cons (.int _) .nil))⟩
  · rw [List.getElem?_set_ne e] at hj
    exact t.at_ j o hj
theorem lst_hat {i : Nat} {g s c : Int} (hk : HatOk g s c) (hi : i < st.length) (t : STR G μ (st.set i (.lst [.int g, .int s, .int c])) H) (h : st[i]? = some .hat) : STR G μ st H := by
  refine ⟨by have := t.len; simpa using this, fun j o hj => ?_, t.sub, t.nd, t.tr⟩
  by_cases e : i = j
  · subst e
    rw [h] at hj
    cases hj
    obtain ⟨a, h1, vs, h2, h3⟩ := t.at_ i (.lst [.int g, .int s, .int c]) (by rw [List.getElem?_set_self hi])
    refine ⟨a, h1, g, s, c, ?_, hk⟩
    cases h3 with
    | cons r1 r =>
      cases r with
      | cons r2 r =>
        cases r with
        | cons r3 r => cases r; cases r1; cases r2; cases r3; exact h2
  · exact t.at_ j o (by rw [List.getElem?_set_ne e]; exact hj)
theorem up_fn {P : Program} {w : World} {K : PySem.W.Frag} {mg : Str → Option Value} {base : Heap} {CX : CXT} {k : Nat} {f : Addr} {fd : FuncData} {ps : List Str} {φ : List D → M D} (F : FnOk P w K mg base CX k f fd ps (spD G φ 2))
    (h : ∀ (i : Nat) (n : Int) (st : Sto) (g s c : Int), i < st.length → 0 < n → n.natAbs.log2 < 9000 → HatOk g s c → ∃ j g' s' c', 0 ≤ j ∧ j < n ∧ HatOk g' s' c' ∧ φ [.ref i, .int n] (st.set i (.lst [.int g, .int s, .int c])) = .ok (.int j) (st.set i (.lst [.int g', .int s', .int c']))) :
    FnOk P w K mg base CX k f fd ps (spD G mDraw 2) := by
  refine F.imp fun vs H Q E hh => ?_
  obtain ⟨hl, μ, ds, st, r, t, hA⟩ := hh
  match ds, r, hA with
  | [.ref i, .int n], r, hA =>
    have hA1 : (if n.natAbs.log2 < 9000 then mUp [.ref i, .int n] st else .bad).All (KE G (Rep G) μ H Q) (KX G (wX E) [] μ H) := hA
    split at hA1
    · rename_i hn
      have hA2 : ((match st[i]? with
        | some .hat => if 0 < n then .pick n.toNat fun k => .ok (.int (k : Nat)) st else .bad
        | _ => .bad) : Tr D).All (KE G (Rep G) μ H Q) (KX G (wX E) [] μ H) := hA1
      cases hs : st[i]? with
      | none => rw [hs] at hA2; exact hA2.elim
      | some o =>
        cases o with
        | lst xs => rw [hs] at hA2; exact hA2.elim
        | hat =>
          rw [hs] at hA2
          dsimp only at hA2
          split at hA2
          · rename_i h0
            have hi := (List.getElem?_eq_some_iff.mp hs).1
            obtain ⟨g, s, c, hk, t'⟩ := hat_lst t hs
            obtain ⟨j, g', s', c', j0, j1, hk', e⟩ := h i n st g s c hi h0 hn hk
            refine ⟨hl, μ, _, _, r, t', ?_⟩
            rw [e]
            have hq : KE G (Rep G) μ H Q (.int (j.toNat : Nat)) st := hA2 j.toNat (by omega)
            rw [show ((j.toNat : Nat) : Int) = j by omega] at hq
            exact fun μ1 H1 x g1 t1 r1 => hq μ1 H1 x g1 (lst_hat hk' hi t1 hs) r1
          · exact hA2.elim
    · exact hA1.elim
  | [], _, hA => exact hA.elim
  | [_], _, hA => exact hA.elim
  | _ :: b :: _ :: _, _, hA => exact (by revert hA; cases b <;> exact fun h => h.elim)
  | [.non, .int n], _, hA | [.bl _, .int n], _, hA | [.int _, .int n], _, hA | [.str _, .int n], _, hA | [.tup _, .int n], _, hA | [.lst _, .int n], _, hA | [.fn _, .int n], _, hA | [.ty _, .int n], _, hA | [.scr _, .int n], _, hA =>
    exact (by
      unfold mDraw at hA
      dsimp only at hA
      split at hA <;> exact hA.elim)
  | [_, .non], _, hA | [_, .bl _], _, hA | [_, .str _], _, hA | [_, .tup _], _, hA | [_, .lst _], _, hA | [_, .fn _], _, hA | [_, .ty _], _, hA | [_, .ref _], _, hA | [_, .scr _], _, hA => exact hA.elim
theorem str_push_hat {a : Addr} {vs : List V} : True := True.intro
/-- a new hat: the three numbers that were laid are one -/
theorem hat_fn {P : Program} {w : World} {K : PySem.W.Frag} {mg : Str → Option Value} {base : Heap} {CX : CXT} {k : Nat} {f : Addr} {fd : FuncData} {ps : List Str} {φ : List D → M D} (F : FnOk P w K mg base CX k f fd ps (spD G φ 2))
    (h : ∀ (ns : List Int) (n : Int) (st : Sto), 0 ≤ n → n ≤ 1000 → ∃ g s c, HatOk g s c ∧ φ [.scr ns, .int n] st = .ok (.ref st.length) (st ++ [.lst [.int g, .int s, .int c]])) : FnOk P w K mg base CX k f fd ps (spD G mHat 2) := by
  refine F.imp fun vs H Q E hh => ?_
  obtain ⟨hl, μ, ds, st, r, t, hA⟩ := hh
  match ds, r, hA with
  | [.scr ns, .int n], r, hA =>
    have hA1 : ((if 0 ≤ n ∧ n ≤ 1000 then .ok (.ref st.length) (st ++ [.hat]) else .bad) : Tr D).All (KE G (Rep G) μ H Q) (KX G (wX E) [] μ H) := hA
    split at hA1
    · rename_i hn
      obtain ⟨g, s, c, hk, e⟩ := h ns n st hn.1 hn.2
      refine ⟨hl, μ, _, st, r, t, ?_⟩
      rw [e]
      intro μ1 H1 x g1 t1 r1
      have e2 : st ++ [MO.lst [.int g, .int s, .int c]] = (st ++ [MO.hat]).set st.length (.lst [.int g, .int s, .int c]) := by
        rw [List.set_append_right _ _ (Nat.le_refl _), Nat.sub_self]
        rfl
      rw [e2] at t1
      exact (show KE G (Rep G) μ H Q (.ref st.length) (st ++ [MO.hat]) from hA1) μ1 H1 x g1 (lst_hat (i := st.length) (st := st ++ [MO.hat]) hk (by simp) t1 (by simp)) r1
    · exact hA1.elim
  | [], _, hA => exact hA.elim
  | [a], _, hA => exact (by revert hA; cases a <;> exact fun h => h.elim)
  | a :: b :: _ :: _, _, hA => exact (by revert hA; cases a <;> cases b <;> exact fun h => h.elim)
  | [.scr _, .non], _, hA | [.scr _, .bl _], _, hA | [.scr _, .str _], _, hA | [.scr _, .tup _], _, hA | [.scr _, .lst _], _, hA | [.scr _, .fn _], _, hA | [.scr _, .ty _], _, hA | [.scr _, .ref _], _, hA | [.scr _, .scr _], _, hA => exact hA.elim
  | [.non, b], _, hA | [.bl _, b], _, hA | [.int _, b], _, hA | [.str _, b], _, hA | [.tup _, b], _, hA | [.lst _, b], _, hA | [.fn _, b], _, hA | [.ty _, b], _, hA | [.ref _, b], _, hA => exact (by revert hA; cases b <;> exact fun h => h.elim)
end
/-! ### a law's end -/
def spEnd (G : Glo) (φ : List D → M D) : Sp := fun vs H Q _ => spD G φ 1 vs H Q fun _ _ _ => False
theorem law_end {P : Program} {w : World} {K : PySem.W.Frag} {mg : Str → Option Value} {base : Heap} {k : Nat} {f : Addr} {fd : FuncData} {ps : List Str} {G : Glo} {φ : List D → M D} (F : FnOk P w K mg base (L2.CX P w) k f fd ps (spD G φ 1)) :
    FnOk P w K mg base CX0 k f fd ps (spEnd G φ) := by
  refine ⟨fun vs H Q E h => F.len vs H Q (fun _ _ _ => False) h, fun A outer s H args us vs Q E hr he hb hv hs => ?_⟩
  refine codeAny_mono (F.run A outer s H args us vs Q (fun _ _ _ => False) hr he hb hv hs) fun r s' hq => ?_
  cases r with
  | error e =>
    obtain ⟨_, _, _, _, _, _, _, _, _, _, _, _, z⟩ := (show L2.CX P w outer H s (fun _ _ _ => False) e s' from hq)
    exact z.elim
  | ok fl => cases fl <;> exact hq
theorem law_start {K : PySem.W.Frag} {G : Glo} (hK : G.K = K) {φ : List D → M D} (h : ∀ ns : List Int, ns.length ≤ 63 → (φ [.scr ns] []).All (fun v _ => v = .bl true) fun _ _ _ => False) (H : Hp) (a : Addr) (ns : List Int) (hl : ns.length ≤ 63) (hS : SqL K H a (ns.map V.int)) :
    spEnd G φ [.ref a] H (fun v _ => v = .bl true) fun _ _ _ => False := by
  refine ⟨rfl, ⟨[], []⟩, [.scr ns], [], .cons (.scr ?_) .nil, ⟨rfl, fun i o h => by simp at h, by simp, by simp, by simp⟩, ?_⟩
  · rcases hS with h | h
    · exact .inl ⟨by simp, h⟩
    · exact .inr (hK ▸ h)
  · refine Tr.All_mono (fun v st hv μ' H' x g t r => ?_) (fun _ _ _ z => z.elim) _ (h ns hl)
    subst hv
    cases r
    rfl
/-! ### constants -/
def CstOk (mg : Str → Option Value) (G : Glo) (l : List (Str × D)) : Prop := ∀ x d, l.lookup x = some d → ∃ u v, mg x = some u ∧ RelV v u ∧ ∀ μ H, Rep G μ H d v
theorem CstOk.nil {mg : Str → Option Value} {G : Glo} : CstOk mg G [] := fun _ _ h => (by cases h)
theorem CstOk.cons {mg : Str → Option Value} {G : Glo} {l : List (Str × D)} {x : Str} {d : D} (h : ∃ u v, mg x = some u ∧ RelV v u ∧ ∀ μ H, Rep G μ H d v) (t : CstOk mg G l) : CstOk mg G ((x, d) :: l) := by
  intro y e hl
  rw [List.lookup_cons] at hl
  cases q : (y == x) with
  | true =>
    rw [q] at hl
    cases hl
    rw [beq_iff_eq.mp q]
    exact h
  | false =>
    rw [q] at hl
    exact t y e hl
theorem cst_int {mg : Str → Option Value} {G : Glo} {x : Str} {i : Int} (h : ∃ t, mg x = some (.int i t)) : ∃ u v, mg x = some u ∧ RelV v u ∧ ∀ μ H, Rep G μ H (.int i) v := by
  obtain ⟨t, e⟩ := h
  exact ⟨_, .int i, e, ⟨t, rfl⟩, fun _ _ => .int i⟩
theorem cst_str {mg : Str → Option Value} {G : Glo} {x : Str} {i : Str} (h : ∃ t, mg x = some (.str i t)) : ∃ u v, mg x = some u ∧ RelV v u ∧ ∀ μ H, Rep G μ H (.str i) v := by
  obtain ⟨t, e⟩ := h
  exact ⟨_, .str i, e, ⟨t, rfl⟩, fun _ _ => .str i⟩
def FreeOk (mg : Str → Option Value) (l : List Str) : Prop := ∀ x ∈ l, mg x = none
theorem FreeOk.nil {mg : Str → Option Value} : FreeOk mg [] := fun _ h => (by cases h)
theorem FreeOk.cons {mg : Str → Option Value} {l : List Str} {x : Str} (h : mg x = none) (t : FreeOk mg l) : FreeOk mg (x :: l) := fun y hy => by
  rcases List.mem_cons.mp hy with z | z
  · rw [z]; exact h
  · exact t y z
end Gw

set_option Elab.async false
set_option linter.all false
set_option maxRecDepth 100000
set_option maxHeartbeats 4000000
/-! Gw11: reckoning with the core. -/
namespace Gw
open PySem L2
section
variable {α β γ : Type}
@[simp] theorem andThen_ret (a : α) (f : α → M β) : andThen (ret a) f = f a := (rfl)
@[simp] theorem andThen_bad (f : α → M β) : andThen badM f = badM := (rfl)
@[simp] theorem optM_so (a : α) : optM (some a) = ret a := (rfl)
@[simp] theorem optM_no : optM (none : Option α) = badM := (rfl)
@[simp] theorem noXM_ret (a : α) : noXM (ret a) = ret a := (rfl)
@[simp] theorem ret_at (a : α) (s : Sto) : ret a s = .ok a s := (rfl)
@[simp] theorem andThen_at (m : M α) (f : α → M β) (s : Sto) : andThen m f s = (m s).bind f := (rfl)
@[simp] theorem bind_ok (a : α) (s : Sto) (f : α → M β) : (Tr.ok a s).bind f = f a s := (rfl)
@[simp] theorem bind_pick (n : Nat) (k : Nat → Tr α) (f : α → M β) : (Tr.pick n k).bind f = .pick n fun i => (k i).bind f := (rfl)
@[simp] theorem bind_ex (x : Str) (v : D) (s : Sto) (f : α → M β) : (Tr.ex x v s : Tr α).bind f = .ex x v s := (rfl)
@[simp] theorem bind_bad (f : α → M β) : (Tr.bad : Tr α).bind f = .bad := (rfl)
@[simp] theorem truthM_bl (b : Bool) : truthM (.bl b) = ret b := (rfl)
@[simp] theorem truthM_non : truthM .non = ret false := (rfl)
@[simp] theorem truthM_int (i : Int) : truthM (.int i) = ret (i != 0) := (rfl)
@[simp] theorem truthM_tup (xs : List D) : truthM (.tup xs) = ret (!xs.isEmpty) := (rfl)
@[simp] theorem truthM_lst (xs : List D) : truthM (.lst xs) = ret (!xs.isEmpty) := (rfl)
@[simp] theorem bi_eq (φ : List D → Option D) (ds : List D) : bi φ ds = optM (φ ds) := (rfl)
@[simp] theorem bin_add (a b : Int) : binD .Add (.int a) (.int b) = some (.int (a + b)) := (rfl)
@[simp] theorem bin_sub (a b : Int) : binD .Sub (.int a) (.int b) = some (.int (a - b)) := (rfl)
theorem bin_mul {a b : Int} (h : okMul a b = true) : binD .Mult (.int a) (.int b) = some (.int (a * b)) := if_pos h
theorem bin_fdiv {a b : Int} (h : okDiv b = true) : binD .FloorDiv (.int a) (.int b) = some (.int (a.fdiv b)) := if_pos h
theorem bin_mod {a b : Int} (h : b ≠ 0) : binD .Mod (.int a) (.int b) = some (.int (a.fmod b)) := if_pos (decide_eq_true h)
theorem bin_pow {a b : Int} (h : okPow a b = true) : binD .Pow (.int a) (.int b) = some (.int (a ^ b.toNat)) := if_pos h
theorem bin_tup {xs ys : List D} (h : xs.length + ys.length ≤ sizeLine) : binD .Add (.tup xs) (.tup ys) = some (.tup (xs ++ ys)) := if_pos (decide_eq_true h)
theorem bin_lst {xs ys : List D} (h : xs.length + ys.length ≤ sizeLine) : binD .Add (.lst xs) (.lst ys) = some (.lst (xs ++ ys)) := if_pos (decide_eq_true h)
@[simp] theorem neg_int (a : Int) : negD (.int a) = some (.int (-a)) := (rfl)
@[simp] theorem cmp_lt (a b : Int) : cmpD .Lt (.int a) (.int b) = some (.bl (decide (a < b))) := (rfl)
@[simp] theorem cmp_le (a b : Int) : cmpD .LtE (.int a) (.int b) = some (.bl (decide (a ≤ b))) := (rfl)
@[simp] theorem cmp_gt (a b : Int) : cmpD .Gt (.int a) (.int b) = some (.bl (decide (b < a))) := (rfl)
@[simp] theorem cmp_ge (a b : Int) : cmpD .GtE (.int a) (.int b) = some (.bl (decide (b ≤ a))) := (rfl)
@[simp] theorem cmp_isbl (a b : Bool) : cmpD .Is (.bl a) (.bl b) = some (.bl (decide (a = b))) := (rfl)
@[simp] theorem cmp_notbl (a b : Bool) : cmpD .IsNot (.bl a) (.bl b) = some (.bl (!decide (a = b))) := (rfl)
@[simp] theorem ixM_tup (xs : List D) (k : Int) : ixM (.tup xs) (.int k) = optM (atI xs k) := (rfl)
@[simp] theorem ixM_lst (xs : List D) (k : Int) : ixM (.lst xs) (.int k) = optM (atI xs k) := (rfl)
@[simp] theorem ixM_scr (xs : List Int) (k : Int) : ixM (.scr xs) (.int k) = optM ((atI xs k).map .int) := (rfl)
theorem ixM_ref {st : Sto} {i : Nat} {l : List D} (hi : i < st.length) (k : Int) : ixM (.ref i) (.int k) (st.set i (.lst l)) = optM (atI l k) (st.set i (.lst l)) := by
  unfold ixM
  congr 1
  show (match (st.set i (MO.lst l))[i]? with
    | some (.lst xs) => L2.atI xs k
    | _ => none) = _
  rw [List.getElem?_set_self hi]
theorem setStore_ref {st : Sto} {i : Nat} {l : List D} (hi : i < st.length) (k : Int) (d : D) : setStore (st.set i (.lst l)) (.ref i) (.int k) d = (ixN l.length k).map fun j => st.set i (.lst (l.set j d)) := by
  show (match (st.set i (MO.lst l))[i]? with
    | some (.lst xs) => (L2.ixN xs.length k).map fun j => (st.set i (MO.lst l)).set i (.lst (xs.set j d))
    | _ => none) = _
  rw [List.getElem?_set_self hi]
  simp only [List.set_set]
theorem ix_at_nat {xs : List D} {k : Nat} {d : D} (h : xs[k]? = some d) : ixD (.tup xs) (.int (k : Int)) = some d := atI_nat h
theorem lenOk_ok {xs : List D} (h : xs.length ≤ sizeLine) : lenOk xs = ret xs := if_pos h
end
theorem line_big : 1000000 ≤ sizeLine := by rw [sizeLine_eq]; decide
theorem okMul_l {a b : Int} (h : a.natAbs < 2 ^ 64) : okMul a b = true := by unfold okMul; rw [decide_eq_true h]; rfl
theorem okMul_r {a b : Int} (h : b.natAbs < 2 ^ 64) : okMul a b = true := by unfold okMul; rw [decide_eq_true h, Bool.or_true]; rfl
theorem okDiv_of {b : Int} (h : b ≠ 0) (h2 : b.natAbs.log2 < 9000) : okDiv b = true := by unfold okDiv; rw [decide_eq_true h, decide_eq_true h2]; rfl
theorem okDiv_small {b : Int} (h : b ≠ 0) (h2 : b.natAbs < 2 ^ 64) : okDiv b = true := okDiv_of h (by
  have := (Nat.log2_lt (by omega)).mpr h2
  omega)
theorem fmod_lt {a b : Int} (h : 0 < b) : 0 ≤ a.fmod b ∧ a.fmod b < b := ⟨Int.fmod_nonneg_of_pos a h, Int.fmod_lt_of_pos a h⟩
/-- the hat's core, the draw's -/
def cHat : S := (.seq (.asg (.nm 2) (.ite (.cmp .Lt (.var 1) (.call (bi lenD) (.cons (.var 0) .nil))) (.call (bi intD) (.cons (.ix (.var 0) (.var 1)) .nil)) (.bin .Add (.bin .Mult (.c (.int 311)) (.var 1)) (.c (.int 47))))) (.seq (.asg (.nm 3) (.bin .Mod (.call (bi intD) (.cons (.call (bi absD) (.cons (.var 2) .nil)) .nil)) (.bin .Pow (.bin .Pow (.c (.int 10)) (.c (.int 51))) (.c (.int 8))))) (.seq (.asg (.nm 4) (.call (bi intD) (.cons (.bin .Add (.bin .Add (.bin .Add (.bin .Mult (.bin .Mod (.var 3) (.c (.int 2305843009213693907))) (.c (.int 83))) (.bin .Mult (.c (.int 5261)) (.var 1))) (.bin .Mult (.c (.int 29)) (.call (bi intD) (.cons (.cmp .Lt (.var 2) (.c (.int 0))) .nil)))) (.c (.int 61))) .nil))) (.seq (.ret (.lstM (.cons (.call (bi maxD) (.cons (.c (.int 0)) (.cons (.bin .Sub (.var 3) (.bin .Pow (.c (.int 10)) (.c (.int 16)))) .nil))) (.cons (.bin .Mod (.var 4) (.c (.int 2305843009213693951))) (.cons (.c (.int 0)) .nil))))) .pass))))
def cUp : S := (.seq (.ifs (.cmp .Gt (.ix (.var 0) (.c (.int 0))) (.c (.int 0))) (.seq (.asg (.nm 2) (.bin .Mod (.call (bi intD) (.cons (.ix (.var 0) (.c (.int 0))) .nil)) (.var 1))) (.seq (.setix (.var 0) (.c (.int 0)) (.bin .FloorDiv (.ix (.var 0) (.c (.int 0))) (.var 1))) (.seq (.ret (.var 2)) .pass))) .pass) (.seq (.setix (.var 0) (.c (.int 2)) (.bin .Add (.ix (.var 0) (.c (.int 2))) (.c (.int 1)))) (.seq (.asg (.nm 3) (.bin .Mod (.call (bi intD) (.cons (.bin .Add (.ix (.var 0) (.c (.int 1))) (.bin .Mult (.c (.int 86028157)) (.ix (.var 0) (.c (.int 2))))) .nil)) (.c (.int 2305843009213693951)))) (.seq (.asg (.nm 4) (.bin .Add (.bin .Add (.bin .Mult (.bin .Mod (.call (bi intD) (.cons (.bin .Add (.bin .Mult (.var 3) (.var 3)) (.c (.int 67867967))) .nil)) (.c (.int 2305843009213693921))) (.c (.int 15485863))) (.var 3)) (.bin .Mult (.c (.int 19)) (.ix (.var 0) (.c (.int 2)))))) (.seq (.ret (.bin .Mod (.call (bi intD) (.cons (.bin .FloorDiv (.var 4) (.c (.int 65539))) .nil)) (.var 1))) .pass)))))
theorem okP1 : okPow 10 51 = true := by decide +kernel
theorem okP2 : okPow (10 ^ 51) 8 = true := by decide +kernel
theorem okP3 : okPow 10 16 = true := by decide +kernel
theorem atI_of {ns : List Int} {n : Int} (h0 : 0 ≤ n) (h : n < ns.length) : ∃ x, atI ns n = some x := by
  have hl : n.toNat < ns.length := by omega
  refine ⟨ns[n.toNat], ?_⟩
  have := atI_nat (xs := ns) (j := n.toNat) (List.getElem?_eq_getElem hl)
  rwa [show ((n.toNat : Nat) : Int) = n by omega] at this
theorem hat_law (c : S) (hc : c = cHat) (ns : List Int) (n : Int) (st : Sto) (h0 : 0 ≤ n) (h1 : n ≤ 1000) : ∃ g s k, HatOk g s k ∧ fnM 5 2 c [.scr ns, .int n] st = .ok (.ref st.length) (st ++ [.lst [.int g, .int s, .int k]]) := by
  subst hc
  have key : ∀ cell : Int, ∃ g s k, HatOk g s k ∧ andThen (ex (.seq (.asg (.nm 3) (.bin .Mod (.call (bi intD) (.cons (.call (bi absD) (.cons (.var 2) .nil)) .nil)) (.bin .Pow (.bin .Pow (.c (.int 10)) (.c (.int 51))) (.c (.int 8))))) (.seq (.asg (.nm 4) (.call (bi intD) (.cons (.bin .Add (.bin .Add (.bin .Add (.bin .Mult (.bin .Mod (.var 3) (.c (.int 2305843009213693907))) (.c (.int 83))) (.bin .Mult (.c (.int 5261)) (.var 1))) (.bin .Mult (.c (.int 29)) (.call (bi intD) (.cons (.cmp .Lt (.var 2) (.c (.int 0))) .nil)))) (.c (.int 61))) .nil))) (.seq (.ret (.lstM (.cons (.call (bi maxD) (.cons (.c (.int 0)) (.cons (.bin .Sub (.var 3) (.bin .Pow (.c (.int 10)) (.c (.int 16)))) .nil))) (.cons (.bin .Mod (.var 4) (.c (.int 2305843009213693951))) (.cons (.c (.int 0)) .nil))))) .pass))) [some (.scr ns), some (.int n), some (.int cell), none, none]) (fun r => endD r.1) st = .ok (.ref st.length) (st ++ [.lst [.int g, .int s, .int k]]) := by
    intro cell
    have e1 : (10 : Int) ^ Int.toNat 51 = 10 ^ 51 := rfl
    have e2 : ((10 : Int) ^ 51) ^ Int.toNat 8 = 10 ^ 408 := by decide +kernel
    have e3 : (10 : Int) ^ Int.toNat 16 = 10 ^ 16 := rfl
    have hp : (0 : Int) < 10 ^ 408 := by decide +kernel
    have hp2 : (10 : Int) ^ 408 < 2 ^ 1400 := by decide +kernel
    obtain ⟨m1, m2⟩ := fmod_lt (a := if cell < 0 then -cell else cell) hp
    generalize hgr : (if cell < 0 then -cell else cell).fmod (10 ^ 408) = gr at m1 m2
    obtain ⟨a1, a2⟩ := fmod_lt (a := gr) (b := 2305843009213693907) (by decide)
    have hm1 : okMul (gr.fmod 2305843009213693907) 83 = true := okMul_r (by decide)
    have hm2 : okMul 5261 n = true := okMul_l (by decide)
    have hm3 : ∀ z : Int, okMul 29 z = true := fun z => okMul_l (by decide)
    refine ⟨if gr - 10 ^ 16 > 0 then gr - 10 ^ 16 else 0, (gr.fmod 2305843009213693907 * 83 + 5261 * n + 29 * (if decide (cell < 0) = true then 1 else 0) + 61).fmod 2305843009213693951, 0, ?_, ?_⟩
    · obtain ⟨b1, b2⟩ := fmod_lt (a := gr.fmod 2305843009213693907 * 83 + 5261 * n + 29 * (if decide (cell < 0) = true then 1 else 0) + 61) (b := 2305843009213693951) (by decide)
      refine ⟨?_, ?_, b1, by omega⟩
      · split <;> omega
      · split <;> omega
    · simp only [ex, ev, evs, T.bind, andThen_ret, optM_so, List.getElem?_cons_succ, List.getElem?_cons_zero, Option.bind_some, id, bi_eq, bin_pow okP1, e1, bin_pow okP2, e2, bin_mod (show (10 : Int) ^ 408 ≠ 0 by decide +kernel), intD, absD, hgr, bin_mod (show (2305843009213693907 : Int) ≠ 0 by decide), bin_mul hm1, bin_mul hm2, bin_mul (hm3 _), maxD, bin_pow okP3, e3,
        bin_mod (show (2305843009213693951 : Int) ≠ 0 by decide), endD, List.set_cons_succ, List.set_cons_zero, bin_add, bin_sub, cmp_lt]
      rw [lenOk_ok (Nat.le_trans (by decide : 3 ≤ 1000000) line_big)]
      rfl
  have hm0 : okMul 311 n = true := okMul_l (by decide)
  by_cases hlt : n < ns.length
  · obtain ⟨x, hx⟩ := atI_of h0 hlt
    obtain ⟨g, s, k, hk, e⟩ := key x
    refine ⟨g, s, k, hk, ?_⟩
    rw [← e]
    unfold fnM cHat
    rw [if_pos (show [D.scr ns, D.int n].length = 2 from rfl)]
    show andThen (ex (.seq (.asg (.nm 2) _) _) [some (.scr ns), some (.int n), none, none, none]) _ st = _
    rw [show ∀ (a b : S) (e : Ev), ex (.seq a b) e = andThen (ex a e) fun r => match r.1 with | .nx => ex b r.2 | f => ret (f, r.2) from fun _ _ _ => rfl]
    have e0 : ex (.asg (.nm 2) (.ite (.cmp .Lt (.var 1) (.call (bi lenD) (.cons (.var 0) .nil))) (.call (bi intD) (.cons (.ix (.var 0) (.var 1)) .nil)) (.bin .Add (.bin .Mult (.c (.int 311)) (.var 1)) (.c (.int 47))))) [some (.scr ns), some (.int n), none, none, none] = ret (.nx, [some (.scr ns), some (.int n), some (.int x), none, none]) := by
      simp only [ex, ev, evs, T.bind, andThen_ret, optM_so, List.getElem?_cons_succ, List.getElem?_cons_zero, Option.bind_some, id, bi_eq, lenD, cmp_lt, truthM_bl, decide_eq_true hlt, if_true, ixM_scr, hx, Option.map_some, intD, List.set_cons_succ, List.set_cons_zero]
    rw [e0, andThen_ret]
  · obtain ⟨g, s, k, hk, e⟩ := key (311 * n + 47)
    refine ⟨g, s, k, hk, ?_⟩
    rw [← e]
    unfold fnM cHat
    rw [if_pos (show [D.scr ns, D.int n].length = 2 from rfl)]
    show andThen (ex (.seq (.asg (.nm 2) _) _) [some (.scr ns), some (.int n), none, none, none]) _ st = _
    rw [show ∀ (a b : S) (e : Ev), ex (.seq a b) e = andThen (ex a e) fun r => match r.1 with | .nx => ex b r.2 | f => ret (f, r.2) from fun _ _ _ => rfl]
    have e0 : ex (.asg (.nm 2) (.ite (.cmp .Lt (.var 1) (.call (bi lenD) (.cons (.var 0) .nil))) (.call (bi intD) (.cons (.ix (.var 0) (.var 1)) .nil)) (.bin .Add (.bin .Mult (.c (.int 311)) (.var 1)) (.c (.int 47))))) [some (.scr ns), some (.int n), none, none, none] = ret (.nx, [some (.scr ns), some (.int n), some (.int (311 * n + 47)), none, none]) := by
      simp only [ex, ev, evs, T.bind, andThen_ret, optM_so, List.getElem?_cons_succ, List.getElem?_cons_zero, Option.bind_some, id, bi_eq, lenD, cmp_lt, truthM_bl, decide_eq_false hlt, Bool.false_eq_true, if_false, bin_mul hm0, bin_add, List.set_cons_succ, List.set_cons_zero]
    rw [e0, andThen_ret]
theorem hat_len {ds : List D} {st : Sto} {P : D → Sto → Prop} {E : Str → D → Sto → Prop} (h : (mHat ds st).All P E) : ds.length = 2 := by
  revert h
  unfold mHat
  split
  · exact fun _ => rfl
  · exact fun h => False.elim h
theorem draw_len {ds : List D} {st : Sto} {P : D → Sto → Prop} {E : Str → D → Sto → Prop} (h : (mDraw ds st).All P E) : ds.length = 2 := by
  revert h
  unfold mDraw
  split
  · exact fun _ => rfl
  · exact fun h => False.elim h
theorem up_law (c : S) (hc : c = cUp) (i : Nat) (n : Int) (st : Sto) (g s k : Int) (hi : i < st.length) (h0 : 0 < n) (hn : n.natAbs.log2 < 9000) (hk : HatOk g s k) :
    ∃ j g' s' k', 0 ≤ j ∧ j < n ∧ HatOk g' s' k' ∧ fnM 5 2 c [.ref i, .int n] (st.set i (.lst [.int g, .int s, .int k])) = .ok (.int j) (st.set i (.lst [.int g', .int s', .int k'])) := by
  subst hc
  obtain ⟨g0, g1, s0, s1⟩ := hk
  have h0' : ∀ a b c : D, ixM (.ref i) (.int 0) (st.set i (.lst [a, b, c])) = .ok a (st.set i (.lst [a, b, c])) := fun a b c => by rw [ixM_ref hi]; rfl
  have h1' : ∀ a b c : D, ixM (.ref i) (.int 1) (st.set i (.lst [a, b, c])) = .ok b (st.set i (.lst [a, b, c])) := fun a b c => by rw [ixM_ref hi]; rfl
  have h2' : ∀ a b c : D, ixM (.ref i) (.int 2) (st.set i (.lst [a, b, c])) = .ok c (st.set i (.lst [a, b, c])) := fun a b c => by rw [ixM_ref hi]; rfl
  have u0 : ∀ a b c d : D, setStore (st.set i (.lst [a, b, c])) (.ref i) (.int 0) d = some (st.set i (.lst [d, b, c])) := fun a b c d => by rw [setStore_ref hi]; rfl
  have u2 : ∀ a b c d : D, setStore (st.set i (.lst [a, b, c])) (.ref i) (.int 2) d = some (st.set i (.lst [a, b, d])) := fun a b c d => by rw [setStore_ref hi]; rfl
  have hn0 : n ≠ 0 := by omega
  have hd := okDiv_of hn0 hn
  obtain ⟨m1, m2⟩ := fmod_lt (a := g) h0
  by_cases hg : 0 < g
  · refine ⟨g.fmod n, g.fdiv n, s, k, m1, m2, ⟨?_, ?_, s0, s1⟩, ?_⟩
    · rw [Int.fdiv_eq_ediv_of_nonneg _ (by omega)]; exact Int.ediv_nonneg g0 (by omega)
    · rw [Int.fdiv_eq_ediv_of_nonneg _ (by omega)]
      exact Int.lt_of_le_of_lt (Int.ediv_le_self _ g0) g1
    · unfold fnM cUp
      rw [if_pos (show [D.ref i, D.int n].length = 2 from rfl)]
      show andThen (ex _ [some (.ref i), some (.int n), none, none, none]) _ _ = _
      simp only [ex, ev, evs, T.bind, andThen_ret, optM_so, List.getElem?_cons_succ, List.getElem?_cons_zero, Option.bind_some, id, bi_eq, andThen_at, ret_at, bind_ok, h0', h1', h2', u0, u2, cmp_gt, truthM_bl, decide_eq_true hg, if_true, intD, bin_mod hn0, bin_fdiv hd, List.set_cons_succ, List.set_cons_zero, endD]
  · obtain ⟨b1, b2⟩ := fmod_lt (a := s + 86028157 * (k + 1)) (b := 2305843009213693951) (by decide)
    generalize hv : (s + 86028157 * (k + 1)).fmod 2305843009213693951 = v at b1 b2
    generalize hw : ((v * v + 67867967).fmod 2305843009213693921 * 15485863 + v + 19 * (k + 1)).fdiv 65539 = w
    obtain ⟨m1, m2⟩ := fmod_lt (a := w) h0
    refine ⟨w.fmod n, g, s, k + 1, m1, m2, ⟨g0, g1, s0, s1⟩, ?_⟩
    have o1 : okMul 86028157 (k + 1) = true := okMul_l (by decide)
    have o2 : okMul v v = true := okMul_l (by omega)
    have o3 : ∀ z, okMul z 15485863 = true := fun z => okMul_r (by decide)
    have o4 : okMul 19 (k + 1) = true := okMul_l (by decide)
    have o5 : okDiv 65539 = true := okDiv_small (by decide) (by decide)
    unfold fnM cUp
    rw [if_pos (show [D.ref i, D.int n].length = 2 from rfl)]
    show andThen (ex _ [some (.ref i), some (.int n), none, none, none]) _ _ = _
    simp only [ex, ev, evs, T.bind, andThen_ret, optM_so, List.getElem?_cons_succ, List.getElem?_cons_zero, Option.bind_some, id, bi_eq, andThen_at, ret_at, bind_ok, h0', h1', h2', u0, u2, cmp_gt, truthM_bl, decide_eq_false hg, Bool.false_eq_true, if_false, intD, bin_mod hn0, bin_add, bin_mul o1, hv,
      bin_mod (show (2305843009213693951 : Int) ≠ 0 by decide), bin_mul o2, bin_mod (show (2305843009213693921 : Int) ≠ 0 by decide), bin_mul (o3 _), bin_mul o4, bin_fdiv o5, hw, List.set_cons_succ, List.set_cons_zero, endD]
end Gw

set_option Elab.async false
set_option linter.all false
set_option maxRecDepth 100000
set_option maxHeartbeats 4000000
/-! Gw12: reckoning with the core, step by step. -/
namespace Gw
open PySem L2
section
variable {α β γ : Type}
theorem Tr.bind_assoc {f : α → Sto → Tr β} {g : β → Sto → Tr γ} : ∀ t : Tr α, (t.bind f).bind g = t.bind fun a s => (f a s).bind g
  | .ok a s => rfl
  | .ex x v s => rfl
  | .pick n k => by
    show Tr.pick n _ = Tr.pick n _
    congr 1
    funext i
    exact Tr.bind_assoc (k i)
  | .bad => rfl
theorem andThen_assoc (m : M α) (f : α → M β) (g : β → M γ) : andThen (andThen m f) g = andThen m fun x => andThen (f x) g := by
  funext s
  exact Tr.bind_assoc (m s)
def slotM (o : Option (Option D)) : M D := optM (o.bind id)
theorem slotM_so (d : D) : slotM (some (some d)) = ret d := (rfl)
def nxt (b : S) : Fl × Ev → M (Fl × Ev) := fun r => match r.1 with
  | .nx => ex b r.2
  | f => ret (f, r.2)
theorem ex_seq (a b : S) (e : Ev) : ex (.seq a b) e = andThen (ex a e) (nxt b) := (rfl)
theorem nxt_nx (b : S) (e : Ev) : nxt b (.nx, e) = ex b e := (rfl)
theorem nxt_rt (b : S) (d : D) (e : Ev) : nxt b (.rt d, e) = ret (.rt d, e) := (rfl)
theorem nxt_ct (b : S) (e : Ev) : nxt b (.ct, e) = ret (.ct, e) := (rfl)
theorem nxt_bk (b : S) (e : Ev) : nxt b (.bk, e) = ret (.bk, e) := (rfl)
def brn (t u : S) (e : Ev) (x : D) : M (Fl × Ev) := andThen (truthM x) fun k => if k = true then ex t e else ex u e
theorem ex_ifs (c : E) (t u : S) (e : Ev) : ex (.ifs c t u) e = andThen (ev c e) (brn t u e) := (rfl)
theorem brn_t (t u : S) (e : Ev) : brn t u e (.bl true) = ex t e := (rfl)
theorem brn_f (t u : S) (e : Ev) : brn t u e (.bl false) = ex u e := (rfl)
theorem brn_b (t u : S) (e : Ev) (b : Bool) : brn t u e (.bl b) = if b = true then ex t e else ex u e := (rfl)
theorem ex_pass (e : Ev) : ex .pass e = ret (.nx, e) := (rfl)
theorem ex_brk (e : Ev) : ex .brk e = ret (.bk, e) := (rfl)
theorem ex_cnt (e : Ev) : ex .cnt e = ret (.ct, e) := (rfl)
theorem ex_ret (a : E) (e : Ev) : ex (.ret a) e = andThen (ev a e) fun x => ret (.rt x, e) := (rfl)
theorem ex_expr (a : E) (e : Ev) : ex (.expr a) e = andThen (ev a e) fun _ => ret (.nx, e) := (rfl)
def bndM (o : Option Ev) : M (Fl × Ev) := match o with
  | some e => ret (.nx, e)
  | none => badM
theorem bndM_so (e : Ev) : bndM (some e) = ret (.nx, e) := (rfl)
theorem ex_asg (g : T) (a : E) (e : Ev) : ex (.asg g a) e = andThen (ev a e) fun x => bndM (g.bind x e) := (rfl)
theorem ex_par (i j : Nat) (a b : E) (e : Ev) : ex (.par i j a b) e = andThen (ev a e) fun x => andThen (ev b e) fun y => ret (.nx, (e.set i (some x)).set j (some y)) := (rfl)
theorem ex_aug (i : Nat) (o : Operator) (a : E) (e : Ev) : ex (.aug i o a) e = andThen (slotM (e[i]?)) fun x => andThen (ev a e) fun y => andThen (optM (augD o x y)) fun z => ret (.nx, e.set i (some z)) := (rfl)
theorem ex_for (g : T) (it : E) (b : S) (e : Ev) : ex (.for_ g it b) e = andThen (evs it e) fun xs => forGo g (ex b) xs e := (rfl)
theorem endD_nx : endD .nx = ret .non := (rfl)
theorem endD_rt (d : D) : endD (.rt d) = ret d := (rfl)
theorem bind_nm (i : Nat) (d : D) (e : Ev) : (T.nm i).bind d e = some (e.set i (some d)) := (rfl)
theorem bind_nil (e : Ev) : T.nil.bind (.tup []) e = some e := (rfl)
theorem bind_cons (t ts : T) (x : D) (xs : List D) (e : Ev) : (T.cons t ts).bind (.tup (x :: xs)) e = (t.bind x e).bind fun e' => ts.bind (.tup xs) e' := (rfl)
/-! expressions -/
theorem ev_var (i : Nat) (e : Ev) : ev (.var i) e = slotM (e[i]?) := (rfl)
theorem ev_c (d : D) (e : Ev) : ev (.c d) e = ret d := (rfl)
theorem ev_bin (o : Operator) (a b : E) (e : Ev) : ev (.bin o a b) e = andThen (ev a e) fun x => andThen (ev b e) fun y => optM (binD o x y) := (rfl)
theorem ev_neg (a : E) (e : Ev) : ev (.neg a) e = andThen (ev a e) fun x => optM (negD x) := (rfl)
theorem ev_cmp (o : CmpOp) (a b : E) (e : Ev) : ev (.cmp o a b) e = andThen (ev a e) fun x => andThen (ev b e) fun y => optM (cmpD o x y) := (rfl)
def chn (p : CmpOp) (c : E) (e : Ev) (y z : D) : M D := match z with
  | .bl true => andThen (ev c e) fun w => optM (cmpD p y w)
  | .bl false => ret (.bl false)
  | _ => badM
theorem chn_t (p : CmpOp) (c : E) (e : Ev) (y : D) : chn p c e y (.bl true) = andThen (ev c e) fun w => optM (cmpD p y w) := (rfl)
theorem chn_f (p : CmpOp) (c : E) (e : Ev) (y : D) : chn p c e y (.bl false) = ret (.bl false) := (rfl)
theorem ev_chain (o p : CmpOp) (a b c : E) (e : Ev) : ev (.chain o p a b c) e = andThen (ev a e) fun x => andThen (ev b e) fun y => andThen (optM (cmpD o x y)) (chn p c e y) := (rfl)
def andC (b : E) (e : Ev) (x : D) : M D := andThen (truthM x) fun t => if t = true then ev b e else ret x
def orC (b : E) (e : Ev) (x : D) : M D := andThen (truthM x) fun t => if t = true then ret x else ev b e
def iteC (a b : E) (e : Ev) (x : D) : M D := andThen (truthM x) fun t => if t = true then ev a e else ev b e
theorem ev_and (a b : E) (e : Ev) : ev (.and_ a b) e = andThen (ev a e) (andC b e) := (rfl)
theorem ev_or (a b : E) (e : Ev) : ev (.or_ a b) e = andThen (ev a e) (orC b e) := (rfl)
theorem ev_ite (c a b : E) (e : Ev) : ev (.ite c a b) e = andThen (ev c e) (iteC a b e) := (rfl)
theorem and_t (b : E) (e : Ev) : andC b e (.bl true) = ev b e := (rfl)
theorem and_f (b : E) (e : Ev) : andC b e (.bl false) = ret (.bl false) := (rfl)
theorem or_t (b : E) (e : Ev) : orC b e (.bl true) = ret (.bl true) := (rfl)
theorem or_f (b : E) (e : Ev) : orC b e (.bl false) = ev b e := (rfl)
theorem ite_t (a b : E) (e : Ev) : iteC a b e (.bl true) = ev a e := (rfl)
theorem ite_f (a b : E) (e : Ev) : iteC a b e (.bl false) = ev b e := (rfl)
theorem ev_not (a : E) (e : Ev) : ev (.not_ a) e = andThen (ev a e) fun x => andThen (truthM x) fun t => ret (.bl (!t)) := (rfl)
theorem ev_tup (es : E) (e : Ev) : ev (.tup es) e = andThen (evs es e) fun xs => andThen (lenOk xs) fun xs => ret (.tup xs) := (rfl)
theorem ev_lst (es : E) (e : Ev) : ev (.lst es) e = andThen (evs es e) fun xs => andThen (lenOk xs) fun xs => ret (.lst xs) := (rfl)
theorem ev_ix (a i : E) (e : Ev) : ev (.ix a i) e = andThen (ev a e) fun x => andThen (ev i e) fun k => ixM x k := (rfl)
theorem ev_sl (a l h : E) (e : Ev) : ev (.sl a l h) e = andThen (ev a e) fun x => andThen (ev l e) fun l => andThen (ev h e) fun h => optM (slD x l h) := (rfl)
def intM : D → M D
  | .int i => ret (.int i)
  | _ => badM
theorem intM_int (i : Int) : intM (.int i) = ret (.int i) := (rfl)
theorem ev_int (a : E) (e : Ev) : ev (.int_ a) e = andThen (ev a e) intM := (rfl)
def lcF (own : List Nat) (g : T) (cnd elt : E) (e : Ev) (x : D) : M (Option D) := match g.bind x (wipeE e own) with
  | none => badM
  | some e' => andThen (noXM (andThen (ev cnd e') truthM)) fun t => if t = true then andThen (noXM (ev elt e')) fun y => ret (some y) else ret none
theorem ev_lc (own : List Nat) (g : T) (it cnd elt : E) (e : Ev) : ev (.lc own g it cnd elt) e = andThen (evs it e) fun xs => andThen (lcGo (lcF own g cnd elt e) [] xs) fun ys => ret (.lst ys) := (rfl)
theorem ev_call (f : List D → M D) (es : E) (e : Ev) : ev (.call f es) e = andThen (evs es e) f := (rfl)
theorem evs_nil (e : Ev) : evs .nil e = ret [] := (rfl)
theorem evs_cons (a es : E) (e : Ev) : evs (.cons a es) e = andThen (ev a e) fun x => andThen (evs es e) fun xs => ret (x :: xs) := (rfl)
theorem evs_star (a es : E) (e : Ev) : evs (.star a es) e = andThen (ev a e) fun x => andThen (optM (itemsD x)) fun ys => andThen (evs es e) fun xs => ret (ys ++ xs) := (rfl)
theorem evs_it1 (a : E) (e : Ev) : evs (.it1 a) e = andThen (ev a e) fun x => optM (itemsD x) := (rfl)
theorem evs_rng1 (a : E) (e : Ev) : evs (.rng1 a) e = andThen (ev a e) fun x => optM (rngD [x]) := (rfl)
theorem evs_rng2 (a b : E) (e : Ev) : evs (.rng2 a b) e = andThen (ev a e) fun x => andThen (ev b e) fun y => optM (rngD [x, y]) := (rfl)
theorem evs_zip (a b : E) (e : Ev) : evs (.zip a b) e = andThen (ev a e) fun x => andThen (ev b e) fun y => optM (zipD [x, y]) := (rfl)
theorem evs_enum (a : E) (e : Ev) : evs (.enum a) e = andThen (ev a e) fun x => optM (enumD [x]) := (rfl)
/-! sizes -/
theorem lenOk_small {xs : List D} (h : xs.length ≤ 1000000) : lenOk xs = ret xs := lenOk_ok (Nat.le_trans h line_big)
theorem lenOk0 : lenOk [] = ret [] := lenOk_small (Nat.zero_le _)
theorem lenOk1 (a : D) : lenOk [a] = ret [a] := lenOk_small (by show 1 ≤ _; decide)
theorem lenOk2 (a b : D) : lenOk [a, b] = ret [a, b] := lenOk_small (by show 2 ≤ _; decide)
theorem lenOk3 (a b c : D) : lenOk [a, b, c] = ret [a, b, c] := lenOk_small (by show 3 ≤ _; decide)
/-- a walk without effect -/
theorem lcGo_map {f : D → M (Option D)} {g : D → D} : ∀ (xs acc : List D), (∀ x ∈ xs, f x = ret (some (g x))) → acc.length + xs.length ≤ sizeLine → lcGo f acc xs = ret (acc ++ xs.map g)
  | [], acc, _, _ => by simp [lcGo]
  | x :: xs, acc, h, hl => by
    have hl2 : acc.length < sizeLine := by
      rw [List.length_cons] at hl
      omega
    show andThen (f x) _ = _
    rw [h x (List.mem_cons_self), andThen_ret]
    show (if acc.length < sizeLine then lcGo f (acc ++ [g x]) xs else badM) = _
    rw [if_pos hl2, lcGo_map xs (acc ++ [g x]) (fun y hy => h y (List.mem_cons_of_mem _ hy)) (by
      rw [List.length_append, List.length_cons, List.length_nil]
      rw [List.length_cons] at hl
      omega), List.append_assoc]
    rfl
theorem fn1 (n : Nat) (b : S) (x : D) : fnM n 1 b [x] = andThen (ex b (startE n [x])) fun r => endD r.1 := (rfl)
theorem fn2 (n : Nat) (b : S) (x y : D) : fnM n 2 b [x, y] = andThen (ex b (startE n [x, y])) fun r => endD r.1 := (rfl)
theorem fn3 (n : Nat) (b : S) (x y z : D) : fnM n 3 b [x, y, z] = andThen (ex b (startE n [x, y, z])) fun r => endD r.1 := (rfl)
theorem fn4 (n : Nat) (b : S) (x y z w : D) : fnM n 4 b [x, y, z, w] = andThen (ex b (startE n [x, y, z, w])) fun r => endD r.1 := (rfl)
/-! comparisons -/
theorem beq_dec (a b : Int) : (a == b) = decide (a = b) := by
  by_cases h : a = b
  · rw [decide_eq_true h, beq_iff_eq]; exact h
  · rw [decide_eq_false h]; exact beq_eq_false_iff_ne.mpr h
theorem eqv_int (a b : Int) : D.eq? (.int a) (.int b) = some (decide (a = b)) := by
  have : D.eq? (.int a) (.int b) = some (PyData.eqv (.int a) (.int b)) := rfl
  rw [this]
  simp [PyData.eqv, beq_dec]
theorem cmp_eq_int (a b : Int) : cmpD .Eq (.int a) (.int b) = some (.bl (decide (a = b))) := by
  unfold cmpD
  simp only [eqv_int, Option.map_some]
theorem cmp_ne_int (a b : Int) : cmpD .NotEq (.int a) (.int b) = some (.bl (!decide (a = b))) := by
  unfold cmpD
  simp only [eqv_int, Option.map_some]
theorem cmp_eq_bl (a b : Bool) : cmpD .Eq (.bl a) (.bl b) = some (.bl (decide (a = b))) := by cases a <;> cases b <;> rfl
theorem cmp_ne_bl (a b : Bool) : cmpD .NotEq (.bl a) (.bl b) = some (.bl (!decide (a = b))) := by cases a <;> cases b <;> rfl
theorem abs_eq (x : Int) : (if x < 0 then -x else x) = (x.natAbs : Int) := by split <;> omega
theorem absD_int (i : Int) : absD [.int i] = some (.int (i.natAbs : Int)) := by
  show some (D.int (if i < 0 then -i else i)) = _
  rw [abs_eq]
theorem intD_int (i : Int) : intD [.int i] = some (.int i) := (rfl)
theorem lenD_tup (xs : List D) : lenD [.tup xs] = some (.int (xs.length : Nat)) := (rfl)
theorem lenD_lst (xs : List D) : lenD [.lst xs] = some (.int (xs.length : Nat)) := (rfl)
theorem lenD_scr (xs : List Int) : lenD [.scr xs] = some (.int (xs.length : Nat)) := (rfl)
theorem items_tup (xs : List D) : itemsD (.tup xs) = some xs := (rfl)
theorem items_lst (xs : List D) : itemsD (.lst xs) = some xs := (rfl)
theorem tupD_lst (xs : List D) : tupleD [.lst xs] = some (.tup xs) := (rfl)
theorem tupD_tup (xs : List D) : tupleD [.tup xs] = some (.tup xs) := (rfl)
/-- every way ends well -/
structure OkM {α : Type} (m : M α) (st : Sto) (P : α → Sto → Prop) (E : Str → D → Sto → Prop) : Prop where
  all : (m st).All P E
section
variable {α : Type} {P : α → Sto → Prop} {E : Str → D → Sto → Prop} {st : Sto}
theorem OkM.ret {a : α} (h : P a st) : OkM (ret a) st P E := ⟨h⟩
theorem OkM.mono {P' : α → Sto → Prop} {E' : Str → D → Sto → Prop} {m : M α} (h : OkM m st P E) (hP : ∀ a s, P a s → P' a s) (hE : ∀ x v s, E x v s → E' x v s) : OkM m st P' E' := ⟨Tr.All_mono hP hE _ h.all⟩
theorem OkM.then {γ : Type} {m : M γ} {f : γ → M α} (h : OkM m st (fun a s => OkM (f a) s P E) E) : OkM (andThen m f) st P E :=
  ⟨(Tr.All_bind _).mpr (Tr.All_mono (fun _ _ z => z.all) (fun _ _ _ z => z) _ h.all)⟩
end
/-! loops -/
/-- a for's turns keep what is said -/
theorem forGo_all {g : T} {b : Ev → M (Fl × Ev)} {I : Ev → Sto → Prop} {P : Fl × Ev → Sto → Prop} {E : Str → D → Sto → Prop} : ∀ (xs : List D) (e : Ev) (st : Sto),
    (∀ x ∈ xs, ∀ e st, I e st → ∃ e', g.bind x e = some e' ∧ OkM (b e') st (fun r st' => match r.1 with
      | .nx => I r.2 st'
      | .ct => I r.2 st'
      | .bk => P (.nx, r.2) st'
      | .rt d => P (.rt d, r.2) st') E) → (∀ e st, I e st → P (.nx, e) st) → I e st → OkM (forGo g b xs e) st P E
  | [], e, st, _, hP, hI => ⟨hP e st hI⟩
  | x :: xs, e, st, h, hP, hI => by
    obtain ⟨e', h1, h2⟩ := h x (List.mem_cons_self) e st hI
    unfold forGo
    rw [h1]
    refine OkM.then (OkM.mono h2 (fun r st' hr => ?_) (fun _ _ _ z => z))
    obtain ⟨fl, e2⟩ := r
    cases fl with
    | nx => exact forGo_all xs e2 st' (fun y hy => h y (List.mem_cons_of_mem _ hy)) hP hr
    | ct => exact forGo_all xs e2 st' (fun y hy => h y (List.mem_cons_of_mem _ hy)) hP hr
    | bk => exact ⟨hr⟩
    | rt d => exact ⟨hr⟩
theorem forGo_nil (g : T) (b : Ev → M (Fl × Ev)) (e : Ev) : forGo g b [] e = ret (.nx, e) := (rfl)
def forK (g : T) (b : Ev → M (Fl × Ev)) (xs : List D) (r : Fl × Ev) : M (Fl × Ev) := match r.1 with
  | .nx => forGo g b xs r.2
  | .ct => forGo g b xs r.2
  | .bk => ret (.nx, r.2)
  | .rt d => ret (.rt d, r.2)
theorem forGo_cons {g : T} {b : Ev → M (Fl × Ev)} {x : D} {xs : List D} {e e' : Ev} (h : g.bind x e = some e') : forGo g b (x :: xs) e = andThen (b e') (forK g b xs) := by
  show (match g.bind x e with
    | none => badM
    | some e' => andThen (b e') (forK g b xs)) = _
  rw [h]
/-- every turn goes on, with no effect but on the slots -/
theorem forGo_ret {g : T} {b : Ev → M (Fl × Ev)} {I : Ev → Prop} : ∀ (xs : List D) (e : Ev), (∀ x ∈ xs, ∀ e, I e → ∃ e' e2, g.bind x e = some e' ∧ b e' = ret (.nx, e2) ∧ I e2) → I e → ∃ e2, I e2 ∧ forGo g b xs e = ret (.nx, e2)
  | [], e, _, hI => ⟨e, hI, rfl⟩
  | x :: xs, e, h, hI => by
    obtain ⟨e', e2, h1, h2, h3⟩ := h x (List.mem_cons_self) e hI
    obtain ⟨e3, h4, h5⟩ := forGo_ret xs e2 (fun y hy => h y (List.mem_cons_of_mem _ hy)) h3
    refine ⟨e3, h4, ?_⟩
    rw [forGo_cons h1, h2, andThen_ret]
    exact h5
def whlB (c : Ev → M Bool) (b : Ev → M (Fl × Ev)) (n : Nat) (e : Ev) (t : Bool) : M (Fl × Ev) := if t = true then andThen (b e) (fun r => match r.1 with
      | .nx => whlGo c b n r.2
      | .ct => whlGo c b n r.2
      | .bk => Gw.ret (.nx, r.2)
      | .rt d => Gw.ret (.rt d, r.2)) else ret (.nx, e)
theorem whl_stop {c : Ev → M Bool} {b : Ev → M (Fl × Ev)} {n : Nat} {e : Ev} (h : c e = ret false) : whlGo c b (n + 1) e = ret (.nx, e) := by
  show andThen (c e) _ = _
  rw [h]
  rfl
theorem whl_go {c : Ev → M Bool} {b : Ev → M (Fl × Ev)} {n : Nat} {e e' : Ev} (h : c e = ret true) (h2 : b e = ret (.nx, e')) : whlGo c b (n + 1) e = whlGo c b n e' := by
  show andThen (c e) _ = _
  rw [h, andThen_ret]
  show andThen (b e) _ = _
  rw [h2]
  rfl
theorem ex_whl (n : Nat) (c : E) (b : S) (e : Ev) : ex (.whl n c b) e = whlGo (fun e => andThen (ev c e) truthM) (ex b) n e := (rfl)
theorem range_mem {a b : Int} {x : D} (h : x ∈ rangeD a b) : ∃ k : Int, x = .int k ∧ a ≤ k ∧ k < b := by
  unfold rangeD at h
  obtain ⟨j, h1, rfl⟩ := List.mem_map.mp h
  have := List.mem_range.mp h1
  exact ⟨_, rfl, by omega, by omega⟩
theorem rng1_ok {b : Int} (h : 0 ≤ b) (h2 : b < 1000000) : rngD [.int b] = some (rangeD 0 b) := if_pos (by
  unfold okRng
  simp only [Bool.and_eq_true, decide_eq_true_eq]
  omega)
theorem rng2_ok {a b : Int} (h : -1000000 ≤ a) (h1 : a < 1000000) (h2 : b < 1000000) (h3 : -1000000 ≤ b) : rngD [.int a, .int b] = some (rangeD a b) := if_pos (by
  unfold okRng
  simp only [Bool.and_eq_true, decide_eq_true_eq]
  omega)
/-! draws -/
section
variable {P : β → Sto → Prop} {E : Str → D → Sto → Prop} {st : Sto} {i : Nat}
theorem draw_all {n : Int} {f : D → M β} (hs : st[i]? = some .hat) (h0 : 0 < n) (h1 : n.natAbs < 2 ^ 64) (h : ∀ k : Nat, (k : Int) < n → OkM (f (.int k)) st P E) : OkM (andThen (mDraw [.ref i, .int n]) f) st P E := by
  have h2 : n.natAbs.log2 < 9000 := by
    have := (Nat.log2_lt (by omega)).mpr h1
    omega
  have e : mDraw [.ref i, .int n] st = .pick n.toNat fun k => .ok (.int (k : Nat)) st := by
    show (if n.natAbs.log2 < 9000 then mUp [.ref i, .int n] st else Tr.bad) = _
    rw [if_pos h2]
    show (match st[i]? with
      | some .hat => if 0 < n then (Tr.pick n.toNat fun k => Tr.ok (.int (k : Nat)) st : Tr D) else Tr.bad
      | _ => Tr.bad) = _
    rw [hs]
    exact if_pos h0
  refine ⟨?_⟩
  rw [andThen_at, e]
  exact fun k hk => (h k (by omega)).all
theorem hat_all {ns : List Int} {k : Int} {f : D → M β} (h0 : 0 ≤ k) (h1 : k ≤ 1000) (h : OkM (f (.ref st.length)) (st ++ [.hat]) P E) : OkM (andThen (mHat [.scr ns, .int k]) f) st P E := by
  have e : mHat [.scr ns, .int k] st = .ok (.ref st.length) (st ++ [.hat]) := if_pos ⟨h0, h1⟩
  refine ⟨?_⟩
  rw [andThen_at, e]
  exact h.all
def cOut : S := (.seq (.ret (.ix (.var 1) (.call mDraw (.cons (.var 0) (.cons (.call (bi lenD) (.cons (.var 1) .nil)) .nil))))) .pass)
def mOut : List D → M D := fnM 2 2 cOut
theorem out_lst (i : Nat) (xs : List D) : mOut [.ref i, .lst xs] = andThen (mDraw [.ref i, .int xs.length]) fun k => ixM (.lst xs) k := by
  show andThen (ex cOut [some (.ref i), some (.lst xs)]) _ = _
  unfold cOut
  simp only [ex_seq, ex_ret, ev_ix, ev_var, ev_call, evs_cons, evs_nil, bi_eq, lenD, andThen_ret, andThen_assoc, optM_so, List.getElem?_cons_succ, List.getElem?_cons_zero, slotM_so, nxt_rt, endD_rt]
  congr 1
  funext k
  funext s
  show (ixM (.lst xs) k s).bind _ = _
  cases ixM (.lst xs) k s <;> first | rfl | skip
  rename_i n t
  show Tr.pick n _ = _
  congr 1
  funext j
  have : ∀ t : Tr D, t.bind (fun d s => Tr.ok d s) = t := by
    intro t
    induction t with
    | ok a s => rfl
    | ex x v s => rfl
    | pick n k ih => exact congrArg (Tr.pick n) (funext ih)
    | bad => rfl
  exact this (t j)
theorem out_all {xs : List D} {f : D → M β} (hs : st[i]? = some .hat) (h0 : 0 < xs.length) (h1 : xs.length < 2 ^ 64) (h : ∀ x ∈ xs, OkM (f x) st P E) : OkM (andThen (mOut [.ref i, .lst xs]) f) st P E := by
  rw [out_lst, andThen_assoc]
  refine draw_all hs (by omega) (by omega) fun k hk => ?_
  rw [ixM_lst]
  have hk' : k < xs.length := by omega
  have e : atI xs (k : Int) = some xs[k] := atI_nat (List.getElem?_eq_getElem hk')
  rw [e, optM_so, andThen_ret]
  exact h _ (List.getElem_mem hk')
end
end
end Gw

set_option Elab.async false
set_option linter.all false
set_option maxRecDepth 100000
set_option maxHeartbeats 4000000
namespace K02
open PySem PySem.Spec PyProof.Rows L2 Gw
abbrev PP : Program := PySem.Challenge.pw_gluewhole_k02_whole_moduli_and_shared_di
def topS (i : Nat) : Stmt := PySem.Challenge.pw_gluewhole_k02_whole_moduli_and_shared_di.main.body.getD i (.Pass ⟨0, 0, 0, 0⟩)
def d_is_whole : He.DefD := ⟨("is_whole", none), "is_whole", "is_whole", defArgs (topS 4), defBody (topS 4), defScope (topS 4), [], []⟩
def d_is_integer : He.DefD := ⟨("is_integer", none), "is_integer", "is_integer", defArgs (topS 5), defBody (topS 5), defScope (topS 5), [], []⟩
def d_require_integer : He.DefD := ⟨("require_integer", none), "require_integer", "require_integer", defArgs (topS 6), defBody (topS 6), defScope (topS 6), [], []⟩
def d_counts_as_nought : He.DefD := ⟨("counts_as_nought", none), "counts_as_nought", "counts_as_nought", defArgs (topS 7), defBody (topS 7), defScope (topS 7), [], []⟩
def d_shared_in : He.DefD := ⟨("shared_in", none), "shared_in", "shared_in", defArgs (topS 8), defBody (topS 8), defScope (topS 8), [], []⟩
def d_is_nought : He.DefD := ⟨("is_nought", none), "is_nought", "is_nought", defArgs (topS 9), defBody (topS 9), defScope (topS 9), [], []⟩
def d_shared : He.DefD := ⟨("shared", none), "shared", "shared", defArgs (topS 10), defBody (topS 10), defScope (topS 10), [], []⟩
def d__law_hat : He.DefD := ⟨("_law_hat", none), "_law_hat", "_law_hat", defArgs (topS 12), defBody (topS 12), defScope (topS 12), [], []⟩
def d__law_up_to : He.DefD := ⟨("_law_up_to", none), "_law_up_to", "_law_up_to", defArgs (topS 13), defBody (topS 13), defScope (topS 13), [], []⟩
def d__law_out_of : He.DefD := ⟨("_law_out_of", none), "_law_out_of", "_law_out_of", defArgs (topS 14), defBody (topS 14), defScope (topS 14), [], []⟩
def d__law_number : He.DefD := ⟨("_law_number", none), "_law_number", "_law_number", defArgs (topS 15), defBody (topS 15), defScope (topS 15), [], []⟩
def d__law_shared : He.DefD := ⟨("_law_shared", none), "_law_shared", "_law_shared", defArgs (topS 16), defBody (topS 16), defScope (topS 16), [], []⟩
def d__law_jg_entry : He.DefD := ⟨("_law_jg_entry", none), "_law_jg_entry", "_law_jg_entry", defArgs (topS 17), defBody (topS 17), defScope (topS 17), [], []⟩
def d__law_right : He.DefD := ⟨("_law_right", none), "_law_right", "_law_right", defArgs (topS 18), defBody (topS 18), defScope (topS 18), [], []⟩
def d_law : He.DefD := ⟨("law", none), "law", "law", defArgs (topS 19), defBody (topS 19), defScope (topS 19), [], []⟩
def fnL : List He.DefD := [d_is_whole, d_is_integer, d_require_integer, d_counts_as_nought, d_shared_in, d_is_nought, d_shared, d__law_hat, d__law_up_to, d__law_out_of, d__law_number, d__law_shared, d__law_jg_entry, d__law_right, d_law]
def faL : List He.Fa := [.glo "is_whole", .glo "is_integer", .glo "require_integer", .glo "counts_as_nought", .glo "shared_in", .glo "is_nought", .glo "shared", .glo "_law_hat", .glo "_law_up_to", .glo "_law_out_of", .glo "_law_number", .glo "_law_shared", .glo "_law_jg_entry", .glo "_law_right", .glo "law", .free "isinstance", .free "int", .free "bool", .free "tuple", .free "zip", .free "max", .free "abs", .free "len", .free "range", .free "min", .int "BOUND" 1000000000000]
structure Wd (w : World) (K : PySem.W.Frag) (mg : Str → Option Value) (base h : Heap) : Prop where
  X : K.In h
  N : h.Ns mainGlobals mg
  c : He.SaysD faL fnL K
abbrev GG (K : PySem.W.Frag) (mg : Str → Option Value) : Glo := ⟨K, mg, fun _ => none⟩
section
variable {w : World} {K : PySem.W.Frag} {mg : Str → Option Value} {base h : Heap}
def N_is_whole : List Str := ["value"]
def c_is_whole : S := (.seq (.ret (.and_ (.call (bi isiD) (.cons (.var 0) (.cons (.c (.ty "int")) .nil))) (.not_ (.call (bi isiD) (.cons (.var 0) (.cons (.c (.ty "bool")) .nil)))))) .pass)
def m_is_whole : List D → M D := fnM 1 1 c_is_whole
def i_is_whole : FnI := ⟨1, 1, m_is_whole⟩
def G_is_whole : Gam := ⟨N_is_whole, defScope (topS 4), 0, [], [], ["isinstance", "int", "bool"], [], cellsOf (defScope (topS 4))⟩
theorem k_is_whole : compSs 400 G_is_whole (defBody (topS 4)) = some c_is_whole := by kernel_rfl
theorem s_is_whole : FnScope N_is_whole ["value"] (defScope (topS 4)) := ⟨rfl, rfl, rfl, by decide +kernel, rfl, by decide +kernel, by decide +kernel⟩
theorem g_is_whole (Z : Wd w K mg base h) : ∃ fd, FnOk PP w K mg base (L2.CX PP w) 1 (He.fAd K ("is_whole", none)) fd ["value"] (spD (GG K mg) (fnM 1 1 c_is_whole) 1) ∧ mg "is_whole" = some (.ref (He.fAd K ("is_whole", none))) ∧ PySem.W.keepIn K (.ref (He.fAd K ("is_whole", none))) = true ∧ Binds K fd ["value"] [] := by
  obtain ⟨fd, F⟩ := Z.c.def_ 0 (d := d_is_whole) rfl
  exact ⟨fd, fn_core F s_is_whole (Γ := G_is_whole) rfl rfl k_is_whole rfl rfl TabOk.nil CstOk.nil (FreeOk.cons (He.free_ok Z.X Z.N (Z.c.fact 15 rfl)) (FreeOk.cons (He.free_ok Z.X Z.N (Z.c.fact 16 rfl)) (FreeOk.cons (He.free_ok Z.X Z.N (Z.c.fact 17 rfl)) FreeOk.nil))), He.glo_ok Z.X Z.N (Z.c.fact 0 rfl), F.kp, FunD.bindsN F fun _ _ _ _ _ _ us hl => match us, hl with | [_], _ => rfl⟩
theorem f_is_whole (Z : Wd w K mg base h) : FnFact PP w K mg base (GG K mg) "is_whole" i_is_whole := by
  obtain ⟨fd, F, a, b, c⟩ := g_is_whole Z
  exact ⟨_, fd, _, a, b, c, F, fun _ _ _ _ h => fnM_len h⟩
def N_is_integer : List Str := ["value"]
def c_is_integer : S := (.seq (.ret (.and_ (.call m_is_whole (.cons (.var 0) .nil)) (.chain .Lt .Lt (.neg (.c (.int 1000000000000))) (.var 0) (.c (.int 1000000000000))))) .pass)
def m_is_integer : List D → M D := fnM 1 1 c_is_integer
def i_is_integer : FnI := ⟨2, 1, m_is_integer⟩
def G_is_integer : Gam := ⟨N_is_integer, defScope (topS 5), 1, [("is_whole", i_is_whole)], [("BOUND", (.int 1000000000000))], [], [], cellsOf (defScope (topS 5))⟩
theorem k_is_integer : compSs 400 G_is_integer (defBody (topS 5)) = some c_is_integer := by kernel_rfl
theorem s_is_integer : FnScope N_is_integer ["value"] (defScope (topS 5)) := ⟨rfl, rfl, rfl, by decide +kernel, rfl, by decide +kernel, by decide +kernel⟩
theorem g_is_integer (Z : Wd w K mg base h) : ∃ fd, FnOk PP w K mg base (L2.CX PP w) 2 (He.fAd K ("is_integer", none)) fd ["value"] (spD (GG K mg) (fnM 1 1 c_is_integer) 1) ∧ mg "is_integer" = some (.ref (He.fAd K ("is_integer", none))) ∧ PySem.W.keepIn K (.ref (He.fAd K ("is_integer", none))) = true ∧ Binds K fd ["value"] [] := by
  obtain ⟨fd, F⟩ := Z.c.def_ 1 (d := d_is_integer) rfl
  exact ⟨fd, fn_core F s_is_integer (Γ := G_is_integer) rfl rfl k_is_integer rfl rfl (TabOk.cons (f_is_whole Z) TabOk.nil) (CstOk.cons (cst_int (He.int_ok Z.X Z.N (Z.c.fact 25 rfl))) CstOk.nil) FreeOk.nil, He.glo_ok Z.X Z.N (Z.c.fact 1 rfl), F.kp, FunD.bindsN F fun _ _ _ _ _ _ us hl => match us, hl with | [_], _ => rfl⟩
theorem f_is_integer (Z : Wd w K mg base h) : FnFact PP w K mg base (GG K mg) "is_integer" i_is_integer := by
  obtain ⟨fd, F, a, b, c⟩ := g_is_integer Z
  exact ⟨_, fd, _, a, b, c, F, fun _ _ _ _ h => fnM_len h⟩
def N_require_integer : List Str := ["value"]
def c_require_integer : S := (.seq (.ifs (.not_ (.call m_is_integer (.cons (.var 0) .nil))) (.seq .never .pass) .pass) .pass)
def m_require_integer : List D → M D := fnM 1 1 c_require_integer
def i_require_integer : FnI := ⟨3, 1, m_require_integer⟩
def G_require_integer : Gam := ⟨N_require_integer, defScope (topS 6), 2, [("is_integer", i_is_integer)], [], [], [], cellsOf (defScope (topS 6))⟩
theorem k_require_integer : compSs 400 G_require_integer (defBody (topS 6)) = some c_require_integer := by kernel_rfl
theorem s_require_integer : FnScope N_require_integer ["value"] (defScope (topS 6)) := ⟨rfl, rfl, rfl, by decide +kernel, rfl, by decide +kernel, by decide +kernel⟩
theorem g_require_integer (Z : Wd w K mg base h) : ∃ fd, FnOk PP w K mg base (L2.CX PP w) 3 (He.fAd K ("require_integer", none)) fd ["value"] (spD (GG K mg) (fnM 1 1 c_require_integer) 1) ∧ mg "require_integer" = some (.ref (He.fAd K ("require_integer", none))) ∧ PySem.W.keepIn K (.ref (He.fAd K ("require_integer", none))) = true ∧ Binds K fd ["value"] [] := by
  obtain ⟨fd, F⟩ := Z.c.def_ 2 (d := d_require_integer) rfl
  exact ⟨fd, fn_core F s_require_integer (Γ := G_require_integer) rfl rfl k_require_integer rfl rfl (TabOk.cons (f_is_integer Z) TabOk.nil) CstOk.nil FreeOk.nil, He.glo_ok Z.X Z.N (Z.c.fact 2 rfl), F.kp, FunD.bindsN F fun _ _ _ _ _ _ us hl => match us, hl with | [_], _ => rfl⟩
theorem f_require_integer (Z : Wd w K mg base h) : FnFact PP w K mg base (GG K mg) "require_integer" i_require_integer := by
  obtain ⟨fd, F, a, b, c⟩ := g_require_integer Z
  exact ⟨_, fd, _, a, b, c, F, fun _ _ _ _ h => fnM_len h⟩
def N_counts_as_nought : List Str := ["number", "modulus"]
def c_counts_as_nought : S := (.seq (.ret (.ite (.cmp .Eq (.var 1) (.c (.int 0))) (.cmp .Eq (.var 0) (.c (.int 0))) (.cmp .Eq (.bin .Mod (.var 0) (.var 1)) (.c (.int 0))))) .pass)
def m_counts_as_nought : List D → M D := fnM 2 2 c_counts_as_nought
def i_counts_as_nought : FnI := ⟨1, 2, m_counts_as_nought⟩
def G_counts_as_nought : Gam := ⟨N_counts_as_nought, defScope (topS 7), 0, [], [], [], [], cellsOf (defScope (topS 7))⟩
theorem k_counts_as_nought : compSs 400 G_counts_as_nought (defBody (topS 7)) = some c_counts_as_nought := by kernel_rfl
theorem s_counts_as_nought : FnScope N_counts_as_nought ["number", "modulus"] (defScope (topS 7)) := ⟨rfl, rfl, rfl, by decide +kernel, rfl, by decide +kernel, by decide +kernel⟩
theorem g_counts_as_nought (Z : Wd w K mg base h) : ∃ fd, FnOk PP w K mg base (L2.CX PP w) 1 (He.fAd K ("counts_as_nought", none)) fd ["number", "modulus"] (spD (GG K mg) (fnM 2 2 c_counts_as_nought) 2) ∧ mg "counts_as_nought" = some (.ref (He.fAd K ("counts_as_nought", none))) ∧ PySem.W.keepIn K (.ref (He.fAd K ("counts_as_nought", none))) = true ∧ Binds K fd ["number", "modulus"] [] := by
  obtain ⟨fd, F⟩ := Z.c.def_ 3 (d := d_counts_as_nought) rfl
  exact ⟨fd, fn_core F s_counts_as_nought (Γ := G_counts_as_nought) rfl rfl k_counts_as_nought rfl rfl TabOk.nil CstOk.nil FreeOk.nil, He.glo_ok Z.X Z.N (Z.c.fact 3 rfl), F.kp, FunD.bindsN F fun _ _ _ _ _ _ us hl => match us, hl with | [_, _], _ => rfl⟩
theorem f_counts_as_nought (Z : Wd w K mg base h) : FnFact PP w K mg base (GG K mg) "counts_as_nought" i_counts_as_nought := by
  obtain ⟨fd, F, a, b, c⟩ := g_counts_as_nought Z
  exact ⟨_, fd, _, a, b, c, F, fun _ _ _ _ h => fnM_len h⟩
def N_shared_in : List Str := ["one", "other", "here", "there", "quotient", "left", "right", "entry"]
def c_shared_in : S := (.seq (.par 2 3 (.tup (.cons (.c (.int 1)) (.cons (.c (.int 0)) (.cons (.var 0) .nil)))) (.tup (.cons (.c (.int 0)) (.cons (.c (.int 1)) (.cons (.var 1) .nil))))) (.seq (.whl fuelW (.cmp .NotEq (.ix (.var 3) (.c (.int 2))) (.c (.int 0))) (.seq (.asg (.nm 4) (.bin .FloorDiv (.ix (.var 2) (.c (.int 2))) (.ix (.var 3) (.c (.int 2))))) (.seq (.par 2 3 (.var 3) (.call (bi tupleD) (.cons (.lc [5, 6] (.cons (.nm 5) (.cons (.nm 6) .nil)) (.zip (.var 2) (.var 3)) (.c (.bl true)) (.bin .Sub (.var 5) (.bin .Mult (.var 4) (.var 6)))) .nil))) .pass))) (.seq (.ret (.ite (.cmp .GtE (.ix (.var 2) (.c (.int 2))) (.c (.int 0))) (.var 2) (.call (bi tupleD) (.cons (.lc [7] (.nm 7) (.it1 (.var 2)) (.c (.bl true)) (.neg (.var 7))) .nil)))) .pass)))
def m_shared_in : List D → M D := fnM 8 2 c_shared_in
def i_shared_in : FnI := ⟨1, 2, m_shared_in⟩
def G_shared_in : Gam := ⟨N_shared_in, defScope (topS 8), 0, [], [], ["tuple", "zip"], [], cellsOf (defScope (topS 8))⟩
theorem k_shared_in : compSs 400 G_shared_in (defBody (topS 8)) = some c_shared_in := by kernel_rfl
theorem s_shared_in : FnScope N_shared_in ["one", "other"] (defScope (topS 8)) := ⟨rfl, rfl, rfl, by decide +kernel, rfl, by decide +kernel, by decide +kernel⟩
theorem g_shared_in (Z : Wd w K mg base h) : ∃ fd, FnOk PP w K mg base (L2.CX PP w) 1 (He.fAd K ("shared_in", none)) fd ["one", "other"] (spD (GG K mg) (fnM 8 2 c_shared_in) 2) ∧ mg "shared_in" = some (.ref (He.fAd K ("shared_in", none))) ∧ PySem.W.keepIn K (.ref (He.fAd K ("shared_in", none))) = true ∧ Binds K fd ["one", "other"] [] := by
  obtain ⟨fd, F⟩ := Z.c.def_ 4 (d := d_shared_in) rfl
  exact ⟨fd, fn_core F s_shared_in (Γ := G_shared_in) rfl rfl k_shared_in rfl rfl TabOk.nil CstOk.nil (FreeOk.cons (He.free_ok Z.X Z.N (Z.c.fact 18 rfl)) (FreeOk.cons (He.free_ok Z.X Z.N (Z.c.fact 19 rfl)) FreeOk.nil)), He.glo_ok Z.X Z.N (Z.c.fact 4 rfl), F.kp, FunD.bindsN F fun _ _ _ _ _ _ us hl => match us, hl with | [_, _], _ => rfl⟩
theorem f_shared_in (Z : Wd w K mg base h) : FnFact PP w K mg base (GG K mg) "shared_in" i_shared_in := by
  obtain ⟨fd, F, a, b, c⟩ := g_shared_in Z
  exact ⟨_, fd, _, a, b, c, F, fun _ _ _ _ h => fnM_len h⟩
def N_is_nought : List Str := ["value", "modulus"]
def c_is_nought : S := (.seq (.ifs (.or_ (.not_ (.call m_is_integer (.cons (.var 1) .nil))) (.cmp .Lt (.var 1) (.c (.int 0)))) (.seq .never .pass) .pass) (.seq (.ret (.and_ (.call m_is_integer (.cons (.var 0) .nil)) (.call m_counts_as_nought (.cons (.var 0) (.cons (.var 1) .nil))))) .pass))
def m_is_nought : List D → M D := fnM 2 2 c_is_nought
def i_is_nought : FnI := ⟨3, 2, m_is_nought⟩
def G_is_nought : Gam := ⟨N_is_nought, defScope (topS 9), 2, [("is_integer", i_is_integer), ("counts_as_nought", i_counts_as_nought)], [], [], [], cellsOf (defScope (topS 9))⟩
theorem k_is_nought : compSs 400 G_is_nought (defBody (topS 9)) = some c_is_nought := by kernel_rfl
theorem s_is_nought : FnScope N_is_nought ["value", "modulus"] (defScope (topS 9)) := ⟨rfl, rfl, rfl, by decide +kernel, rfl, by decide +kernel, by decide +kernel⟩
theorem g_is_nought (Z : Wd w K mg base h) : ∃ fd, FnOk PP w K mg base (L2.CX PP w) 3 (He.fAd K ("is_nought", none)) fd ["value", "modulus"] (spD (GG K mg) (fnM 2 2 c_is_nought) 2) ∧ mg "is_nought" = some (.ref (He.fAd K ("is_nought", none))) ∧ PySem.W.keepIn K (.ref (He.fAd K ("is_nought", none))) = true ∧ Binds K fd ["value", "modulus"] [] := by
  obtain ⟨fd, F⟩ := Z.c.def_ 5 (d := d_is_nought) rfl
  exact ⟨fd, fn_core F s_is_nought (Γ := G_is_nought) rfl rfl k_is_nought rfl rfl (TabOk.cons (f_is_integer Z) (TabOk.cons (f_counts_as_nought Z) TabOk.nil)) CstOk.nil FreeOk.nil, He.glo_ok Z.X Z.N (Z.c.fact 5 rfl), F.kp, FunD.bindsN F fun _ _ _ _ _ _ us hl => match us, hl with | [_, _], _ => rfl⟩
theorem f_is_nought (Z : Wd w K mg base h) : FnFact PP w K mg base (GG K mg) "is_nought" i_is_nought := by
  obtain ⟨fd, F, a, b, c⟩ := g_is_nought Z
  exact ⟨_, fd, _, a, b, c, F, fun _ _ _ _ h => fnM_len h⟩
def N_shared : List Str := ["one", "other"]
def c_shared : S := (.seq (.expr (.call m_require_integer (.cons (.var 0) .nil))) (.seq (.expr (.call m_require_integer (.cons (.var 1) .nil))) (.seq (.ret (.call m_shared_in (.cons (.var 0) (.cons (.var 1) .nil)))) .pass)))
def m_shared : List D → M D := fnM 2 2 c_shared
def i_shared : FnI := ⟨4, 2, m_shared⟩
def G_shared : Gam := ⟨N_shared, defScope (topS 10), 3, [("shared_in", i_shared_in), ("require_integer", i_require_integer)], [], [], [], cellsOf (defScope (topS 10))⟩
theorem k_shared : compSs 400 G_shared (defBody (topS 10)) = some c_shared := by kernel_rfl
theorem s_shared : FnScope N_shared ["one", "other"] (defScope (topS 10)) := ⟨rfl, rfl, rfl, by decide +kernel, rfl, by decide +kernel, by decide +kernel⟩
theorem g_shared (Z : Wd w K mg base h) : ∃ fd, FnOk PP w K mg base (L2.CX PP w) 4 (He.fAd K ("shared", none)) fd ["one", "other"] (spD (GG K mg) (fnM 2 2 c_shared) 2) ∧ mg "shared" = some (.ref (He.fAd K ("shared", none))) ∧ PySem.W.keepIn K (.ref (He.fAd K ("shared", none))) = true ∧ Binds K fd ["one", "other"] [] := by
  obtain ⟨fd, F⟩ := Z.c.def_ 6 (d := d_shared) rfl
  exact ⟨fd, fn_core F s_shared (Γ := G_shared) rfl rfl k_shared rfl rfl (TabOk.cons (f_shared_in Z) (TabOk.cons (f_require_integer Z) TabOk.nil)) CstOk.nil FreeOk.nil, He.glo_ok Z.X Z.N (Z.c.fact 6 rfl), F.kp, FunD.bindsN F fun _ _ _ _ _ _ us hl => match us, hl with | [_, _], _ => rfl⟩
theorem f_shared (Z : Wd w K mg base h) : FnFact PP w K mg base (GG K mg) "shared" i_shared := by
  obtain ⟨fd, F, a, b, c⟩ := g_shared Z
  exact ⟨_, fd, _, a, b, c, F, fun _ _ _ _ h => fnM_len h⟩
def N__law_hat : List Str := ["_law_script", "_law_spot", "_law_cell", "_law_great", "_law_seed"]
def c__law_hat : S := (.seq (.asg (.nm 2) (.ite (.cmp .Lt (.var 1) (.call (bi lenD) (.cons (.var 0) .nil))) (.call (bi intD) (.cons (.ix (.var 0) (.var 1)) .nil)) (.bin .Add (.bin .Mult (.c (.int 311)) (.var 1)) (.c (.int 47))))) (.seq (.asg (.nm 3) (.bin .Mod (.call (bi intD) (.cons (.call (bi absD) (.cons (.var 2) .nil)) .nil)) (.bin .Pow (.bin .Pow (.c (.int 10)) (.c (.int 51))) (.c (.int 8))))) (.seq (.asg (.nm 4) (.call (bi intD) (.cons (.bin .Add (.bin .Add (.bin .Add (.bin .Mult (.bin .Mod (.var 3) (.c (.int 2305843009213693907))) (.c (.int 83))) (.bin .Mult (.c (.int 5261)) (.var 1))) (.bin .Mult (.c (.int 29)) (.call (bi intD) (.cons (.cmp .Lt (.var 2) (.c (.int 0))) .nil)))) (.c (.int 61))) .nil))) (.seq (.ret (.lstM (.cons (.call (bi maxD) (.cons (.c (.int 0)) (.cons (.bin .Sub (.var 3) (.bin .Pow (.c (.int 10)) (.c (.int 16)))) .nil))) (.cons (.bin .Mod (.var 4) (.c (.int 2305843009213693951))) (.cons (.c (.int 0)) .nil))))) .pass))))
def r__law_hat : List D → M D := fnM 5 2 c__law_hat
def m__law_hat : List D → M D := mHat
def i__law_hat : FnI := ⟨1, 2, m__law_hat⟩
def G__law_hat : Gam := ⟨N__law_hat, defScope (topS 12), 0, [], [], ["max", "int", "abs", "len"], [(37, 11)], cellsOf (defScope (topS 12))⟩
theorem k__law_hat : compSs 400 G__law_hat (defBody (topS 12)) = some c__law_hat := by kernel_rfl
theorem s__law_hat : FnScope N__law_hat ["_law_script", "_law_spot"] (defScope (topS 12)) := ⟨rfl, rfl, rfl, by decide +kernel, rfl, by decide +kernel, by decide +kernel⟩
theorem g__law_hat (Z : Wd w K mg base h) : ∃ fd, FnOk PP w K mg base (L2.CX PP w) 1 (He.fAd K ("_law_hat", none)) fd ["_law_script", "_law_spot"] (spD (GG K mg) (fnM 5 2 c__law_hat) 2) ∧ mg "_law_hat" = some (.ref (He.fAd K ("_law_hat", none))) ∧ PySem.W.keepIn K (.ref (He.fAd K ("_law_hat", none))) = true ∧ Binds K fd ["_law_script", "_law_spot"] [] := by
  obtain ⟨fd, F⟩ := Z.c.def_ 7 (d := d__law_hat) rfl
  exact ⟨fd, fn_core F s__law_hat (Γ := G__law_hat) rfl rfl k__law_hat rfl rfl TabOk.nil CstOk.nil (FreeOk.cons (He.free_ok Z.X Z.N (Z.c.fact 20 rfl)) (FreeOk.cons (He.free_ok Z.X Z.N (Z.c.fact 16 rfl)) (FreeOk.cons (He.free_ok Z.X Z.N (Z.c.fact 21 rfl)) (FreeOk.cons (He.free_ok Z.X Z.N (Z.c.fact 22 rfl)) FreeOk.nil)))), He.glo_ok Z.X Z.N (Z.c.fact 7 rfl), F.kp, FunD.bindsN F fun _ _ _ _ _ _ us hl => match us, hl with | [_, _], _ => rfl⟩
theorem f__law_hat (Z : Wd w K mg base h) : FnFact PP w K mg base (GG K mg) "_law_hat" i__law_hat := by
  obtain ⟨fd, F, a, b, c⟩ := g__law_hat Z
  exact ⟨_, fd, _, a, b, c, hat_fn F (hat_law c__law_hat rfl), fun _ _ _ _ h => hat_len h⟩
def N__law_up_to : List Str := ["_law_hat_here", "_law_total", "_law_found", "_law_one", "_law_two"]
def c__law_up_to : S := (.seq (.ifs (.cmp .Gt (.ix (.var 0) (.c (.int 0))) (.c (.int 0))) (.seq (.asg (.nm 2) (.bin .Mod (.call (bi intD) (.cons (.ix (.var 0) (.c (.int 0))) .nil)) (.var 1))) (.seq (.setix (.var 0) (.c (.int 0)) (.bin .FloorDiv (.ix (.var 0) (.c (.int 0))) (.var 1))) (.seq (.ret (.var 2)) .pass))) .pass) (.seq (.setix (.var 0) (.c (.int 2)) (.bin .Add (.ix (.var 0) (.c (.int 2))) (.c (.int 1)))) (.seq (.asg (.nm 3) (.bin .Mod (.call (bi intD) (.cons (.bin .Add (.ix (.var 0) (.c (.int 1))) (.bin .Mult (.c (.int 86028157)) (.ix (.var 0) (.c (.int 2))))) .nil)) (.c (.int 2305843009213693951)))) (.seq (.asg (.nm 4) (.bin .Add (.bin .Add (.bin .Mult (.bin .Mod (.call (bi intD) (.cons (.bin .Add (.bin .Mult (.var 3) (.var 3)) (.c (.int 67867967))) .nil)) (.c (.int 2305843009213693921))) (.c (.int 15485863))) (.var 3)) (.bin .Mult (.c (.int 19)) (.ix (.var 0) (.c (.int 2)))))) (.seq (.ret (.bin .Mod (.call (bi intD) (.cons (.bin .FloorDiv (.var 4) (.c (.int 65539))) .nil)) (.var 1))) .pass)))))
def r__law_up_to : List D → M D := fnM 5 2 c__law_up_to
def m__law_up_to : List D → M D := mDraw
def i__law_up_to : FnI := ⟨1, 2, m__law_up_to⟩
def G__law_up_to : Gam := ⟨N__law_up_to, defScope (topS 13), 0, [], [], ["int"], [], cellsOf (defScope (topS 13))⟩
theorem k__law_up_to : compSs 400 G__law_up_to (defBody (topS 13)) = some c__law_up_to := by kernel_rfl
theorem s__law_up_to : FnScope N__law_up_to ["_law_hat_here", "_law_total"] (defScope (topS 13)) := ⟨rfl, rfl, rfl, by decide +kernel, rfl, by decide +kernel, by decide +kernel⟩
theorem g__law_up_to (Z : Wd w K mg base h) : ∃ fd, FnOk PP w K mg base (L2.CX PP w) 1 (He.fAd K ("_law_up_to", none)) fd ["_law_hat_here", "_law_total"] (spD (GG K mg) (fnM 5 2 c__law_up_to) 2) ∧ mg "_law_up_to" = some (.ref (He.fAd K ("_law_up_to", none))) ∧ PySem.W.keepIn K (.ref (He.fAd K ("_law_up_to", none))) = true ∧ Binds K fd ["_law_hat_here", "_law_total"] [] := by
  obtain ⟨fd, F⟩ := Z.c.def_ 8 (d := d__law_up_to) rfl
  exact ⟨fd, fn_core F s__law_up_to (Γ := G__law_up_to) rfl rfl k__law_up_to rfl rfl TabOk.nil CstOk.nil (FreeOk.cons (He.free_ok Z.X Z.N (Z.c.fact 16 rfl)) FreeOk.nil), He.glo_ok Z.X Z.N (Z.c.fact 8 rfl), F.kp, FunD.bindsN F fun _ _ _ _ _ _ us hl => match us, hl with | [_, _], _ => rfl⟩
theorem f__law_up_to (Z : Wd w K mg base h) : FnFact PP w K mg base (GG K mg) "_law_up_to" i__law_up_to := by
  obtain ⟨fd, F, a, b, c⟩ := g__law_up_to Z
  exact ⟨_, fd, _, a, b, c, up_fn F (up_law c__law_up_to rfl), fun _ _ _ _ h => draw_len h⟩
def N__law_out_of : List Str := ["_law_hat_here", "_law_items"]
def c__law_out_of : S := (.seq (.ret (.ix (.var 1) (.call m__law_up_to (.cons (.var 0) (.cons (.call (bi lenD) (.cons (.var 1) .nil)) .nil))))) .pass)
def m__law_out_of : List D → M D := fnM 2 2 c__law_out_of
def i__law_out_of : FnI := ⟨2, 2, m__law_out_of⟩
def G__law_out_of : Gam := ⟨N__law_out_of, defScope (topS 14), 1, [("_law_up_to", i__law_up_to)], [], ["len"], [], cellsOf (defScope (topS 14))⟩
theorem k__law_out_of : compSs 400 G__law_out_of (defBody (topS 14)) = some c__law_out_of := by kernel_rfl
theorem s__law_out_of : FnScope N__law_out_of ["_law_hat_here", "_law_items"] (defScope (topS 14)) := ⟨rfl, rfl, rfl, by decide +kernel, rfl, by decide +kernel, by decide +kernel⟩
theorem g__law_out_of (Z : Wd w K mg base h) : ∃ fd, FnOk PP w K mg base (L2.CX PP w) 2 (He.fAd K ("_law_out_of", none)) fd ["_law_hat_here", "_law_items"] (spD (GG K mg) (fnM 2 2 c__law_out_of) 2) ∧ mg "_law_out_of" = some (.ref (He.fAd K ("_law_out_of", none))) ∧ PySem.W.keepIn K (.ref (He.fAd K ("_law_out_of", none))) = true ∧ Binds K fd ["_law_hat_here", "_law_items"] [] := by
  obtain ⟨fd, F⟩ := Z.c.def_ 9 (d := d__law_out_of) rfl
  exact ⟨fd, fn_core F s__law_out_of (Γ := G__law_out_of) rfl rfl k__law_out_of rfl rfl (TabOk.cons (f__law_up_to Z) TabOk.nil) CstOk.nil (FreeOk.cons (He.free_ok Z.X Z.N (Z.c.fact 22 rfl)) FreeOk.nil), He.glo_ok Z.X Z.N (Z.c.fact 9 rfl), F.kp, FunD.bindsN F fun _ _ _ _ _ _ us hl => match us, hl with | [_, _], _ => rfl⟩
theorem f__law_out_of (Z : Wd w K mg base h) : FnFact PP w K mg base (GG K mg) "_law_out_of" i__law_out_of := by
  obtain ⟨fd, F, a, b, c⟩ := g__law_out_of Z
  exact ⟨_, fd, _, a, b, c, F, fun _ _ _ _ h => fnM_len h⟩
def N__law_number : List Str := ["_law_hat_here"]
def c__law_number : S := (.seq (.ret (.call m__law_out_of (.cons (.var 0) (.cons (.lst (.cons (.neg (.c (.int 3))) (.cons (.neg (.c (.int 2))) (.cons (.neg (.c (.int 1))) (.cons (.c (.int 1)) (.cons (.c (.int 1)) (.cons (.c (.int 2)) (.cons (.c (.int 3)) (.cons (.c (.int 0)) .nil))))))))) .nil)))) .pass)
def m__law_number : List D → M D := fnM 1 1 c__law_number
def i__law_number : FnI := ⟨3, 1, m__law_number⟩
def G__law_number : Gam := ⟨N__law_number, defScope (topS 15), 2, [("_law_out_of", i__law_out_of)], [], [], [], cellsOf (defScope (topS 15))⟩
theorem k__law_number : compSs 400 G__law_number (defBody (topS 15)) = some c__law_number := by kernel_rfl
theorem s__law_number : FnScope N__law_number ["_law_hat_here"] (defScope (topS 15)) := ⟨rfl, rfl, rfl, by decide +kernel, rfl, by decide +kernel, by decide +kernel⟩
theorem g__law_number (Z : Wd w K mg base h) : ∃ fd, FnOk PP w K mg base (L2.CX PP w) 3 (He.fAd K ("_law_number", none)) fd ["_law_hat_here"] (spD (GG K mg) (fnM 1 1 c__law_number) 1) ∧ mg "_law_number" = some (.ref (He.fAd K ("_law_number", none))) ∧ PySem.W.keepIn K (.ref (He.fAd K ("_law_number", none))) = true ∧ Binds K fd ["_law_hat_here"] [] := by
  obtain ⟨fd, F⟩ := Z.c.def_ 10 (d := d__law_number) rfl
  exact ⟨fd, fn_core F s__law_number (Γ := G__law_number) rfl rfl k__law_number rfl rfl (TabOk.cons (f__law_out_of Z) TabOk.nil) CstOk.nil FreeOk.nil, He.glo_ok Z.X Z.N (Z.c.fact 10 rfl), F.kp, FunD.bindsN F fun _ _ _ _ _ _ us hl => match us, hl with | [_], _ => rfl⟩
theorem f__law_number (Z : Wd w K mg base h) : FnFact PP w K mg base (GG K mg) "_law_number" i__law_number := by
  obtain ⟨fd, F, a, b, c⟩ := g__law_number Z
  exact ⟨_, fd, _, a, b, c, F, fun _ _ _ _ h => fnM_len h⟩
def N__law_shared : List Str := ["_law_one", "_law_other"]
def c__law_shared : S := (.seq (.par 0 1 (.call (bi absD) (.cons (.var 0) .nil)) (.call (bi absD) (.cons (.var 1) .nil))) (.seq (.whl fuelW (.cmp .NotEq (.var 1) (.c (.int 0))) (.seq (.par 0 1 (.var 1) (.bin .Mod (.var 0) (.var 1))) .pass)) (.seq (.ret (.var 0)) .pass)))
def m__law_shared : List D → M D := fnM 2 2 c__law_shared
def i__law_shared : FnI := ⟨1, 2, m__law_shared⟩
def G__law_shared : Gam := ⟨N__law_shared, defScope (topS 16), 0, [], [], ["abs"], [], cellsOf (defScope (topS 16))⟩
theorem k__law_shared : compSs 400 G__law_shared (defBody (topS 16)) = some c__law_shared := by kernel_rfl
theorem s__law_shared : FnScope N__law_shared ["_law_one", "_law_other"] (defScope (topS 16)) := ⟨rfl, rfl, rfl, by decide +kernel, rfl, by decide +kernel, by decide +kernel⟩
theorem g__law_shared (Z : Wd w K mg base h) : ∃ fd, FnOk PP w K mg base (L2.CX PP w) 1 (He.fAd K ("_law_shared", none)) fd ["_law_one", "_law_other"] (spD (GG K mg) (fnM 2 2 c__law_shared) 2) ∧ mg "_law_shared" = some (.ref (He.fAd K ("_law_shared", none))) ∧ PySem.W.keepIn K (.ref (He.fAd K ("_law_shared", none))) = true ∧ Binds K fd ["_law_one", "_law_other"] [] := by
  obtain ⟨fd, F⟩ := Z.c.def_ 11 (d := d__law_shared) rfl
  exact ⟨fd, fn_core F s__law_shared (Γ := G__law_shared) rfl rfl k__law_shared rfl rfl TabOk.nil CstOk.nil (FreeOk.cons (He.free_ok Z.X Z.N (Z.c.fact 21 rfl)) FreeOk.nil), He.glo_ok Z.X Z.N (Z.c.fact 11 rfl), F.kp, FunD.bindsN F fun _ _ _ _ _ _ us hl => match us, hl with | [_, _], _ => rfl⟩
theorem f__law_shared (Z : Wd w K mg base h) : FnFact PP w K mg base (GG K mg) "_law_shared" i__law_shared := by
  obtain ⟨fd, F, a, b, c⟩ := g__law_shared Z
  exact ⟨_, fd, _, a, b, c, F, fun _ _ _ _ h => fnM_len h⟩
def N__law_jg_entry : List Str := ["_law_hat_here"]
def c__law_jg_entry : S := (.seq (.ret (.call m__law_out_of (.cons (.var 0) (.cons (.lst (.cons (.c (.int 0)) (.cons (.c (.int 0)) (.cons (.c (.int 1)) (.cons (.neg (.c (.int 1))) (.cons (.c (.int 2)) (.cons (.neg (.c (.int 3))) (.cons (.c (.int 7)) (.cons (.bin .Sub (.bin .Pow (.c (.int 10)) (.c (.int 12))) (.c (.int 1))) (.cons (.bin .Sub (.c (.int 1)) (.bin .Pow (.c (.int 10)) (.c (.int 12)))) (.cons (.bin .Sub (.call m__law_up_to (.cons (.var 0) (.cons (.bin .Pow (.c (.int 10)) (.c (.int 6))) .nil))) (.c (.int 500000))) .nil))))))))))) .nil)))) .pass)
def m__law_jg_entry : List D → M D := fnM 1 1 c__law_jg_entry
def i__law_jg_entry : FnI := ⟨3, 1, m__law_jg_entry⟩
def G__law_jg_entry : Gam := ⟨N__law_jg_entry, defScope (topS 17), 2, [("_law_out_of", i__law_out_of), ("_law_up_to", i__law_up_to)], [], [], [], cellsOf (defScope (topS 17))⟩
theorem k__law_jg_entry : compSs 400 G__law_jg_entry (defBody (topS 17)) = some c__law_jg_entry := by kernel_rfl
theorem s__law_jg_entry : FnScope N__law_jg_entry ["_law_hat_here"] (defScope (topS 17)) := ⟨rfl, rfl, rfl, by decide +kernel, rfl, by decide +kernel, by decide +kernel⟩
theorem g__law_jg_entry (Z : Wd w K mg base h) : ∃ fd, FnOk PP w K mg base (L2.CX PP w) 3 (He.fAd K ("_law_jg_entry", none)) fd ["_law_hat_here"] (spD (GG K mg) (fnM 1 1 c__law_jg_entry) 1) ∧ mg "_law_jg_entry" = some (.ref (He.fAd K ("_law_jg_entry", none))) ∧ PySem.W.keepIn K (.ref (He.fAd K ("_law_jg_entry", none))) = true ∧ Binds K fd ["_law_hat_here"] [] := by
  obtain ⟨fd, F⟩ := Z.c.def_ 12 (d := d__law_jg_entry) rfl
  exact ⟨fd, fn_core F s__law_jg_entry (Γ := G__law_jg_entry) rfl rfl k__law_jg_entry rfl rfl (TabOk.cons (f__law_out_of Z) (TabOk.cons (f__law_up_to Z) TabOk.nil)) CstOk.nil FreeOk.nil, He.glo_ok Z.X Z.N (Z.c.fact 12 rfl), F.kp, FunD.bindsN F fun _ _ _ _ _ _ us hl => match us, hl with | [_], _ => rfl⟩
theorem f__law_jg_entry (Z : Wd w K mg base h) : FnFact PP w K mg base (GG K mg) "_law_jg_entry" i__law_jg_entry := by
  obtain ⟨fd, F, a, b, c⟩ := g__law_jg_entry Z
  exact ⟨_, fd, _, a, b, c, F, fun _ _ _ _ h => fnM_len h⟩
def N__law_right : List Str := ["_law_hat_here", "_law_one", "_law_other", "_law_modulus", "_law_times", "_law_is_due", "_law_near", "_law_left", "_law_right_here", "_law_told", "_law_small", "_law_more"]
def c__law_right : S := (.seq (.par 1 2 (.call m__law_jg_entry (.cons (.var 0) .nil)) (.call m__law_jg_entry (.cons (.var 0) .nil))) (.seq (.asg (.nm 3) (.call (bi absD) (.cons (.call m__law_jg_entry (.cons (.var 0) .nil)) .nil))) (.seq (.par 4 5 (.call m__law_out_of (.cons (.var 0) (.cons (.lst (.cons (.c (.int 1)) (.cons (.c (.int 2)) (.cons (.c (.int 3)) (.cons (.c (.int 10)) (.cons (.c (.int 999)) .nil)))))) .nil))) (.cmp .Eq (.var 1) (.c (.int 0)))) (.seq (.ifs (.cmp .Gt (.var 3) (.c (.int 0))) (.seq (.asg (.nm 5) (.cmp .Eq (.bin .Mod (.call (bi absD) (.cons (.var 1) .nil)) (.var 3)) (.c (.int 0)))) .pass) .pass) (.seq (.ifs (.or_ (.cmp .NotEq (.call m_is_nought (.cons (.var 1) (.cons (.var 3) .nil))) (.var 5)) (.not_ (.call m_is_nought (.cons (.c (.int 0)) (.cons (.var 3) .nil))))) (.seq (.ret (.c (.bl false))) .pass) .pass) (.seq (.asg (.nm 6) (.call m__law_out_of (.cons (.var 0) (.cons (.lst (.cons (.c (.bl true)) (.cons (.c (.bl false)) (.cons (.c .non) (.cons (.c (.str (PySem.Str.ofString "0"))) (.cons (.tup (.cons (.c (.int 0)) .nil)) (.cons (.lst .nil) (.cons (.bin .Pow (.c (.int 10)) (.c (.int 12))) (.cons (.bin .Sub (.c (.int 0)) (.bin .Pow (.c (.int 10)) (.c (.int 12)))) .nil))))))))) .nil)))) (.seq (.ifs (.or_ (.call m_is_nought (.cons (.var 6) (.cons (.var 3) .nil))) (.cmp .IsNot (.call m_is_nought (.cons (.var 3) (.cons (.var 3) .nil))) (.c (.bl true)))) (.seq (.ret (.c (.bl false))) .pass) .pass) (.seq (.ifs (.and_ (.cmp .Lt (.call (bi absD) (.cons (.bin .Mult (.var 3) (.var 4)) .nil)) (.bin .Pow (.c (.int 10)) (.c (.int 12)))) (.cmp .IsNot (.call m_is_nought (.cons (.bin .Mult (.var 3) (.var 4)) (.cons (.var 3) .nil))) (.c (.bl true)))) (.seq (.ret (.c (.bl false))) .pass) .pass) (.seq (.for_ (.cons (.nm 7) (.cons (.nm 8) .nil)) (.it1 (.tup (.cons (.tup (.cons (.var 1) (.cons (.var 2) .nil))) (.cons (.tup (.cons (.var 2) (.cons (.var 1) .nil))) (.cons (.tup (.cons (.bin .Sub (.c (.int 0)) (.var 1)) (.cons (.var 2) .nil))) (.cons (.tup (.cons (.var 1) (.cons (.bin .Sub (.c (.int 0)) (.var 2)) .nil))) (.cons (.tup (.cons (.var 1) (.cons (.c (.int 0)) .nil))) (.cons (.tup (.cons (.c (.int 0)) (.cons (.var 2) .nil))) (.cons (.tup (.cons (.var 1) (.cons (.var 1) .nil))) .nil))))))))) (.seq (.asg (.nm 9) (.call m_shared (.cons (.var 7) (.cons (.var 8) .nil)))) (.seq (.ifs (.or_ (.not_ (.call (bi isiD) (.cons (.var 9) (.cons (.c (.ty "tuple")) .nil)))) (.or_ (.cmp .NotEq (.call (bi lenD) (.cons (.var 9) .nil)) (.c (.int 3))) (.cmp .NotEq (.bin .Add (.bin .Mult (.ix (.var 9) (.c (.int 0))) (.var 7)) (.bin .Mult (.ix (.var 9) (.c (.int 1))) (.var 8))) (.ix (.var 9) (.c (.int 2)))))) (.seq (.ret (.c (.bl false))) .pass) .pass) (.seq (.ifs (.cmp .NotEq (.ix (.var 9) (.c (.int 2))) (.call m__law_shared (.cons (.var 7) (.cons (.var 8) .nil)))) (.seq (.ret (.c (.bl false))) .pass) .pass) .pass)))) (.seq (.par 10 11 (.call m__law_number (.cons (.var 0) .nil)) (.call m__law_number (.cons (.var 0) .nil))) (.seq (.ret (.cmp .Eq (.ix (.call m_shared (.cons (.bin .Mult (.var 10) (.var 4)) (.cons (.bin .Mult (.var 11) (.var 4)) .nil))) (.c (.int 2))) (.bin .Mult (.ix (.call m_shared (.cons (.var 10) (.cons (.var 11) .nil))) (.c (.int 2))) (.var 4)))) .pass)))))))))))
def m__law_right : List D → M D := fnM 12 1 c__law_right
def i__law_right : FnI := ⟨5, 1, m__law_right⟩
def G__law_right : Gam := ⟨N__law_right, defScope (topS 18), 4, [("shared", i_shared), ("_law_number", i__law_number), ("_law_shared", i__law_shared), ("is_nought", i_is_nought), ("_law_out_of", i__law_out_of), ("_law_jg_entry", i__law_jg_entry)], [], ["isinstance", "tuple", "len", "abs"], [], cellsOf (defScope (topS 18))⟩
theorem k__law_right : compSs 400 G__law_right (defBody (topS 18)) = some c__law_right := by kernel_rfl
theorem s__law_right : FnScope N__law_right ["_law_hat_here"] (defScope (topS 18)) := ⟨rfl, rfl, rfl, by decide +kernel, rfl, by decide +kernel, by decide +kernel⟩
theorem g__law_right (Z : Wd w K mg base h) : ∃ fd, FnOk PP w K mg base (L2.CX PP w) 5 (He.fAd K ("_law_right", none)) fd ["_law_hat_here"] (spD (GG K mg) (fnM 12 1 c__law_right) 1) ∧ mg "_law_right" = some (.ref (He.fAd K ("_law_right", none))) ∧ PySem.W.keepIn K (.ref (He.fAd K ("_law_right", none))) = true ∧ Binds K fd ["_law_hat_here"] [] := by
  obtain ⟨fd, F⟩ := Z.c.def_ 13 (d := d__law_right) rfl
  exact ⟨fd, fn_core F s__law_right (Γ := G__law_right) rfl rfl k__law_right rfl rfl (TabOk.cons (f_shared Z) (TabOk.cons (f__law_number Z) (TabOk.cons (f__law_shared Z) (TabOk.cons (f_is_nought Z) (TabOk.cons (f__law_out_of Z) (TabOk.cons (f__law_jg_entry Z) TabOk.nil)))))) CstOk.nil (FreeOk.cons (He.free_ok Z.X Z.N (Z.c.fact 15 rfl)) (FreeOk.cons (He.free_ok Z.X Z.N (Z.c.fact 18 rfl)) (FreeOk.cons (He.free_ok Z.X Z.N (Z.c.fact 22 rfl)) (FreeOk.cons (He.free_ok Z.X Z.N (Z.c.fact 21 rfl)) FreeOk.nil)))), He.glo_ok Z.X Z.N (Z.c.fact 13 rfl), F.kp, FunD.bindsN F fun _ _ _ _ _ _ us hl => match us, hl with | [_], _ => rfl⟩
theorem f__law_right (Z : Wd w K mg base h) : FnFact PP w K mg base (GG K mg) "_law_right" i__law_right := by
  obtain ⟨fd, F, a, b, c⟩ := g__law_right Z
  exact ⟨_, fd, _, a, b, c, F, fun _ _ _ _ h => fnM_len h⟩
def N_law : List Str := ["_law_script", "_law_spot", "_law_hat_here", "_law_turn", "_law_told"]
def c_law : S := (.seq (.for_ (.nm 1) (.rng1 (.call (bi maxD) (.cons (.c (.int 1)) (.cons (.call (bi minD) (.cons (.c (.int 4)) (.cons (.call (bi lenD) (.cons (.var 0) .nil)) .nil))) .nil)))) (.seq (.asg (.nm 2) (.call m__law_hat (.cons (.var 0) (.cons (.var 1) .nil)))) (.seq (.for_ (.nm 3) (.rng1 (.c (.int 5))) (.seq (.ifs (.not_ (.call m__law_right (.cons (.var 2) .nil))) (.seq (.ret (.c (.bl false))) .pass) .pass) .pass)) .pass))) (.seq (.asg (.nm 4) (.lst (.cons (.call m_is_nought (.cons (.c (.int 12)) (.cons (.c (.int 6)) .nil))) (.cons (.call m_is_nought (.cons (.neg (.c (.int 12))) (.cons (.c (.int 6)) .nil))) (.cons (.call m_is_nought (.cons (.c (.int 13)) (.cons (.c (.int 6)) .nil))) (.cons (.call m_is_nought (.cons (.c (.int 0)) (.cons (.c (.int 0)) .nil))) (.cons (.call m_is_nought (.cons (.c (.int 6)) (.cons (.c (.int 0)) .nil))) (.cons (.call m_is_nought (.cons (.c (.int 5)) (.cons (.c (.int 1)) .nil))) (.cons (.call m_is_nought (.cons (.c (.bl true)) (.cons (.c (.int 1)) .nil))) .nil))))))))) (.seq (.ifs (.cmp .NotEq (.var 4) (.lst (.cons (.c (.bl true)) (.cons (.c (.bl true)) (.cons (.c (.bl false)) (.cons (.c (.bl true)) (.cons (.c (.bl false)) (.cons (.c (.bl true)) (.cons (.c (.bl false)) .nil))))))))) (.seq (.ret (.c (.bl false))) .pass) .pass) (.seq (.ret (.cmp .Eq (.lst (.cons (.ix (.call m_shared (.cons (.c (.int 12)) (.cons (.neg (.c (.int 18))) .nil))) (.c (.int 2))) (.cons (.ix (.call m_shared (.cons (.c (.int 0)) (.cons (.c (.int 0)) .nil))) (.c (.int 2))) (.cons (.ix (.call m_shared (.cons (.neg (.c (.int 7))) (.cons (.c (.int 0)) .nil))) (.c (.int 2))) (.cons (.ix (.call m_shared (.cons (.bin .Sub (.bin .Pow (.c (.int 10)) (.c (.int 12))) (.c (.int 1))) (.cons (.bin .Add (.bin .Pow (.c (.int 10)) (.c (.int 6))) (.c (.int 1))) .nil))) (.c (.int 2))) .nil))))) (.lst (.cons (.c (.int 6)) (.cons (.c (.int 0)) (.cons (.c (.int 7)) (.cons (.bin .Add (.bin .Pow (.c (.int 10)) (.c (.int 6))) (.c (.int 1))) .nil))))))) .pass))))
def m_law : List D → M D := fnM 5 1 c_law
def i_law : FnI := ⟨6, 1, m_law⟩
def G_law : Gam := ⟨N_law, defScope (topS 19), 5, [("shared", i_shared), ("is_nought", i_is_nought), ("_law_right", i__law_right), ("_law_hat", i__law_hat)], [], ["range", "max", "min", "len"], [], cellsOf (defScope (topS 19))⟩
theorem k_law : compSs 400 G_law (defBody (topS 19)) = some c_law := by kernel_rfl
theorem s_law : FnScope N_law ["_law_script"] (defScope (topS 19)) := ⟨rfl, rfl, rfl, by decide +kernel, rfl, by decide +kernel, by decide +kernel⟩
theorem g_law (Z : Wd w K mg base h) : ∃ fd, FnOk PP w K mg base (L2.CX PP w) 6 (He.fAd K ("law", none)) fd ["_law_script"] (spD (GG K mg) (fnM 5 1 c_law) 1) ∧ mg "law" = some (.ref (He.fAd K ("law", none))) ∧ PySem.W.keepIn K (.ref (He.fAd K ("law", none))) = true ∧ Binds K fd ["_law_script"] [] := by
  obtain ⟨fd, F⟩ := Z.c.def_ 14 (d := d_law) rfl
  exact ⟨fd, fn_core F s_law (Γ := G_law) rfl rfl k_law rfl rfl (TabOk.cons (f_shared Z) (TabOk.cons (f_is_nought Z) (TabOk.cons (f__law_right Z) (TabOk.cons (f__law_hat Z) TabOk.nil)))) CstOk.nil (FreeOk.cons (He.free_ok Z.X Z.N (Z.c.fact 23 rfl)) (FreeOk.cons (He.free_ok Z.X Z.N (Z.c.fact 20 rfl)) (FreeOk.cons (He.free_ok Z.X Z.N (Z.c.fact 24 rfl)) (FreeOk.cons (He.free_ok Z.X Z.N (Z.c.fact 22 rfl)) FreeOk.nil)))), He.glo_ok Z.X Z.N (Z.c.fact 14 rfl), F.kp, FunD.bindsN F fun _ _ _ _ _ _ us hl => match us, hl with | [_], _ => rfl⟩
theorem f_law (Z : Wd w K mg base h) : FnFact PP w K mg base (GG K mg) "law" i_law := by
  obtain ⟨fd, F, a, b, c⟩ := g_law Z
  exact ⟨_, fd, _, a, b, c, F, fun _ _ _ _ h => fnM_len h⟩
end
end K02

set_option Elab.async false
set_option linter.all false
set_option maxRecDepth 100000
set_option maxHeartbeats 4000000
/-! K02b: the mathematics of k02. -/
namespace K02
open PySem L2 Gw
theorem atI0 (a : D) (l : List D) : atI (a :: l) 0 = some a := atI_nat (j := 0) rfl
theorem atI1 (a b : D) (l : List D) : atI (a :: b :: l) 1 = some b := atI_nat (j := 1) rfl
theorem atI2 (a b c : D) (l : List D) : atI (a :: b :: c :: l) 2 = some c := atI_nat (j := 2) rfl
theorem whole_int (i : Int) : m_is_whole [.int i] = ret (.bl true) := by
  unfold m_is_whole c_is_whole
  rw [fn1]
  have h1 : isiD [.int i, .ty "int"] = some (.bl true) := rfl
  have h2 : isiD [.int i, .ty "bool"] = some (.bl false) := rfl
  simp only [ex_seq, nxt_nx, nxt_rt, nxt_ct, nxt_bk, ex_ifs, brn_t, brn_f, ex_pass, ex_ret, ex_expr, ex_asg, bndM_so, ex_par, ex_aug, ex_for, endD_nx, endD_rt, bind_nm, bind_nil, bind_cons, ev_var, ev_c, ev_bin, ev_neg, ev_cmp, chn_t, chn_f, ev_chain, ev_and, ev_or, ev_ite, and_t, and_f, or_t, or_f, ite_t, ite_f, ev_not, ev_tup, ev_lst, ev_ix, ev_sl, intM_int, ev_int, ev_lc, ev_call, evs_nil, evs_cons, evs_star, evs_it1, evs_rng1, evs_rng2, evs_zip, evs_enum, andThen_ret, andThen_assoc, optM_so, List.getElem?_cons_succ, List.getElem?_cons_zero, slotM_so, Option.bind_some, Option.map_some, bi_eq, List.set_cons_succ, List.set_cons_zero, bin_add, bin_sub, neg_int, cmp_lt, cmp_le, cmp_gt, cmp_ge, cmp_isbl, cmp_notbl, cmp_eq_int, cmp_ne_int, cmp_eq_bl, cmp_ne_bl, truthM_bl, Bool.not_true, Bool.not_false, lenOk0, lenOk1, lenOk2, lenOk3, intD_int, absD_int, lenD_tup, lenD_lst, lenD_scr, tupD_lst, tupD_tup, startE, List.map_cons, List.map_nil, List.length_cons, List.length_nil, Nat.zero_add, Nat.reduceAdd, Nat.reduceSub, List.replicate_succ, List.replicate_zero, List.cons_append, List.nil_append, lenOk_small, Nat.reduceLeDiff, eq_self, items_tup, items_lst, ixM_tup, ixM_lst, decide_true, decide_false, wipeE, h1, h2]
def plain : D → Prop
  | .bl _ => True | .non => True | .str _ => True | .tup _ => True | .lst _ => True | _ => False
theorem whole_no {x : D} (h : plain x) : m_is_whole [x] = ret (.bl false) := by
  unfold m_is_whole c_is_whole
  rw [fn1]
  cases x <;> first | exact h.elim | skip
  all_goals
    first
    | (have h1 : ∀ x, isiD [.bl x, .ty "int"] = some (.bl true) := fun _ => rfl
       have h2 : ∀ x, isiD [.bl x, .ty "bool"] = some (.bl true) := fun _ => rfl
       simp only [ex_seq, nxt_nx, nxt_rt, nxt_ct, nxt_bk, ex_ifs, brn_t, brn_f, ex_pass, ex_ret, ex_expr, ex_asg, bndM_so, ex_par, ex_aug, ex_for, endD_nx, endD_rt, bind_nm, bind_nil, bind_cons, ev_var, ev_c, ev_bin, ev_neg, ev_cmp, chn_t, chn_f, ev_chain, ev_and, ev_or, ev_ite, and_t, and_f, or_t, or_f, ite_t, ite_f, ev_not, ev_tup, ev_lst, ev_ix, ev_sl, intM_int, ev_int, ev_lc, ev_call, evs_nil, evs_cons, evs_star, evs_it1, evs_rng1, evs_rng2, evs_zip, evs_enum, andThen_ret, andThen_assoc, optM_so, List.getElem?_cons_succ, List.getElem?_cons_zero, slotM_so, Option.bind_some, Option.map_some, bi_eq, List.set_cons_succ, List.set_cons_zero, bin_add, bin_sub, neg_int, cmp_lt, cmp_le, cmp_gt, cmp_ge, cmp_isbl, cmp_notbl, cmp_eq_int, cmp_ne_int, cmp_eq_bl, cmp_ne_bl, truthM_bl, Bool.not_true, Bool.not_false, lenOk0, lenOk1, lenOk2, lenOk3, intD_int, absD_int, lenD_tup, lenD_lst, lenD_scr, tupD_lst, tupD_tup, startE, List.map_cons, List.map_nil, List.length_cons, List.length_nil, Nat.zero_add, Nat.reduceAdd, Nat.reduceSub, List.replicate_succ, List.replicate_zero, List.cons_append, List.nil_append, lenOk_small, Nat.reduceLeDiff, eq_self, items_tup, items_lst, ixM_tup, ixM_lst, decide_true, decide_false, wipeE, h1, h2]; done)
    | (have h0 : isiD [.non, .ty "int"] = some (.bl false) := rfl
       have h1 : ∀ x, isiD [.str x, .ty "int"] = some (.bl false) := fun _ => rfl
       have h2 : ∀ x, isiD [.tup x, .ty "int"] = some (.bl false) := fun _ => rfl
       have h3 : ∀ x, isiD [.lst x, .ty "int"] = some (.bl false) := fun _ => rfl
       simp only [ex_seq, nxt_nx, nxt_rt, nxt_ct, nxt_bk, ex_ifs, brn_t, brn_f, ex_pass, ex_ret, ex_expr, ex_asg, bndM_so, ex_par, ex_aug, ex_for, endD_nx, endD_rt, bind_nm, bind_nil, bind_cons, ev_var, ev_c, ev_bin, ev_neg, ev_cmp, chn_t, chn_f, ev_chain, ev_and, ev_or, ev_ite, and_t, and_f, or_t, or_f, ite_t, ite_f, ev_not, ev_tup, ev_lst, ev_ix, ev_sl, intM_int, ev_int, ev_lc, ev_call, evs_nil, evs_cons, evs_star, evs_it1, evs_rng1, evs_rng2, evs_zip, evs_enum, andThen_ret, andThen_assoc, optM_so, List.getElem?_cons_succ, List.getElem?_cons_zero, slotM_so, Option.bind_some, Option.map_some, bi_eq, List.set_cons_succ, List.set_cons_zero, bin_add, bin_sub, neg_int, cmp_lt, cmp_le, cmp_gt, cmp_ge, cmp_isbl, cmp_notbl, cmp_eq_int, cmp_ne_int, cmp_eq_bl, cmp_ne_bl, truthM_bl, Bool.not_true, Bool.not_false, lenOk0, lenOk1, lenOk2, lenOk3, intD_int, absD_int, lenD_tup, lenD_lst, lenD_scr, tupD_lst, tupD_tup, startE, List.map_cons, List.map_nil, List.length_cons, List.length_nil, Nat.zero_add, Nat.reduceAdd, Nat.reduceSub, List.replicate_succ, List.replicate_zero, List.cons_append, List.nil_append, lenOk_small, Nat.reduceLeDiff, eq_self, items_tup, items_lst, ixM_tup, ixM_lst, decide_true, decide_false, wipeE, h0, h1, h2, h3]; done)
theorem int_yes {i : Int} (h : -1000000000000 < i ∧ i < 1000000000000) : m_is_integer [.int i] = ret (.bl true) := by
  unfold m_is_integer c_is_integer
  rw [fn1]
  simp only [ex_seq, nxt_nx, nxt_rt, nxt_ct, nxt_bk, ex_ifs, brn_t, brn_f, ex_pass, ex_ret, ex_expr, ex_asg, bndM_so, ex_par, ex_aug, ex_for, endD_nx, endD_rt, bind_nm, bind_nil, bind_cons, ev_var, ev_c, ev_bin, ev_neg, ev_cmp, chn_t, chn_f, ev_chain, ev_and, ev_or, ev_ite, and_t, and_f, or_t, or_f, ite_t, ite_f, ev_not, ev_tup, ev_lst, ev_ix, ev_sl, intM_int, ev_int, ev_lc, ev_call, evs_nil, evs_cons, evs_star, evs_it1, evs_rng1, evs_rng2, evs_zip, evs_enum, andThen_ret, andThen_assoc, optM_so, List.getElem?_cons_succ, List.getElem?_cons_zero, slotM_so, Option.bind_some, Option.map_some, bi_eq, List.set_cons_succ, List.set_cons_zero, bin_add, bin_sub, neg_int, cmp_lt, cmp_le, cmp_gt, cmp_ge, cmp_isbl, cmp_notbl, cmp_eq_int, cmp_ne_int, cmp_eq_bl, cmp_ne_bl, truthM_bl, Bool.not_true, Bool.not_false, lenOk0, lenOk1, lenOk2, lenOk3, intD_int, absD_int, lenD_tup, lenD_lst, lenD_scr, tupD_lst, tupD_tup, startE, List.map_cons, List.map_nil, List.length_cons, List.length_nil, Nat.zero_add, Nat.reduceAdd, Nat.reduceSub, List.replicate_succ, List.replicate_zero, List.cons_append, List.nil_append, lenOk_small, Nat.reduceLeDiff, eq_self, items_tup, items_lst, ixM_tup, ixM_lst, decide_true, decide_false, wipeE, whole_int, decide_eq_true h.1, decide_eq_true h.2]
theorem int_big {i : Int} (h : ¬ (-1000000000000 < i ∧ i < 1000000000000)) : m_is_integer [.int i] = ret (.bl false) := by
  unfold m_is_integer c_is_integer
  rw [fn1]
  by_cases h1 : -1000000000000 < i
  · have h2 : ¬ i < 1000000000000 := fun z => h ⟨h1, z⟩
    simp only [ex_seq, nxt_nx, nxt_rt, nxt_ct, nxt_bk, ex_ifs, brn_t, brn_f, ex_pass, ex_ret, ex_expr, ex_asg, bndM_so, ex_par, ex_aug, ex_for, endD_nx, endD_rt, bind_nm, bind_nil, bind_cons, ev_var, ev_c, ev_bin, ev_neg, ev_cmp, chn_t, chn_f, ev_chain, ev_and, ev_or, ev_ite, and_t, and_f, or_t, or_f, ite_t, ite_f, ev_not, ev_tup, ev_lst, ev_ix, ev_sl, intM_int, ev_int, ev_lc, ev_call, evs_nil, evs_cons, evs_star, evs_it1, evs_rng1, evs_rng2, evs_zip, evs_enum, andThen_ret, andThen_assoc, optM_so, List.getElem?_cons_succ, List.getElem?_cons_zero, slotM_so, Option.bind_some, Option.map_some, bi_eq, List.set_cons_succ, List.set_cons_zero, bin_add, bin_sub, neg_int, cmp_lt, cmp_le, cmp_gt, cmp_ge, cmp_isbl, cmp_notbl, cmp_eq_int, cmp_ne_int, cmp_eq_bl, cmp_ne_bl, truthM_bl, Bool.not_true, Bool.not_false, lenOk0, lenOk1, lenOk2, lenOk3, intD_int, absD_int, lenD_tup, lenD_lst, lenD_scr, tupD_lst, tupD_tup, startE, List.map_cons, List.map_nil, List.length_cons, List.length_nil, Nat.zero_add, Nat.reduceAdd, Nat.reduceSub, List.replicate_succ, List.replicate_zero, List.cons_append, List.nil_append, lenOk_small, Nat.reduceLeDiff, eq_self, items_tup, items_lst, ixM_tup, ixM_lst, decide_true, decide_false, wipeE, whole_int, decide_eq_true h1, decide_eq_false h2]
  · simp only [ex_seq, nxt_nx, nxt_rt, nxt_ct, nxt_bk, ex_ifs, brn_t, brn_f, ex_pass, ex_ret, ex_expr, ex_asg, bndM_so, ex_par, ex_aug, ex_for, endD_nx, endD_rt, bind_nm, bind_nil, bind_cons, ev_var, ev_c, ev_bin, ev_neg, ev_cmp, chn_t, chn_f, ev_chain, ev_and, ev_or, ev_ite, and_t, and_f, or_t, or_f, ite_t, ite_f, ev_not, ev_tup, ev_lst, ev_ix, ev_sl, intM_int, ev_int, ev_lc, ev_call, evs_nil, evs_cons, evs_star, evs_it1, evs_rng1, evs_rng2, evs_zip, evs_enum, andThen_ret, andThen_assoc, optM_so, List.getElem?_cons_succ, List.getElem?_cons_zero, slotM_so, Option.bind_some, Option.map_some, bi_eq, List.set_cons_succ, List.set_cons_zero, bin_add, bin_sub, neg_int, cmp_lt, cmp_le, cmp_gt, cmp_ge, cmp_isbl, cmp_notbl, cmp_eq_int, cmp_ne_int, cmp_eq_bl, cmp_ne_bl, truthM_bl, Bool.not_true, Bool.not_false, lenOk0, lenOk1, lenOk2, lenOk3, intD_int, absD_int, lenD_tup, lenD_lst, lenD_scr, tupD_lst, tupD_tup, startE, List.map_cons, List.map_nil, List.length_cons, List.length_nil, Nat.zero_add, Nat.reduceAdd, Nat.reduceSub, List.replicate_succ, List.replicate_zero, List.cons_append, List.nil_append, lenOk_small, Nat.reduceLeDiff, eq_self, items_tup, items_lst, ixM_tup, ixM_lst, decide_true, decide_false, wipeE, whole_int, decide_eq_false h1]
theorem int_no {x : D} (h : plain x) : m_is_integer [x] = ret (.bl false) := by
  unfold m_is_integer c_is_integer
  rw [fn1]
  simp only [ex_seq, nxt_nx, nxt_rt, nxt_ct, nxt_bk, ex_ifs, brn_t, brn_f, ex_pass, ex_ret, ex_expr, ex_asg, bndM_so, ex_par, ex_aug, ex_for, endD_nx, endD_rt, bind_nm, bind_nil, bind_cons, ev_var, ev_c, ev_bin, ev_neg, ev_cmp, chn_t, chn_f, ev_chain, ev_and, ev_or, ev_ite, and_t, and_f, or_t, or_f, ite_t, ite_f, ev_not, ev_tup, ev_lst, ev_ix, ev_sl, intM_int, ev_int, ev_lc, ev_call, evs_nil, evs_cons, evs_star, evs_it1, evs_rng1, evs_rng2, evs_zip, evs_enum, andThen_ret, andThen_assoc, optM_so, List.getElem?_cons_succ, List.getElem?_cons_zero, slotM_so, Option.bind_some, Option.map_some, bi_eq, List.set_cons_succ, List.set_cons_zero, bin_add, bin_sub, neg_int, cmp_lt, cmp_le, cmp_gt, cmp_ge, cmp_isbl, cmp_notbl, cmp_eq_int, cmp_ne_int, cmp_eq_bl, cmp_ne_bl, truthM_bl, Bool.not_true, Bool.not_false, lenOk0, lenOk1, lenOk2, lenOk3, intD_int, absD_int, lenD_tup, lenD_lst, lenD_scr, tupD_lst, tupD_tup, startE, List.map_cons, List.map_nil, List.length_cons, List.length_nil, Nat.zero_add, Nat.reduceAdd, Nat.reduceSub, List.replicate_succ, List.replicate_zero, List.cons_append, List.nil_append, lenOk_small, Nat.reduceLeDiff, eq_self, items_tup, items_lst, ixM_tup, ixM_lst, decide_true, decide_false, wipeE, whole_no h]
theorem req_yes {i : Int} (h : -1000000000000 < i ∧ i < 1000000000000) : m_require_integer [.int i] = ret .non := by
  unfold m_require_integer c_require_integer
  rw [fn1]
  simp only [ex_seq, nxt_nx, nxt_rt, nxt_ct, nxt_bk, ex_ifs, brn_t, brn_f, ex_pass, ex_ret, ex_expr, ex_asg, bndM_so, ex_par, ex_aug, ex_for, endD_nx, endD_rt, bind_nm, bind_nil, bind_cons, ev_var, ev_c, ev_bin, ev_neg, ev_cmp, chn_t, chn_f, ev_chain, ev_and, ev_or, ev_ite, and_t, and_f, or_t, or_f, ite_t, ite_f, ev_not, ev_tup, ev_lst, ev_ix, ev_sl, intM_int, ev_int, ev_lc, ev_call, evs_nil, evs_cons, evs_star, evs_it1, evs_rng1, evs_rng2, evs_zip, evs_enum, andThen_ret, andThen_assoc, optM_so, List.getElem?_cons_succ, List.getElem?_cons_zero, slotM_so, Option.bind_some, Option.map_some, bi_eq, List.set_cons_succ, List.set_cons_zero, bin_add, bin_sub, neg_int, cmp_lt, cmp_le, cmp_gt, cmp_ge, cmp_isbl, cmp_notbl, cmp_eq_int, cmp_ne_int, cmp_eq_bl, cmp_ne_bl, truthM_bl, Bool.not_true, Bool.not_false, lenOk0, lenOk1, lenOk2, lenOk3, intD_int, absD_int, lenD_tup, lenD_lst, lenD_scr, tupD_lst, tupD_tup, startE, List.map_cons, List.map_nil, List.length_cons, List.length_nil, Nat.zero_add, Nat.reduceAdd, Nat.reduceSub, List.replicate_succ, List.replicate_zero, List.cons_append, List.nil_append, lenOk_small, Nat.reduceLeDiff, eq_self, items_tup, items_lst, ixM_tup, ixM_lst, decide_true, decide_false, wipeE, int_yes h]
theorem nought0 (i : Int) : m_counts_as_nought [.int i, .int 0] = ret (.bl (decide (i = 0))) := by
  unfold m_counts_as_nought c_counts_as_nought
  rw [fn2]
  simp only [ex_seq, nxt_nx, nxt_rt, nxt_ct, nxt_bk, ex_ifs, brn_t, brn_f, ex_pass, ex_ret, ex_expr, ex_asg, bndM_so, ex_par, ex_aug, ex_for, endD_nx, endD_rt, bind_nm, bind_nil, bind_cons, ev_var, ev_c, ev_bin, ev_neg, ev_cmp, chn_t, chn_f, ev_chain, ev_and, ev_or, ev_ite, and_t, and_f, or_t, or_f, ite_t, ite_f, ev_not, ev_tup, ev_lst, ev_ix, ev_sl, intM_int, ev_int, ev_lc, ev_call, evs_nil, evs_cons, evs_star, evs_it1, evs_rng1, evs_rng2, evs_zip, evs_enum, andThen_ret, andThen_assoc, optM_so, List.getElem?_cons_succ, List.getElem?_cons_zero, slotM_so, Option.bind_some, Option.map_some, bi_eq, List.set_cons_succ, List.set_cons_zero, bin_add, bin_sub, neg_int, cmp_lt, cmp_le, cmp_gt, cmp_ge, cmp_isbl, cmp_notbl, cmp_eq_int, cmp_ne_int, cmp_eq_bl, cmp_ne_bl, truthM_bl, Bool.not_true, Bool.not_false, lenOk0, lenOk1, lenOk2, lenOk3, intD_int, absD_int, lenD_tup, lenD_lst, lenD_scr, tupD_lst, tupD_tup, startE, List.map_cons, List.map_nil, List.length_cons, List.length_nil, Nat.zero_add, Nat.reduceAdd, Nat.reduceSub, List.replicate_succ, List.replicate_zero, List.cons_append, List.nil_append, lenOk_small, Nat.reduceLeDiff, eq_self, items_tup, items_lst, ixM_tup, ixM_lst, decide_true, decide_false, wipeE]
theorem noughtN (i : Int) {m : Int} (h : m ≠ 0) : m_counts_as_nought [.int i, .int m] = ret (.bl (decide (i.fmod m = 0))) := by
  unfold m_counts_as_nought c_counts_as_nought
  rw [fn2]
  simp only [ex_seq, nxt_nx, nxt_rt, nxt_ct, nxt_bk, ex_ifs, brn_t, brn_f, ex_pass, ex_ret, ex_expr, ex_asg, bndM_so, ex_par, ex_aug, ex_for, endD_nx, endD_rt, bind_nm, bind_nil, bind_cons, ev_var, ev_c, ev_bin, ev_neg, ev_cmp, chn_t, chn_f, ev_chain, ev_and, ev_or, ev_ite, and_t, and_f, or_t, or_f, ite_t, ite_f, ev_not, ev_tup, ev_lst, ev_ix, ev_sl, intM_int, ev_int, ev_lc, ev_call, evs_nil, evs_cons, evs_star, evs_it1, evs_rng1, evs_rng2, evs_zip, evs_enum, andThen_ret, andThen_assoc, optM_so, List.getElem?_cons_succ, List.getElem?_cons_zero, slotM_so, Option.bind_some, Option.map_some, bi_eq, List.set_cons_succ, List.set_cons_zero, bin_add, bin_sub, neg_int, cmp_lt, cmp_le, cmp_gt, cmp_ge, cmp_isbl, cmp_notbl, cmp_eq_int, cmp_ne_int, cmp_eq_bl, cmp_ne_bl, truthM_bl, Bool.not_true, Bool.not_false, lenOk0, lenOk1, lenOk2, lenOk3, intD_int, absD_int, lenD_tup, lenD_lst, lenD_scr, tupD_lst, tupD_tup, startE, List.map_cons, List.map_nil, List.length_cons, List.length_nil, Nat.zero_add, Nat.reduceAdd, Nat.reduceSub, List.replicate_succ, List.replicate_zero, List.cons_append, List.nil_append, lenOk_small, Nat.reduceLeDiff, eq_self, items_tup, items_lst, ixM_tup, ixM_lst, decide_true, decide_false, wipeE, decide_eq_false h, bin_mod h]
/-- is_nought by its law -/
def nou (i m : Int) : Bool := decide (-1000000000000 < i ∧ i < 1000000000000) && decide (if m = 0 then i = 0 else i.fmod m = 0)
theorem nought_int (i : Int) {m : Int} (h0 : 0 ≤ m) (h : m < 1000000000000) : m_is_nought [.int i, .int m] = ret (.bl (nou i m)) := by
  unfold m_is_nought c_is_nought
  rw [fn2]
  have hm : m_is_integer [.int m] = ret (.bl true) := int_yes ⟨by omega, h⟩
  have hn : ¬ m < 0 := by omega
  by_cases hi : -1000000000000 < i ∧ i < 1000000000000
  · have e : nou i m = decide (if m = 0 then i = 0 else i.fmod m = 0) := by unfold nou; rw [decide_eq_true hi]; rfl
    rw [e]
    by_cases hz : m = 0
    · subst hz
      simp only [ex_seq, nxt_nx, nxt_rt, nxt_ct, nxt_bk, ex_ifs, brn_t, brn_f, ex_pass, ex_ret, ex_expr, ex_asg, bndM_so, ex_par, ex_aug, ex_for, endD_nx, endD_rt, bind_nm, bind_nil, bind_cons, ev_var, ev_c, ev_bin, ev_neg, ev_cmp, chn_t, chn_f, ev_chain, ev_and, ev_or, ev_ite, and_t, and_f, or_t, or_f, ite_t, ite_f, ev_not, ev_tup, ev_lst, ev_ix, ev_sl, intM_int, ev_int, ev_lc, ev_call, evs_nil, evs_cons, evs_star, evs_it1, evs_rng1, evs_rng2, evs_zip, evs_enum, andThen_ret, andThen_assoc, optM_so, List.getElem?_cons_succ, List.getElem?_cons_zero, slotM_so, Option.bind_some, Option.map_some, bi_eq, List.set_cons_succ, List.set_cons_zero, bin_add, bin_sub, neg_int, cmp_lt, cmp_le, cmp_gt, cmp_ge, cmp_isbl, cmp_notbl, cmp_eq_int, cmp_ne_int, cmp_eq_bl, cmp_ne_bl, truthM_bl, Bool.not_true, Bool.not_false, lenOk0, lenOk1, lenOk2, lenOk3, intD_int, absD_int, lenD_tup, lenD_lst, lenD_scr, tupD_lst, tupD_tup, startE, List.map_cons, List.map_nil, List.length_cons, List.length_nil, Nat.zero_add, Nat.reduceAdd, Nat.reduceSub, List.replicate_succ, List.replicate_zero, List.cons_append, List.nil_append, lenOk_small, Nat.reduceLeDiff, eq_self, items_tup, items_lst, ixM_tup, ixM_lst, decide_true, decide_false, wipeE, hm, decide_eq_false hn, int_yes hi, nought0, if_true]
    · simp only [ex_seq, nxt_nx, nxt_rt, nxt_ct, nxt_bk, ex_ifs, brn_t, brn_f, ex_pass, ex_ret, ex_expr, ex_asg, bndM_so, ex_par, ex_aug, ex_for, endD_nx, endD_rt, bind_nm, bind_nil, bind_cons, ev_var, ev_c, ev_bin, ev_neg, ev_cmp, chn_t, chn_f, ev_chain, ev_and, ev_or, ev_ite, and_t, and_f, or_t, or_f, ite_t, ite_f, ev_not, ev_tup, ev_lst, ev_ix, ev_sl, intM_int, ev_int, ev_lc, ev_call, evs_nil, evs_cons, evs_star, evs_it1, evs_rng1, evs_rng2, evs_zip, evs_enum, andThen_ret, andThen_assoc, optM_so, List.getElem?_cons_succ, List.getElem?_cons_zero, slotM_so, Option.bind_some, Option.map_some, bi_eq, List.set_cons_succ, List.set_cons_zero, bin_add, bin_sub, neg_int, cmp_lt, cmp_le, cmp_gt, cmp_ge, cmp_isbl, cmp_notbl, cmp_eq_int, cmp_ne_int, cmp_eq_bl, cmp_ne_bl, truthM_bl, Bool.not_true, Bool.not_false, lenOk0, lenOk1, lenOk2, lenOk3, intD_int, absD_int, lenD_tup, lenD_lst, lenD_scr, tupD_lst, tupD_tup, startE, List.map_cons, List.map_nil, List.length_cons, List.length_nil, Nat.zero_add, Nat.reduceAdd, Nat.reduceSub, List.replicate_succ, List.replicate_zero, List.cons_append, List.nil_append, lenOk_small, Nat.reduceLeDiff, eq_self, items_tup, items_lst, ixM_tup, ixM_lst, decide_true, decide_false, wipeE, hm, decide_eq_false hn, int_yes hi, noughtN i hz, if_neg hz]
  · have e : nou i m = false := by unfold nou; rw [decide_eq_false hi]; rfl
    rw [e]
    simp only [ex_seq, nxt_nx, nxt_rt, nxt_ct, nxt_bk, ex_ifs, brn_t, brn_f, ex_pass, ex_ret, ex_expr, ex_asg, bndM_so, ex_par, ex_aug, ex_for, endD_nx, endD_rt, bind_nm, bind_nil, bind_cons, ev_var, ev_c, ev_bin, ev_neg, ev_cmp, chn_t, chn_f, ev_chain, ev_and, ev_or, ev_ite, and_t, and_f, or_t, or_f, ite_t, ite_f, ev_not, ev_tup, ev_lst, ev_ix, ev_sl, intM_int, ev_int, ev_lc, ev_call, evs_nil, evs_cons, evs_star, evs_it1, evs_rng1, evs_rng2, evs_zip, evs_enum, andThen_ret, andThen_assoc, optM_so, List.getElem?_cons_succ, List.getElem?_cons_zero, slotM_so, Option.bind_some, Option.map_some, bi_eq, List.set_cons_succ, List.set_cons_zero, bin_add, bin_sub, neg_int, cmp_lt, cmp_le, cmp_gt, cmp_ge, cmp_isbl, cmp_notbl, cmp_eq_int, cmp_ne_int, cmp_eq_bl, cmp_ne_bl, truthM_bl, Bool.not_true, Bool.not_false, lenOk0, lenOk1, lenOk2, lenOk3, intD_int, absD_int, lenD_tup, lenD_lst, lenD_scr, tupD_lst, tupD_tup, startE, List.map_cons, List.map_nil, List.length_cons, List.length_nil, Nat.zero_add, Nat.reduceAdd, Nat.reduceSub, List.replicate_succ, List.replicate_zero, List.cons_append, List.nil_append, lenOk_small, Nat.reduceLeDiff, eq_self, items_tup, items_lst, ixM_tup, ixM_lst, decide_true, decide_false, wipeE, hm, decide_eq_false hn, int_big hi]
theorem nought_no {x : D} (hx : plain x) {m : Int} (h0 : 0 ≤ m) (h : m < 1000000000000) : m_is_nought [x, .int m] = ret (.bl false) := by
  unfold m_is_nought c_is_nought
  rw [fn2]
  have hm : m_is_integer [.int m] = ret (.bl true) := int_yes ⟨by omega, h⟩
  have hn : ¬ m < 0 := by omega
  simp only [ex_seq, nxt_nx, nxt_rt, nxt_ct, nxt_bk, ex_ifs, brn_t, brn_f, ex_pass, ex_ret, ex_expr, ex_asg, bndM_so, ex_par, ex_aug, ex_for, endD_nx, endD_rt, bind_nm, bind_nil, bind_cons, ev_var, ev_c, ev_bin, ev_neg, ev_cmp, chn_t, chn_f, ev_chain, ev_and, ev_or, ev_ite, and_t, and_f, or_t, or_f, ite_t, ite_f, ev_not, ev_tup, ev_lst, ev_ix, ev_sl, intM_int, ev_int, ev_lc, ev_call, evs_nil, evs_cons, evs_star, evs_it1, evs_rng1, evs_rng2, evs_zip, evs_enum, andThen_ret, andThen_assoc, optM_so, List.getElem?_cons_succ, List.getElem?_cons_zero, slotM_so, Option.bind_some, Option.map_some, bi_eq, List.set_cons_succ, List.set_cons_zero, bin_add, bin_sub, neg_int, cmp_lt, cmp_le, cmp_gt, cmp_ge, cmp_isbl, cmp_notbl, cmp_eq_int, cmp_ne_int, cmp_eq_bl, cmp_ne_bl, truthM_bl, Bool.not_true, Bool.not_false, lenOk0, lenOk1, lenOk2, lenOk3, intD_int, absD_int, lenD_tup, lenD_lst, lenD_scr, tupD_lst, tupD_tup, startE, List.map_cons, List.map_nil, List.length_cons, List.length_nil, Nat.zero_add, Nat.reduceAdd, Nat.reduceSub, List.replicate_succ, List.replicate_zero, List.cons_append, List.nil_append, lenOk_small, Nat.reduceLeDiff, eq_self, items_tup, items_lst, ixM_tup, ixM_lst, decide_true, decide_false, wipeE, hm, decide_eq_false hn, int_no hx]
/-! Euclid -/
def tri (a b c : Int) : D := .tup [.int a, .int b, .int c]
theorem gcd_step (c f : Int) : Int.gcd f (c - c.fdiv f * f) = Int.gcd c f := by
  rw [Int.gcd_sub_mul_right_right, Int.gcd_comm]
theorem sub_fdiv (c f : Int) : c - c.fdiv f * f = c.fmod f := by
  have := Int.mul_fdiv_add_fmod c f
  rw [Int.mul_comm] at this
  omega
theorem fmod_abs (c : Int) {f : Int} (hf : f ≠ 0) : (c - c.fdiv f * f).natAbs < f.natAbs := by
  rw [sub_fdiv]
  rcases Int.lt_or_gt_of_ne hf with h | h
  · obtain ⟨h1, h2⟩ := fmod_lt (a := -c) (b := -f) (by omega)
    rw [Int.neg_fmod_neg] at h1 h2
    omega
  · obtain ⟨h1, h2⟩ := fmod_lt (a := c) h
    omega
theorem fdiv_abs (c : Int) {f : Int} (hf : f ≠ 0) : (c.fdiv f).natAbs ≤ c.natAbs := by
  rcases Int.lt_or_gt_of_ne hf with h | h
  · have := Int.natAbs_ediv_le_natAbs (-c) (-f)
    rw [← Int.fdiv_eq_ediv_of_nonneg _ (by omega), Int.neg_fdiv_neg] at this
    omega
  · rw [Int.fdiv_eq_ediv_of_nonneg _ (by omega)]
    exact Int.natAbs_ediv_le_natAbs c f
def wC : E := (.cmp .NotEq (.ix (.var 3) (.c (.int 2))) (.c (.int 0)))
def wB : S := (.seq (.asg (.nm 4) (.bin .FloorDiv (.ix (.var 2) (.c (.int 2))) (.ix (.var 3) (.c (.int 2))))) (.seq (.par 2 3 (.var 3) (.call (bi tupleD) (.cons (.lc [5, 6] (.cons (.nm 5) (.cons (.nm 6) .nil)) (.zip (.var 2) (.var 3)) (.c (.bl true)) (.bin .Sub (.var 5) (.bin .Mult (.var 4) (.var 6)))) .nil))) .pass))
theorem euclid (x y : Int) : ∀ (N : Nat) (a b c d e f : Int) (q : Option D), f.natAbs < N → c.natAbs < 2 ^ 63 → f.natAbs < 2 ^ 63 → a * x + b * y = c → d * x + e * y = f →
    ∃ a' b' c' t q', whlGo (fun e => andThen (ev wC e) truthM) (ex wB) N [some (.int x), some (.int y), some (tri a b c), some (tri d e f), q, none, none, none] = ret (.nx, [some (.int x), some (.int y), some (tri a' b' c'), t, q', none, none, none]) ∧ a' * x + b' * y = c' ∧ c'.natAbs = Int.gcd c f
  | 0, _, _, _, _, _, _, _, h, _, _, _, _ => absurd h (Nat.not_lt_zero _)
  | N + 1, a, b, c, d, e, f, q, h, h1, h2, h3, h4 => by
    by_cases hf : f = 0
    · subst hf
      refine ⟨a, b, c, _, q, whl_stop ?_, h3, by simp⟩
      unfold wC tri
      simp only [ex_seq, nxt_nx, nxt_rt, nxt_ct, nxt_bk, ex_ifs, brn_t, brn_f, ex_pass, ex_ret, ex_expr, ex_asg, bndM_so, ex_par, ex_aug, ex_for, endD_nx, endD_rt, bind_nm, bind_nil, bind_cons, ev_var, ev_c, ev_bin, ev_neg, ev_cmp, chn_t, chn_f, ev_chain, ev_and, ev_or, ev_ite, and_t, and_f, or_t, or_f, ite_t, ite_f, ev_not, ev_tup, ev_lst, ev_ix, ev_sl, intM_int, ev_int, ev_lc, ev_call, evs_nil, evs_cons, evs_star, evs_it1, evs_rng1, evs_rng2, evs_zip, evs_enum, andThen_ret, andThen_assoc, optM_so, List.getElem?_cons_succ, List.getElem?_cons_zero, slotM_so, Option.bind_some, Option.map_some, bi_eq, List.set_cons_succ, List.set_cons_zero, bin_add, bin_sub, neg_int, cmp_lt, cmp_le, cmp_gt, cmp_ge, cmp_isbl, cmp_notbl, cmp_eq_int, cmp_ne_int, cmp_eq_bl, cmp_ne_bl, truthM_bl, Bool.not_true, Bool.not_false, lenOk0, lenOk1, lenOk2, lenOk3, intD_int, absD_int, lenD_tup, lenD_lst, lenD_scr, tupD_lst, tupD_tup, startE, List.map_cons, List.map_nil, List.length_cons, List.length_nil, Nat.zero_add, Nat.reduceAdd, Nat.reduceSub, List.replicate_succ, List.replicate_zero, List.cons_append, List.nil_append, lenOk_small, Nat.reduceLeDiff, eq_self, items_tup, items_lst, ixM_tup, ixM_lst, decide_true, decide_false, wipeE, atI2]
    · have hq := fdiv_abs c hf
      have hm := fmod_abs c hf
      obtain ⟨a', b', c', t, q', e1, e2, e3⟩ := euclid x y N d e f (a - c.fdiv f * d) (b - c.fdiv f * e) (c - c.fdiv f * f) (some (.int (c.fdiv f))) (by omega) h2 (by omega) h4 (by
        rw [← h3, ← h4]
        simp only [Int.sub_mul, Int.mul_add, Int.mul_assoc]
        omega)
      refine ⟨a', b', c', t, q', ?_, e2, e3.trans (gcd_step c f)⟩
      rw [← e1]
      refine whl_go ?_ ?_
      · unfold wC tri
        simp only [ex_seq, nxt_nx, nxt_rt, nxt_ct, nxt_bk, ex_ifs, brn_t, brn_f, ex_pass, ex_ret, ex_expr, ex_asg, bndM_so, ex_par, ex_aug, ex_for, endD_nx, endD_rt, bind_nm, bind_nil, bind_cons, ev_var, ev_c, ev_bin, ev_neg, ev_cmp, chn_t, chn_f, ev_chain, ev_and, ev_or, ev_ite, and_t, and_f, or_t, or_f, ite_t, ite_f, ev_not, ev_tup, ev_lst, ev_ix, ev_sl, intM_int, ev_int, ev_lc, ev_call, evs_nil, evs_cons, evs_star, evs_it1, evs_rng1, evs_rng2, evs_zip, evs_enum, andThen_ret, andThen_assoc, optM_so, List.getElem?_cons_succ, List.getElem?_cons_zero, slotM_so, Option.bind_some, Option.map_some, bi_eq, List.set_cons_succ, List.set_cons_zero, bin_add, bin_sub, neg_int, cmp_lt, cmp_le, cmp_gt, cmp_ge, cmp_isbl, cmp_notbl, cmp_eq_int, cmp_ne_int, cmp_eq_bl, cmp_ne_bl, truthM_bl, Bool.not_true, Bool.not_false, lenOk0, lenOk1, lenOk2, lenOk3, intD_int, absD_int, lenD_tup, lenD_lst, lenD_scr, tupD_lst, tupD_tup, startE, List.map_cons, List.map_nil, List.length_cons, List.length_nil, Nat.zero_add, Nat.reduceAdd, Nat.reduceSub, List.replicate_succ, List.replicate_zero, List.cons_append, List.nil_append, lenOk_small, Nat.reduceLeDiff, eq_self, items_tup, items_lst, ixM_tup, ixM_lst, decide_true, decide_false, wipeE, atI2, decide_eq_false hf]
      · have hd : okDiv f = true := okDiv_small hf (by omega)
        have hz : ∀ z, okMul (c.fdiv f) z = true := fun z => okMul_l (by omega)
        have el : lcGo (lcF [5, 6] (.cons (.nm 5) (.cons (.nm 6) .nil)) (.c (.bl true)) (.bin .Sub (.var 5) (.bin .Mult (.var 4) (.var 6))) [some (.int x), some (.int y), some (tri a b c), some (tri d e f), some (.int (c.fdiv f)), none, none, none]) [] [.tup [.int a, .int d], .tup [.int b, .int e], .tup [.int c, .int f]] =
            ret [.int (a - c.fdiv f * d), .int (b - c.fdiv f * e), .int (c - c.fdiv f * f)] := by
          refine lcGo_map (g := fun p => match p with
            | .tup [.int u, .int v] => .int (u - c.fdiv f * v)
            | p => p) _ _ (fun p hp => ?_) (Nat.le_trans (by decide : 0 + 3 ≤ 1000000) line_big)
          have hu : ∃ u v, p = .tup [.int u, .int v] := by
            simp only [List.mem_cons, List.not_mem_nil, or_false] at hp
            rcases hp with rfl | rfl | rfl <;> exact ⟨_, _, rfl⟩
          obtain ⟨u, v, rfl⟩ := hu
          unfold lcF
          simp only [ex_seq, nxt_nx, nxt_rt, nxt_ct, nxt_bk, ex_ifs, brn_t, brn_f, ex_pass, ex_ret, ex_expr, ex_asg, bndM_so, ex_par, ex_aug, ex_for, endD_nx, endD_rt, bind_nm, bind_nil, bind_cons, ev_var, ev_c, ev_bin, ev_neg, ev_cmp, chn_t, chn_f, ev_chain, ev_and, ev_or, ev_ite, and_t, and_f, or_t, or_f, ite_t, ite_f, ev_not, ev_tup, ev_lst, ev_ix, ev_sl, intM_int, ev_int, ev_lc, ev_call, evs_nil, evs_cons, evs_star, evs_it1, evs_rng1, evs_rng2, evs_zip, evs_enum, andThen_ret, andThen_assoc, optM_so, List.getElem?_cons_succ, List.getElem?_cons_zero, slotM_so, Option.bind_some, Option.map_some, bi_eq, List.set_cons_succ, List.set_cons_zero, bin_add, bin_sub, neg_int, cmp_lt, cmp_le, cmp_gt, cmp_ge, cmp_isbl, cmp_notbl, cmp_eq_int, cmp_ne_int, cmp_eq_bl, cmp_ne_bl, truthM_bl, Bool.not_true, Bool.not_false, lenOk0, lenOk1, lenOk2, lenOk3, intD_int, absD_int, lenD_tup, lenD_lst, lenD_scr, tupD_lst, tupD_tup, startE, List.map_cons, List.map_nil, List.length_cons, List.length_nil, Nat.zero_add, Nat.reduceAdd, Nat.reduceSub, List.replicate_succ, List.replicate_zero, List.cons_append, List.nil_append, lenOk_small, Nat.reduceLeDiff, eq_self, items_tup, items_lst, ixM_tup, ixM_lst, decide_true, decide_false, wipeE, noXM_ret, bin_mul (hz _), if_true]
        have ez : zipD [tri a b c, tri d e f] = some [.tup [.int a, .int d], .tup [.int b, .int e], .tup [.int c, .int f]] := rfl
        have et : tupleD [.lst [.int (a - c.fdiv f * d), .int (b - c.fdiv f * e), .int (c - c.fdiv f * f)]] = some (tri (a - c.fdiv f * d) (b - c.fdiv f * e) (c - c.fdiv f * f)) := rfl
        have ex1 : ∀ a b c : Int, ixM (tri a b c) (.int 2) = ret (.int c) := fun _ _ _ => rfl
        unfold wB
        simp only [ex_seq, nxt_nx, nxt_rt, nxt_ct, nxt_bk, ex_ifs, brn_t, brn_f, ex_pass, ex_ret, ex_expr, ex_asg, bndM_so, ex_par, ex_aug, ex_for, endD_nx, endD_rt, bind_nm, bind_nil, bind_cons, ev_var, ev_c, ev_bin, ev_neg, ev_cmp, chn_t, chn_f, ev_chain, ev_and, ev_or, ev_ite, and_t, and_f, or_t, or_f, ite_t, ite_f, ev_not, ev_tup, ev_lst, ev_ix, ev_sl, intM_int, ev_int, ev_lc, ev_call, evs_nil, evs_cons, evs_star, evs_it1, evs_rng1, evs_rng2, evs_zip, evs_enum, andThen_ret, andThen_assoc, optM_so, List.getElem?_cons_succ, List.getElem?_cons_zero, slotM_so, Option.bind_some, Option.map_some, bi_eq, List.set_cons_succ, List.set_cons_zero, bin_add, bin_sub, neg_int, cmp_lt, cmp_le, cmp_gt, cmp_ge, cmp_isbl, cmp_notbl, cmp_eq_int, cmp_ne_int, cmp_eq_bl, cmp_ne_bl, truthM_bl, Bool.not_true, Bool.not_false, lenOk0, lenOk1, lenOk2, lenOk3, intD_int, absD_int, lenD_tup, lenD_lst, lenD_scr, tupD_lst, tupD_tup, startE, List.map_cons, List.map_nil, List.length_cons, List.length_nil, Nat.zero_add, Nat.reduceAdd, Nat.reduceSub, List.replicate_succ, List.replicate_zero, List.cons_append, List.nil_append, lenOk_small, Nat.reduceLeDiff, eq_self, items_tup, items_lst, ixM_tup, ixM_lst, decide_true, decide_false, wipeE, ex1, bin_fdiv hd, ez, el, et]
theorem fuel_big : 2 ^ 64 ≤ fuelW := by unfold fuelW; decide +kernel
theorem sharedIn {x y : Int} (hx : x.natAbs < 2 ^ 63) (hy : y.natAbs < 2 ^ 63) : ∃ a b, m_shared_in [.int x, .int y] = ret (tri a b (Int.gcd x y)) ∧ a * x + b * y = Int.gcd x y := by
  obtain ⟨a, b, c, t, q, e1, e2, e3⟩ := euclid x y fuelW 1 0 x 0 1 y none (Nat.lt_of_lt_of_le (by omega) fuel_big) hx hy (by omega) (by omega)
  have hw : ex (.whl fuelW wC wB) [some (.int x), some (.int y), some (tri 1 0 x), some (tri 0 1 y), none, none, none, none] = ret (.nx, [some (.int x), some (.int y), some (tri a b c), t, q, none, none, none]) := e1
  unfold wC wB tri at hw
  by_cases hc : 0 ≤ c
  · refine ⟨a, b, ?_, by omega⟩
    unfold m_shared_in c_shared_in
    rw [fn2]
    rw [show ((Int.gcd x y : Nat) : Int) = c by omega]
    simp only [ex_seq, nxt_nx, nxt_rt, nxt_ct, nxt_bk, ex_ifs, brn_t, brn_f, ex_pass, ex_ret, ex_expr, ex_asg, bndM_so, ex_par, ex_aug, ex_for, endD_nx, endD_rt, bind_nm, bind_nil, bind_cons, ev_var, ev_c, ev_bin, ev_neg, ev_cmp, chn_t, chn_f, ev_chain, ev_and, ev_or, ev_ite, and_t, and_f, or_t, or_f, ite_t, ite_f, ev_not, ev_tup, ev_lst, ev_ix, ev_sl, intM_int, ev_int, ev_lc, ev_call, evs_nil, evs_cons, evs_star, evs_it1, evs_rng1, evs_rng2, evs_zip, evs_enum, andThen_ret, andThen_assoc, optM_so, List.getElem?_cons_succ, List.getElem?_cons_zero, slotM_so, Option.bind_some, Option.map_some, bi_eq, List.set_cons_succ, List.set_cons_zero, bin_add, bin_sub, neg_int, cmp_lt, cmp_le, cmp_gt, cmp_ge, cmp_isbl, cmp_notbl, cmp_eq_int, cmp_ne_int, cmp_eq_bl, cmp_ne_bl, truthM_bl, Bool.not_true, Bool.not_false, lenOk0, lenOk1, lenOk2, lenOk3, intD_int, absD_int, lenD_tup, lenD_lst, lenD_scr, tupD_lst, tupD_tup, startE, List.map_cons, List.map_nil, List.length_cons, List.length_nil, Nat.zero_add, Nat.reduceAdd, Nat.reduceSub, List.replicate_succ, List.replicate_zero, List.cons_append, List.nil_append, lenOk_small, Nat.reduceLeDiff, eq_self, items_tup, items_lst, ixM_tup, ixM_lst, decide_true, decide_false, wipeE, hw, atI2, decide_eq_true hc]
    rfl
  · refine ⟨-a, -b, ?_, ?_⟩
    · unfold m_shared_in c_shared_in
      rw [fn2]
      rw [show ((Int.gcd x y : Nat) : Int) = -c by omega]
      have el : ∀ e : Ev, e.length = 8 → lcGo (lcF [7] (.nm 7) (.c (.bl true)) (.neg (.var 7)) e) [] [.int a, .int b, .int c] = ret [.int (-a), .int (-b), .int (-c)] := by
        intro e he
        refine lcGo_map (g := fun p => match p with
          | .int u => .int (-u)
          | p => p) _ _ (fun p hp => ?_) (Nat.le_trans (by decide : 0 + 3 ≤ 1000000) line_big)
        have hu : ∃ u, p = .int u := by
          simp only [List.mem_cons, List.not_mem_nil, or_false] at hp
          rcases hp with rfl | rfl | rfl <;> exact ⟨_, rfl⟩
        obtain ⟨u, rfl⟩ := hu
        match e, he with
        | [x0, x1, x2, x3, x4, x5, x6, x7], _ =>
        unfold lcF
        simp only [ex_seq, nxt_nx, nxt_rt, nxt_ct, nxt_bk, ex_ifs, brn_t, brn_f, ex_pass, ex_ret, ex_expr, ex_asg, bndM_so, ex_par, ex_aug, ex_for, endD_nx, endD_rt, bind_nm, bind_nil, bind_cons, ev_var, ev_c, ev_bin, ev_neg, ev_cmp, chn_t, chn_f, ev_chain, ev_and, ev_or, ev_ite, and_t, and_f, or_t, or_f, ite_t, ite_f, ev_not, ev_tup, ev_lst, ev_ix, ev_sl, intM_int, ev_int, ev_lc, ev_call, evs_nil, evs_cons, evs_star, evs_it1, evs_rng1, evs_rng2, evs_zip, evs_enum, andThen_ret, andThen_assoc, optM_so, List.getElem?_cons_succ, List.getElem?_cons_zero, slotM_so, Option.bind_some, Option.map_some, bi_eq, List.set_cons_succ, List.set_cons_zero, bin_add, bin_sub, neg_int, cmp_lt, cmp_le, cmp_gt, cmp_ge, cmp_isbl, cmp_notbl, cmp_eq_int, cmp_ne_int, cmp_eq_bl, cmp_ne_bl, truthM_bl, Bool.not_true, Bool.not_false, lenOk0, lenOk1, lenOk2, lenOk3, intD_int, absD_int, lenD_tup, lenD_lst, lenD_scr, tupD_lst, tupD_tup, startE, List.map_cons, List.map_nil, List.length_cons, List.length_nil, Nat.zero_add, Nat.reduceAdd, Nat.reduceSub, List.replicate_succ, List.replicate_zero, List.cons_append, List.nil_append, lenOk_small, Nat.reduceLeDiff, eq_self, items_tup, items_lst, ixM_tup, ixM_lst, decide_true, decide_false, wipeE, noXM_ret, if_true]
      have et : tupleD [.lst [.int (-a), .int (-b), .int (-c)]] = some (tri (-a) (-b) (-c)) := rfl
      simp only [ex_seq, nxt_nx, nxt_rt, nxt_ct, nxt_bk, ex_ifs, brn_t, brn_f, ex_pass, ex_ret, ex_expr, ex_asg, bndM_so, ex_par, ex_aug, ex_for, endD_nx, endD_rt, bind_nm, bind_nil, bind_cons, ev_var, ev_c, ev_bin, ev_neg, ev_cmp, chn_t, chn_f, ev_chain, ev_and, ev_or, ev_ite, and_t, and_f, or_t, or_f, ite_t, ite_f, ev_not, ev_tup, ev_lst, ev_ix, ev_sl, intM_int, ev_int, ev_lc, ev_call, evs_nil, evs_cons, evs_star, evs_it1, evs_rng1, evs_rng2, evs_zip, evs_enum, andThen_ret, andThen_assoc, optM_so, List.getElem?_cons_succ, List.getElem?_cons_zero, slotM_so, Option.bind_some, Option.map_some, bi_eq, List.set_cons_succ, List.set_cons_zero, bin_add, bin_sub, neg_int, cmp_lt, cmp_le, cmp_gt, cmp_ge, cmp_isbl, cmp_notbl, cmp_eq_int, cmp_ne_int, cmp_eq_bl, cmp_ne_bl, truthM_bl, Bool.not_true, Bool.not_false, lenOk0, lenOk1, lenOk2, lenOk3, intD_int, absD_int, lenD_tup, lenD_lst, lenD_scr, tupD_lst, tupD_tup, startE, List.map_cons, List.map_nil, List.length_cons, List.length_nil, Nat.zero_add, Nat.reduceAdd, Nat.reduceSub, List.replicate_succ, List.replicate_zero, List.cons_append, List.nil_append, lenOk_small, Nat.reduceLeDiff, eq_self, items_tup, items_lst, ixM_tup, ixM_lst, decide_true, decide_false, wipeE, hw, atI2, decide_eq_false hc, el [some (.int x), some (.int y), some (.tup [.int a, .int b, .int c]), t, q, none, none, none] rfl, et]
    · rw [Int.neg_mul, Int.neg_mul]
      omega
abbrev small (x : Int) : Prop := -1000000000000 < x ∧ x < 1000000000000
theorem shared_law {x y : Int} (hx : small x) (hy : small y) : ∃ a b, m_shared [.int x, .int y] = ret (tri a b (Int.gcd x y)) ∧ a * x + b * y = Int.gcd x y := by
  obtain ⟨a, b, e, h⟩ := sharedIn (x := x) (y := y) (by omega) (by omega)
  refine ⟨a, b, ?_, h⟩
  unfold m_shared c_shared
  rw [fn2]
  simp only [ex_seq, nxt_nx, nxt_rt, nxt_ct, nxt_bk, ex_ifs, brn_t, brn_f, ex_pass, ex_ret, ex_expr, ex_asg, bndM_so, ex_par, ex_aug, ex_for, endD_nx, endD_rt, bind_nm, bind_nil, bind_cons, ev_var, ev_c, ev_bin, ev_neg, ev_cmp, chn_t, chn_f, ev_chain, ev_and, ev_or, ev_ite, and_t, and_f, or_t, or_f, ite_t, ite_f, ev_not, ev_tup, ev_lst, ev_ix, ev_sl, intM_int, ev_int, ev_lc, ev_call, evs_nil, evs_cons, evs_star, evs_it1, evs_rng1, evs_rng2, evs_zip, evs_enum, andThen_ret, andThen_assoc, optM_so, List.getElem?_cons_succ, List.getElem?_cons_zero, slotM_so, Option.bind_some, Option.map_some, bi_eq, List.set_cons_succ, List.set_cons_zero, bin_add, bin_sub, neg_int, cmp_lt, cmp_le, cmp_gt, cmp_ge, cmp_isbl, cmp_notbl, cmp_eq_int, cmp_ne_int, cmp_eq_bl, cmp_ne_bl, truthM_bl, Bool.not_true, Bool.not_false, lenOk0, lenOk1, lenOk2, lenOk3, intD_int, absD_int, lenD_tup, lenD_lst, lenD_scr, tupD_lst, tupD_tup, startE, List.map_cons, List.map_nil, List.length_cons, List.length_nil, Nat.zero_add, Nat.reduceAdd, Nat.reduceSub, List.replicate_succ, List.replicate_zero, List.cons_append, List.nil_append, lenOk_small, Nat.reduceLeDiff, eq_self, items_tup, items_lst, ixM_tup, ixM_lst, decide_true, decide_false, wipeE, req_yes hx, req_yes hy, e]
def vC : E := (.cmp .NotEq (.var 1) (.c (.int 0)))
def vB : S := (.seq (.par 0 1 (.var 1) (.bin .Mod (.var 0) (.var 1))) .pass)
theorem euclid2 : ∀ (N : Nat) (a b : Int), b.natAbs < N → 0 ≤ a → 0 ≤ b → whlGo (fun e => andThen (ev vC e) truthM) (ex vB) N [some (.int a), some (.int b)] = ret (.nx, [some (.int (Int.gcd a b)), some (.int 0)])
  | 0, _, _, h, _, _ => absurd h (Nat.not_lt_zero _)
  | N + 1, a, b, h, h1, h2 => by
    by_cases hb : b = 0
    · subst hb
      rw [whl_stop]
      · rw [show ((Int.gcd a 0 : Nat) : Int) = a by rw [Int.gcd_zero_right]; omega]
      · unfold vC
        simp only [ex_seq, nxt_nx, nxt_rt, nxt_ct, nxt_bk, ex_ifs, brn_t, brn_f, ex_pass, ex_ret, ex_expr, ex_asg, bndM_so, ex_par, ex_aug, ex_for, endD_nx, endD_rt, bind_nm, bind_nil, bind_cons, ev_var, ev_c, ev_bin, ev_neg, ev_cmp, chn_t, chn_f, ev_chain, ev_and, ev_or, ev_ite, and_t, and_f, or_t, or_f, ite_t, ite_f, ev_not, ev_tup, ev_lst, ev_ix, ev_sl, intM_int, ev_int, ev_lc, ev_call, evs_nil, evs_cons, evs_star, evs_it1, evs_rng1, evs_rng2, evs_zip, evs_enum, andThen_ret, andThen_assoc, optM_so, List.getElem?_cons_succ, List.getElem?_cons_zero, slotM_so, Option.bind_some, Option.map_some, bi_eq, List.set_cons_succ, List.set_cons_zero, bin_add, bin_sub, neg_int, cmp_lt, cmp_le, cmp_gt, cmp_ge, cmp_isbl, cmp_notbl, cmp_eq_int, cmp_ne_int, cmp_eq_bl, cmp_ne_bl, truthM_bl, Bool.not_true, Bool.not_false, lenOk0, lenOk1, lenOk2, lenOk3, intD_int, absD_int, lenD_tup, lenD_lst, lenD_scr, tupD_lst, tupD_tup, startE, List.map_cons, List.map_nil, List.length_cons, List.length_nil, Nat.zero_add, Nat.reduceAdd, Nat.reduceSub, List.replicate_succ, List.replicate_zero, List.cons_append, List.nil_append, lenOk_small, Nat.reduceLeDiff, eq_self, items_tup, items_lst, ixM_tup, ixM_lst, decide_true, decide_false, wipeE]
    · obtain ⟨m1, m2⟩ := fmod_lt (a := a) (b := b) (by omega)
      have e1 := euclid2 N b (a.fmod b) (by omega) h2 m1
      rw [← sub_fdiv, gcd_step, sub_fdiv] at e1
      rw [← e1]
      refine whl_go ?_ ?_
      · unfold vC
        simp only [ex_seq, nxt_nx, nxt_rt, nxt_ct, nxt_bk, ex_ifs, brn_t, brn_f, ex_pass, ex_ret, ex_expr, ex_asg, bndM_so, ex_par, ex_aug, ex_for, endD_nx, endD_rt, bind_nm, bind_nil, bind_cons, ev_var, ev_c, ev_bin, ev_neg, ev_cmp, chn_t, chn_f, ev_chain, ev_and, ev_or, ev_ite, and_t, and_f, or_t, or_f, ite_t, ite_f, ev_not, ev_tup, ev_lst, ev_ix, ev_sl, intM_int, ev_int, ev_lc, ev_call, evs_nil, evs_cons, evs_star, evs_it1, evs_rng1, evs_rng2, evs_zip, evs_enum, andThen_ret, andThen_assoc, optM_so, List.getElem?_cons_succ, List.getElem?_cons_zero, slotM_so, Option.bind_some, Option.map_some, bi_eq, List.set_cons_succ, List.set_cons_zero, bin_add, bin_sub, neg_int, cmp_lt, cmp_le, cmp_gt, cmp_ge, cmp_isbl, cmp_notbl, cmp_eq_int, cmp_ne_int, cmp_eq_bl, cmp_ne_bl, truthM_bl, Bool.not_true, Bool.not_false, lenOk0, lenOk1, lenOk2, lenOk3, intD_int, absD_int, lenD_tup, lenD_lst, lenD_scr, tupD_lst, tupD_tup, startE, List.map_cons, List.map_nil, List.length_cons, List.length_nil, Nat.zero_add, Nat.reduceAdd, Nat.reduceSub, List.replicate_succ, List.replicate_zero, List.cons_append, List.nil_append, lenOk_small, Nat.reduceLeDiff, eq_self, items_tup, items_lst, ixM_tup, ixM_lst, decide_true, decide_false, wipeE, decide_eq_false hb]
      · unfold vB
        simp only [ex_seq, nxt_nx, nxt_rt, nxt_ct, nxt_bk, ex_ifs, brn_t, brn_f, ex_pass, ex_ret, ex_expr, ex_asg, bndM_so, ex_par, ex_aug, ex_for, endD_nx, endD_rt, bind_nm, bind_nil, bind_cons, ev_var, ev_c, ev_bin, ev_neg, ev_cmp, chn_t, chn_f, ev_chain, ev_and, ev_or, ev_ite, and_t, and_f, or_t, or_f, ite_t, ite_f, ev_not, ev_tup, ev_lst, ev_ix, ev_sl, intM_int, ev_int, ev_lc, ev_call, evs_nil, evs_cons, evs_star, evs_it1, evs_rng1, evs_rng2, evs_zip, evs_enum, andThen_ret, andThen_assoc, optM_so, List.getElem?_cons_succ, List.getElem?_cons_zero, slotM_so, Option.bind_some, Option.map_some, bi_eq, List.set_cons_succ, List.set_cons_zero, bin_add, bin_sub, neg_int, cmp_lt, cmp_le, cmp_gt, cmp_ge, cmp_isbl, cmp_notbl, cmp_eq_int, cmp_ne_int, cmp_eq_bl, cmp_ne_bl, truthM_bl, Bool.not_true, Bool.not_false, lenOk0, lenOk1, lenOk2, lenOk3, intD_int, absD_int, lenD_tup, lenD_lst, lenD_scr, tupD_lst, tupD_tup, startE, List.map_cons, List.map_nil, List.length_cons, List.length_nil, Nat.zero_add, Nat.reduceAdd, Nat.reduceSub, List.replicate_succ, List.replicate_zero, List.cons_append, List.nil_append, lenOk_small, Nat.reduceLeDiff, eq_self, items_tup, items_lst, ixM_tup, ixM_lst, decide_true, decide_false, wipeE, bin_mod hb]
theorem lawShared {x y : Int} (hx : small x) (hy : small y) : m__law_shared [.int x, .int y] = ret (.int (Int.gcd x y)) := by
  have e1 := euclid2 fuelW x.natAbs y.natAbs (Nat.lt_of_lt_of_le (by omega) fuel_big) (by omega) (by omega)
  have hw : ex (.whl fuelW vC vB) [some (.int (x.natAbs : Int)), some (.int (y.natAbs : Int))] = ret (.nx, [some (.int (Int.gcd (x.natAbs : Int) (y.natAbs : Int))), some (.int 0)]) := e1
  unfold vC vB at hw
  unfold m__law_shared c__law_shared
  rw [fn2]
  simp only [ex_seq, nxt_nx, nxt_rt, nxt_ct, nxt_bk, ex_ifs, brn_t, brn_f, ex_pass, ex_ret, ex_expr, ex_asg, bndM_so, ex_par, ex_aug, ex_for, endD_nx, endD_rt, bind_nm, bind_nil, bind_cons, ev_var, ev_c, ev_bin, ev_neg, ev_cmp, chn_t, chn_f, ev_chain, ev_and, ev_or, ev_ite, and_t, and_f, or_t, or_f, ite_t, ite_f, ev_not, ev_tup, ev_lst, ev_ix, ev_sl, intM_int, ev_int, ev_lc, ev_call, evs_nil, evs_cons, evs_star, evs_it1, evs_rng1, evs_rng2, evs_zip, evs_enum, andThen_ret, andThen_assoc, optM_so, List.getElem?_cons_succ, List.getElem?_cons_zero, slotM_so, Option.bind_some, Option.map_some, bi_eq, List.set_cons_succ, List.set_cons_zero, bin_add, bin_sub, neg_int, cmp_lt, cmp_le, cmp_gt, cmp_ge, cmp_isbl, cmp_notbl, cmp_eq_int, cmp_ne_int, cmp_eq_bl, cmp_ne_bl, truthM_bl, Bool.not_true, Bool.not_false, lenOk0, lenOk1, lenOk2, lenOk3, intD_int, absD_int, lenD_tup, lenD_lst, lenD_scr, tupD_lst, tupD_tup, startE, List.map_cons, List.map_nil, List.length_cons, List.length_nil, Nat.zero_add, Nat.reduceAdd, Nat.reduceSub, List.replicate_succ, List.replicate_zero, List.cons_append, List.nil_append, lenOk_small, Nat.reduceLeDiff, eq_self, items_tup, items_lst, ixM_tup, ixM_lst, decide_true, decide_false, wipeE, hw]
  rw [show Int.gcd (x.natAbs : Int) (y.natAbs : Int) = Int.gcd x y from rfl]
/-! draws -/
theorem pow6 : binD .Pow (.int 10) (.int 6) = some (.int 1000000) := bin_pow (by decide +kernel)
theorem pow12 : binD .Pow (.int 10) (.int 12) = some (.int 1000000000000) := bin_pow (by decide +kernel)
theorem eUp : m__law_up_to = mDraw := rfl
theorem eOut : m__law_out_of = mOut := rfl
section
variable {β : Type} {P : β → Sto → Prop} {E : Str → D → Sto → Prop} {st : Sto} {i : Nat}
theorem jg_all {f : D → M β} (hs : st[i]? = some .hat) (h : ∀ z : Int, small z → OkM (f (.int z)) st P E) : OkM (andThen (m__law_jg_entry [.ref i]) f) st P E := by
  unfold m__law_jg_entry c__law_jg_entry
  rw [fn1]
  simp only [ex_seq, nxt_nx, nxt_rt, nxt_ct, nxt_bk, ex_ifs, brn_t, brn_f, ex_pass, ex_ret, ex_expr, ex_asg, bndM_so, ex_par, ex_aug, ex_for, endD_nx, endD_rt, bind_nm, bind_nil, bind_cons, ev_var, ev_c, ev_bin, ev_neg, ev_cmp, chn_t, chn_f, ev_chain, ev_and, ev_or, ev_ite, and_t, and_f, or_t, or_f, ite_t, ite_f, ev_not, ev_tup, ev_lst, ev_ix, ev_sl, intM_int, ev_int, ev_lc, ev_call, evs_nil, evs_cons, evs_star, evs_it1, evs_rng1, evs_rng2, evs_zip, evs_enum, andThen_ret, andThen_assoc, optM_so, List.getElem?_cons_succ, List.getElem?_cons_zero, slotM_so, Option.bind_some, Option.map_some, bi_eq, List.set_cons_succ, List.set_cons_zero, bin_add, bin_sub, neg_int, cmp_lt, cmp_le, cmp_gt, cmp_ge, cmp_isbl, cmp_notbl, cmp_eq_int, cmp_ne_int, cmp_eq_bl, cmp_ne_bl, truthM_bl, Bool.not_true, Bool.not_false, lenOk0, lenOk1, lenOk2, lenOk3, intD_int, absD_int, lenD_tup, lenD_lst, lenD_scr, tupD_lst, tupD_tup, startE, List.map_cons, List.map_nil, List.length_cons, List.length_nil, Nat.zero_add, Nat.reduceAdd, Nat.reduceSub, List.replicate_succ, List.replicate_zero, List.cons_append, List.nil_append, lenOk_small, Nat.reduceLeDiff, eq_self, items_tup, items_lst, ixM_tup, ixM_lst, decide_true, decide_false, wipeE, pow6, pow12, eUp, eOut]
  refine draw_all hs (by decide) (by decide) fun k hk => ?_
  simp only [ex_seq, nxt_nx, nxt_rt, nxt_ct, nxt_bk, ex_ifs, brn_t, brn_f, ex_pass, ex_ret, ex_expr, ex_asg, bndM_so, ex_par, ex_aug, ex_for, endD_nx, endD_rt, bind_nm, bind_nil, bind_cons, ev_var, ev_c, ev_bin, ev_neg, ev_cmp, chn_t, chn_f, ev_chain, ev_and, ev_or, ev_ite, and_t, and_f, or_t, or_f, ite_t, ite_f, ev_not, ev_tup, ev_lst, ev_ix, ev_sl, intM_int, ev_int, ev_lc, ev_call, evs_nil, evs_cons, evs_star, evs_it1, evs_rng1, evs_rng2, evs_zip, evs_enum, andThen_ret, andThen_assoc, optM_so, List.getElem?_cons_succ, List.getElem?_cons_zero, slotM_so, Option.bind_some, Option.map_some, bi_eq, List.set_cons_succ, List.set_cons_zero, bin_add, bin_sub, neg_int, cmp_lt, cmp_le, cmp_gt, cmp_ge, cmp_isbl, cmp_notbl, cmp_eq_int, cmp_ne_int, cmp_eq_bl, cmp_ne_bl, truthM_bl, Bool.not_true, Bool.not_false, lenOk0, lenOk1, lenOk2, lenOk3, intD_int, absD_int, lenD_tup, lenD_lst, lenD_scr, tupD_lst, tupD_tup, startE, List.map_cons, List.map_nil, List.length_cons, List.length_nil, Nat.zero_add, Nat.reduceAdd, Nat.reduceSub, List.replicate_succ, List.replicate_zero, List.cons_append, List.nil_append, lenOk_small, Nat.reduceLeDiff, eq_self, items_tup, items_lst, ixM_tup, ixM_lst, decide_true, decide_false, wipeE, pow6, pow12, eUp, eOut]
  refine out_all hs (by simp) (by simp) fun x hx => ?_
  have hx' : ∃ z, x = .int z ∧ small z := by
    simp only [List.mem_cons, List.not_mem_nil, or_false] at hx
    rcases hx with rfl | rfl | rfl | rfl | rfl | rfl | rfl | rfl | rfl | rfl
    all_goals exact ⟨_, rfl, by omega, by omega⟩
  obtain ⟨z, rfl, hz⟩ := hx'
  exact h z hz
theorem num_all {f : D → M β} (hs : st[i]? = some .hat) (h : ∀ z : Int, -3 ≤ z → z ≤ 3 → OkM (f (.int z)) st P E) : OkM (andThen (m__law_number [.ref i]) f) st P E := by
  unfold m__law_number c__law_number
  rw [fn1]
  simp only [ex_seq, nxt_nx, nxt_rt, nxt_ct, nxt_bk, ex_ifs, brn_t, brn_f, ex_pass, ex_ret, ex_expr, ex_asg, bndM_so, ex_par, ex_aug, ex_for, endD_nx, endD_rt, bind_nm, bind_nil, bind_cons, ev_var, ev_c, ev_bin, ev_neg, ev_cmp, chn_t, chn_f, ev_chain, ev_and, ev_or, ev_ite, and_t, and_f, or_t, or_f, ite_t, ite_f, ev_not, ev_tup, ev_lst, ev_ix, ev_sl, intM_int, ev_int, ev_lc, ev_call, evs_nil, evs_cons, evs_star, evs_it1, evs_rng1, evs_rng2, evs_zip, evs_enum, andThen_ret, andThen_assoc, optM_so, List.getElem?_cons_succ, List.getElem?_cons_zero, slotM_so, Option.bind_some, Option.map_some, bi_eq, List.set_cons_succ, List.set_cons_zero, bin_add, bin_sub, neg_int, cmp_lt, cmp_le, cmp_gt, cmp_ge, cmp_isbl, cmp_notbl, cmp_eq_int, cmp_ne_int, cmp_eq_bl, cmp_ne_bl, truthM_bl, Bool.not_true, Bool.not_false, lenOk0, lenOk1, lenOk2, lenOk3, intD_int, absD_int, lenD_tup, lenD_lst, lenD_scr, tupD_lst, tupD_tup, startE, List.map_cons, List.map_nil, List.length_cons, List.length_nil, Nat.zero_add, Nat.reduceAdd, Nat.reduceSub, List.replicate_succ, List.replicate_zero, List.cons_append, List.nil_append, lenOk_small, Nat.reduceLeDiff, eq_self, items_tup, items_lst, ixM_tup, ixM_lst, decide_true, decide_false, wipeE, eOut]
  refine out_all hs (by simp) (by simp) fun x hx => ?_
  have hx' : ∃ z, x = .int z ∧ -3 ≤ z ∧ z ≤ 3 := by
    simp only [List.mem_cons, List.not_mem_nil, or_false] at hx
    rcases hx with rfl | rfl | rfl | rfl | rfl | rfl | rfl | rfl
    all_goals exact ⟨_, rfl, by omega, by omega⟩
  obtain ⟨z, rfl, h1, h2⟩ := hx'
  exact h z h1 h2
end
/-! the law's turn -/
theorem fmod_dvd (x : Int) {m : Int} (h : 0 < m) : x.fmod m = 0 ↔ m ∣ x := by
  rw [Int.fmod_eq_emod_of_nonneg _ (by omega)]
  exact ⟨Int.dvd_of_emod_eq_zero, Int.emod_eq_zero_of_dvd⟩
theorem nou_abs {x m : Int} (hx : small x) (h : 0 < m) : nou x m = decide ((x.natAbs : Int).fmod m = 0) := by
  unfold nou
  rw [decide_eq_true hx, Bool.true_and]
  refine decide_eq_decide.mpr ?_
  rw [if_neg (by omega)]
  rw [fmod_dvd _ h, fmod_dvd _ h]
  exact Int.dvd_natAbs.symm
theorem nou_zero {x : Int} (hx : small x) : nou x 0 = decide (x = 0) := by
  unfold nou
  rw [decide_eq_true hx, Bool.true_and]
  exact decide_eq_decide.mpr (by rw [if_pos rfl])
theorem nou_dvd {x m : Int} (hx : small x) (h : 0 ≤ m) (hd : m ∣ x) : nou x m = true := by
  unfold nou
  rw [decide_eq_true hx, Bool.true_and]
  refine decide_eq_true ?_
  by_cases hm : m = 0
  · subst hm
    rw [if_pos rfl]
    exact Int.zero_dvd.mp hd
  · rw [if_neg hm]
    exact (fmod_dvd x (by omega)).mpr hd
theorem nou_big {x m : Int} (hx : ¬ small x) : nou x m = false := by
  unfold nou
  rw [decide_eq_false hx]
  rfl
abbrev Good (st : Sto) : D → Sto → Prop := fun v s => v = .bl true ∧ s = st
abbrev NoE : Str → D → Sto → Prop := fun _ _ _ => False
end K02

set_option Elab.async false
set_option linter.all false
set_option maxRecDepth 100000
set_option maxHeartbeats 4000000
/-! K02c: the law of k02. -/
namespace K02
open PySem L2 Gw
theorem near_no {st : Sto} {x : D} {md : Int} (h0 : 0 ≤ md) (h1 : md < 1000000000000) (hx : plain x ∨ x = .int 1000000000000 ∨ x = .int (-1000000000000)) : m_is_nought [x, .int md] = ret (.bl false) := by
  rcases hx with hx | rfl | rfl
  · exact nought_no hx h0 h1
  · rw [nought_int _ h0 h1, nou_big (by unfold small; omega)]
  · rw [nought_int _ h0 h1, nou_big (by unfold small; omega)]
theorem isi_tup (xs : List D) : isiD [.tup xs, .ty "tuple"] = some (.bl true) := rfl
def eC (e : Ev) : Ev := e
abbrev env0 (i : Nat) (one other md t : Int) (b : Bool) (x : Option D) (s7 s8 s9 : Option D) : Ev := [some (.ref i), some (.int one), some (.int other), some (.int md), some (.int t), some (.bl b), x, s7, s8, s9, none, none]
def sDue : S := ((S.asg (T.nm 5) (E.cmp CmpOp.Eq (E.bin Operator.Mod (E.call (Gw.bi absD) ((E.var 1).cons E.nil)) (E.var 3)) (E.c (D.int 0)))).seq S.pass)
theorem due_ok {i : Nat} {one other md t : Int} (h1 : small one) (m0 : 0 ≤ md) : brn sDue S.pass (env0 i one other md t (decide (one = 0)) none none none none) (.bl (decide (0 < md))) = ret (.nx, env0 i one other md t (nou one md) none none none none) := by
  by_cases hm : 0 < md
  · rw [nou_abs h1 hm, decide_eq_true hm]
    unfold sDue
    simp only [ex_seq, nxt_nx, nxt_rt, nxt_ct, nxt_bk, ex_ifs, brn_t, brn_f, ex_pass, ex_ret, ex_expr, ex_asg, bndM_so, ex_par, ex_aug, ex_for, endD_nx, endD_rt, bind_nm, bind_nil, bind_cons, ev_var, ev_c, ev_bin, ev_neg, ev_cmp, chn_t, chn_f, ev_chain, ev_and, ev_or, ev_ite, and_t, and_f, or_t, or_f, ite_t, ite_f, ev_not, ev_tup, ev_lst, ev_ix, ev_sl, intM_int, ev_int, ev_lc, ev_call, evs_nil, evs_cons, evs_star, evs_it1, evs_rng1, evs_rng2, evs_zip, evs_enum, andThen_ret, andThen_assoc, optM_so, List.getElem?_cons_succ, List.getElem?_cons_zero, slotM_so, Option.bind_some, Option.map_some, bi_eq, List.set_cons_succ, List.set_cons_zero, bin_add, bin_sub, neg_int, cmp_lt, cmp_le, cmp_gt, cmp_ge, cmp_isbl, cmp_notbl, cmp_eq_int, cmp_ne_int, cmp_eq_bl, cmp_ne_bl, truthM_bl, Bool.not_true, Bool.not_false, lenOk0, lenOk1, lenOk2, lenOk3, intD_int, absD_int, lenD_tup, lenD_lst, lenD_scr, tupD_lst, tupD_tup, startE, List.map_cons, List.map_nil, List.length_cons, List.length_nil, Nat.zero_add, Nat.reduceAdd, Nat.reduceSub, List.replicate_succ, List.replicate_zero, List.cons_append, List.nil_append, lenOk_small, Nat.reduceLeDiff, eq_self, items_tup, items_lst, ixM_tup, ixM_lst, decide_true, decide_false, wipeE, bin_mod (show md ≠ 0 by omega)]
  · have : md = 0 := by omega
    rw [decide_eq_false hm, this, nou_zero h1]
    simp only [ex_seq, nxt_nx, nxt_rt, nxt_ct, nxt_bk, ex_ifs, brn_t, brn_f, ex_pass, ex_ret, ex_expr, ex_asg, bndM_so, ex_par, ex_aug, ex_for, endD_nx, endD_rt, bind_nm, bind_nil, bind_cons, ev_var, ev_c, ev_bin, ev_neg, ev_cmp, chn_t, chn_f, ev_chain, ev_and, ev_or, ev_ite, and_t, and_f, or_t, or_f, ite_t, ite_f, ev_not, ev_tup, ev_lst, ev_ix, ev_sl, intM_int, ev_int, ev_lc, ev_call, evs_nil, evs_cons, evs_star, evs_it1, evs_rng1, evs_rng2, evs_zip, evs_enum, andThen_ret, andThen_assoc, optM_so, List.getElem?_cons_succ, List.getElem?_cons_zero, slotM_so, Option.bind_some, Option.map_some, bi_eq, List.set_cons_succ, List.set_cons_zero, bin_add, bin_sub, neg_int, cmp_lt, cmp_le, cmp_gt, cmp_ge, cmp_isbl, cmp_notbl, cmp_eq_int, cmp_ne_int, cmp_eq_bl, cmp_ne_bl, truthM_bl, Bool.not_true, Bool.not_false, lenOk0, lenOk1, lenOk2, lenOk3, intD_int, absD_int, lenD_tup, lenD_lst, lenD_scr, tupD_lst, tupD_tup, startE, List.map_cons, List.map_nil, List.length_cons, List.length_nil, Nat.zero_add, Nat.reduceAdd, Nat.reduceSub, List.replicate_succ, List.replicate_zero, List.cons_append, List.nil_append, lenOk_small, Nat.reduceLeDiff, eq_self, items_tup, items_lst, ixM_tup, ixM_lst, decide_true, decide_false, wipeE]
def cAnd : E := (E.cmp CmpOp.IsNot (E.call m_is_nought ((E.bin Operator.Mult (E.var 3) (E.var 4)).cons ((E.var 3).cons E.nil))) (E.c (D.bl true)))
theorem and_ok {i : Nat} {one other md t : Int} {b : Bool} {x : D} (m0 : 0 ≤ md) (m1 : md < 1000000000000) (t0 : 1 ≤ t) (t1 : t ≤ 999) : andC cAnd (env0 i one other md t b (some x) none none none) (.bl (decide ((md * t).natAbs < (1000000000000 : Int)))) = ret (.bl false) := by
  have hmul : ∀ z, okMul z t = true := fun z => okMul_r (by omega)
  by_cases hl : ((md * t).natAbs : Int) < 1000000000000
  · have : nou (md * t) md = true := nou_dvd ⟨by omega, by omega⟩ m0 (Int.dvd_mul_right md t)
    rw [decide_eq_true hl]
    unfold cAnd
    simp only [ex_seq, nxt_nx, nxt_rt, nxt_ct, nxt_bk, ex_ifs, brn_t, brn_f, ex_pass, ex_ret, ex_expr, ex_asg, bndM_so, ex_par, ex_aug, ex_for, endD_nx, endD_rt, bind_nm, bind_nil, bind_cons, ev_var, ev_c, ev_bin, ev_neg, ev_cmp, chn_t, chn_f, ev_chain, ev_and, ev_or, ev_ite, and_t, and_f, or_t, or_f, ite_t, ite_f, ev_not, ev_tup, ev_lst, ev_ix, ev_sl, intM_int, ev_int, ev_lc, ev_call, evs_nil, evs_cons, evs_star, evs_it1, evs_rng1, evs_rng2, evs_zip, evs_enum, andThen_ret, andThen_assoc, optM_so, List.getElem?_cons_succ, List.getElem?_cons_zero, slotM_so, Option.bind_some, Option.map_some, bi_eq, List.set_cons_succ, List.set_cons_zero, bin_add, bin_sub, neg_int, cmp_lt, cmp_le, cmp_gt, cmp_ge, cmp_isbl, cmp_notbl, cmp_eq_int, cmp_ne_int, cmp_eq_bl, cmp_ne_bl, truthM_bl, Bool.not_true, Bool.not_false, lenOk0, lenOk1, lenOk2, lenOk3, intD_int, absD_int, lenD_tup, lenD_lst, lenD_scr, tupD_lst, tupD_tup, startE, List.map_cons, List.map_nil, List.length_cons, List.length_nil, Nat.zero_add, Nat.reduceAdd, Nat.reduceSub, List.replicate_succ, List.replicate_zero, List.cons_append, List.nil_append, lenOk_small, Nat.reduceLeDiff, eq_self, items_tup, items_lst, ixM_tup, ixM_lst, decide_true, decide_false, wipeE, nought_int _ m0 m1, this, bin_mul (hmul _)]
  · rw [decide_eq_false hl]
    rfl
def sLoop : S := ((S.asg (T.nm 9) (E.call m_shared ((E.var 7).cons ((E.var 8).cons E.nil)))).seq
            ((S.ifs
                  ((E.call (Gw.bi isiD) ((E.var 9).cons ((E.c (D.ty "tuple")).cons E.nil))).not_.or_
                    ((E.cmp CmpOp.NotEq (E.call (Gw.bi lenD) ((E.var 9).cons E.nil)) (E.c (D.int 3))).or_
                      (E.cmp CmpOp.NotEq
                        (E.bin Operator.Add (E.bin Operator.Mult ((E.var 9).ix (E.c (D.int 0))) (E.var 7))
                          (E.bin Operator.Mult ((E.var 9).ix (E.c (D.int 1))) (E.var 8)))
                        ((E.var 9).ix (E.c (D.int 2))))))
                  ((S.ret (E.c (D.bl false))).seq S.pass) S.pass).seq
              ((S.ifs
                    (E.cmp CmpOp.NotEq ((E.var 9).ix (E.c (D.int 2)))
                      (E.call m__law_shared ((E.var 7).cons ((E.var 8).cons E.nil))))
                    ((S.ret (E.c (D.bl false))).seq S.pass) S.pass).seq
                S.pass)))
theorem len3 (a b c : Int) : lenD [tri a b c] = some (.int 3) := rfl
theorem turn_ok {i : Nat} {one other md t l r : Int} {b : Bool} {x : D} {s9 : Option D} (hl : small l) (hr : small r) : ∃ u, ex sLoop (env0 i one other md t b (some x) (some (.int l)) (some (.int r)) s9) = ret (.nx, env0 i one other md t b (some x) (some (.int l)) (some (.int r)) u) := by
  obtain ⟨a, c, e, h⟩ := shared_law hl hr
  have o1 : okMul a l = true := okMul_r (by unfold small at hl; omega)
  have o2 : okMul c r = true := okMul_r (by unfold small at hr; omega)
  have i0 : ixM (tri a c (Int.gcd l r)) (.int 0) = ret (.int a) := rfl
  have i1 : ixM (tri a c (Int.gcd l r)) (.int 1) = ret (.int c) := rfl
  have i2 : ixM (tri a c (Int.gcd l r)) (.int 2) = ret (.int (Int.gcd l r)) := rfl
  have ii : isiD [tri a c (Int.gcd l r), .ty "tuple"] = some (.bl true) := rfl
  refine ⟨some (tri a c (Int.gcd l r)), ?_⟩
  unfold sLoop
  simp only [ex_seq, nxt_nx, nxt_rt, nxt_ct, nxt_bk, ex_ifs, brn_t, brn_f, ex_pass, ex_ret, ex_expr, ex_asg, bndM_so, ex_par, ex_aug, ex_for, endD_nx, endD_rt, bind_nm, bind_nil, bind_cons, ev_var, ev_c, ev_bin, ev_neg, ev_cmp, chn_t, chn_f, ev_chain, ev_and, ev_or, ev_ite, and_t, and_f, or_t, or_f, ite_t, ite_f, ev_not, ev_tup, ev_lst, ev_ix, ev_sl, intM_int, ev_int, ev_lc, ev_call, evs_nil, evs_cons, evs_star, evs_it1, evs_rng1, evs_rng2, evs_zip, evs_enum, andThen_ret, andThen_assoc, optM_so, List.getElem?_cons_succ, List.getElem?_cons_zero, slotM_so, Option.bind_some, Option.map_some, bi_eq, List.set_cons_succ, List.set_cons_zero, bin_add, bin_sub, neg_int, cmp_lt, cmp_le, cmp_gt, cmp_ge, cmp_isbl, cmp_notbl, cmp_eq_int, cmp_ne_int, cmp_eq_bl, cmp_ne_bl, truthM_bl, Bool.not_true, Bool.not_false, lenOk0, lenOk1, lenOk2, lenOk3, intD_int, absD_int, lenD_tup, lenD_lst, lenD_scr, tupD_lst, tupD_tup, startE, List.map_cons, List.map_nil, List.length_cons, List.length_nil, Nat.zero_add, Nat.reduceAdd, Nat.reduceSub, List.replicate_succ, List.replicate_zero, List.cons_append, List.nil_append, lenOk_small, Nat.reduceLeDiff, eq_self, items_tup, items_lst, ixM_tup, ixM_lst, decide_true, decide_false, wipeE, e, ii, len3, i0, i1, i2, bin_mul o1, bin_mul o2, h, lawShared hl hr]
theorem loop_ok {i : Nat} {one other md t : Int} {b : Bool} {x : D} (h1 : small one) (h2 : small other) : ∃ s7 s8 s9, forGo ((T.nm 7).cons ((T.nm 8).cons T.nil)) (ex sLoop) [D.tup [D.int one, D.int other], D.tup [D.int other, D.int one], D.tup [D.int (0 - one), D.int other],
          D.tup [D.int one, D.int (0 - other)], D.tup [D.int one, D.int 0], D.tup [D.int 0, D.int other], D.tup [D.int one, D.int one]] (env0 i one other md t b (some x) none none none) = ret (.nx, env0 i one other md t b (some x) s7 s8 s9) := by
  obtain ⟨e2, ⟨s7, s8, s9, rfl⟩, h⟩ := forGo_ret (g := (T.nm 7).cons ((T.nm 8).cons T.nil)) (b := ex sLoop) (I := fun e => ∃ s7 s8 s9, e = env0 i one other md t b (some x) s7 s8 s9) [D.tup [D.int one, D.int other], D.tup [D.int other, D.int one], D.tup [D.int (0 - one), D.int other],
          D.tup [D.int one, D.int (0 - other)], D.tup [D.int one, D.int 0], D.tup [D.int 0, D.int other], D.tup [D.int one, D.int one]] (env0 i one other md t b (some x) none none none) (fun p hp e he => by
      obtain ⟨s7, s8, s9, rfl⟩ := he
      have hp' : ∃ l r, p = .tup [.int l, .int r] ∧ small l ∧ small r := by
        unfold small at h1 h2
        simp only [List.mem_cons, List.not_mem_nil, or_false] at hp
        rcases hp with rfl | rfl | rfl | rfl | rfl | rfl | rfl
        all_goals exact ⟨_, _, rfl, ⟨by omega, by omega⟩, by omega, by omega⟩
      obtain ⟨l, r, rfl, hl, hr⟩ := hp'
      obtain ⟨u, hu⟩ := turn_ok (i := i) (one := one) (other := other) (md := md) (t := t) (b := b) (x := x) (s9 := s9) hl hr
      exact ⟨_, _, rfl, hu, _, _, _, rfl⟩) ⟨_, _, _, rfl⟩
  exact ⟨s7, s8, s9, h⟩
def sTail : S := ((S.par 10 11 (E.call m__law_number ((E.var 0).cons E.nil)) (E.call m__law_number ((E.var 0).cons E.nil))).seq
            ((S.ret
                  (E.cmp CmpOp.Eq
                    ((E.call m_shared
                          ((E.bin Operator.Mult (E.var 10) (E.var 4)).cons
                            ((E.bin Operator.Mult (E.var 11) (E.var 4)).cons E.nil))).ix
                      (E.c (D.int 2)))
                    (E.bin Operator.Mult
                      ((E.call m_shared ((E.var 10).cons ((E.var 11).cons E.nil))).ix (E.c (D.int 2))) (E.var 4)))).seq
              S.pass))
theorem tail_ok {st : Sto} {i : Nat} {one other md t : Int} {b : Bool} {x : D} {s7 s8 s9 : Option D} (hs : st[i]? = some .hat) (t0 : 1 ≤ t) (t1 : t ≤ 999) :
    OkM (andThen (ex sTail (env0 i one other md t b (some x) s7 s8 s9)) fun r => endD r.1) st (Good st) NoE := by
  unfold sTail
  simp only [ex_seq, nxt_nx, nxt_rt, nxt_ct, nxt_bk, ex_ifs, brn_t, brn_f, ex_pass, ex_ret, ex_expr, ex_asg, bndM_so, ex_par, ex_aug, ex_for, endD_nx, endD_rt, bind_nm, bind_nil, bind_cons, ev_var, ev_c, ev_bin, ev_neg, ev_cmp, chn_t, chn_f, ev_chain, ev_and, ev_or, ev_ite, and_t, and_f, or_t, or_f, ite_t, ite_f, ev_not, ev_tup, ev_lst, ev_ix, ev_sl, intM_int, ev_int, ev_lc, ev_call, evs_nil, evs_cons, evs_star, evs_it1, evs_rng1, evs_rng2, evs_zip, evs_enum, andThen_ret, andThen_assoc, optM_so, List.getElem?_cons_succ, List.getElem?_cons_zero, slotM_so, Option.bind_some, Option.map_some, bi_eq, List.set_cons_succ, List.set_cons_zero, bin_add, bin_sub, neg_int, cmp_lt, cmp_le, cmp_gt, cmp_ge, cmp_isbl, cmp_notbl, cmp_eq_int, cmp_ne_int, cmp_eq_bl, cmp_ne_bl, truthM_bl, Bool.not_true, Bool.not_false, lenOk0, lenOk1, lenOk2, lenOk3, intD_int, absD_int, lenD_tup, lenD_lst, lenD_scr, tupD_lst, tupD_tup, startE, List.map_cons, List.map_nil, List.length_cons, List.length_nil, Nat.zero_add, Nat.reduceAdd, Nat.reduceSub, List.replicate_succ, List.replicate_zero, List.cons_append, List.nil_append, lenOk_small, Nat.reduceLeDiff, eq_self, items_tup, items_lst, ixM_tup, ixM_lst, decide_true, decide_false, wipeE]
  refine num_all hs fun u u0 u1 => ?_
  refine num_all hs fun v v0 v1 => ?_
  have hmul : ∀ z, okMul z t = true := fun z => okMul_r (by omega)
  have ut : small (u * t) := by
    constructor
    · have : -3 * 999 ≤ u * t := by
        have := Int.mul_le_mul_of_nonneg_right u0 (show 0 ≤ t by omega)
        omega
      omega
    · have := Int.mul_le_mul_of_nonneg_right u1 (show 0 ≤ t by omega)
      omega
  have vt : small (v * t) := by
    constructor
    · have := Int.mul_le_mul_of_nonneg_right v0 (show 0 ≤ t by omega)
      omega
    · have := Int.mul_le_mul_of_nonneg_right v1 (show 0 ≤ t by omega)
      omega
  obtain ⟨a, c, e, _⟩ := shared_law ut vt
  obtain ⟨a', c', e', _⟩ := shared_law (x := u) (y := v) ⟨by omega, by omega⟩ ⟨by omega, by omega⟩
  have i2 : ∀ a c g : Int, ixM (tri a c g) (.int 2) = ret (.int g) := fun _ _ _ => rfl
  have hg : ((Int.gcd (u * t) (v * t) : Nat) : Int) = (Int.gcd u v : Nat) * t := by
    rw [Int.gcd_mul_right, Int.natCast_mul]
    congr 1
    omega
  simp only [ex_seq, nxt_nx, nxt_rt, nxt_ct, nxt_bk, ex_ifs, brn_t, brn_f, ex_pass, ex_ret, ex_expr, ex_asg, bndM_so, ex_par, ex_aug, ex_for, endD_nx, endD_rt, bind_nm, bind_nil, bind_cons, ev_var, ev_c, ev_bin, ev_neg, ev_cmp, chn_t, chn_f, ev_chain, ev_and, ev_or, ev_ite, and_t, and_f, or_t, or_f, ite_t, ite_f, ev_not, ev_tup, ev_lst, ev_ix, ev_sl, intM_int, ev_int, ev_lc, ev_call, evs_nil, evs_cons, evs_star, evs_it1, evs_rng1, evs_rng2, evs_zip, evs_enum, andThen_ret, andThen_assoc, optM_so, List.getElem?_cons_succ, List.getElem?_cons_zero, slotM_so, Option.bind_some, Option.map_some, bi_eq, List.set_cons_succ, List.set_cons_zero, bin_add, bin_sub, neg_int, cmp_lt, cmp_le, cmp_gt, cmp_ge, cmp_isbl, cmp_notbl, cmp_eq_int, cmp_ne_int, cmp_eq_bl, cmp_ne_bl, truthM_bl, Bool.not_true, Bool.not_false, lenOk0, lenOk1, lenOk2, lenOk3, intD_int, absD_int, lenD_tup, lenD_lst, lenD_scr, tupD_lst, tupD_tup, startE, List.map_cons, List.map_nil, List.length_cons, List.length_nil, Nat.zero_add, Nat.reduceAdd, Nat.reduceSub, List.replicate_succ, List.replicate_zero, List.cons_append, List.nil_append, lenOk_small, Nat.reduceLeDiff, eq_self, items_tup, items_lst, ixM_tup, ixM_lst, decide_true, decide_false, wipeE, bin_mul (hmul _), e, e', i2, hg]
  exact ⟨rfl, rfl⟩
theorem right_all {st : Sto} {i : Nat} (hs : st[i]? = some .hat) : OkM (m__law_right [.ref i]) st (Good st) NoE := by
  have hc : c__law_right = (.seq (.par 1 2 (.call m__law_jg_entry (.cons (.var 0) .nil)) (.call m__law_jg_entry (.cons (.var 0) .nil))) (.seq (.asg (.nm 3) (.call (bi absD) (.cons (.call m__law_jg_entry (.cons (.var 0) .nil)) .nil))) (.seq (.par 4 5 (.call mOut (.cons (.var 0) (.cons (.lst (.cons (.c (.int 1)) (.cons (.c (.int 2)) (.cons (.c (.int 3)) (.cons (.c (.int 10)) (.cons (.c (.int 999)) .nil)))))) .nil))) (.cmp .Eq (.var 1) (.c (.int 0)))) (.seq (.ifs (.cmp .Gt (.var 3) (.c (.int 0))) sDue .pass) (.seq (.ifs (.or_ (.cmp .NotEq (.call m_is_nought (.cons (.var 1) (.cons (.var 3) .nil))) (.var 5)) (.not_ (.call m_is_nought (.cons (.c (.int 0)) (.cons (.var 3) .nil))))) (.seq (.ret (.c (.bl false))) .pass) .pass) (.seq (.asg (.nm 6) (.call mOut (.cons (.var 0) (.cons (.lst (.cons (.c (.bl true)) (.cons (.c (.bl false)) (.cons (.c .non) (.cons (.c (.str (PySem.Str.ofString "0"))) (.cons (.tup (.cons (.c (.int 0)) .nil)) (.cons (.lst .nil) (.cons (.bin .Pow (.c (.int 10)) (.c (.int 12))) (.cons (.bin .Sub (.c (.int 0)) (.bin .Pow (.c (.int 10)) (.c (.int 12)))) .nil))))))))) .nil)))) (.seq (.ifs (.or_ (.call m_is_nought (.cons (.var 6) (.cons (.var 3) .nil))) (.cmp .IsNot (.call m_is_nought (.cons (.var 3) (.cons (.var 3) .nil))) (.c (.bl true)))) (.seq (.ret (.c (.bl false))) .pass) .pass) (.seq (.ifs (.and_ (.cmp .Lt (.call (bi absD) (.cons (.bin .Mult (.var 3) (.var 4)) .nil)) (.bin .Pow (.c (.int 10)) (.c (.int 12)))) cAnd) (.seq (.ret (.c (.bl false))) .pass) .pass) (.seq (.for_ (.cons (.nm 7) (.cons (.nm 8) .nil)) (.it1 (.tup (.cons (.tup (.cons (.var 1) (.cons (.var 2) .nil))) (.cons (.tup (.cons (.var 2) (.cons (.var 1) .nil))) (.cons (.tup (.cons (.bin .Sub (.c (.int 0)) (.var 1)) (.cons (.var 2) .nil))) (.cons (.tup (.cons (.var 1) (.cons (.bin .Sub (.c (.int 0)) (.var 2)) .nil))) (.cons (.tup (.cons (.var 1) (.cons (.c (.int 0)) .nil))) (.cons (.tup (.cons (.c (.int 0)) (.cons (.var 2) .nil))) (.cons (.tup (.cons (.var 1) (.cons (.var 1) .nil))) .nil))))))))) sLoop) sTail))))))))) := rfl
  unfold m__law_right
  rw [fn1, hc]
  simp only [ex_seq, nxt_nx, nxt_rt, nxt_ct, nxt_bk, ex_ifs, brn_t, brn_f, ex_pass, ex_ret, ex_expr, ex_asg, bndM_so, ex_par, ex_aug, ex_for, endD_nx, endD_rt, bind_nm, bind_nil, bind_cons, ev_var, ev_c, ev_bin, ev_neg, ev_cmp, chn_t, chn_f, ev_chain, ev_and, ev_or, ev_ite, and_t, and_f, or_t, or_f, ite_t, ite_f, ev_not, ev_tup, ev_lst, ev_ix, ev_sl, intM_int, ev_int, ev_lc, ev_call, evs_nil, evs_cons, evs_star, evs_it1, evs_rng1, evs_rng2, evs_zip, evs_enum, andThen_ret, andThen_assoc, optM_so, List.getElem?_cons_succ, List.getElem?_cons_zero, slotM_so, Option.bind_some, Option.map_some, bi_eq, List.set_cons_succ, List.set_cons_zero, bin_add, bin_sub, neg_int, cmp_lt, cmp_le, cmp_gt, cmp_ge, cmp_isbl, cmp_notbl, cmp_eq_int, cmp_ne_int, cmp_eq_bl, cmp_ne_bl, truthM_bl, Bool.not_true, Bool.not_false, lenOk0, lenOk1, lenOk2, lenOk3, intD_int, absD_int, lenD_tup, lenD_lst, lenD_scr, tupD_lst, tupD_tup, startE, List.map_cons, List.map_nil, List.length_cons, List.length_nil, Nat.zero_add, Nat.reduceAdd, Nat.reduceSub, List.replicate_succ, List.replicate_zero, List.cons_append, List.nil_append, lenOk_small, Nat.reduceLeDiff, eq_self, items_tup, items_lst, ixM_tup, ixM_lst, decide_true, decide_false, wipeE]
  refine jg_all hs fun one h1 => ?_
  refine jg_all hs fun other h2 => ?_
  refine jg_all hs fun z hz => ?_
  simp only [ex_seq, nxt_nx, nxt_rt, nxt_ct, nxt_bk, ex_ifs, brn_t, brn_f, ex_pass, ex_ret, ex_expr, ex_asg, bndM_so, ex_par, ex_aug, ex_for, endD_nx, endD_rt, bind_nm, bind_nil, bind_cons, ev_var, ev_c, ev_bin, ev_neg, ev_cmp, chn_t, chn_f, ev_chain, ev_and, ev_or, ev_ite, and_t, and_f, or_t, or_f, ite_t, ite_f, ev_not, ev_tup, ev_lst, ev_ix, ev_sl, intM_int, ev_int, ev_lc, ev_call, evs_nil, evs_cons, evs_star, evs_it1, evs_rng1, evs_rng2, evs_zip, evs_enum, andThen_ret, andThen_assoc, optM_so, List.getElem?_cons_succ, List.getElem?_cons_zero, slotM_so, Option.bind_some, Option.map_some, bi_eq, List.set_cons_succ, List.set_cons_zero, bin_add, bin_sub, neg_int, cmp_lt, cmp_le, cmp_gt, cmp_ge, cmp_isbl, cmp_notbl, cmp_eq_int, cmp_ne_int, cmp_eq_bl, cmp_ne_bl, truthM_bl, Bool.not_true, Bool.not_false, lenOk0, lenOk1, lenOk2, lenOk3, intD_int, absD_int, lenD_tup, lenD_lst, lenD_scr, tupD_lst, tupD_tup, startE, List.map_cons, List.map_nil, List.length_cons, List.length_nil, Nat.zero_add, Nat.reduceAdd, Nat.reduceSub, List.replicate_succ, List.replicate_zero, List.cons_append, List.nil_append, lenOk_small, Nat.reduceLeDiff, eq_self, items_tup, items_lst, ixM_tup, ixM_lst, decide_true, decide_false, wipeE]
  generalize hmd : (z.natAbs : Int) = md
  have m0 : 0 ≤ md := by omega
  have m1 : md < 1000000000000 := by unfold small at hz; omega
  have hsm : small md := ⟨by omega, m1⟩
  refine out_all hs (by simp) (by simp) fun x hx => ?_
  have hx' : ∃ t, x = .int t ∧ 1 ≤ t ∧ t ≤ 999 := by
    simp only [List.mem_cons, List.not_mem_nil, or_false] at hx
    rcases hx with rfl | rfl | rfl | rfl | rfl
    all_goals exact ⟨_, rfl, by omega, by omega⟩
  obtain ⟨t, rfl, t0, t1⟩ := hx'
  have n0 : nou 0 md = true := nou_dvd ⟨by omega, by omega⟩ m0 (Int.dvd_zero md)
  have nm : nou md md = true := nou_dvd hsm m0 (Int.dvd_refl md)
  simp only [ex_seq, nxt_nx, nxt_rt, nxt_ct, nxt_bk, ex_ifs, brn_t, brn_f, ex_pass, ex_ret, ex_expr, ex_asg, bndM_so, ex_par, ex_aug, ex_for, endD_nx, endD_rt, bind_nm, bind_nil, bind_cons, ev_var, ev_c, ev_bin, ev_neg, ev_cmp, chn_t, chn_f, ev_chain, ev_and, ev_or, ev_ite, and_t, and_f, or_t, or_f, ite_t, ite_f, ev_not, ev_tup, ev_lst, ev_ix, ev_sl, intM_int, ev_int, ev_lc, ev_call, evs_nil, evs_cons, evs_star, evs_it1, evs_rng1, evs_rng2, evs_zip, evs_enum, andThen_ret, andThen_assoc, optM_so, List.getElem?_cons_succ, List.getElem?_cons_zero, slotM_so, Option.bind_some, Option.map_some, bi_eq, List.set_cons_succ, List.set_cons_zero, bin_add, bin_sub, neg_int, cmp_lt, cmp_le, cmp_gt, cmp_ge, cmp_isbl, cmp_notbl, cmp_eq_int, cmp_ne_int, cmp_eq_bl, cmp_ne_bl, truthM_bl, Bool.not_true, Bool.not_false, lenOk0, lenOk1, lenOk2, lenOk3, intD_int, absD_int, lenD_tup, lenD_lst, lenD_scr, tupD_lst, tupD_tup, startE, List.map_cons, List.map_nil, List.length_cons, List.length_nil, Nat.zero_add, Nat.reduceAdd, Nat.reduceSub, List.replicate_succ, List.replicate_zero, List.cons_append, List.nil_append, lenOk_small, Nat.reduceLeDiff, eq_self, items_tup, items_lst, ixM_tup, ixM_lst, decide_true, decide_false, wipeE, due_ok h1 m0, nought_int _ m0 m1, n0, pow12]
  refine out_all hs (by simp) (by simp) fun x hx => ?_
  have hx' : plain x ∨ x = .int 1000000000000 ∨ x = .int (-1000000000000) := by
    simp only [List.mem_cons, List.not_mem_nil, or_false] at hx
    rcases hx with rfl | rfl | rfl | rfl | rfl | rfl | rfl | rfl
    all_goals first | exact .inl trivial | exact .inr (.inl rfl) | exact .inr (.inr rfl)
  have hmul : ∀ z, okMul z t = true := fun z => okMul_r (by omega)
  obtain ⟨s7, s8, s9, hl⟩ := loop_ok (i := i) (one := one) (other := other) (md := md) (t := t) (b := nou one md) (x := x) h1 h2
  simp only [ex_seq, nxt_nx, nxt_rt, nxt_ct, nxt_bk, ex_ifs, brn_t, brn_f, ex_pass, ex_ret, ex_expr, ex_asg, bndM_so, ex_par, ex_aug, ex_for, endD_nx, endD_rt, bind_nm, bind_nil, bind_cons, ev_var, ev_c, ev_bin, ev_neg, ev_cmp, chn_t, chn_f, ev_chain, ev_and, ev_or, ev_ite, and_t, and_f, or_t, or_f, ite_t, ite_f, ev_not, ev_tup, ev_lst, ev_ix, ev_sl, intM_int, ev_int, ev_lc, ev_call, evs_nil, evs_cons, evs_star, evs_it1, evs_rng1, evs_rng2, evs_zip, evs_enum, andThen_ret, andThen_assoc, optM_so, List.getElem?_cons_succ, List.getElem?_cons_zero, slotM_so, Option.bind_some, Option.map_some, bi_eq, List.set_cons_succ, List.set_cons_zero, bin_add, bin_sub, neg_int, cmp_lt, cmp_le, cmp_gt, cmp_ge, cmp_isbl, cmp_notbl, cmp_eq_int, cmp_ne_int, cmp_eq_bl, cmp_ne_bl, truthM_bl, Bool.not_true, Bool.not_false, lenOk0, lenOk1, lenOk2, lenOk3, intD_int, absD_int, lenD_tup, lenD_lst, lenD_scr, tupD_lst, tupD_tup, startE, List.map_cons, List.map_nil, List.length_cons, List.length_nil, Nat.zero_add, Nat.reduceAdd, Nat.reduceSub, List.replicate_succ, List.replicate_zero, List.cons_append, List.nil_append, lenOk_small, Nat.reduceLeDiff, eq_self, items_tup, items_lst, ixM_tup, ixM_lst, decide_true, decide_false, wipeE, near_no (st := st) m0 m1 hx', nought_int _ m0 m1, nm, pow12, bin_mul (hmul _), and_ok m0 m1 t0 t1, hl]
  exact tail_ok hs t0 t1
end K02

set_option Elab.async false
set_option linter.all false
set_option maxRecDepth 100000
set_option maxHeartbeats 4000000
/-! K02d: the law of k02, the whole. -/
namespace K02
open PySem L2 Gw
def sIn : S := (.seq (.ifs (.not_ (.call m__law_right (.cons (.var 2) .nil))) (.seq (.ret (.c (.bl false))) .pass) .pass) .pass)
def sOut : S := (.seq (.asg (.nm 2) (.call m__law_hat (.cons (.var 0) (.cons (.var 1) .nil)))) (.seq (.for_ (.nm 3) (.rng1 (.c (.int 5))) sIn) .pass))
theorem in_ok {ns : List Int} {st : Sto} {i : Nat} {s1 s3 : Option D} (hs : st[i]? = some .hat) : OkM (ex sIn [some (.scr ns), s1, some (.ref i), s3, none]) st (fun r s' => r = (.nx, [some (.scr ns), s1, some (.ref i), s3, none]) ∧ s' = st) NoE := by
  unfold sIn
  simp only [ex_seq, nxt_nx, nxt_rt, nxt_ct, nxt_bk, ex_ifs, brn_t, brn_f, ex_pass, ex_ret, ex_expr, ex_asg, bndM_so, ex_par, ex_aug, ex_for, endD_nx, endD_rt, bind_nm, bind_nil, bind_cons, ev_var, ev_c, ev_bin, ev_neg, ev_cmp, chn_t, chn_f, ev_chain, ev_and, ev_or, ev_ite, and_t, and_f, or_t, or_f, ite_t, ite_f, ev_not, ev_tup, ev_lst, ev_ix, ev_sl, intM_int, ev_int, ev_lc, ev_call, evs_nil, evs_cons, evs_star, evs_it1, evs_rng1, evs_rng2, evs_zip, evs_enum, andThen_ret, andThen_assoc, optM_so, List.getElem?_cons_succ, List.getElem?_cons_zero, slotM_so, Option.bind_some, Option.map_some, bi_eq, List.set_cons_succ, List.set_cons_zero, bin_add, bin_sub, neg_int, cmp_lt, cmp_le, cmp_gt, cmp_ge, cmp_isbl, cmp_notbl, cmp_eq_int, cmp_ne_int, cmp_eq_bl, cmp_ne_bl, truthM_bl, Bool.not_true, Bool.not_false, lenOk0, lenOk1, lenOk2, lenOk3, intD_int, absD_int, lenD_tup, lenD_lst, lenD_scr, tupD_lst, tupD_tup, startE, List.map_cons, List.map_nil, List.length_cons, List.length_nil, Nat.zero_add, Nat.reduceAdd, Nat.reduceSub, List.replicate_succ, List.replicate_zero, List.cons_append, List.nil_append, lenOk_small, Nat.reduceLeDiff, eq_self, items_tup, items_lst, ixM_tup, ixM_lst, decide_true, decide_false, wipeE]
  refine OkM.then (OkM.mono (right_all hs) (fun v s hv => ?_) (fun _ _ _ z => z))
  obtain ⟨rfl, rfl⟩ := hv
  simp only [ex_seq, nxt_nx, nxt_rt, nxt_ct, nxt_bk, ex_ifs, brn_t, brn_f, ex_pass, ex_ret, ex_expr, ex_asg, bndM_so, ex_par, ex_aug, ex_for, endD_nx, endD_rt, bind_nm, bind_nil, bind_cons, ev_var, ev_c, ev_bin, ev_neg, ev_cmp, chn_t, chn_f, ev_chain, ev_and, ev_or, ev_ite, and_t, and_f, or_t, or_f, ite_t, ite_f, ev_not, ev_tup, ev_lst, ev_ix, ev_sl, intM_int, ev_int, ev_lc, ev_call, evs_nil, evs_cons, evs_star, evs_it1, evs_rng1, evs_rng2, evs_zip, evs_enum, andThen_ret, andThen_assoc, optM_so, List.getElem?_cons_succ, List.getElem?_cons_zero, slotM_so, Option.bind_some, Option.map_some, bi_eq, List.set_cons_succ, List.set_cons_zero, bin_add, bin_sub, neg_int, cmp_lt, cmp_le, cmp_gt, cmp_ge, cmp_isbl, cmp_notbl, cmp_eq_int, cmp_ne_int, cmp_eq_bl, cmp_ne_bl, truthM_bl, Bool.not_true, Bool.not_false, lenOk0, lenOk1, lenOk2, lenOk3, intD_int, absD_int, lenD_tup, lenD_lst, lenD_scr, tupD_lst, tupD_tup, startE, List.map_cons, List.map_nil, List.length_cons, List.length_nil, Nat.zero_add, Nat.reduceAdd, Nat.reduceSub, List.replicate_succ, List.replicate_zero, List.cons_append, List.nil_append, lenOk_small, Nat.reduceLeDiff, eq_self, items_tup, items_lst, ixM_tup, ixM_lst, decide_true, decide_false, wipeE]
  exact ⟨rfl, rfl⟩
theorem out_ok {ns : List Int} {st : Sto} {k : Int} {s2 s3 : Option D} (h0 : 0 ≤ k) (h1 : k < 4) : OkM (ex sOut [some (.scr ns), some (.int k), s2, s3, none]) st (fun r s' => ∃ u v w, r = (.nx, [some (.scr ns), u, v, w, none])) NoE := by
  unfold sOut
  simp only [ex_seq, nxt_nx, nxt_rt, nxt_ct, nxt_bk, ex_ifs, brn_t, brn_f, ex_pass, ex_ret, ex_expr, ex_asg, bndM_so, ex_par, ex_aug, ex_for, endD_nx, endD_rt, bind_nm, bind_nil, bind_cons, ev_var, ev_c, ev_bin, ev_neg, ev_cmp, chn_t, chn_f, ev_chain, ev_and, ev_or, ev_ite, and_t, and_f, or_t, or_f, ite_t, ite_f, ev_not, ev_tup, ev_lst, ev_ix, ev_sl, intM_int, ev_int, ev_lc, ev_call, evs_nil, evs_cons, evs_star, evs_it1, evs_rng1, evs_rng2, evs_zip, evs_enum, andThen_ret, andThen_assoc, optM_so, List.getElem?_cons_succ, List.getElem?_cons_zero, slotM_so, Option.bind_some, Option.map_some, bi_eq, List.set_cons_succ, List.set_cons_zero, bin_add, bin_sub, neg_int, cmp_lt, cmp_le, cmp_gt, cmp_ge, cmp_isbl, cmp_notbl, cmp_eq_int, cmp_ne_int, cmp_eq_bl, cmp_ne_bl, truthM_bl, Bool.not_true, Bool.not_false, lenOk0, lenOk1, lenOk2, lenOk3, intD_int, absD_int, lenD_tup, lenD_lst, lenD_scr, tupD_lst, tupD_tup, startE, List.map_cons, List.map_nil, List.length_cons, List.length_nil, Nat.zero_add, Nat.reduceAdd, Nat.reduceSub, List.replicate_succ, List.replicate_zero, List.cons_append, List.nil_append, lenOk_small, Nat.reduceLeDiff, eq_self, items_tup, items_lst, ixM_tup, ixM_lst, decide_true, decide_false, wipeE, rng1_ok (show (0 : Int) ≤ 5 by decide) (by decide)]
  refine hat_all h0 (by omega) ?_
  refine OkM.then (forGo_all (I := fun e s => ∃ w, e = [some (.scr ns), some (.int k), some (.ref st.length), w, none] ∧ s[st.length]? = some .hat) _ _ _ (fun x hx e s he => ?_) (fun e s he => ?_) ⟨s3, rfl, by simp⟩)
  · obtain ⟨w, rfl, hs⟩ := he
    refine ⟨_, rfl, OkM.mono (in_ok hs) (fun r s' hr => ?_) (fun _ _ _ z => z)⟩
    obtain ⟨rfl, rfl⟩ := hr
    exact ⟨_, rfl, hs⟩
  · obtain ⟨w, rfl, hs⟩ := he
    simp only [ex_seq, nxt_nx, nxt_rt, nxt_ct, nxt_bk, ex_ifs, brn_t, brn_f, ex_pass, ex_ret, ex_expr, ex_asg, bndM_so, ex_par, ex_aug, ex_for, endD_nx, endD_rt, bind_nm, bind_nil, bind_cons, ev_var, ev_c, ev_bin, ev_neg, ev_cmp, chn_t, chn_f, ev_chain, ev_and, ev_or, ev_ite, and_t, and_f, or_t, or_f, ite_t, ite_f, ev_not, ev_tup, ev_lst, ev_ix, ev_sl, intM_int, ev_int, ev_lc, ev_call, evs_nil, evs_cons, evs_star, evs_it1, evs_rng1, evs_rng2, evs_zip, evs_enum, andThen_ret, andThen_assoc, optM_so, List.getElem?_cons_succ, List.getElem?_cons_zero, slotM_so, Option.bind_some, Option.map_some, bi_eq, List.set_cons_succ, List.set_cons_zero, bin_add, bin_sub, neg_int, cmp_lt, cmp_le, cmp_gt, cmp_ge, cmp_isbl, cmp_notbl, cmp_eq_int, cmp_ne_int, cmp_eq_bl, cmp_ne_bl, truthM_bl, Bool.not_true, Bool.not_false, lenOk0, lenOk1, lenOk2, lenOk3, intD_int, absD_int, lenD_tup, lenD_lst, lenD_scr, tupD_lst, tupD_tup, startE, List.map_cons, List.map_nil, List.length_cons, List.length_nil, Nat.zero_add, Nat.reduceAdd, Nat.reduceSub, List.replicate_succ, List.replicate_zero, List.cons_append, List.nil_append, lenOk_small, Nat.reduceLeDiff, eq_self, items_tup, items_lst, ixM_tup, ixM_lst, decide_true, decide_false, wipeE]
    exact ⟨_, _, _, rfl⟩
theorem nouT (i m : Int) (h0 : 0 ≤ m) (h : m < 1000000000000) (b : Bool) (e : nou i m = b) : m_is_nought [.int i, .int m] = ret (.bl b) := e ▸ nought_int i h0 h
theorem main (ns : List Int) (h : ns.length ≤ 63) : (m_law [.scr ns] []).All (fun v _ => v = .bl true) (fun _ _ _ => False) := by
  refine OkM.all (m := m_law [.scr ns]) ?_
  have hc : c_law = (.seq (.for_ (.nm 1) (.rng1 (.call (bi maxD) (.cons (.c (.int 1)) (.cons (.call (bi minD) (.cons (.c (.int 4)) (.cons (.call (bi lenD) (.cons (.var 0) .nil)) .nil))) .nil)))) sOut) (.seq (.asg (.nm 4) (.lst (.cons (.call m_is_nought (.cons (.c (.int 12)) (.cons (.c (.int 6)) .nil))) (.cons (.call m_is_nought (.cons (.neg (.c (.int 12))) (.cons (.c (.int 6)) .nil))) (.cons (.call m_is_nought (.cons (.c (.int 13)) (.cons (.c (.int 6)) .nil))) (.cons (.call m_is_nought (.cons (.c (.int 0)) (.cons (.c (.int 0)) .nil))) (.cons (.call m_is_nought (.cons (.c (.int 6)) (.cons (.c (.int 0)) .nil))) (.cons (.call m_is_nought (.cons (.c (.int 5)) (.cons (.c (.int 1)) .nil))) (.cons (.call m_is_nought (.cons (.c (.bl true)) (.cons (.c (.int 1)) .nil))) .nil))))))))) (.seq (.ifs (.cmp .NotEq (.var 4) (.lst (.cons (.c (.bl true)) (.cons (.c (.bl true)) (.cons (.c (.bl false)) (.cons (.c (.bl true)) (.cons (.c (.bl false)) (.cons (.c (.bl true)) (.cons (.c (.bl false)) .nil))))))))) (.seq (.ret (.c (.bl false))) .pass) .pass) (.seq (.ret (.cmp .Eq (.lst (.cons (.ix (.call m_shared (.cons (.c (.int 12)) (.cons (.neg (.c (.int 18))) .nil))) (.c (.int 2))) (.cons (.ix (.call m_shared (.cons (.c (.int 0)) (.cons (.c (.int 0)) .nil))) (.c (.int 2))) (.cons (.ix (.call m_shared (.cons (.neg (.c (.int 7))) (.cons (.c (.int 0)) .nil))) (.c (.int 2))) (.cons (.ix (.call m_shared (.cons (.bin .Sub (.bin .Pow (.c (.int 10)) (.c (.int 12))) (.c (.int 1))) (.cons (.bin .Add (.bin .Pow (.c (.int 10)) (.c (.int 6))) (.c (.int 1))) .nil))) (.c (.int 2))) .nil))))) (.lst (.cons (.c (.int 6)) (.cons (.c (.int 0)) (.cons (.c (.int 7)) (.cons (.bin .Add (.bin .Pow (.c (.int 10)) (.c (.int 6))) (.c (.int 1))) .nil))))))) .pass)))) := rfl
  unfold m_law
  rw [fn1, hc]
  have hb : ∃ n : Int, maxD [.int 1, .int (if ((ns.length : Nat) : Int) < 4 then ((ns.length : Nat) : Int) else 4)] = some (.int n) ∧ 1 ≤ n ∧ n ≤ 4 := by
    refine ⟨_, rfl, ?_, ?_⟩
    · split <;> omega
    · split <;> split <;> omega
  obtain ⟨n, hn, n1, n2⟩ := hb
  have hm : ∀ k : Int, minD [.int 4, .int k] = some (.int (if k < 4 then k else 4)) := fun _ => rfl
  simp only [ex_seq, nxt_nx, nxt_rt, nxt_ct, nxt_bk, ex_ifs, brn_t, brn_f, ex_pass, ex_ret, ex_expr, ex_asg, bndM_so, ex_par, ex_aug, ex_for, endD_nx, endD_rt, bind_nm, bind_nil, bind_cons, ev_var, ev_c, ev_bin, ev_neg, ev_cmp, chn_t, chn_f, ev_chain, ev_and, ev_or, ev_ite, and_t, and_f, or_t, or_f, ite_t, ite_f, ev_not, ev_tup, ev_lst, ev_ix, ev_sl, intM_int, ev_int, ev_lc, ev_call, evs_nil, evs_cons, evs_star, evs_it1, evs_rng1, evs_rng2, evs_zip, evs_enum, andThen_ret, andThen_assoc, optM_so, List.getElem?_cons_succ, List.getElem?_cons_zero, slotM_so, Option.bind_some, Option.map_some, bi_eq, List.set_cons_succ, List.set_cons_zero, bin_add, bin_sub, neg_int, cmp_lt, cmp_le, cmp_gt, cmp_ge, cmp_isbl, cmp_notbl, cmp_eq_int, cmp_ne_int, cmp_eq_bl, cmp_ne_bl, truthM_bl, Bool.not_true, Bool.not_false, lenOk0, lenOk1, lenOk2, lenOk3, intD_int, absD_int, lenD_tup, lenD_lst, lenD_scr, tupD_lst, tupD_tup, startE, List.map_cons, List.map_nil, List.length_cons, List.length_nil, Nat.zero_add, Nat.reduceAdd, Nat.reduceSub, List.replicate_succ, List.replicate_zero, List.cons_append, List.nil_append, lenOk_small, Nat.reduceLeDiff, eq_self, items_tup, items_lst, ixM_tup, ixM_lst, decide_true, decide_false, wipeE, hm, hn, rng1_ok (show 0 ≤ n by omega) (by omega)]
  refine OkM.then (forGo_all (I := fun e s => ∃ u v w, e = [some (.scr ns), u, v, w, none]) _ _ _ (fun x hx e s he => ?_) (fun e s he => ?_) ⟨_, _, _, rfl⟩)
  · obtain ⟨u, v, w, rfl⟩ := he
    obtain ⟨k, rfl, k0, k1⟩ := range_mem hx
    refine ⟨_, rfl, OkM.mono (out_ok k0 (by omega)) (fun r s' hr => ?_) (fun _ _ _ z => z)⟩
    obtain ⟨u, v, w, rfl⟩ := hr
    exact ⟨u, v, w, rfl⟩
  · obtain ⟨u, v, w, rfl⟩ := he
    obtain ⟨a1, b1, e1, _⟩ := shared_law (x := 12) (y := -18) (by decide) (by decide)
    obtain ⟨a2, b2, e2, _⟩ := shared_law (x := 0) (y := 0) (by decide) (by decide)
    obtain ⟨a3, b3, e3, _⟩ := shared_law (x := -7) (y := 0) (by decide) (by decide)
    obtain ⟨a4, b4, e4, _⟩ := shared_law (x := 1000000000000 - 1) (y := 1000000 + 1) (by decide) (by decide)
    have g1 : ((Int.gcd 12 (-18) : Nat) : Int) = 6 := by decide +kernel
    have g2 : ((Int.gcd 0 0 : Nat) : Int) = 0 := by decide +kernel
    have g3 : ((Int.gcd (-7) 0 : Nat) : Int) = 7 := by decide +kernel
    have g4 : ((Int.gcd (1000000000000 - 1) (1000000 + 1) : Nat) : Int) = 1000001 := by decide +kernel
    rw [g1] at e1
    rw [g2] at e2
    rw [g3] at e3
    rw [g4] at e4
    have i2 : ∀ a c g : Int, ixM (tri a c g) (.int 2) = ret (.int g) := fun _ _ _ => rfl
    have c1 : cmpD .NotEq (.lst [.bl true, .bl true, .bl false, .bl true, .bl false, .bl true, .bl false]) (.lst [.bl true, .bl true, .bl false, .bl true, .bl false, .bl true, .bl false]) = some (.bl false) := by kernel_rfl
    have c2 : cmpD .Eq (.lst [.int 6, .int 0, .int 7, .int 1000001]) (.lst [.int 6, .int 0, .int 7, .int (1000000 + 1)]) = some (.bl true) := by kernel_rfl
    simp only [ex_seq, nxt_nx, nxt_rt, nxt_ct, nxt_bk, ex_ifs, brn_t, brn_f, ex_pass, ex_ret, ex_expr, ex_asg, bndM_so, ex_par, ex_aug, ex_for, endD_nx, endD_rt, bind_nm, bind_nil, bind_cons, ev_var, ev_c, ev_bin, ev_neg, ev_cmp, chn_t, chn_f, ev_chain, ev_and, ev_or, ev_ite, and_t, and_f, or_t, or_f, ite_t, ite_f, ev_not, ev_tup, ev_lst, ev_ix, ev_sl, intM_int, ev_int, ev_lc, ev_call, evs_nil, evs_cons, evs_star, evs_it1, evs_rng1, evs_rng2, evs_zip, evs_enum, andThen_ret, andThen_assoc, optM_so, List.getElem?_cons_succ, List.getElem?_cons_zero, slotM_so, Option.bind_some, Option.map_some, bi_eq, List.set_cons_succ, List.set_cons_zero, bin_add, bin_sub, neg_int, cmp_lt, cmp_le, cmp_gt, cmp_ge, cmp_isbl, cmp_notbl, cmp_eq_int, cmp_ne_int, cmp_eq_bl, cmp_ne_bl, truthM_bl, Bool.not_true, Bool.not_false, lenOk0, lenOk1, lenOk2, lenOk3, intD_int, absD_int, lenD_tup, lenD_lst, lenD_scr, tupD_lst, tupD_tup, startE, List.map_cons, List.map_nil, List.length_cons, List.length_nil, Nat.zero_add, Nat.reduceAdd, Nat.reduceSub, List.replicate_succ, List.replicate_zero, List.cons_append, List.nil_append, lenOk_small, Nat.reduceLeDiff, eq_self, items_tup, items_lst, ixM_tup, ixM_lst, decide_true, decide_false, wipeE, nouT 12 6 (by decide) (by decide) true (by decide +kernel), nouT (-12) 6 (by decide) (by decide) true (by decide +kernel), nouT 13 6 (by decide) (by decide) false (by decide +kernel), nouT 0 0 (by decide) (by decide) true (by decide +kernel), nouT 6 0 (by decide) (by decide) false (by decide +kernel), nouT 5 1 (by decide) (by decide) true (by decide +kernel),
      nought_no (x := .bl true) trivial (show (0 : Int) ≤ 1 by decide) (by decide), c1, pow12, pow6, e1, e2, e3, e4, i2, c2]
    exact ⟨rfl⟩
end K02

set_option Elab.async false
set_option linter.all false
set_option maxRecDepth 100000
set_option maxHeartbeats 4000000
namespace K02
open PySem PySem.Spec PyProof.Rows L2 Gw
abbrev RR : PySem.W.OpenRow := PySem.W.OpenLaw.row PySem.Challenge.rw_gluewhole_k02_whole_moduli_and_shared_di
abbrev hk : PySem.W.Hook := He.hookD 4 faL fnL
def ob (s : PySem.W.SharedT) : He.AlD := He.obsDG 4 faL fnL (HandSHeadRun.getT s)
theorem ob_eq (s : PySem.W.SharedT) : ob s = hk.obs s.abs := He.obsDG_eq (HandSHeadRun.getT_eq s)
def loose : List PySem.Str := ((["InvalidNumber", "BOUND", "is_whole", "is_integer", "require_integer", "counts_as_nought", "shared_in", "is_nought", "shared", "_law_hat", "_law_up_to", "_law_out_of", "_law_number", "_law_shared", "_law_jg_entry", "_law_right"] : List PySem.Str))
theorem run (w : World) : HandSHeadRun.RunEq RR (PySem.W.view RR.prog [19]) hk ob 900 loose w := by
  intro os
  kernel_rfl
theorem law_all {w : World} {K : PySem.W.Frag} {mg : Str → Option Value} {h : Heap} {f : Addr} (X : K.In h) (N : h.Ns mainGlobals mg) (hfa : mg ("law" : Str) = some (.ref f)) (c : He.SaysD faL fnL K) :
    ∃ fd : FuncData, (∀ (s : Shared) (v : Value), BindsTo s fd ⟨[v], []⟩ [("_law_script", v)]) ∧ ∀ base : Heap, FnOk PP w K mg base CX0 6 f fd ["_law_script"] (spEnd (GG K mg) m_law) := by
  obtain ⟨fd, F⟩ := c.def_ 14 (d := d_law) rfl
  have e := hfa.symm.trans (He.glo_ok X N (c.fact 14 (f := .glo "law") rfl))
  cases e
  have b := FunD.bindsA (ps := ["_law_script"]) F fun _ _ _ _ _ _ us hl => match us, hl with | [_], _ => rfl
  refine ⟨fd, fun s v => b s [v] rfl, fun base => ?_⟩
  have Z : Wd w K mg base h := ⟨X, N, c⟩
  exact law_end (fn_core F s_law (Γ := G_law) rfl rfl k_law rfl rfl (TabOk.cons (f_shared Z) (TabOk.cons (f_is_nought Z) (TabOk.cons (f__law_right Z) (TabOk.cons (f__law_hat Z) TabOk.nil)))) CstOk.nil (FreeOk.cons (He.free_ok Z.X Z.N (Z.c.fact 23 rfl)) (FreeOk.cons (He.free_ok Z.X Z.N (Z.c.fact 20 rfl)) (FreeOk.cons (He.free_ok Z.X Z.N (Z.c.fact 24 rfl)) (FreeOk.cons (He.free_ok Z.X Z.N (Z.c.fact 22 rfl)) FreeOk.nil)))))
end K02
open PySem PySem.W PySem.Calls PyProof.Rows
theorem PySem.Challenge.cw_gluewhole_k02_whole_moduli_and_shared_di_holds : PySem.Challenge.rw_gluewhole_k02_whole_moduli_and_shared_di.Holds := by
  w_on; o_law
  refine HandSHeadRun.head_any (r := OpenLaw.row PySem.Challenge.rw_gluewhole_k02_whole_moduli_and_shared_di) (q := view (OpenLaw.row PySem.Challenge.rw_gluewhole_k02_whole_moduli_and_shared_di).prog [19]) (H := K02.hk) (ob := K02.ob) (M := 900) (loose := K02.loose) (d := HandSHeadRun.topDef (OpenLaw.row PySem.Challenge.rw_gluewhole_k02_whole_moduli_and_shared_di).prog 19) (kwd := []) K02.ob_eq
    (by kernel_rfl) (fun s => by kernel_rfl) K02.run (by kernel_rfl) (by kernel_rfl) (by kernel_rfl) (by rfl) (by first | assumption | decide +kernel) (by decide +kernel) ⟨rfl, rfl, rfl, rfl, rfl, by decide +kernel⟩ ?hw ?hc
  case hw => w_witness2
  case hc =>
    refine L2.walk_ofE (l := PySem.Challenge.rw_gluewhole_k02_whole_moduli_and_shared_di) (n := 63) (k := 6) (x := "_law_script") (CX := L2.CX0) rfl (by decide) (by kernel_rfl) ⟨rfl, by decide, by decide⟩ ?F (fun _ _ _ _ z => z)
    intro w mg fa h Y G hmg0
    obtain ⟨K, KX, c⟩ := Y
    have hmg : mg ("law" : PySem.Str) = some (.ref fa) := by
      have e : (HandSHeadRun.topDef (OpenLaw.row PySem.Challenge.rw_gluewhole_k02_whole_moduli_and_shared_di).prog 19).name = ("law" : PySem.Str) := by kernel_rfl
      rw [← e]
      exact hmg0
    obtain ⟨fd, hb, hF⟩ := K02.law_all (w := w) KX G hmg c
    exact ⟨K, fd, Gw.spEnd (K02.GG K mg) K02.m_law, KX, hb, fun H a ns hl _ hS => Gw.law_start (G := K02.GG K mg) rfl K02.main H a ns hl hS, fun base _ _ => hF base⟩
